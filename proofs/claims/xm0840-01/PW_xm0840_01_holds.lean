import PyProof.Rows.All
import Wide.All
import OpenK.AllK
import Wide.FinOn
import KE.KTryDeep
import Lean
import PySem.Challenge.RW_xm0840_01
set_option Elab.async false
set_option maxHeartbeats 4000000
set_option genSizeOf false
set_option genInjectivity false
set_option bootstrap.genMatcherCode false
set_option linter.all false
open PySem PySem.W PyProof.Rows PySem.Calls
set_option maxRecDepth 100000
namespace Mine
section
theorem nM{a:Type}{x:a}{P:Prop}(h:x∈([]:List a)):P:=nomatch h
theorem oW{a:Type}{x:a}{P:Prop}(h:none=some x):P:=nomatch h
theorem sN{a:Type}{x:a}{P:Prop}(h:some x=none):P:=nomatch h
theorem fT{P:Prop}(h:false=true):P:=nomatch h
theorem tF{P:Prop}(h:true=false):P:=nomatch h
theorem au{d:Type}{a b:d}{l:List d}(h:a∈b::l):a=b∨a∈l:=List.mem_cons.mp h
theorem aw{d:Type}{a b:d}(h:a∈[b]):a=b:=List.mem_singleton.mp h
theorem aE{b:Type}{a:b}{s t:List b}(h:a∈s++t):a∈s∨a∈t:=List.mem_append.mp h
theorem be{b:Type}{a:b}{i:Nat}{l:List b}(h:l[i]?=some a):∃h:i<l.length,l[i]=a:=List.getElem?_eq_some_iff.mp h
theorem bz{e d:Type}{b:d}{f:e->d}{l:List e}(h:b∈l.map f):∃a,a∈l/\f a=b:=List.mem_map.mp h
theorem dq{e d:Type}{b:d}{f:e->d}{l:List e}(h:∃a,a∈l/\f a=b):b∈l.map f:=List.mem_map.mpr h
theorem cY{m n:Nat}(h:(m:Int)=n):m=n:=Int.ofNat_inj.mp h
theorem bF{m n:Nat}(h:m<=n):(m:Int)<=n:=Int.ofNat_le.mpr h
theorem fN{a:Type}{x:a}{p:a->Bool}{l:List a}(h:x∈l.filter p):x∈l/\p x=true:=List.mem_filter.mp h
theorem cq{m n:Nat}(h:(m:Int)<n):m<n:=Int.ofNat_lt.mp h
theorem iG{a b:Nat}(h:b<=a):¬a<b:=Nat.not_lt.mpr h
theorem jc{e d:Type}{f:e->List d}{b:d}{l:List e}(h:b∈l.flatMap f):∃a,a∈l/\b∈f a:=List.mem_flatMap.mp h
theorem fZ{a b:Int}(h:b<=a):¬a<b:=Int.not_lt.mpr h
theorem eK{a b:Nat}(h:b<a):¬a<=b:=Nat.not_le.mpr h
theorem dF{m n:Nat}(h:m<n):(m:Int)<n:=Int.ofNat_lt.mpr h
theorem kK{a:Type}{p:a->Bool}{l:List a}(h:l.all p=true):∀x,x∈l->p x=true:=List.all_eq_true.mp h
set_option genCtorIdx false
inductive LX where
 |n (k:Nat)|v (i:Nat)|a (x y:LX)|m (k:Nat) (x:LX)|g (x:LX)
inductive LC where
 |le (x y:LX)|eq (x y:LX)
noncomputable def LX.Z(c:List Int):LX->Int
 |.n k=>(k:Int)
 |.v i=>c.getD i 0
 |.a x y=>x.Z c+y.Z c
 |.m k x=>(k:Int)*x.Z c
 |.g x=> -x.Z c
noncomputable def LX.N(c:List Nat):LX->Nat
 |.n k=>k
 |.v i=>c.getD i 0
 |.a x y=>x.N c+y.N c
 |.m k x=>k*x.N c
 |.g _=>0
noncomputable def LX.ok:LX->Bool
 |.a x y=>x.ok&&y.ok
 |.m _ x=>x.ok
 |.g _=>false
 |_=>true
noncomputable def LC.Z(c:List Int):LC->Prop
 |.le x y=>x.Z c<=y.Z c
 |.eq x y=>x.Z c=y.Z c
noncomputable def LC.N(c:List Nat):LC->Prop
 |.le x y=>x.N c<=y.N c
 |.eq x y=>x.N c=y.N c
noncomputable def ad:List Int->List Int->List Int
 |[],r=>r
 |x::l,[]=>x::l
 |x::l,y::r=>(x+y)::ad l r
noncomputable def ml(k:Int):List Int->List Int
 |[]=>[]
 |x::l=>k*x::ml k l
noncomputable def un:Nat->List Int
 |0=>[1]
 |i+1=>0::un i
noncomputable def LX.p:LX->List Int
 |.n k=>[(k:Int)]
 |.v i=>0::un i
 |.a x y=>ad x.p y.p
 |.m k x=>ml k x.p
 |.g x=>ml (-1) x.p
noncomputable def dt:List Int->List Int->Int
 |x::l,y::c=>x*y+dt l c
 |_,_=>0
theorem lT:∀(l r c:List Int),dt (ad l r) c=dt l c+dt r c
 |[],r,c=>(Int.zero_add _).symm
 |x::l,[],c=>(Int.add_zero _).symm
 |x::l,y::r,[]=>rfl
 |x::l,y::r,z::c=>by
  show(x+y)*z+dt (ad l r) c=x*z+dt l c+(y*z+dt r c)
  rw[lT,Int.add_mul,Int.add_assoc,Int.add_assoc,Int.add_left_comm (y*z)]
theorem jh(k:Int):∀(l c:List Int),dt (ml k l) c=k*dt l c
 |[],c=>(Int.mul_zero k).symm
 |x::l,[]=>(Int.mul_zero k).symm
 |x::l,z::c=>by
  show k*x*z+dt (ml k l) c=k*(x*z+dt l c)
  rw[jh,Int.mul_add,Int.mul_assoc]
theorem Cs:∀(i:Nat) (c:List Int),dt (un i) c=c.getD i 0
 |0,[]=>rfl
 |0,x::c=>by show 1*x+dt [] c=x;rw[Int.one_mul];exact Int.add_zero x
 |i+1,[]=>rfl
 |i+1,x::c=>by show 0*x+dt (un i) c=c.getD i 0;rw[Cs,Int.zero_mul,Int.zero_add]
theorem LX.is(c:List Int):∀x:LX,x.Z c=dt x.p (1::c)
 |.n k=>by show(k:Int)=k*1+dt [] c;rw[Int.mul_one];exact(Int.add_zero _).symm
 |.v i=>by show c.getD i 0=0*1+dt (un i) c;rw[Cs,Int.zero_mul,Int.zero_add]
 |.a x y=>by show x.Z c+y.Z c=dt (ad x.p y.p) _;rw[lT,x.is c,y.is c]
 |.m k x=>by show(k:Int)*x.Z c=dt (ml k x.p) _;rw[jh,x.is c]
 |.g x=>by show-x.Z c=dt (ml (-1) x.p) _;rw[jh,x.is c,Int.neg_one_mul]
noncomputable def LC.q:LC->List Int
 |.le x y=>ad y.p (ml (-1) x.p)
 |.eq x y=>ad y.p (ml (-1) x.p)
noncomputable def LC.isLe:LC->Bool
 |.le _ _=>true
 |.eq _ _=>false
noncomputable def LC.ok:LC->Bool
 |.le x y=>x.ok&&y.ok
 |.eq x y=>x.ok&&y.ok
theorem LC.is{c:List Int}{h:LC}(p:h.Z c):0<=dt h.q (1::c)/\(h.isLe=false->dt h.q (1::c)=0):=by
 cases h with
 |le x y=>
  refine⟨?_,tF⟩
  show 0<=dt (ad y.p (ml (-1) x.p)) _
  rw[lT,jh,←x.is,←y.is,Int.neg_one_mul]
  exact Int.sub_nonneg_of_le p
 |eq x y=>
  have e:dt (ad y.p (ml (-1) x.p)) (1::c)=0:=by
   rw[lT,jh,←x.is,←y.is,Int.neg_one_mul,(p:x.Z c=y.Z c)]
   exact Int.add_right_neg _
  exact⟨Int.le_of_eq e.symm,λ_=>e⟩
noncomputable def sT:List (Int×LC)->List Int
 |[]=>[]
 |h::r=>ad (ml h.1 h.2.q) (sT r)
noncomputable def LG:List (Int×LC)->Bool
 |[]=>true
 |h::r=>(!h.2.isLe||decide (0<=h.1))&&LG r
noncomputable def Np(a:Bool):List Int->Bool
 |[]=>true
 |x::l=>(decide (x=0)||(a&&decide (0<=x)))&&Np a l
noncomputable def M6(a:Bool)(d:Nat):List Int->Bool
 |[]=>true
 |x::l=>decide (0<=x+d)&&Np a l
noncomputable def E0(a:Bool)(g:LC)(d:Nat)(hs:List (Int×LC)):Bool:=g.isLe&&LG hs&&M6 a d (ad (ml ((d:Int)+1) g.q) (ml (-1) (sT hs)))
noncomputable def BZ(c:List Int):List (Int×LC)->Prop
 |[]=>True
 |h::r=>h.2.Z c/\BZ c r
theorem uS{c:List Int}:∀{hs:List (Int×LC)},LG hs=true->BZ c hs->0<=dt (sT hs) (1::c)
 |[],_,_=>Int.le_refl 0
 |h::r,w,p=>by
  show 0<=dt (ad (ml h.1 h.2.q) (sT r)) _
  rw[lT,jh]
  have w:=Bool.and_eq_true_iff.mp w
  have q:=LC.is p.1
  refine Int.add_nonneg ?_ (uS w.2 p.2)
  cases e:h.2.isLe with
  |false=>rw[q.2 e,Int.mul_zero];exact Int.le_refl 0
  |true=>exact Int.mul_nonneg (by have:=w.1;rw[e]at this;exact of_decide_eq_true this) q.1
def L8(a:Bool)(c:List Int):Prop:=a=true->∀x∈c,0<=x
theorem zL{a:Bool}:∀{l c:List Int},Np a l=true->L8 a c->0<=dt l c
 |[],c,_,_=>by cases c<;>exact Int.le_refl 0
 |x::l,[],_,_=>Int.le_refl 0
 |x::l,z::c,h,p=>by
  have h:=Bool.and_eq_true_iff.mp h
  refine Int.add_nonneg ?_ (zL h.2 λe y b=>p e y (.tail _ b))
  rcases Bool.or_eq_true_iff.mp h.1 with e|e
  ·rw[of_decide_eq_true e,Int.zero_mul];exact Int.le_refl 0
  ·have e:=Bool.and_eq_true_iff.mp e
   exact Int.mul_nonneg (of_decide_eq_true e.2) (p e.1 z (.head _))
theorem Fj{a:Bool}{c:List Int}{g:LC}{d:Nat}{hs:List (Int×LC)}(e:E0 a g d hs=true)(p:L8 a c)(h:BZ c hs):g.Z c:=by
 have e:=Bool.and_eq_true_iff.mp e
 have b:=Bool.and_eq_true_iff.mp e.1
 have s:=uS b.2 h
 cases g with
 |eq x y=>exact absurd b.1 Bool.false_ne_true
 |le x y=>
  show x.Z c<=y.Z c
  have f:0<=dt (ad (ml ((d:Int)+1) (LC.le x y).q) (ml (-1) (sT hs))) (1::c)+d:=by
   generalize ad (ml ((d:Int)+1) (LC.le x y).q) (ml (-1) (sT hs))=r at e
   cases r with
   |nil=>show 0<=(0:Int)+d;rw[Int.zero_add];exact Int.natCast_nonneg d
   |cons k l=>
    have i:=Bool.and_eq_true_iff.mp e.2
    show 0<=k*1+dt l c+d
    rw[Int.mul_one,Int.add_right_comm]
    exact Int.add_nonneg (of_decide_eq_true i.1) (zL i.2 p)
  rw[lT,jh,jh,Int.neg_one_mul]at f
  have q:dt (LC.le x y).q (1::c)=y.Z c-x.Z c:=by
   show dt (ad y.p (ml (-1) x.p)) _=_
   rw[lT,jh,←x.is,←y.is,Int.neg_one_mul];rfl
  rw[q]at f
  refine Int.not_lt.mp λn=>?_
  have n1:y.Z c-x.Z c<= -1:=Int.le_sub_one_of_lt (Int.sub_neg_of_lt n)
  have n2:((d:Int)+1)*(y.Z c-x.Z c)<=((d:Int)+1)* -1:=Int.mul_le_mul_of_nonneg_left n1 (Int.natCast_nonneg (d+1))
  have n3:0<= -(d+1:Int)+ -dt (sT hs) (1::c)+d:=Int.le_trans f (Int.add_le_add_right (Int.add_le_add_right (by rw[Int.mul_neg,Int.mul_one]at n2;exact n2) _) _)
  rw[Int.add_right_comm,Int.neg_add,Int.add_right_comm (-(d:Int)),Int.add_left_neg,Int.zero_add]at n3
  exact absurd (Int.le_trans n3 (Int.add_le_add_left (Int.neg_nonpos_of_nonneg s) _)) (by decide)
theorem LX.cast{c:List Nat}:∀{x:LX},x.ok=true->((x.N c:Nat):Int)=x.Z (c.map Int.ofNat)
 |.n k,_=>rfl
 |.v i,_=>by
  show((c.getD i 0:Nat):Int)=(c.map Int.ofNat).getD i 0
  rw[List.getD_eq_getElem?_getD,List.getD_eq_getElem?_getD,List.getElem?_map]
  cases c[i]?<;>rfl
 |.a x y,h=>by
  have h:=Bool.and_eq_true_iff.mp h
  show((x.N c+y.N c:Nat):Int)=x.Z _+y.Z _
  rw[Int.natCast_add,x.cast h.1,y.cast h.2]
 |.m k x,h=>by
  show((k*x.N c:Nat):Int)=k*x.Z _
  rw[Int.natCast_mul,x.cast h]
 |.g _,h=>absurd h Bool.false_ne_true
theorem LC.cast{c:List Nat}{h:LC}(e:h.ok=true):h.N c↔h.Z (c.map Int.ofNat):=by
 cases h with
 |le x y=>have e:=Bool.and_eq_true_iff.mp e;show x.N c<=y.N c↔x.Z _<=y.Z _;rw[←x.cast e.1,←y.cast e.2];exact Int.ofNat_le.symm
 |eq x y=>have e:=Bool.and_eq_true_iff.mp e;show x.N c=y.N c↔x.Z _=y.Z _;rw[←x.cast e.1,←y.cast e.2];exact Int.ofNat_inj.symm
noncomputable def Al(g:LC)(d:Nat)(hs:List (Int×LC)):Bool:=(g.ok&&hs.all λh=>h.2.ok)&&E0 true g d hs
noncomputable def zc(c:List Nat):List (Int×LC)->Prop
 |[]=>True
 |h::r=>h.2.N c/\zc c r
theorem zc.z{c:List Nat}:∀{hs:List (Int×LC)},(hs.all λh=>h.2.ok)=true->zc c hs->BZ (c.map Int.ofNat) hs
 |[],_,_=>trivial
 |_::_,e,h=>have e:=Bool.and_eq_true_iff.mp e;⟨(LC.cast e.1).mp h.1,zc.z e.2 h.2⟩
theorem pP{c:List Nat}{g:LC}{d:Nat}{hs:List (Int×LC)}(e:Al g d hs=true)(h:zc c hs):g.N c:=
 have e:=Bool.and_eq_true_iff.mp e
 have a:=Bool.and_eq_true_iff.mp e.1
 (LC.cast a.1).mpr (Fj e.2 (λ_ x b=>(bz b).elim λn h=>h.2▸Int.natCast_nonneg n) (h.z a.2))
section
variable (c:List Nat) (g:LC)
theorem n0(e:Al g 0 []=true):g.N c:=pP e trivial
theorem n1(a:LC)(e:Al g 0 [(1,a)]=true)(x:a.N c):g.N c:=pP e ⟨x,trivial⟩
theorem n2(a b:LC)(e:Al g 0 [(1,a),(1,b)]=true)(x:a.N c)(y:b.N c):g.N c:=pP e ⟨x,y,trivial⟩
theorem n3(a b f:LC)(e:Al g 0 [(1,a),(1,b),(1,f)]=true)(x:a.N c)(y:b.N c)(z:f.N c):g.N c:=pP e ⟨x,y,z,trivial⟩
theorem m1(d:Nat)(i:Int)(a:LC)(e:Al g d [(i,a)]=true)(x:a.N c):g.N c:=pP e ⟨x,trivial⟩
theorem m2(d:Nat)(i j:Int)(a b:LC)(e:Al g d [(i,a),(j,b)]=true)(x:a.N c)(y:b.N c):g.N c:=pP e ⟨x,y,trivial⟩
theorem m3(d:Nat)(i j k:Int)(a b f:LC)(e:Al g d [(i,a),(j,b),(k,f)]=true)(x:a.N c)(y:b.N c)(z:f.N c):g.N c:=pP e ⟨x,y,z,trivial⟩
theorem m4(d:Nat)(i j k l:Int)(a b f h:LC)(e:Al g d [(i,a),(j,b),(k,f),(l,h)]=true)(x:a.N c)(y:b.N c)(z:f.N c)(w:h.N c):g.N c:=pP e ⟨x,y,z,w,trivial⟩
theorem m5(d:Nat)(i j k l m:Int)(a b f h t:LC)(e:Al g d [(i,a),(j,b),(k,f),(l,h),(m,t)]=true)(x:a.N c)(y:b.N c)(z:f.N c)(w:h.N c)(u:t.N c):g.N c:=pP e ⟨x,y,z,w,u,trivial⟩
end
section
variable (c:List Int) (g:LC)
theorem HH{c:List Int}:L8 false c:=fT
theorem z0(e:E0 false g 0 []=true):g.Z c:=Fj e HH trivial
theorem z1(a:LC)(e:E0 false g 0 [(1,a)]=true)(x:a.Z c):g.Z c:=Fj e HH ⟨x,trivial⟩
theorem z2(a b:LC)(e:E0 false g 0 [(1,a),(1,b)]=true)(x:a.Z c)(y:b.Z c):g.Z c:=Fj e HH ⟨x,y,trivial⟩
theorem z3(a b f:LC)(e:E0 false g 0 [(1,a),(1,b),(1,f)]=true)(x:a.Z c)(y:b.Z c)(z:f.Z c):g.Z c:=Fj e HH ⟨x,y,z,trivial⟩
theorem y2(d:Nat)(i j:Int)(a b:LC)(e:E0 false g d [(i,a),(j,b)]=true)(x:a.Z c)(y:b.Z c):g.Z c:=Fj e HH ⟨x,y,trivial⟩
end
theorem nl{a b:Nat}(h:¬a<b):b<=a:=Nat.le_of_not_lt h
theorem ng{a b:Nat}(h:¬a<=b):b<a:=Nat.lt_of_not_le h
theorem il{a b:Int}(h:¬a<b):b<=a:=Int.not_lt.mp h
theorem ig{a b:Int}(h:¬a<=b):b<a:=Int.not_le.mp h
theorem cl{a b:Nat}(h:a<=b):(a:Int)<=b:=bF h
theorem ce{a b:Nat}(h:a=b):(a:Int)=b:=congrArg Int.ofNat h
theorem cz(a:Nat):(0:Int)<=a:=Int.natCast_nonneg a
theorem sb(a b:Nat):a<=a-b+b:=Nat.sub_le_iff_le_add.mp (Nat.le_refl _)
theorem tn{i:Int}(h:0<=i):i=i.toNat:=(Int.toNat_of_nonneg h).symm
theorem t0{x:Int}(h:x<=0):x.toNat=0:=Int.toNat_of_nonpos h
theorem tz{x:Int}(h:x.toNat=0):x<=0:=by have e:=Int.self_le_toNat x;rw[h]at e;exact e
theorem te{x:Int}{n:Nat}(h:x=n):x.toNat=n:=congrArg Int.toNat h
theorem tp{x:Int}{n:Nat}(h:x.toNat=n+1):0<x:=ig λk=>Nat.succ_ne_zero n (h.symm.trans (t0 k))
theorem t1{x:Int}(h:0<x):∃n:Nat,x=n+1:=(Int.eq_succ_of_zero_lt h).elim λn e=>⟨n,e⟩
theorem t2{x:Int}{n:Nat}(h:x.toNat=n+1):(x-1).toNat=n:=by
 have e:=tn (Int.le_of_lt (tp h))
 rw[h]at e
 exact te (by rw[e];exact Int.add_sub_cancel (n:Int) 1)
theorem tl{x:Int}{n:Nat}(a:0<=x)(h:x<n):x.toNat<n:=(Int.toNat_lt a).mpr h
theorem ln{j k:Nat}(h:j<k+1)(e:¬j=k):j<k:=Nat.lt_of_le_of_ne (Nat.le_of_lt_succ h) e
theorem lp{i j:Nat}(h:i<j)(e:¬i=j-1):i<j-1:=Nat.lt_of_le_of_ne (Nat.le_sub_one_of_lt h) e
theorem iN{a b:Int}(n:b≠a)(h:¬b<a):a<b:=Int.lt_iff_le_and_ne.mpr ⟨il h,Ne.symm n⟩
end
section
noncomputable def J0:LC:=.le (.v 0) (.v 1)
noncomputable def J1:LC:=.eq (.a (.v 0) (.n 0)) (.v 1)
noncomputable def J2:LC:=.le (.a (.v 0) (.n 1)) (.v 1)
noncomputable def J3:LC:=.eq (.a (.v 2) (.a (.v 3) (.n 1))) (.v 1)
noncomputable def J4:LC:=.le (.v 0) (.v 2)
noncomputable def J5:LC:=.eq (.a (.v 0) (.a (.v 2) (.n 1))) (.v 1)
noncomputable def J6:LC:=.le (.a (.a (.v 0) (.n 1)) (.v 1)) (.v 2)
noncomputable def J7:LC:=.eq (.a (.v 0) (.a (.v 1) (.n 1))) (.v 2)
noncomputable def J8:LC:=.le (.v 0) (.a (.a (.v 1) (.n 1)) (.v 2))
noncomputable def J9:LC:=.eq (.a (.v 1) (.a (.v 2) (.n 1))) (.v 0)
noncomputable def CL:LC:=.le (.a (.n 0) (.n 1)) (.v 0)
noncomputable def LE:LC:=.le (.v 0) (.n 1)
noncomputable def Fb:LC:=.le (.n 1) (.v 0)
noncomputable def OI:LC:=.le (.v 0) (.n 0)
noncomputable def Jm:LC:=.le (.n 0) (.v 0)
noncomputable def M2:LC:=.le (.a (.v 0) (.n 1)) (.n 2)
noncomputable def Li:LC:=.le (.a (.v 1) (.n 1)) (.v 0)
noncomputable def LK:LC:=.le (.n 2) (.v 1)
noncomputable def Fe:LC:=.le (.a (.v 0) (.n 1)) (.v 2)
noncomputable def E8:LC:=.le (.a (.v 2) (.n 1)) (.v 1)
noncomputable def Lr:LC:=.eq (.v 1) (.v 2)
noncomputable def NB:LC:=.le (.v 3) (.v 1)
noncomputable def Aj:LC:=.le (.v 2) (.v 1)
noncomputable def Pa:LC:=.le (.v 3) (.v 2)
noncomputable def P1:LC:=.le (.a (.v 0) (.n 1)) (.v 3)
noncomputable def OC:LC:=.eq (.a (.a (.v 2) (.n 1)) (.v 0)) (.v 3)
noncomputable def Ln:LC:=.eq (.v 1) (.v 3)
noncomputable def yQ:LC:=.le (.v 1) (.n 60)
noncomputable def C1:LC:=.eq (.v 0) (.v 1)
noncomputable def PN:LC:=.eq (.v 3) (.v 2)
noncomputable def Pb:LC:=.le (.a (.a (.v 0) (.g (.v 1))) (.g (.n 1))) (.a (.v 0) (.g (.a (.v 1) (.n 1))))
noncomputable def O2:LC:=.le (.a (.v 0) (.g (.a (.v 1) (.n 1)))) (.a (.a (.v 0) (.g (.v 1))) (.g (.n 1)))
noncomputable def Gr:LC:=.le (.g (.v 0)) (.v 1)
noncomputable def NS:LC:=.le (.a (.v 0) (.v 1)) (.n 16777216)
noncomputable def ON:LC:=.le (.v 1) (.v 2)
noncomputable def RH:LC:=.eq (.v 2) (.n 10000)
noncomputable def G0:LC:=.eq (.a (.v 0) (.n 1)) (.v 1)
noncomputable def Q1:LC:=.eq (.a (.v 0) (.n 1)) (.v 2)
noncomputable def OK:LC:=.le (.v 0) (.a (.v 1) (.n 2))
noncomputable def Kl:LC:=.eq (.v 0) (.v 2)
noncomputable def NM:LC:=.le (.v 0) (.n 100)
noncomputable def Od:LC:=.le (.a (.v 0) (.a (.v 1) (.n 1))) (.a (.a (.v 0) (.n 1)) (.v 1))
noncomputable def PP:LC:=.le (.a (.a (.v 0) (.n 1)) (.v 1)) (.a (.v 0) (.a (.v 1) (.n 1)))
noncomputable def jJ:LC:=.le (.v 0) (.n 9000)
noncomputable def t7:LC:=.eq (.v 1) (.n 10000)
noncomputable def Mq:LC:=.le (.n 0) (.v 1)
noncomputable def Md:LC:=.eq (.v 0) (.n 10000)
noncomputable def OO:LC:=.le (.g (.n 1)) (.v 0)
noncomputable def O4:LC:=.le (.v 0) (.a (.v 2) (.n 3))
noncomputable def Pn:LC:=.le (.a (.v 0) (.n 300)) (.v 1)
noncomputable def PD:LC:=.le (.v 0) (.n 990)
noncomputable def LT:LC:=.le (.m 2 (.v 0)) (.a (.v 2) (.v 1))
noncomputable def K6:LC:=.le (.a (.a (.v 0) (.v 2)) (.n 1)) (.m 2 (.a (.v 1) (.n 1)))
noncomputable def He:LC:=.le (.a (.v 0) (.v 1)) (.n 120)
noncomputable def GB:LC:=.le (.v 2) (.n 120)
noncomputable def HX:LC:=.le (.a (.v 0) (.n 1)) (.n 60)
noncomputable def Eo:LC:=.eq (.v 1) (.a (.v 0) (.a (.v 2) (.n 1)))
noncomputable def Mt:LC:=.le (.a (.a (.v 0) (.n 1)) (.n 1)) (.v 1)
noncomputable def zr:LC:=.eq (.a (.v 0) (.a (.v 2) (.n 1))) (.v 3)
noncomputable def zG:LC:=.le (.v 3) (.a (.v 1) (.v 2))
noncomputable def nQ:LC:=.le (.v 0) (.n 60)
noncomputable def GE:LC:=.eq (.v 0) (.a (.v 1) (.n 1))
noncomputable def M9:LC:=.le (.n 8) (.a (.v 0) (.n 8))
noncomputable def Dh:LC:=.le (.a (.v 0) (.n 1)) (.n 100)
noncomputable def F8:LC:=.le (.v 1) (.n 100)
noncomputable def Hz:LC:=.le (.a (.v 1) (.n 1)) (.n 60)
noncomputable def GO:LC:=.le (.v 0) (.m 2 (.v 1))
noncomputable def Ec:LC:=.le (.v 0) (.m 2 (.a (.v 1) (.n 1)))
noncomputable def Du:LC:=.le (.v 2) (.m 2 (.v 1))
noncomputable def Gz:LC:=.le (.v 0) (.a (.v 2) (.n 1))
noncomputable def Ho:LC:=.le (.v 0) (.a (.v 3) (.n 1))
noncomputable def Fo:LC:=.le (.v 2) (.n 60)
noncomputable def EE:LC:=.le (.a (.v 2) (.n 1)) (.v 3)
noncomputable def DE:LC:=.le (.a (.v 0) (.g (.n 1))) (.n 9000)
noncomputable def zk:LC:=.le (.v 0) (.n 7)
noncomputable def DR:LC:=.eq (.v 1) (.v 0)
noncomputable def HM:LC:=.le (.n 0) (.a (.v 0) (.g (.n 1)))
noncomputable def NN:LC:=.le (.v 0) (.n 2)
noncomputable def HV:LC:=.le (.a (.v 0) (.v 1)) (.n 9000)
noncomputable def LF:LC:=.le (.a (.v 0) (.n 1)) (.n 4)
noncomputable def GU:LC:=.le (.a (.a (.v 2) (.n 1)) (.n 1)) (.v 1)
noncomputable def HN:LC:=.eq (.v 0) (.a (.v 2) (.n 1))
noncomputable def HT:LC:=.le (.v 0) (.n 90)
noncomputable def Ie:LC:=.le (.v 0) (.n 3)
noncomputable def Dq:LC:=.le (.v 1) (.n 2)
noncomputable def G2:LC:=.le (.v 2) (.a (.a (.n 1) (.m 19 (.v 1))) (.n 1))
noncomputable def Hx:LC:=.eq (.v 0) (.n 0)
noncomputable def GR:LC:=.eq (.v 0) (.n 1)
noncomputable def HO:LC:=.le (.v 0) (.a (.m 4 (.v 1)) (.m 2 (.a (.v 2) (.n 1))))
end
section
theorem OJ{i:Int}(h:1<=i):i=(i-1).toNat+1:=by
 rw[←tn (Int.sub_nonneg_of_le h)];exact(Int.sub_add_cancel i 1).symm
theorem ww{j n:Nat}(h:(j:Int)<n-1):j+1<n:=cq (Int.add_lt_of_lt_sub_right h)
theorem GP{x:Int}{n:Nat}(h:x<=n*2 ^ 40)(l:n<=60):x<2 ^ 50:=Int.lt_of_le_of_lt (Int.le_trans h (Int.mul_le_mul_of_nonneg_right (bF l) (by decide))) (by decide)
theorem l9{n m:Nat}{i:Int}(p:(n:Int)=i)(g:i<m)(h:m<=7):n<=9000:=Nat.le_trans (Nat.le_of_lt (cq (Int.lt_of_le_of_lt (Int.le_of_eq p) g))) (Nat.le_trans h (Nat.le_of_ble_eq_true rfl))
theorem lE{n m:Nat}{i:Int}(p:(n:Int)=i)(g:(m:Int)<=i)(g3:i=0∨i=m):n=m:=cY (p.trans (Int.le_antisymm (g3.elim (λe=>e▸Int.natCast_nonneg m) Int.le_of_eq) g))
theorem i2{i:Int}(g:2<=i)(g3:i=0∨i=2):i=2:=g3.resolve_left λe=>by rw[e]at g;exact absurd g (by decide)
theorem Oz{i:Int}(h:0<=i)(g:i<2):i=0∨i=1:=(Int.le_iff_lt_or_eq.mp (Int.le_of_lt_add_one g:i<=1)).imp (λq=>Int.le_antisymm (Int.le_of_lt_add_one q) h) id
theorem u3{u:Nat}(h:u<3):u=0∨u=1∨u=2:=(Nat.lt_succ_iff_lt_or_eq.mp h).elim (λh=>(Nat.lt_succ_iff_lt_or_eq.mp h).elim (λh=>.inl (Nat.lt_one_iff.mp h)) λe=>.inr (.inl e)) λe=>.inr (.inr e)
theorem u4{u:Nat}(h:u<4):u=0∨u=1∨u=2∨u=3:=(Nat.lt_succ_iff_lt_or_eq.mp h).elim (λh=>(u3 h).imp id (Or.imp id .inl)) λe=>.inr (.inr (.inr e))
theorem Pq{n:Nat}(h:¬(0:Int)<n):n=0:=Nat.eq_zero_of_not_pos λq=>h (dF q)
theorem Ok{x:Int}(h:0<x/\x<=100): -(2 ^ 62)<x/\x<2 ^ 62:=⟨Int.lt_trans (by decide) h.1,Int.lt_of_le_of_lt h.2 (by decide)⟩
theorem N7{n:Nat}(h:n<=9000):(n:Int)<2 ^ 30:=Int.lt_of_le_of_lt (bF h) (by decide)
theorem PF{n:Nat}(h:n<=9000):(n:Int)<2 ^ 62:=Int.lt_trans (N7 h) (by decide)
theorem md(q:Int){m:Int}(h:0<m):∃a:Nat,q%m=a/\(a:Int)<m:=have e:=tn (Int.emod_nonneg q (Int.ne_of_gt h));⟨(q%m).toNat,e,e▸Int.emod_lt_of_pos q h⟩
theorem Gj(q:Int){n:Nat}{m:Int}(h:0<m)(e:m=n):∃a:Nat,q%m=a/\a<n:=(md q h).imp λ_ k=>⟨k.1,cq (e▸k.2)⟩
theorem tg{a b c:Nat}(d:Nat)(h:a<b)(k:c<2):(a:Int)*256+c<b*256+d:=by
 have e:((a:Int)+1)*256<=b*256:=Int.mul_le_mul_of_nonneg_right (dF h) (by decide)
 rw[Int.add_mul,Int.one_mul]at e
 exact Int.lt_of_lt_of_le (Int.add_lt_add_left (show(c:Int)<256 from Int.lt_trans (dF k) (by decide)) _) (Int.le_trans e (Int.le_add_of_nonneg_right (Int.natCast_nonneg d)))
theorem Gu{a:Addr}{l:List Addr}:a∈a::l:=.head _
theorem HI{a b:Addr}{l:List Addr}:a∈b::a::l:=.tail _ Gu
theorem GM{a b c:Addr}{l:List Addr}:a∈b::c::a::l:=.tail _ HI
theorem Dr{a b c d:Addr}{l:List Addr}:a∈b::c::d::a::l:=.tail _ GM
theorem Hr{a b c d e:Addr}{l:List Addr}:a∈b::c::d::e::a::l:=.tail _ Dr
theorem Do{a b c d e f:Addr}{l:List Addr}:a∈b::c::d::e::f::a::l:=.tail _ Hr
theorem PY{a b c d e f g:Addr}{l:List Addr}:a∈b::c::d::e::f::g::a::l:=.tail _ Do
theorem P3{a b c d e f g h:Addr}{l:List Addr}:a∈b::c::d::e::f::g::h::a::l:=.tail _ PY
theorem Cr{a b c d e f g h i:Addr}{l:List Addr}:a∈b::c::d::e::f::g::h::i::a::l:=.tail _ P3
theorem RV{a b c d e f g h i j:Addr}{l:List Addr}:a∈b::c::d::e::f::g::h::i::j::a::l:=.tail _ Cr
theorem a7{x a:Addr}{l:List Addr}(n:x≠a)(h:x∉l):x∉a::l:=λm=>(au m).elim n h
theorem dh{x a:Addr}(n:x≠a):x∉[a]:=λm=>n (aw m)
theorem nz{l:List Addr}(h:l.Nodup)(i j:Nat){a b:Addr}(n:(i==j)=false)(f:l[i]?=some a)(d:l[j]?=some b):a≠b:=λe=>by
 obtain⟨k,g⟩:=be f
 obtain⟨m,c⟩:=be d
 have:=(List.getElem_inj h).mp (g.trans (e.trans c.symm))
 rw[this]at n
 exact tF ((beq_self_eq_true j).symm.trans n)
end
section
set_option genInjectivity true
inductive AV where
 |undef|none
 |bool (b:Bool)
 |int (i:Int)
 |bytes (b:List UInt8)
 |ref (a:Addr)
inductive AO where
 |list (xs:List AV)
 |tup (xs:List AV)
 |dict (es:List (Int×AV))
 |inst (c:Nat) (fs:List (Nat×AV))
noncomputable abbrev Hp:=Addr->Option (Bool×AO)
noncomputable def upd(σ:Hp)(a:Addr)(c:Bool×AO):Hp:=λb=>if b=a then some c else σ b
noncomputable def VR:Value->AV->Prop
 |.none,.none=>True
 |.bool b,.bool c=>b=c
 |.int i _,.int j=>i=j
 |.bytes b _,.bytes c=>b.toList=c
 |.ref a,.ref b=>a=b
 |_,_=>False
inductive aF{U O:Type}(R:U->O->Prop):List U->List O->Prop
 |nil:aF R [] []
 |cons {a b l₁ l₂}:R a b->aF R l₁ l₂->aF R (a::l₁) (b::l₂)
namespace aF
variable {U O:Type} {R:U->O->Prop}
theorem length{l₁:List U}{l₂:List O}(h:aF R l₁ l₂):l₁.length=l₂.length:=by
 induction h with
 |nil=>rfl
 |cons _ _ a=>exact congrArg Nat.succ a
theorem append{l₁ b:List U}{l₂ a:List O}(h:aF R l₁ l₂)(k:aF R b a):aF R (l₁++b) (l₂++a):=by
 induction h with
 |nil=>exact k
 |cons h _ c=>exact .cons h c
theorem get{l₁:List U}{l₂:List O}(h:aF R l₁ l₂):∀{i:Nat} {b:O},l₂[i]?=some b->∃a,l₁[i]?=some a/\R a b:=by
 induction h with
 |nil=>intro i b e;exact oW e
 |cons h _ c=>
  intro i b e
  cases i with
  |zero=>exact⟨_,rfl,Option.some.inj e▸h⟩
  |succ i=>exact c e
theorem take{l₁:List U}{l₂:List O}(h:aF R l₁ l₂):∀n,aF R (l₁.take n) (l₂.take n):=by
 induction h with
 |nil=>intro n;cases n<;>exact .nil
 |cons h _ a=>intro n;cases n with
  |zero=>exact .nil
  |succ n=>exact .cons h (a n)
theorem drop{l₁:List U}{l₂:List O}(h:aF R l₁ l₂):∀n,aF R (l₁.drop n) (l₂.drop n):=by
 induction h with
 |nil=>intro n;cases n<;>exact .nil
 |cons h t a=>intro n;cases n with
  |zero=>exact .cons h t
  |succ n=>exact a n
theorem set{l₁:List U}{l₂:List O}(h:aF R l₁ l₂){a:U}{b:O}(c:R a b):∀n,aF R (l₁.set n a) (l₂.set n b):=by
 induction h with
 |nil=>intro n;exact .nil
 |cons h t d=>intro n;cases n with
  |zero=>exact .cons c t
  |succ n=>exact .cons h (d n)
theorem map{c d:Type}{S:c->d->Prop}{f:U->c}{g:O->d}{l₁:List U}{l₂:List O}(h:aF R l₁ l₂)(k:∀a b,R a b->S (f a) (g b)):aF S (l₁.map f) (l₂.map g):=by
 induction h with
 |nil=>exact .nil
 |cons h _ e=>exact .cons (k _ _ h) e
theorem replicate{a:U}{b:O}(h:R a b):∀n,aF R (List.replicate n a) (List.replicate n b)
 |0=>.nil
 |n+1=>.cons h (replicate h n)
theorem one{a:U}{b:O}(h:R a b):aF R [a] [b]:=.cons h .nil
end aF
structure Tb where
 an:Nat->Str
 nf:Nat
 ca:Nat->Addr
section
variable (T:Tb)
noncomputable abbrev kJ(vs:List Value)(n:Nat):Obj:={cls:=.type "tuple",data:=.seq vs.toArray n}
noncomputable abbrev jF(vs:List Value)(n:Nat):Obj:={cls:=.type "list",data:=.seq vs.toArray n}
def FR(e:DictEntry)(p:Nat×AV):Prop:=p.1<T.nf/\(∃t,e.key=.str (T.an p.1) t)/\VR e.val p.2
def KR(e:Int×Value)(p:Int×AV):Prop:=e.1=p.1/\VR e.2 p.2
noncomputable def OR(D:Addr->Addr)(has:Addr->Obj->Prop)(a:Addr):AO->Prop
 |.list xs=>∃vs n,has a (jF vs n)/\aF VR vs xs
 |.tup xs=>∃vs n,has a (kJ vs n)/\aF VR vs xs
 |.dict es=>∃ob kvs,has a ob/\aF KR kvs es/\(∀prog w,ob.IsDictOf (intKind prog w) kvs)/\a≠sysModules
 |.inst c fs=>∃b n,has a (instObj (T.ca c) (D a))/\has (D a) (dictOf b n)/\aF (FR T) b fs
def Hs(h₀:Heap)(Z:List (Addr×Obj))(fz:Bool)(x:Addr)(ob:Obj):Prop:=(x,ob)∈Z∨(fz=true/\h₀.get? x=some ob)
structure HR(σ:Hp)(h₀:Heap)(Z:List (Addr×Obj))(D:Addr->Addr)(opq:List (Addr×Obj)):Prop where
 nd:(Z.map (·.1)).Nodup
 ob:∀a fz o,σ a=some (fz,o)->OR T D (Hs h₀ Z fz) a o
 dj:∀a fz c fs,σ a=some (fz,.inst c fs)->σ (D a)=none
 ij:∀a fz c fs b fz' c' fs',σ a=some (fz,.inst c fs)->σ b=some (fz',.inst c' fs')->D a=D b->a=b
 oq:∀p∈opq,p∈Z/\σ p.1=none/\∀a fz c fs,σ a=some (fz,.inst c fs)->D a≠p.1
end
theorem OR.mv{T:Tb}{D e:Addr->Addr}{P d:Addr->Obj->Prop}{a:Addr}{o:AO}(h:OR T D P a o)(k:∀ob,P a ob->d a ob)(j:∀c fs,o=.inst c fs->e a=D a/\∀ob,P (D a) ob->d (D a) ob):OR T e d a o:=by
 cases o with
 |inst c fs=>obtain⟨b,n,g,i,f⟩:=h;have q:=j c fs rfl;exact⟨b,n,by rw[q.1];exact k _ g,by rw[q.1];exact q.2 _ i,f⟩
 |_=>exact h.elim λb h=>⟨b,h.elim λn h=>⟨n,k _ h.1,h.2⟩⟩
theorem OR.mono{T:Tb}{D b:Addr->Addr}{P d:Addr->Obj->Prop}{a:Addr}{o:AO}(h:OR T D P a o)(f:∀c fs,o=.inst c fs->b a=D a)(k:∀x ob,P x ob->d x ob):OR T b d a o:=h.mv (k a) λc fs e=>⟨f c fs e,k _⟩
theorem OR.self{T:Tb}{D:Addr->Addr}{P:Addr->Obj->Prop}{a:Addr}{o:AO}(h:OR T D P a o):∃ob,P a ob:=by
 cases o<;>exact h.elim λb h=>h.elim λn h=>⟨_,h.1⟩
noncomputable def qh(a:Addr)(ob:Obj):List (Addr×Obj)->List (Addr×Obj)
 |[]=>[]
 |p::r=>if p.1=a then(a,ob)::r else p::qh a ob r
theorem jf{a:Addr}{ob:Obj}{p:Addr×Obj}{r:List (Addr×Obj)}(h:p.1=a):qh a ob (p::r)=(a,ob)::r:=if_pos h
theorem gW{a:Addr}{ob:Obj}{p:Addr×Obj}{r:List (Addr×Obj)}(h:p.1≠a):qh a ob (p::r)=p::qh a ob r:=if_neg h
theorem pN(a:Addr)(ob:Obj)(Z:List (Addr×Obj)):(qh a ob Z).map (·.1)=Z.map (·.1):=by
 induction Z with
 |nil=>rfl
 |cons p r b=>
  by_cases h:p.1=a
  ·rw[jf h,List.map_cons,List.map_cons,h]
  ·rw[gW h,List.map_cons,List.map_cons,b]
theorem fj{a:Addr}{o ob:Obj}{Z:List (Addr×Obj)}(c:(Z.map (·.1)).Nodup)(h:(a,o)∈Z):Upd a o ob Z (qh a ob Z):=by
 induction Z with
 |nil=>cases h
 |cons p r i=>
  rw[List.map_cons,List.nodup_cons]at c
  by_cases e:p.1=a
  ·rw[jf e]
   rcases au h with b|d
   ·rw[←b]
    exact .head λq j g=>c.1 (by rw[←b,←g];exact List.mem_map_of_mem (f:=(·.1)) j)
   ·exact absurd (List.mem_map_of_mem (f:=(·.1)) d) (by rw[←e];exact c.1)
  ·rw[gW e]
   rcases au h with b|d
   ·exact absurd (by rw[←b]) e
   ·exact .tail e (i c.2 d)
theorem mC{a:Addr}{o ob:Obj}{Z:List (Addr×Obj)}(h:(a,o)∈Z):(a,ob)∈qh a ob Z:=by
 induction Z with
 |nil=>cases h
 |cons p r c=>
  by_cases e:p.1=a
  ·rw[jf e];exact .head _
  ·rw[gW e]
   rcases au h with b|d
   ·exact absurd (by rw[←b]) e
   ·exact .tail _ (c d)
theorem bX{a:Addr}{ob:Obj}{Z:List (Addr×Obj)}{p:Addr×Obj}(h:p∈Z)(n:p.1≠a):p∈qh a ob Z:=by
 induction Z with
 |nil=>cases h
 |cons q r d=>
  by_cases e:q.1=a
  ·rw[jf e]
   rcases au h with b|c
   ·subst b;exact absurd e n
   ·exact .tail _ c
  ·rw[gW e]
   rcases au h with b|c
   ·subst b;exact .head _
   ·exact .tail _ (d c)
noncomputable def setD(D:Addr->Addr)(x a:Addr):Addr->Addr:=λy=>if y=x then a else D y
theorem ez{D:Addr->Addr}{x a:Addr}:setD D x a x=a:=if_pos rfl
theorem du{D:Addr->Addr}{x a y:Addr}(h:y≠x):setD D x a y=D y:=if_neg h
theorem uR{r:Addr}:AV.ref r≠.undef:=nofun
theorem uY{r:List UInt8}:AV.bytes r≠.undef:=nofun
theorem uN:AV.none≠.undef:=nofun
theorem ab{σ:Hp}{a:Addr}{c:Bool×AO}:upd σ a c a=some c:=if_pos rfl
theorem ac{σ:Hp}{a b:Addr}{c:Bool×AO}(h:b≠a):upd σ a c b=σ b:=if_neg h
theorem dy{σ:Hp}{a b:Addr}{c v:Bool×AO}{P:Prop}(e:upd σ a c b=some v)(f:b=a->c=v->P)(g:b≠a->σ b=some v->P):P:=
 if h:b=a then f h (Option.some.inj ((if_pos h).symm.trans e)) else g h ((if_neg h).symm.trans e)
theorem cE{U:Type}{P:Prop}{o:Option U}{v:U}(h:o=none)(e:o=some v):P:=oW (h.symm.trans e)
theorem hW{Z:List (Addr×Obj)}{a:Addr}(c:∀p∈Z,p.1≠a)(b:(Z.map (·.1)).Nodup):(a::Z.map (·.1)).Nodup:=
 List.nodup_cons.mpr ⟨λh=>(bz h).elim λp h=>c p h.1 h.2,b⟩
section
variable {T:Tb} {σ:Hp} {h₀:Heap} {Z:List (Addr×Obj)} {D:Addr->Addr} {opq:List (Addr×Obj)}
theorem Hs.ne{fz:Bool}{a:Addr}{ob:Obj}(b:∀p∈Z,p.1≠a)(c:h₀.get? a=none)(h:Hs h₀ Z fz a ob):False:=h.elim (λh=>b _ h rfl) λh=>cE c h.2
theorem HR.fresh(R:HR T σ h₀ Z D opq){a:Addr}(b:∀p∈Z,p.1≠a)(d:h₀.get? a=none):σ a=none:=by
 cases e:σ a with
 |none=>rfl
 |some c=>exact((R.ob _ _ _ e).self.elim λf h=>h.ne b d).elim
theorem HR.dfresh(R:HR T σ h₀ Z D opq){a:Addr}(b:∀p∈Z,p.1≠a)(d:h₀.get? a=none){x:Addr}{fz:Bool}{c:Nat}{fs:List (Nat×AV)}(e:σ x=some (fz,.inst c fs)):D x≠a:=λh=>
 (R.ob _ _ _ e).elim λ_ k=>k.elim λ_ k=>(h▸k.2.1).ne b d
theorem HR.putIn(R:HR T σ h₀ Z D opq){a:Addr}{fz:Bool}{o:AO}{news' f:List (Addr×Obj)}(nd:(news'.map (·.1)).Nodup)(k:OR T D (Hs h₀ news' fz) a o)(hi:∀c fs,o≠.inst c fs)
  (l:∀x z c fs,σ x=some (z,.inst c fs)->D x≠a) (ob:∀b z o',b≠a->σ b=some (z,o')->OR T D (Hs h₀ news' z) b o') (oq:∀p∈f,p∈opq/\p.1≠a/\p∈news'):HR T (upd σ a (fz,o)) h₀ news' D f where
 nd:=nd
 ob:=λb z o' e=>dy e (λj d=>by clear e;cases d;subst j;exact k) (ob b z o')
 dj:=λb z c fs e=>dy e (λ_ d=>absurd (congrArg Prod.snd d) (hi c fs)) λ_ e=>(ac (l _ _ _ _ e)).trans (R.dj _ _ _ _ e)
 ij:=λx z c fs y s n g e i h=>dy e (λ_ d=>absurd (congrArg Prod.snd d) (hi c fs)) λ_ e=>dy i (λ_ d=>absurd (congrArg Prod.snd d) (hi n g)) λ_ i=>R.ij _ _ _ _ _ _ _ _ e i h
 oq:=λp m=>have q:=oq p m;have r:=R.oq p q.1;⟨q.2.2,(ac q.2.1).trans r.2.1,λx z c fs e=>dy e (λ_ d=>absurd (congrArg Prod.snd d) (hi c fs)) λ_ e=>r.2.2 _ _ _ _ e⟩
theorem HR.alloc(R:HR T σ h₀ Z D opq){a:Addr}{ob:Obj}{fz:Bool}{o:AO}(b:∀p∈Z,p.1≠a)(g:h₀.get? a=none)
  (f:∀P:Addr->Obj->Prop,P a ob->OR T D P a o) (hi:∀c fs,o≠.inst c fs):HR T (upd σ a (fz,o)) h₀ ((a,ob)::Z) D opq:=
 R.putIn (hW b R.nd) (f _ (.inl (.head _))) hi (λ_ _ _ _ e=>R.dfresh b g e) (λ_ _ _ _ e=>(R.ob _ _ _ e).mono (λ_ _ _=>rfl) λ_ _ h=>h.imp (.tail _) id)
  λp d=>have q:=(R.oq p d).1;⟨d,b p q,.tail _ q⟩
theorem HR.allocI(R:HR T σ h₀ Z D opq){x d:Addr}{c:Nat}{fz:Bool}(z:∀p∈Z,p.1<d)(w:d<x)(s:h₀.get? d=none)(t:h₀.get? x=none):
  HR T (upd σ x (fz,.inst c [])) h₀ ((x,instObj (T.ca c) d)::(d,dictOf [] 0)::Z) (setD D x d) opq:=by
 have a:∀p∈Z,p.1≠d:=λp i=>Nat.ne_of_lt (z p i)
 have j:∀p∈Z,p.1≠x:=λp i=>Nat.ne_of_lt (Nat.lt_trans (z p i) w)
 have m:x≠d:=Nat.ne_of_gt w
 have A:∀p∈(d,dictOf [] 0)::Z,p.1≠x:=λp i=>(au i).elim (λe=>e▸Ne.symm m) (j p)
 refine⟨hW A (hW a R.nd),λb l J e=>dy e (λf E=>?_) λf e=>?_,λb l I o e=>dy e (λf _=>?_) λf e=>?_,λu fz c B v l I o e k h=>dy e (λn _=>?_) λn e=>?_,λp i=>?_⟩
 ·clear e;cases E;subst f
  exact⟨[],0,.inl (by rw[ez];exact .head _),.inl (by rw[ez];exact .tail _ (.head _)),.nil⟩
 ·exact(R.ob _ _ _ e).mono (λ_ _ _=>du f) λy G h=>h.imp (λh=>.tail _ (.tail _ h)) id
 ·rw[f,ez,ac (Ne.symm m)];exact R.fresh a s
 ·rw[du f,ac (R.dfresh j t e)];exact R.dj _ _ _ _ e
 ·refine dy k (λg _=>n.trans g.symm) λg k=>?_
  rw[n,ez,du g]at h
  exact absurd h.symm (R.dfresh a s k)
 ·rw[du n]at h
  refine dy k (λg _=>?_) λg k=>?_
  ·rw[g,ez]at h;exact absurd h (R.dfresh a s e)
  ·rw[du g]at h;exact R.ij _ _ _ _ _ _ _ _ e k h
 ·have q:=R.oq p i
  refine⟨.tail _ (.tail _ q.1),(ac (j p q.1)).trans q.2.1,λy fz c B e=>dy e (λr _=>?_) λr e=>?_⟩
  ·rw[r,ez];exact Ne.symm (a p q.1)
  ·rw[du r];exact q.2.2 _ _ _ _ e
theorem HR.dne(R:HR T σ h₀ Z D opq){a:Addr}{v:Bool×AO}(e:σ a=some v):∀x z c fs,σ x=some (z,.inst c fs)->D x≠a:=λ_ _ _ _ ex h=>cE (R.dj _ _ _ _ ex) (h.symm▸e)
theorem HR.one(R:HR T σ h₀ Z D opq){a:Addr}{ob:Obj}(e:Hs h₀ Z false a ob):(a,ob)∈Z:=e.elim id λh=>fT h.1
theorem HR.write(R:HR T σ h₀ Z D opq){a:Addr}{ob:Obj}{fz:Bool}{o o':AO}(e:σ a=some (false,o))(_:∀c fs,o≠.inst c fs)
  (r:∀P:Addr->Obj->Prop,P a ob->OR T D P a o') (f:∀c fs,o'≠.inst c fs):HR T (upd σ a (fz,o')) h₀ (qh a ob Z) D opq:=
 (R.ob _ _ _ e).self.elim λm l=>R.putIn (by rw[pN];exact R.nd) (r _ (.inl (mC (R.one l)))) f (R.dne e)
  (λb z k j g=>(R.ob _ _ _ g).mv (λ_ h=>h.imp (λh=>bX h j) id) λc fs n=>⟨rfl,λ_ h=>h.imp (λh=>bX h (R.dne e _ z c fs (n▸g))) id⟩)
  λp i=>have q:=R.oq p i;have d:p.1≠a:=λh=>cE q.2.1 (h.symm▸e);⟨i,d,bX q.1 d⟩
theorem HR.writeI(R:HR T σ h₀ Z D opq){a:Addr}{fz:Bool}{c:Nat}{fs l:List (Nat×AV)}{g:List DictEntry}{n:Nat}(e:σ a=some (false,.inst c fs))
  (J:aF (FR T) g l):HR T (upd σ a (fz,.inst c l)) h₀ (qh (D a) (dictOf g n) Z) D opq:=by
 obtain⟨A,n0,g1,g2,g3⟩:=R.ob _ _ _ e
 have i:∀{b:Addr} {v},σ b=some v->b≠D a:=λd h=>cE (R.dj _ _ _ _ e) (h▸d)
 have old:∀{P:Prop} {y:Addr} {z:Bool} {o:Nat} {m:List (Nat×AV)},upd σ a (fz,.inst c l) y=some (z,.inst o m)->(∀z o m,σ y=some (z,.inst o m)->P)->P:=λj f=>dy j (λu _=>f _ _ _ (u.symm▸e)) λ_ j=>f _ _ _ j
 refine⟨by rw[pN];exact R.nd,λb z t d=>dy d (λr E=>?_) λr d=>?_,λb z o m d=>old d λz o m d=>?_,λx z1 w s y z2 K B ex j h=>old ex λ_ _ _ ex=>old j λ_ _ _ j=>R.ij _ _ _ _ _ _ _ _ ex j h,λp G=>?_⟩
 ·clear d;cases E;subst r
  exact⟨g,n,.inl (bX (R.one g1) (i e)),.inl (mC (R.one g2)),J⟩
 ·exact(R.ob _ _ _ d).mv (λ_ h=>h.imp (λh=>bX h (i d)) id) λc fs I=>⟨rfl,λ_ h=>h.imp (λh=>bX h λk=>r (R.ij _ z c fs _ _ _ _ (I▸d) e k)) id⟩
 ·have q:=R.dj _ _ _ _ d
  exact(ac λh=>cE q (h.symm▸e)).trans q
 ·have q:=R.oq p G
  exact⟨bX q.1 (Ne.symm (q.2.2 _ _ _ _ e)),(ac λh=>cE q.2.1 (h.symm▸e)).trans q.2.1,λx z1 w s ex=>old ex λ_ _ _ ex=>q.2.2 _ _ _ _ ex⟩
end
def Wk(d σ:Hp):Prop:=∀a c,d a=some c->∃b,σ a=some b/\b.2=c.2/\(b.1=true->c.1=true)
theorem Wk.refl(σ:Hp):Wk σ σ:=λ_ c h=>⟨c,h,rfl,id⟩
theorem HR.wk{T:Tb}{σ d:Hp}{h₀:Heap}{Z:List (Addr×Obj)}{D:Addr->Addr}{opq:List (Addr×Obj)}(R:HR T σ h₀ Z D opq)(w:Wk d σ):HR T d h₀ Z D opq:=by
 have up:∀{P:Prop} {a g o},d a=some (g,o)->(∀z,σ a=some (z,o)->(z=true->g=true)->P)->P:=λ{P a g o} e f=>(w _ _ e).elim λc h=>f c.1 (h.1.trans (congrArg some (Prod.ext rfl h.2.1))) h.2.2
 have no:∀a,σ a=none->d a=none:=λa h=>by
  cases e:d a with
  |none=>rfl
  |some c=>exact up e λz k _=>cE h k
 exact⟨R.nd,λa g o e=>up e λz i j=>(R.ob _ _ _ i).mono (λ_ _ _=>rfl) λx u h=>h.imp id λh=>⟨j h.1,h.2⟩,λa g c l e=>up e λ_ i _=>no _ (R.dj _ _ _ _ i),
  λa g c l b n v r e t h=>up e λ_ i _=>up t λ_ j _=>R.ij _ _ _ _ _ _ _ _ i j h,
  λp s=>have q:=R.oq p s;⟨q.1,no _ q.2.1,λa g c l e=>up e λ_ m _=>q.2.2 _ _ _ _ m⟩⟩
end
section
set_option genCtorIdx false
mutual
inductive BO where
 |add|sub|mul|fdiv|mod|band|bor|shl|shr|pow
inductive CO where
 |eq|ne|lt|le|gt|ge|is|isnt|isin|notin
inductive BF where
 |len|sorted|min1|min2|bytes|list
inductive BM where
 |append|insert|pop|get
end
set_option genCtorIdx true
mutual
inductive X where
 |k (v:AV)
 |v (i:Nat)
 |at(e:X) (f:Nat)
 |bin (o:BO) (a b:X)
 |cmp (o:CO) (a b:X)
 |orX (a b:X)
 |ite (c:C) (a b:X)
 |sub (a i:X)
 |upto (a hi:X)
 |frm (a lo:X)
 |lst (es:XS)
 |tup (es:XS)
 |dic
 |fn (f:Nat) (es:XS)
 |mk (c:Nat) (es:XS)
 |mth (o:X) (g:Nat) (es:XS)
 |bi (b:BF) (es:XS)
 |bm (b:BM) (o:X) (es:XS)
 |comp (tgt:Nat) (it:X) (cs:CS) (elt:X)
 |compR (tgt:Nat) (lo hi:X) (cs:CS) (elt:X)
inductive XS where
 |nil
 |cons (e:X) (es:XS)
inductive C where
 |t (e:X)
 |not (c:C)
 |and (cs:CS)
 |or (cs:CS)
inductive CS where
 |nil
 |cons (c:C) (cs:CS)
end
set_option genCtorIdx false
mutual
inductive S where
 |asg (i:Nat) (e:X)
 |asgT (is:List Nat) (e:X)
 |setA (o:X) (f:Nat) (e:X)
 |setI (o i:X) (e:X)
 |aug (i:Nat) (o:BO) (e:X)
 |augA (o:X) (f:Nat) (op:BO) (e:X)
 |augI (o i:X) (op:BO) (e:X)
 |ex (e:X)
 |ret (e:X)
 |ite (c:C) (a b:SS)
 |whl (c:C) (b:SS)
 |for (tgt:List Nat) (it:X) (b:SS)
 |forR (tgt:Nat) (lo hi:X) (up:Bool) (b:SS)
 |brk|cnt|pas
 |delI (o i:X)
 |tri (b:SS)
 |dead
inductive SS where
 |nil
 |cons (s:S) (ss:SS)
end
noncomputable abbrev aG:=List AV
noncomputable abbrev PX:=AV->Hp->Prop
set_option genCtorIdx true
inductive Fl where
 |next|brk|cont
 |ret (v:AV)
noncomputable def get(l:aG)(i:Nat):AV:=l.getD i .undef
noncomputable abbrev line:Nat:=10000
def sel(a:AV)(f:Prop)(e:Int->Prop)(c:List UInt8->Prop)(d:Addr->Prop):Prop:=match a with
 |.none=>f
 |.int i=>e i
 |.bytes b=>c b
 |.ref r=>d r
 |_=>False
def bV(a:AV)(k:Int->Prop):Prop:=match a with
 |.int i=>k i
 |_=>False
def CX(a:AV)(k:List UInt8->Prop):Prop:=match a with
 |.bytes b=>k b
 |_=>False
def kh(a:AV)(k:Addr->Prop):Prop:=match a with
 |.ref r=>k r
 |_=>False
def Eu(a:AV)(k:Prop):Prop:=match a with
 |.none=>k
 |_=>False
def Mb(a:AV)(k:Bool->Prop):Prop:=match a with
 |.bool b=>k b
 |_=>False
def zK(a:AV)(k:AV->Prop):Prop:=match a with
 |.undef=>False
 |a=>k a
noncomputable def Ci:AV->Bool
 |.none=>true
 |_=>false
def kO(o:AO)(f e:List AV->Prop)(h:List (Int×AV)->Prop)(g:Nat->List (Nat×AV)->Prop):Prop:=match o with
 |.list a=>f a
 |.tup a=>e a
 |.dict b=>h b
 |.inst c d=>g c d
def ei{a:Type}(o:Option a)(k:a->Prop)(n:Prop):Prop:=match o with
 |some v=>k v
 |none=>n
def op{a:Type}(o:Option a)(k:a->Prop):Prop:=ei o k False
def Bs(o:Option (Bool×AO))(b a:List AV->Prop)(d:List (Int×AV)->Prop):Prop:=op o λc=>kO c.2 b a d λ_ _=>False
def cL(o:Option (Bool×AO))(k:List AV->Prop):Prop:=Bs o k (λ_=>False) λ_=>False
def cT(o:Option (Bool×AO))(k:List AV->Prop):Prop:=Bs o (λ_=>False) k λ_=>False
def cD(o:Option (Bool×AO))(k:List (Int×AV)->Prop):Prop:=Bs o (λ_=>False) (λ_=>False) k
def cN(o:Option (Bool×AO))(k:Nat->List (Nat×AV)->Prop):Prop:=op o λc=>kO c.2 (λ_=>False) (λ_=>False) (λ_=>False) k
def CW(o:Option (Bool×AO))(a:List AV->Prop)(d:List (Int×AV)->Prop)(b:Nat->List (Nat×AV)->Prop):Prop:=op o λc=>c.1=false/\kO c.2 a (λ_=>False) d b
def wL(o:Option (Bool×AO))(k:List AV->Prop):Prop:=CW o k (λ_=>False) λ_ _=>False
def Ah(as:List AV)(k:AV->Prop):Prop:=match as with
 |[a]=>k a
 |_=>False
def EV(as:List AV)(k:AV->AV->Prop):Prop:=match as with
 |[a,b]=>k a b
 |_=>False
def bin(o:BO)(a b:AV)(σ:Hp)(Q:PX):Prop:=match o with
 |.add=>sel a False (λx=>bV b λy=>Q (.int (x+y)) σ) (λx=>CX b λy=>(x.length<=line/\y.length<=line)/\Q (.bytes (x++y)) σ)
   λa=>kh b λb=>cL (σ a) λc=>cL (σ b) λd=>(c.length<=line/\d.length<=line)/\∀r,σ r=none->Q (.ref r) (upd σ r (false,.list (c++d)))
 |.mul=>sel a False (λx=>bV b λy=>(-(2 ^ 62)<x/\x<2 ^ 62)/\Q (.int (x*y)) σ) (λ_=>False)
   λa=>bV b λn=>cL (σ a) λc=>Ah c λx=>(0<=n/\n<=100)/\∀r,σ r=none->Q (.ref r) (upd σ r (false,.list (List.replicate n.toNat x)))
 |.sub=>bV a λx=>bV b λy=>Q (.int (x-y)) σ
 |.fdiv=>bV a λx=>bV b λy=>(0<y/\y<2 ^ 30)/\Q (.int (x/y)) σ
 |.mod=>bV a λx=>bV b λy=>0<y/\Q (.int (x%y)) σ
 |.band=>bV a λx=>bV b λy=>Q (.int (Builtin.bitAnd x y)) σ
 |.bor=>bV a λx=>bV b λy=>Q (.int (Builtin.bitOr x y)) σ
 |.shl=>bV a λx=>bV b λy=>(0<=y/\y<=100/\x.natAbs<2 ^ 64)/\Q (.int (x*2 ^ y.toNat)) σ
 |.shr=>bV a λx=>bV b λy=>0<=y/\Q (.int (x.fdiv (2 ^ y.toNat))) σ
 |.pow=>bV a λx=>bV b λy=>(x=12/\0<=y/\y<=2)/\Q (.int (12 ^ y.toNat)) σ
noncomputable def A1:AV->Option Int
 |.int i=>some i
 |_=>none
noncomputable def cI:List AV->Option (List Int)
 |[]=>some []
 |v::r=>(A1 v).bind λi=>(cI r).map (i::·)
noncomputable def bE(es:List (Int×AV))(k:Int):Option AV:=(es.find? λe=>decide (e.1=k)).map (·.2)
def cmp(o:CO)(a b:AV)(σ:Hp)(Q:Bool->Prop):Prop:=match o with
 |.eq=>sel a False (λx=>bV b λy=>Q (decide (x=y))) (λx=>CX b λy=>Q (decide (x=y))) λ_=>False
 |.ne=>sel a (sel b (Q false) (λ_=>False) (λ_=>Q true) λ_=>False) (λx=>bV b λy=>Q (decide (x≠y))) (λx=>sel b (Q true) (λ_=>False) (λy=>Q (decide (x≠y))) λ_=>False)
   λa=>kh b λb=>cL (σ a) λd=>cL (σ b) λc=>op (cI d) λh=>op (cI c) λe=>Q (!decide (h=e))
 |.lt=>sel a False (λx=>bV b λy=>Q (decide (x<y))) (λx=>CX b λy=>Q (decide (x<y))) λ_=>False
 |.le=>sel a False (λx=>bV b λy=>Q (decide (x<=y))) (λx=>CX b λy=>Q (!decide (y<x))) λ_=>False
 |.gt=>sel a False (λx=>bV b λy=>Q (decide (y<x))) (λx=>CX b λy=>Q (decide (y<x))) λ_=>False
 |.ge=>sel a False (λx=>bV b λy=>Q (decide (y<=x))) (λx=>CX b λy=>Q (!decide (x<y)))
   λa=>kh b λb=>cT (σ a) λd=>EV d λx y=>bV x λx=>bV y λy=>cT (σ b) λg=>EV g λu v=>bV u λu=>bV v λv=>Q (decide (u<x∨(u=x/\v<=y)))
 |.is=>Eu b (Q (Ci a))
 |.isnt=>Eu b (Q (!Ci a))
 |.isin=>bV a λx=>kh b λb=>cD (σ b) λf=>Q (bE f x).isSome
 |.notin=>bV a λx=>kh b λb=>cL (σ b) λc=>op (cI c) λe=>Q (!e.any (·==x))
def mx(a:AV)(σ:Hp)(Q:Bool->Prop):Prop:=match a with
 |.bool b=>Q b
 |.ref r=>cL (σ r) λc=>c.length<=line/\Q (!c.isEmpty)
 |_=>False
noncomputable def dZ(k:Int)(v:AV)(es:List (Int×AV)):List (Int×AV):=
 if es.any (λe=>decide (e.1=k)) then es.map (λe=>if e.1=k then(e.1,v) else e) else es++[(k,v)]
noncomputable def EH(k:Int)(es:List (Int×AV)):List (Int×AV):=es.filter λe=>decide (e.1≠k)
noncomputable def vI(fs:List (Nat×AV))(f:Nat):Option AV:=(fs.find? λe=>e.1==f).map (·.2)
noncomputable def gE(f:Nat)(v:AV):List (Nat×AV)->List (Nat×AV)
 |[]=>[(f,v)]
 |e::r=>if e.1==f then(e.1,v)::r else e::gE f v r
def nY(a i:AV)(σ:Hp)(Q:PX):Prop:=sel a False (λ_=>False) (λb=>bV i λn=>b.length<=line/\0<=n/\op b[n.toNat]? λv=>Q (.int v.toNat) σ)
 λr=>bV i λn=>Bs (σ r) (λc=>c.length<=line/\(if 0<=n then op c[n.toNat]? λv=>Q v σ else n= -1/\op c.getLast? λv=>Q v σ)) (λc=>c.length<=line/\0<=n/\op c[n.toNat]? λv=>Q v σ)
  λd=>d.length<=line/\op (bE d n) λv=>Q v σ
def setItem(a i v:AV)(σ:Hp)(Q:Hp->Prop):Prop:=kh a λr=>bV i λn=>CW (σ r) (λb=>b.length<=line/\0<=n/\n<b.length/\Q (upd σ r (false,.list (b.set n.toNat v)))) (λc=>c.length<=line/\Q (upd σ r (false,.dict (dZ n v c)))) λ_ _=>False
def delItem(a i:AV)(σ:Hp)(Q:Hp->Prop):Prop:=kh a λr=>bV i λn=>CW (σ r) (λc=>c.length<=line/\0<=n/\n<c.length/\Q (upd σ r (false,.list (c.eraseIdx n.toNat)))) (λb=>b.length<=line/\(bE b n).isSome/\Q (upd σ r (false,.dict (EH n b)))) λ_ _=>False
def zA(d:Nat->Nat->Bool)(a:AV)(f:Nat)(σ:Hp)(Q:PX):Prop:=kh a λr=>cN (σ r) λc b=>d c f=true/\op (vI b f) λv=>Q v σ
def setAttr(d:Nat->Nat->Bool)(a:AV)(f:Nat)(v:AV)(σ:Hp)(Q:Hp->Prop):Prop:=kh a λr=>CW (σ r) (λ_=>False) (λ_=>False) λc b=>d c f=true/\b.length<=100/\Q (upd σ r (false,.inst c (gE f v b)))
noncomputable def PO:AV->Option Addr
 |.ref r=>some r
 |_=>none
noncomputable def Fp:AO->List AV
 |.tup xs=>xs
 |_=>[]
noncomputable def Gm(l:List AV):Option (Int×Int×Int):=match l with
 |[a,b,c]=>(A1 a).bind λx=>(A1 b).bind λy=>(A1 c).map λz=>(x,y,z)
 |_=>none
noncomputable def kP(σ:Hp)(v:AV):Option (Int×Int×Int):=(PO v).bind λr=>(σ r).bind λc=>Gm (Fp c.2)
noncomputable def dI(σ:Hp):List AV->Option (List (Int×Int×Int))
 |[]=>some []
 |v::r=>(kP σ v).bind λx=>(dI σ r).map (x::·)
noncomputable def jI(a b:Int×Int×Int):Bool:=decide (a.1<b.1∨(a.1=b.1/\(a.2.1<b.2.1∨(a.2.1=b.2.1/\a.2.2<b.2.2))))
noncomputable def u8(v:AV):Option UInt8:=(A1 v).bind λi=>if 0<=i/\i<256 then some (UInt8.ofNat i.toNat) else none
noncomputable def EN:List AV->Option (List UInt8)
 |[]=>some []
 |v::r=>(u8 v).bind λi=>(EN r).map (i::·)
def eO(b:BF)(as:List AV)(σ:Hp)(Q:PX):Prop:=match b with
 |.len=>Ah as λa=>sel a False (λ_=>False) (λb=>b.length<=line/\Q (.int b.length) σ) λr=>cL (σ r) λd=>d.length<=line/\Q (.int d.length) σ
 |.sorted=>Ah as λa=>kh a λr=>Bs (σ r)
   (λd=>d.length<=60/\ei (cI d) (λf=>∀c (e:List Int),σ c=none->e.Perm f->e.Pairwise (·<=·)->Q (.ref c) (upd σ c (false,.list (e.map .int))))
    (op (dI σ d) λj=>j.Nodup/\∀c (g:List AV) (h:List (Int×Int×Int)),σ c=none->g.Perm d->dI σ g=some h->h.Perm j->h.Pairwise (λa b=>jI a b=true)->Q (.ref c) (upd σ c (false,.list g))))
   (λ_=>False) λi=>i.length<=60/\∀c (e:List Int),σ c=none->e.Perm (i.map (·.1))->e.Pairwise (·<=·)->Q (.ref c) (upd σ c (false,.list (e.map .int)))
 |.min1=>Ah as λa=>kh a λr=>cL (σ r) λd=>d.length<=line/\op (cI d) λf=>0<f.length/\∀M,M∈f->(∀a,a∈f->M<=a)->Q (.int M) σ
 |.min2=>EV as λx y=>bV x λx=>bV y λy=>Q (.int (if y<x then y else x)) σ
 |.bytes=>Ah as λa=>sel a False (λ_=>False) (λb=>b.length<=line/\Q (.bytes b) σ) λr=>cL (σ r) λd=>d.length<=8/\op (EN d) λb=>Q (.bytes b) σ
 |.list=>Ah as λa=>kh a λr=>cL (σ r) λd=>d.length<=line/\∀c,σ c=none->Q (.ref c) (upd σ c (false,.list d))
def jD(b:BM)(o:AV)(as:List AV)(σ:Hp)(Q:PX):Prop:=kh o λr=>match b with
 |.append=>Ah as λv=>wL (σ r) λa=>a.length<=line/\Q .none (upd σ r (false,.list (a++[v])))
 |.insert=>EV as λn v=>bV n λn=>wL (σ r) λa=>a.length<=line/\0<=n/\n<=a.length/\Q .none (upd σ r (false,.list (a.take n.toNat++v::a.drop n.toNat)))
 |.pop=>Ah as λn=>bV n λn=>wL (σ r) λa=>a.length<=line/\0<=n/\op a[n.toNat]? λv=>Q v (upd σ r (false,.list (a.take n.toNat++a.drop (n.toNat+1))))
 |.get=>EV as λn d=>bV n λn=>cD (σ r) λc=>c.length<=line/\Q ((bE c n).getD d) σ
def OA(b:BM)(o:Option (Bool×AO)):Prop:=match b with
 |.get=>cD o λ_=>True
 |_=>cL o λ_=>True
noncomputable def aM(lo hi:Int):List Int:=(List.range (hi-lo).toNat).map λk=>lo+(k:Nat)
noncomputable def dN(hi:Int):List Int:=(List.range (hi+1).toNat).map λk=>hi-(k:Nat)
structure Ft where
 fa:Nat->Addr
 mt:Nat->Nat->Option Nat
 mi:Nat->Option Nat
 fo:Nat->Nat->Bool
noncomputable abbrev bj:=Addr->List AV->Hp->PX->Prop
section
variable (F:Ft) (cal:bj)
noncomputable def jH(one:AV->Hp->(Option AV->Hp->Prop)->Prop):List AV->List AV->Hp->(List AV->Hp->Prop)->Prop
 |[],a,σ,Q=>Q a σ
 |v::r,a,σ,Q=>one v σ λy b=>jH one r (match y with|some y=>a++[y]|none=>a) b Q
mutual
noncomputable def dc:X->aG->Hp->PX->Prop
 |.k v,_,σ,Q=>Q v σ
 |.v i,l,σ,Q=>zK (get l i) λv=>Q v σ
 |.at e f,l,σ,Q=>dc e l σ λa h=>zA F.fo a f h Q
 |.bin o a b,l,σ,Q=>dc a l σ λx h=>dc b l h λy d=>bin o x y d Q
 |.cmp o a b,l,σ,Q=>dc a l σ λx h=>dc b l h λy d=>cmp o x y d λc=>Q (.bool c) d
 |.orX a b,l,σ,Q=>dc a l σ λx h=>Mb x λt=>(t=true->Q (.bool true) h)/\(t=false->dc b l h Q)
 |.ite c a b,l,σ,Q=>Ae c l σ λt h=>(t=true->dc a l h Q)/\(t=false->dc b l h Q)
 |.sub a i,l,σ,Q=>dc a l σ λx h=>dc i l h λy d=>nY x y d Q
 |.upto a hi,l,σ,Q=>dc a l σ λx h=>dc hi l h λy d=>sel x False (λ_=>False) (λb=>bV y λn=>(b.length<=line/\0<=n/\n<=line)/\Q (.bytes (b.take n.toNat)) d)
   λr=>bV y λn=>cL (d r) λxs=>(xs.length<=line/\0<=n/\n<=line)/\∀c,d c=none->Q (.ref c) (upd d c (false,.list (xs.take n.toNat)))
 |.frm a lo,l,σ,Q=>dc a l σ λx h=>dc lo l h λy d=>kh x λr=>bV y λn=>cL (d r) λxs=>(xs.length<=line/\0<=n/\n<=line)/\∀c,d c=none->Q (.ref c) (upd d c (false,.list (xs.drop n.toNat)))
 |.lst es,l,σ,Q=>kX es l σ λvs h=>vs.length<=line/\∀r,h r=none->Q (.ref r) (upd h r (false,.list vs))
 |.tup es,l,σ,Q=>kX es l σ λvs h=>vs.length<=line/\∀r,h r=none->Q (.ref r) (upd h r (true,.tup vs))
 |.dic,_,σ,Q=>∀r,σ r=none->Q (.ref r) (upd σ r (false,.dict []))
 |.fn f es,l,σ,Q=>kX es l σ λvs h=>cal (F.fa f) vs h Q
 |.mk c es,l,σ,Q=>kX es l σ λvs h=>∀r,h r=none->ei (F.mi c) (λg=>cal (F.fa g) (.ref r::vs) (upd h r (false,.inst c [])) λv d=>Eu v (Q (.ref r) d))
  (vs=[]/\Q (.ref r) (upd h r (false,.inst c [])))
 |.mth o g es,l,σ,Q=>dc o l σ λa h=>kh a λr=>cN (h r) λc fs=>op (F.mt c g) λf=>(fs.all λp=>F.fo c p.1)=true/\kX es l h λvs d=>cal (F.fa f) (.ref r::vs) d Q
 |.bi b es,l,σ,Q=>kX es l σ λvs h=>eO b vs h Q
 |.bm b o es,l,σ,Q=>dc o l σ λa h=>kh a λr=>OA b (h r)/\kX es l h λvs d=>jD b (.ref r) vs d Q
 |.comp t u s e,l,σ,Q=>dc u l σ λa h=>kh a λr=>cL (h r) λxs=>xs.length<=line/\jH (λv q P=>rj s (l.set t v) q λb j=>(b=true->dc e (l.set t v) j λy m=>(∃fz,m r=some (fz,.list xs))/\P (some y) m)/\(b=false->(∃fz,j r=some (fz,.list xs))/\P none j)) xs [] h
     λys d=>∀c,d c=none->Q (.ref c) (upd d c (false,.list ys))
 |.compR t lo hi s e,l,σ,Q=>dc lo l σ λa h=>dc hi l h λb d=>bV a λlo=>bV b λhi=>(0<=lo/\lo<=line/\0<=hi/\hi<=line)/\
   jH (λv q P=>rj s (l.set t v) q λb j=>(b=true->dc e (l.set t v) j λy m=>True/\P (some y) m)/\(b=false->True/\P none j)) ((aM lo hi).map .int) [] d
     λys d=>∀c,d c=none->Q (.ref c) (upd d c (false,.list ys))
noncomputable def kX:XS->aG->Hp->(List AV->Hp->Prop)->Prop
 |.nil,_,σ,Q=>Q [] σ
 |.cons e es,l,σ,Q=>dc e l σ λv b=>kX es l b λvs a=>Q (v::vs) a
noncomputable def Ae:C->aG->Hp->(Bool->Hp->Prop)->Prop
 |.t e,l,σ,Q=>dc e l σ λa d=>mx a d λb=>Q b d
 |.not c,l,σ,Q=>Ae c l σ λb d=>Q (!b) d
 |.and f,l,σ,Q=>rj f l σ Q
 |.or f,l,σ,Q=>BE f l σ Q
noncomputable def rj:CS->aG->Hp->(Bool->Hp->Prop)->Prop
 |.nil,_,σ,Q=>Q true σ
 |.cons c d,l,σ,Q=>Ae c l σ λb a=>(b=true->rj d l a Q)/\(b=false->Q false a)
noncomputable def BE:CS->aG->Hp->(Bool->Hp->Prop)->Prop
 |.nil,_,σ,Q=>Q false σ
 |.cons c d,l,σ,Q=>Ae c l σ λb a=>(b=true->Q true a)/\(b=false->BE d l a Q)
end
def whl(c:aG->Hp->(Bool->Hp->Prop)->Prop)(body:aG->Hp->(Fl->aG->Hp->Prop)->Prop)(l:aG)(σ:Hp)(Q:Fl->aG->Hp->Prop):Prop:=
 ∃I:Nat->aG->Hp->Prop,(∃n,I n l σ)/\∀n l σ,I n l σ->c l σ λb d=>(b=true->body l d λf e a=>(match f with
  |.next=>∃m,m<n/\I m e a
  |.cont=>∃m,m<n/\I m e a
  |.brk=>Q .next e a
  |.ret v=>Q (.ret v) e a))/\(b=false->Q .next l d)
noncomputable def zp:aG->List Nat->List AV->Option aG
 |l,[],[]=>some l
 |l,i::is,v::vs=>zp (l.set i v) is vs
 |_,_,_=>none
def eU(a:List Nat)(v:AV)(l:aG)(σ:Hp)(Q:aG->Prop):Prop:=match a with
 |[i]=>Q (l.set i v)
 |is=>kh v λr=>cT (σ r) λb=>op (zp l is b) λc=>b.length<=8/\Q c
noncomputable def iJ(ok:Hp->Prop)(c:List Nat)(body:aG->Hp->(Fl->aG->Hp->Prop)->Prop)(Q:Fl->aG->Hp->Prop):List AV->aG->Hp->Prop
 |[],l,σ=>Q .next l σ
 |v::r,l,σ=>eU c v l σ λd=>body d σ λf b a=>(match f with
  |.next=>ok a/\iJ ok c body Q r b a
  |.cont=>ok a/\iJ ok c body Q r b a
  |.brk=>Q .next b a
  |.ret v=>Q (.ret v) b a)
mutual
noncomputable def Ov:S->aG->Hp->(Fl->aG->Hp->Prop)->Prop
 |.asg i e,l,σ,Q=>dc F cal e l σ λv d=>Q .next (l.set i v) d
 |.asgT is e,l,σ,Q=>dc F cal e l σ λv d=>eU is v l d λs=>Q .next s d
 |.setA o f e,l,σ,Q=>dc F cal e l σ λv d=>dc F cal o l d λa g=>setAttr F.fo a f v g λh=>Q .next l h
 |.setI o i e,l,σ,Q=>dc F cal e l σ λv d=>dc F cal o l d λa g=>dc F cal i l g λj h=>setItem a j v h λk=>Q .next l k
 |.aug i o e,l,σ,Q=>bV (get l i) λx=>dc F cal e l σ λy d=>bV y λy=>bin o (.int x) (.int y) d λv g=>Q .next (l.set i v) g
 |.augA o f op e,l,σ,Q=>dc F cal o l σ λa d=>zA F.fo a f d λx g=>dc F cal e l g λy h=>bV x λx=>bV y λy=>bin op (.int x) (.int y) h λv k=>setAttr F.fo a f v k λm=>Q .next l m
 |.augI o i op e,l,σ,Q=>dc F cal o l σ λa d=>dc F cal i l d λj g=>nY a j g λx h=>dc F cal e l h λy k=>bV x λx=>bV y λy=>bin op (.int x) (.int y) k λv m=>setItem a j v m λn=>Q .next l n
 |.ex e,l,σ,Q=>dc F cal e l σ λ_ d=>Q .next l d
 |.ret e,l,σ,Q=>dc F cal e l σ λv d=>Q (.ret v) l d
 |.ite c a b,l,σ,Q=>Ae F cal c l σ λt d=>(t=true->ji a l d Q)/\(t=false->ji b l d Q)
 |.whl c b,l,σ,Q=>whl (λl σ P=>Ae F cal c l σ P) (λl σ P=>ji b l σ P) l σ Q
 |.for p q b,l,σ,Q=>dc F cal q l σ λa d=>kh a λr=>cL (d r) λxs=>xs.length<=line/\iJ (λσ=>∃fz,σ r=some (fz,.list xs)) p (λl σ P=>ji b l σ P) Q xs l d
 |.forR t lo hi up b,l,σ,Q=>dc F cal lo l σ λa d=>dc F cal hi l d λc g=>bV a λlo=>bV c λhi=>(-line<=lo/\lo<=line/\ -line<=hi/\hi<=line/\(up=true∨hi= -1))/\iJ (λ_=>True) [t] (λl σ P=>ji b l σ P) Q ((if up then aM lo hi else dN lo).map .int) l g
 |.brk,l,σ,Q=>Q .brk l σ
 |.cnt,l,σ,Q=>Q .cont l σ
 |.pas,l,σ,Q=>Q .next l σ
 |.delI o i,l,σ,Q=>dc F cal o l σ λa d=>dc F cal i l d λj g=>delItem a j g λh=>Q .next l h
 |.tri b,l,σ,Q=>ji b l σ Q
 |.dead,_,_,_=>False
noncomputable def ji:SS->aG->Hp->(Fl->aG->Hp->Prop)->Prop
 |.nil,l,σ,Q=>Q .next l σ
 |.cons s c,l,σ,Q=>Ov s l σ λf b a=>(match f with
  |.next=>ji c b a Q
  |f=>Q f b a)
end
end
end
section
theorem ba{c:Prop}[Decidable c]{k:c->Bool}(h:(if q:c then k q else false)=true):∃q,k q=true:=by
 by_cases q:c
 ·rw[dif_pos q]at h;exact⟨q,h⟩
 ·rw[dif_neg q]at h;cases h
noncomputable def fC(e:Expr)(k:Str->Pos->Bool):Bool:=if h:e.ctorIdx=23 then Expr.Name.elim (motive_1:=λ_=>Bool) e h k else false
@[elab_as_elim] theorem bW{P:Expr->Prop}{e:Expr}{k:Str->Pos->Bool}(h:fC e k=true)(z:∀a b,k a b=true->P (.Name a b)):P e:=
 (ba h).elim λq h=>Expr.Name.elim (motive_1:=λe=>∀q,Expr.Name.elim (motive_1:=λ_=>Bool) e q k=true->P e) e q (λa b _ h=>z a b h) q h
noncomputable def gn(e:Expr)(k:Const->Nat->Pos->Bool):Bool:=if h:e.ctorIdx=19 then Expr.Constant.elim (motive_1:=λ_=>Bool) e h k else false
@[elab_as_elim] theorem fw{P:Expr->Prop}{e:Expr}{k:Const->Nat->Pos->Bool}(h:gn e k=true)(z:∀a b c,k a b c=true->P (.Constant a b c)):P e:=
 (ba h).elim λq h=>Expr.Constant.elim (motive_1:=λe=>∀q,Expr.Constant.elim (motive_1:=λ_=>Bool) e q k=true->P e) e q (λa b c _ h=>z a b c h) q h
noncomputable def ip(e:Expr)(k:UnaryOp->Expr->Pos->Bool):Bool:=if h:e.ctorIdx=3 then Expr.UnaryOp.elim (motive_1:=λ_=>Bool) e h k else false
@[elab_as_elim] theorem f8{P:Expr->Prop}{e:Expr}{k:UnaryOp->Expr->Pos->Bool}(h:ip e k=true)(z:∀a b c,k a b c=true->P (.UnaryOp a b c)):P e:=
 (ba h).elim λq h=>Expr.UnaryOp.elim (motive_1:=λe=>∀q,Expr.UnaryOp.elim (motive_1:=λ_=>Bool) e q k=true->P e) e q (λa b c _ h=>z a b c h) q h
noncomputable def vc(e:Expr)(k:Expr->Operator->Expr->Pos->Bool):Bool:=if h:e.ctorIdx=2 then Expr.BinOp.elim (motive_1:=λ_=>Bool) e h k else false
@[elab_as_elim] theorem tC{P:Expr->Prop}{e:Expr}{k:Expr->Operator->Expr->Pos->Bool}(h:vc e k=true)(z:∀a b c d,k a b c d=true->P (.BinOp a b c d)):P e:=
 (ba h).elim λq h=>Expr.BinOp.elim (motive_1:=λe=>∀q,Expr.BinOp.elim (motive_1:=λ_=>Bool) e q k=true->P e) e q (λa b c d _ h=>z a b c d h) q h
noncomputable def oN(e:Expr)(k:Expr->List CmpOp->List Expr->Pos->Bool):Bool:=if h:e.ctorIdx=15 then Expr.Compare.elim (motive_1:=λ_=>Bool) e h k else false
@[elab_as_elim] theorem ju{P:Expr->Prop}{e:Expr}{k:Expr->List CmpOp->List Expr->Pos->Bool}(h:oN e k=true)(z:∀a b c d,k a b c d=true->P (.Compare a b c d)):P e:=
 (ba h).elim λq h=>Expr.Compare.elim (motive_1:=λe=>∀q,Expr.Compare.elim (motive_1:=λ_=>Bool) e q k=true->P e) e q (λa b c d _ h=>z a b c d h) q h
noncomputable def jj(e:Expr)(k:BoolOp->List Expr->Pos->Bool):Bool:=if h:e.ctorIdx=0 then Expr.BoolOp.elim (motive_1:=λ_=>Bool) e h k else false
@[elab_as_elim] theorem gR{P:Expr->Prop}{e:Expr}{k:BoolOp->List Expr->Pos->Bool}(h:jj e k=true)(z:∀a b c,k a b c=true->P (.BoolOp a b c)):P e:=
 (ba h).elim λq h=>Expr.BoolOp.elim (motive_1:=λe=>∀q,Expr.BoolOp.elim (motive_1:=λ_=>Bool) e q k=true->P e) e q (λa b c _ h=>z a b c h) q h
noncomputable def tT(e:Expr)(k:Expr->Expr->Expr->Pos->Bool):Bool:=if h:e.ctorIdx=5 then Expr.IfExp.elim (motive_1:=λ_=>Bool) e h k else false
@[elab_as_elim] theorem sQ{P:Expr->Prop}{e:Expr}{k:Expr->Expr->Expr->Pos->Bool}(h:tT e k=true)(z:∀a b c d,k a b c d=true->P (.IfExp a b c d)):P e:=
 (ba h).elim λq h=>Expr.IfExp.elim (motive_1:=λe=>∀q,Expr.IfExp.elim (motive_1:=λ_=>Bool) e q k=true->P e) e q (λa b c d _ h=>z a b c d h) q h
noncomputable def cC(e:Expr)(k:Expr->Expr->Pos->Bool):Bool:=if h:e.ctorIdx=21 then Expr.Subscript.elim (motive_1:=λ_=>Bool) e h k else false
@[elab_as_elim] theorem bK{P:Expr->Prop}{e:Expr}{k:Expr->Expr->Pos->Bool}(h:cC e k=true)(z:∀a b c,k a b c=true->P (.Subscript a b c)):P e:=
 (ba h).elim λq h=>Expr.Subscript.elim (motive_1:=λe=>∀q,Expr.Subscript.elim (motive_1:=λ_=>Bool) e q k=true->P e) e q (λa b c _ h=>z a b c h) q h
noncomputable def pC(e:Expr)(k:Option Expr->Option Expr->Option Expr->Pos->Bool):Bool:=if h:e.ctorIdx=26 then Expr.Slice.elim (motive_1:=λ_=>Bool) e h k else false
@[elab_as_elim] theorem nP{P:Expr->Prop}{e:Expr}{k:Option Expr->Option Expr->Option Expr->Pos->Bool}(h:pC e k=true)(z:∀a b c d,k a b c d=true->P (.Slice a b c d)):P e:=
 (ba h).elim λq h=>Expr.Slice.elim (motive_1:=λe=>∀q,Expr.Slice.elim (motive_1:=λ_=>Bool) e q k=true->P e) e q (λa b c d _ h=>z a b c d h) q h
noncomputable def yg(e:Expr)(k:List Expr->Pos->Bool):Bool:=if h:e.ctorIdx=24 then Expr.List.elim (motive_1:=λ_=>Bool) e h k else false
@[elab_as_elim] theorem vq{P:Expr->Prop}{e:Expr}{k:List Expr->Pos->Bool}(h:yg e k=true)(z:∀a b,k a b=true->P (.List a b)):P e:=
 (ba h).elim λq h=>Expr.List.elim (motive_1:=λe=>∀q,Expr.List.elim (motive_1:=λ_=>Bool) e q k=true->P e) e q (λa b _ h=>z a b h) q h
noncomputable def lG(e:Expr)(k:List Expr->Nat->Pos->Bool):Bool:=if h:e.ctorIdx=25 then Expr.Tuple.elim (motive_1:=λ_=>Bool) e h k else false
@[elab_as_elim] theorem iY{P:Expr->Prop}{e:Expr}{k:List Expr->Nat->Pos->Bool}(h:lG e k=true)(z:∀a b c,k a b c=true->P (.Tuple a b c)):P e:=
 (ba h).elim λq h=>Expr.Tuple.elim (motive_1:=λe=>∀q,Expr.Tuple.elim (motive_1:=λ_=>Bool) e q k=true->P e) e q (λa b c _ h=>z a b c h) q h
noncomputable def xR(e:Expr)(k:List (Option Expr)->List Expr->Pos->Bool):Bool:=if h:e.ctorIdx=6 then Expr.Dict.elim (motive_1:=λ_=>Bool) e h k else false
@[elab_as_elim] theorem wd{P:Expr->Prop}{e:Expr}{k:List (Option Expr)->List Expr->Pos->Bool}(h:xR e k=true)(z:∀a b c,k a b c=true->P (.Dict a b c)):P e:=
 (ba h).elim λq h=>Expr.Dict.elim (motive_1:=λe=>∀q,Expr.Dict.elim (motive_1:=λ_=>Bool) e q k=true->P e) e q (λa b c _ h=>z a b c h) q h
noncomputable def tf(e:Expr)(k:Expr->List Expr->List Keyword->Pos->Bool):Bool:=if h:e.ctorIdx=16 then Expr.Call.elim (motive_1:=λ_=>Bool) e h k else false
@[elab_as_elim] theorem oP{P:Expr->Prop}{e:Expr}{k:Expr->List Expr->List Keyword->Pos->Bool}(h:tf e k=true)(z:∀a b c d,k a b c d=true->P (.Call a b c d)):P e:=
 (ba h).elim λq h=>Expr.Call.elim (motive_1:=λe=>∀q,Expr.Call.elim (motive_1:=λ_=>Bool) e q k=true->P e) e q (λa b c d _ h=>z a b c d h) q h
noncomputable def dL(e:Expr)(k:Expr->Str->Pos->Bool):Bool:=if h:e.ctorIdx=20 then Expr.Attribute.elim (motive_1:=λ_=>Bool) e h k else false
@[elab_as_elim] theorem cZ{P:Expr->Prop}{e:Expr}{k:Expr->Str->Pos->Bool}(h:dL e k=true)(z:∀a b c,k a b c=true->P (.Attribute a b c)):P e:=
 (ba h).elim λq h=>Expr.Attribute.elim (motive_1:=λe=>∀q,Expr.Attribute.elim (motive_1:=λ_=>Bool) e q k=true->P e) e q (λa b c _ h=>z a b c h) q h
noncomputable def fY(e:Expr)(k:Expr->List Comprehension->Scope->Pos->Bool):Bool:=if h:e.ctorIdx=8 then Expr.ListComp.elim (motive_1:=λ_=>Bool) e h k else false
@[elab_as_elim] theorem iO{P:Expr->Prop}{e:Expr}{k:Expr->List Comprehension->Scope->Pos->Bool}(h:fY e k=true)(z:∀a b c d,k a b c d=true->P (.ListComp a b c d)):P e:=
 (ba h).elim λq h=>Expr.ListComp.elim (motive_1:=λe=>∀q,Expr.ListComp.elim (motive_1:=λ_=>Bool) e q k=true->P e) e q (λa b c d _ h=>z a b c d h) q h
noncomputable def qm(e:Stmt)(k:Option Expr->Pos->Bool):Bool:=if h:e.ctorIdx=3 then Stmt.Return.elim (motive_2:=λ_=>Bool) e h k else false
@[elab_as_elim] theorem qi{P:Stmt->Prop}{e:Stmt}{k:Option Expr->Pos->Bool}(h:qm e k=true)(z:∀a b,k a b=true->P (.Return a b)):P e:=
 (ba h).elim λq h=>Stmt.Return.elim (motive_2:=λe=>∀q,Stmt.Return.elim (motive_2:=λ_=>Bool) e q k=true->P e) e q (λa b _ h=>z a b h) q h
noncomputable def qP(e:Stmt)(k:List Expr->Pos->Bool):Bool:=if h:e.ctorIdx=4 then Stmt.Delete.elim (motive_2:=λ_=>Bool) e h k else false
@[elab_as_elim] theorem rH{P:Stmt->Prop}{e:Stmt}{k:List Expr->Pos->Bool}(h:qP e k=true)(z:∀a b,k a b=true->P (.Delete a b)):P e:=
 (ba h).elim λq h=>Stmt.Delete.elim (motive_2:=λe=>∀q,Stmt.Delete.elim (motive_2:=λ_=>Bool) e q k=true->P e) e q (λa b _ h=>z a b h) q h
noncomputable def gQ(e:Stmt)(k:List Expr->Expr->Pos->Bool):Bool:=if h:e.ctorIdx=5 then Stmt.Assign.elim (motive_2:=λ_=>Bool) e h k else false
@[elab_as_elim] theorem fe{P:Stmt->Prop}{e:Stmt}{k:List Expr->Expr->Pos->Bool}(h:gQ e k=true)(z:∀a b c,k a b c=true->P (.Assign a b c)):P e:=
 (ba h).elim λq h=>Stmt.Assign.elim (motive_2:=λe=>∀q,Stmt.Assign.elim (motive_2:=λ_=>Bool) e q k=true->P e) e q (λa b c _ h=>z a b c h) q h
noncomputable def eZ(e:Stmt)(k:Expr->Operator->Expr->Pos->Bool):Bool:=if h:e.ctorIdx=7 then Stmt.AugAssign.elim (motive_2:=λ_=>Bool) e h k else false
@[elab_as_elim] theorem eE{P:Stmt->Prop}{e:Stmt}{k:Expr->Operator->Expr->Pos->Bool}(h:eZ e k=true)(z:∀a b c d,k a b c d=true->P (.AugAssign a b c d)):P e:=
 (ba h).elim λq h=>Stmt.AugAssign.elim (motive_2:=λe=>∀q,Stmt.AugAssign.elim (motive_2:=λ_=>Bool) e q k=true->P e) e q (λa b c d _ h=>z a b c d h) q h
noncomputable def yP(e:Stmt)(k:Expr->Expr->List Stmt->List Stmt->Pos->Bool):Bool:=if h:e.ctorIdx=9 then Stmt.For.elim (motive_2:=λ_=>Bool) e h k else false
@[elab_as_elim] theorem qp{P:Stmt->Prop}{e:Stmt}{k:Expr->Expr->List Stmt->List Stmt->Pos->Bool}(h:yP e k=true)(z:∀a b c d f,k a b c d f=true->P (.For a b c d f)):P e:=
 (ba h).elim λq h=>Stmt.For.elim (motive_2:=λe=>∀q,Stmt.For.elim (motive_2:=λ_=>Bool) e q k=true->P e) e q (λa b c d f _ h=>z a b c d f h) q h
noncomputable def uP(e:Stmt)(k:Expr->List Stmt->List Stmt->Pos->Bool):Bool:=if h:e.ctorIdx=11 then Stmt.While.elim (motive_2:=λ_=>Bool) e h k else false
@[elab_as_elim] theorem sI{P:Stmt->Prop}{e:Stmt}{k:Expr->List Stmt->List Stmt->Pos->Bool}(h:uP e k=true)(z:∀a b c d,k a b c d=true->P (.While a b c d)):P e:=
 (ba h).elim λq h=>Stmt.While.elim (motive_2:=λe=>∀q,Stmt.While.elim (motive_2:=λ_=>Bool) e q k=true->P e) e q (λa b c d _ h=>z a b c d h) q h
noncomputable def Hj(e:Stmt)(k:Expr->List Stmt->List Stmt->Pos->Bool):Bool:=if h:e.ctorIdx=12 then Stmt.If.elim (motive_2:=λ_=>Bool) e h k else false
@[elab_as_elim] theorem Ce{P:Stmt->Prop}{e:Stmt}{k:Expr->List Stmt->List Stmt->Pos->Bool}(h:Hj e k=true)(z:∀a b c d,k a b c d=true->P (.If a b c d)):P e:=
 (ba h).elim λq h=>Stmt.If.elim (motive_2:=λe=>∀q,Stmt.If.elim (motive_2:=λ_=>Bool) e q k=true->P e) e q (λa b c d _ h=>z a b c d h) q h
noncomputable def Cz(e:Stmt)(k:List Stmt->List ExceptHandler->List Stmt->List Stmt->Pos->Bool):Bool:=if h:e.ctorIdx=17 then Stmt.Try.elim (motive_2:=λ_=>Bool) e h k else false
@[elab_as_elim] theorem zx{P:Stmt->Prop}{e:Stmt}{k:List Stmt->List ExceptHandler->List Stmt->List Stmt->Pos->Bool}(h:Cz e k=true)(z:∀a b c d f,k a b c d f=true->P (.Try a b c d f)):P e:=
 (ba h).elim λq h=>Stmt.Try.elim (motive_2:=λe=>∀q,Stmt.Try.elim (motive_2:=λ_=>Bool) e q k=true->P e) e q (λa b c d f _ h=>z a b c d f h) q h
noncomputable def yl(e:Stmt)(k:Expr->Pos->Bool):Bool:=if h:e.ctorIdx=24 then Stmt.Expr.elim (motive_2:=λ_=>Bool) e h k else false
@[elab_as_elim] theorem vU{P:Stmt->Prop}{e:Stmt}{k:Expr->Pos->Bool}(h:yl e k=true)(z:∀a b,k a b=true->P (.Expr a b)):P e:=
 (ba h).elim λq h=>Stmt.Expr.elim (motive_2:=λe=>∀q,Stmt.Expr.elim (motive_2:=λ_=>Bool) e q k=true->P e) e q (λa b _ h=>z a b h) q h
noncomputable def yV(e:Stmt)(k:Pos->Bool):Bool:=if h:e.ctorIdx=25 then Stmt.Pass.elim (motive_2:=λ_=>Bool) e h k else false
@[elab_as_elim] theorem wp{P:Stmt->Prop}{e:Stmt}{k:Pos->Bool}(h:yV e k=true)(z:∀a,k a=true->P (.Pass a)):P e:=
 (ba h).elim λq h=>Stmt.Pass.elim (motive_2:=λe=>∀q,Stmt.Pass.elim (motive_2:=λ_=>Bool) e q k=true->P e) e q (λa _ h=>z a h) q h
noncomputable def tR(e:Stmt)(k:Pos->Bool):Bool:=if h:e.ctorIdx=26 then Stmt.Break.elim (motive_2:=λ_=>Bool) e h k else false
@[elab_as_elim] theorem sL{P:Stmt->Prop}{e:Stmt}{k:Pos->Bool}(h:tR e k=true)(z:∀a,k a=true->P (.Break a)):P e:=
 (ba h).elim λq h=>Stmt.Break.elim (motive_2:=λe=>∀q,Stmt.Break.elim (motive_2:=λ_=>Bool) e q k=true->P e) e q (λa _ h=>z a h) q h
noncomputable def mn(e:Stmt)(k:Pos->Bool):Bool:=if h:e.ctorIdx=27 then Stmt.Continue.elim (motive_2:=λ_=>Bool) e h k else false
@[elab_as_elim] theorem oc{P:Stmt->Prop}{e:Stmt}{k:Pos->Bool}(h:mn e k=true)(z:∀a,k a=true->P (.Continue a)):P e:=
 (ba h).elim λq h=>Stmt.Continue.elim (motive_2:=λe=>∀q,Stmt.Continue.elim (motive_2:=λ_=>Bool) e q k=true->P e) e q (λa _ h=>z a h) q h
noncomputable def wq{b:Type}(l:List b)(k:b->Bool):Bool:=match l with
 |[a]=>k a
 |_=>false
@[elab_as_elim] theorem dQ{c:Type}{P:List c->Prop}{l:List c}{k:c->Bool}(h:wq l k=true)(f:∀a,k a=true->P [a]):P l:=by
 cases l with
 |nil=>exact fT h
 |cons a r=>cases r with
  |nil=>exact f a h
  |cons b r=>exact fT h
noncomputable def Fi{c:Type}(l:List c)(k:c->c->Bool):Bool:=match l with
 |[a,b]=>k a b
 |_=>false
@[elab_as_elim] theorem sR{d:Type}{P:List d->Prop}{l:List d}{k:d->d->Bool}(h:Fi l k=true)(f:∀a b,k a b=true->P [a,b]):P l:=by
 cases l with
 |nil=>exact fT h
 |cons a r=>cases r with
  |nil=>exact fT h
  |cons b r=>cases r with
   |nil=>exact f a b h
   |cons c r=>exact fT h
noncomputable def Fk{b:Type}(l:List b)(k:b->List b->Bool):Bool:=match l with
 |a::r=>k a r
 |[]=>false
@[elab_as_elim] theorem iU{b:Type}{P:List b->Prop}{l:List b}{k:b->List b->Bool}(h:Fk l k=true)(f:∀a r,k a r=true->P (a::r)):P l:=by
 cases l with
 |nil=>exact fT h
 |cons a r=>exact f a r h
noncomputable def Ff{b:Type}(o:Option b)(k:b->Bool):Bool:=match o with
 |some a=>k a
 |none=>false
@[elab_as_elim] theorem sX{b:Type}{P:Option b->Prop}{o:Option b}{k:b->Bool}(h:Ff o k=true)(f:∀a,k a=true->P (some a)):P o:=by
 cases o with
 |none=>exact fT h
 |some a=>exact f a h
theorem Dg{b:Type}{P:Prop}{o:Option b}{k:b->Bool}(h:Ff o k=true)(f:∀a,o=some a->k a=true->P):P:=by
 cases o with
 |none=>exact fT h
 |some a=>exact f a rfl h
noncomputable def Co(c:Const)(k:Int->Bool):Bool:=match c with
 |.int i=>k i
 |_=>false
@[elab_as_elim] theorem yx{P:Const->Prop}{c:Const}{k:Int->Bool}(h:Co c k=true)(f:∀i,k i=true->P (.int i)):P c:=by
 cases c with
 |int i=>exact f i h
 |_=>exact fT h
theorem gF{a b:Bool}{P:Prop}(h:(a&&b)=true)(k:a=true->b=true->P):P:=by
 cases a with
 |false=>exact fT h
 |true=>exact k rfl h
theorem kZ{a b c:Bool}{P:Prop}(h:(a&&b&&c)=true)(k:a=true->b=true->c=true->P):P:=gF h λh z=>gF h λx y=>k x y z
theorem Ak{a b c d:Bool}{P:Prop}(h:(a&&b&&c&&d)=true)(k:a=true->b=true->c=true->d=true->P):P:=gF h λh z=>kZ h λx y w=>k x y w z
theorem Ac{a b c d e:Bool}{P:Prop}(h:(a&&b&&c&&d&&e)=true)(k:a=true->b=true->c=true->d=true->e=true->P):P:=gF h λh z=>Ak h λx y w v=>k x y w v z
theorem Fc{a b c d e f:Bool}{P:Prop}(h:(a&&b&&c&&d&&e&&f)=true)(k:a=true->b=true->c=true->d=true->e=true->f=true->P):P:=gF h λh z=>Ac h λx y w v u=>k x y w v u z
theorem Oe{a b c d e f g:Bool}{P:Prop}(h:(a&&b&&c&&d&&e&&f&&g)=true)(k:a=true->b=true->c=true->d=true->e=true->f=true->g=true->P):P:=gF h λh z=>Fc h λx y w v u t=>k x y w v u t z
theorem Pr{a b c d e f g i:Bool}{P:Prop}(h:(a&&b&&c&&d&&e&&f&&g&&i)=true)(k:a=true->b=true->c=true->d=true->e=true->f=true->g=true->i=true->P):P:=gF h λh z=>Oe h λx y w v u t s=>k x y w v u t s z
theorem nt{a:Bool}(h:(!a)=true):a=false:=by
 cases a with
 |false=>rfl
 |true=>exact fT h
theorem bor{a b:Bool}{P:Prop}(h:(a||b)=true)(f:a=true->P)(g:b=true->P):P:=by
 cases a with
 |false=>exact g h
 |true=>exact f rfl
@[elab_as_elim] theorem bZ{a:Type}{P:a->Prop}{u v:a}{i:Decidable (u=v)}(h:@decide (u=v) i=true)(f:P v):P u:=(of_decide_eq_true h).symm▸f
@[elab_as_elim] theorem cS{b:Type}{P:List b->Prop}{l:List b}(h:l.isEmpty=true)(f:P []):P l:=by
 cases l with
 |nil=>exact f
 |cons a r=>exact fT h
noncomputable def uw(l:List Comprehension)(k:Str->Pos->Expr->List Expr->Bool):Bool:=wq l λg=>decide (g.is_async=0)&&fC g.target λx p=>k x p g.iter g.ifs
@[elab_as_elim] theorem jz{P:List Comprehension->Prop}{l:List Comprehension}{k:Str->Pos->Expr->List Expr->Bool}(h:uw l k=true)(f:∀x p b a,k x p b a=true->P [⟨.Name x p,b,a,0⟩]):P l:=
 dQ h λg h=>gF h λc h=>by
  cases g with
  |mk t b a n=>exact bZ (P:=λn=>P [⟨t,b,a,n⟩]) c (bW (P:=λt=>P [⟨t,b,a,0⟩]) h λx p h=>f x p b a h)
theorem uH{a:Expr}{b:List Comprehension}{c:Scope}{d:Pos}{k:Expr->List Comprehension->Scope->Pos->Bool}(h:fY (.ListComp a b c d) k=true):k a b c d=true:=h
theorem wT{x:Str}{p:Pos}{b:Expr}{a:List Expr}{k:Str->Pos->Expr->List Expr->Bool}(h:uw [⟨.Name x p,b,a,0⟩] k=true):k x p b a=true:=h
noncomputable def rU(e:Expr)(k:Str->Pos->List Expr->Pos->Bool):Bool:=tf e λf a b p=>b.isEmpty&&fC f λx q=>k x q a p
@[elab_as_elim] theorem fW{P:Expr->Prop}{e:Expr}{k:Str->Pos->List Expr->Pos->Bool}(h:rU e k=true)(g:∀x q as p,k x q as p=true->P (.Call (.Name x q) as [] p)):P e:=
 oP h λf as a p h=>gF h λb h=>cS (P:=λa=>P (.Call f as a p)) b (bW (P:=λf=>P (.Call f as [] p)) h λx q h=>g x q as p h)
noncomputable def Db(e:Expr)(k:Expr->Str->Pos->List Expr->Pos->Bool):Bool:=tf e λf a b p=>b.isEmpty&&dL f λo x q=>k o x q a p
@[elab_as_elim] theorem tL{P:Expr->Prop}{e:Expr}{k:Expr->Str->Pos->List Expr->Pos->Bool}(h:Db e k=true)(g:∀o x q as p,k o x q as p=true->P (.Call (.Attribute o x q) as [] p)):P e:=
 oP h λf as a p h=>gF h λb h=>cS (P:=λa=>P (.Call f as a p)) b (cZ (P:=λf=>P (.Call f as [] p)) h λo x q h=>g o x q as p h)
theorem Ge{x:Str}{q p:Pos}{as:List Expr}{k:Str->Pos->List Expr->Pos->Bool}(h:rU (.Call (.Name x q) as [] p) k=true):k x q as p=true:=h
end
section
structure Ct where
 fi:List (Str×Nat)
 ki:List (Str×Nat)
 ii:List (Str×Int)
 ai:List (Str×Nat)
 gi:List (Str×Nat)
structure Cn where
 sc:Scope
 nm:List (Str×Nat)
 cv:List (Str×Nat)
 lf:Bool
noncomputable def uV(o:Option NameKind)(k:NameKind):Bool:=decide (o=some k)
noncomputable def Cn.loc(n:Cn)(x:Str):Option Nat:=bif uV (n.sc.names.lookup x) .local||uV (n.sc.names.lookup x) .cell||(uV (n.sc.names.lookup x) .free&&!(x==("__classdict__":Str))) then n.nm.lookup x else none
noncomputable def Cn.sto(n:Cn)(x:Str):Option Nat:=bif uV (n.sc.names.lookup x) .local||uV (n.sc.names.lookup x) .cell then n.nm.lookup x else none
noncomputable def Cn.glo(n:Cn)(x:Str):Bool:=uV (n.sc.names.lookup x) .globalImplicit
noncomputable def dS(k:NameKind):Bool:=k==.free
noncomputable def fB(k:NameKind):Bool:=k==.cell
noncomputable def pZ(k:NameKind):Bool:=k==.local
noncomputable def At(o:Option NameKind):Bool:=uV o .local
noncomputable def vW(o:Option NameKind):Bool:=uV o .cell||uV o .free
noncomputable def Cn.inner(n:Cn)(a:Scope)(x:Str)(i:Nat):Cn:=⟨a,(x,i)::n.nm.filter λy=>uV (a.names.lookup y.1) .free&&!(y.1==x),[],true⟩
noncomputable def Cn.ok(n:Cn)(a:Scope)(x:Str):Bool:=a.names.all (λy=>!fB y.2&&(!dS y.2||vW (n.sc.names.lookup y.1))&&(!pZ y.2||At (a.names.lookup y.1)))&&At (a.names.lookup x)&&
 decide (a.kind=.function)
noncomputable def M7:BO->Operator
 |.add=>.Add
 |.sub=>.Sub
 |.mul=>.Mult
 |.fdiv=>.FloorDiv
 |.mod=>.Mod
 |.band=>.BitAnd
 |.bor=>.BitOr
 |.shl=>.LShift
 |.shr=>.RShift
 |.pow=>.Pow
noncomputable def OY:CO->CmpOp
 |.eq=>.Eq
 |.ne=>.NotEq
 |.lt=>.Lt
 |.le=>.LtE
 |.gt=>.Gt
 |.ge=>.GtE
 |.is=>.Is
 |.isnt=>.IsNot
 |.isin=>.In
 |.notin=>.NotIn
noncomputable def AA(b:BO)(o:Operator):Bool:=decide (o=M7 b)
noncomputable def Lo(b:CO)(o:CmpOp):Bool:=decide (o=OY b)
noncomputable def pi(e:Expr):Bool:=e.ctorIdx==8||e.ctorIdx==9||e.ctorIdx==10
noncomputable def yY(e:Expr):Bool:=!(e.ctorIdx==9||e.ctorIdx==10)
theorem Hn{e:Expr}(h:pi e=true)(g:yY e=true):∃a b c d,e=.ListComp a b c d:=by
 have q:e.ctorIdx=8:=by
  unfold pi at h
  unfold yY at g
  rw[Bool.or_assoc]at h
  cases k:(e.ctorIdx==9||e.ctorIdx==10)with
  |true=>rw[k]at g;cases g
  |false=>rw[k,Bool.or_false]at h;exact eq_of_beq h
 exact Expr.ListComp.elim (motive_1:=λe=>∃a b c d,e=.ListComp a b c d) e q λa b c d=>⟨a,b,c,d,rfl⟩
noncomputable def oH(e:Expr):Bool:=e.ctorIdx==7
noncomputable def gu(e:Expr):Bool:=e.ctorIdx==26
noncomputable def bB(e:Expr):Bool:=e.ctorIdx==22
noncomputable def kI(e:Expr):Bool:=!(e.ctorIdx==16)||rU e λx _ _ _=>x !=("super":Str)
noncomputable def oV(e:Expr):Bool:=!(e.ctorIdx==3||e.ctorIdx==0||e.ctorIdx==5)
noncomputable def nk:BF->Str
 |.len=>"len"
 |.sorted=>"sorted"
 |.min1=>"min"
 |.min2=>"min"
 |.bytes=>"bytes"
 |.list=>"list"
noncomputable def CV:BF->Bool
 |.len=>true
 |_=>false
noncomputable def D6:BM->Str
 |.append=>"append"
 |.insert=>"insert"
 |.pop=>"pop"
 |.get=>"get"
noncomputable def gh:Str:="range"
noncomputable def qD:Str:="__debug__"
noncomputable def gT(a:Option Nat)(i:Nat):Bool:=match a with
 |some j=>j==i
 |none=>false
noncomputable def isNone{a:Type}:Option a->Bool
 |none=>true
 |some _=>false
noncomputable def Lb(x:X)(f:AV->Bool):Bool:=if h:x.ctorIdx=0 then X.k.elim (motive_1:=λ_=>Bool) x h f else false
@[elab_as_elim] theorem zQ{P:X->Prop}{x:X}{f:AV->Bool}(h:Lb x f=true)(g:∀v,f v=true->P (.k v)):P x:=
 (ba h).elim λq h=>X.k.elim (motive_1:=λx=>∀q,X.k.elim (motive_1:=λ_=>Bool) x q f=true->P x) x q (λv _ h=>g v h) q h
noncomputable def K9(x:X):Bool:=Lb x Ci
noncomputable def FY:AV->Bool
 |.int i=>decide (i=0)
 |_=>false
noncomputable def pu(x:X):Bool:=Lb x FY
noncomputable def CZ(x:X):Bool:=x.ctorIdx==4
section
variable (t:Ct)
noncomputable def Cn.bi(n:Cn)(x:Str):Bool:=!(x==qD)&&n.glo x&&isNone (t.fi.lookup x)&&isNone (t.ki.lookup x)&&isNone (t.ii.lookup x)
noncomputable def OD(v:AV)(c:Const):Bool:=match v with
 |.none=>decide (c=.none)
 |.bool b=>decide (c=.bool b)
 |.int i=>decide (c=.int i)
 |.bytes b=>decide (c=.bytes b)
 |_=>false
noncomputable def NF(v:AV)(i:Int):Bool:=match v with
 |.int j=>i==j
 |_=>false
noncomputable def QK(n:Cn)(v:AV)(e:Expr):Bool:=
 gn e (λc _ _=>OD v c)||ip e (λo c _=>decide (o=.USub)&&gn c λc _ _=>Co c λi=>NF v (-i))||fC e λx _=>!(x==qD)&&n.glo x&&Ff (t.ii.lookup x) λi=>NF v i
mutual
noncomputable def aX(n:Cn):X->Expr->Bool
 |.k v,e=>QK t n v e
 |.v i,e=>fC e λx _=>!(x==qD)&&gT (n.loc x) i
 |.at o f,e=>dL e λo' x _=>kI o'&&gT (t.ai.lookup x) f&&aX n o o'
 |.bin o a b,e=>vc e λj o' q _=>AA o o'&&aX n a j&&aX n b q
 |.cmp o a b,e=>oN e λj os bs _=>wq os λo'=>wq bs λq=>Lo o o'&&!oH q&&aX n a j&&aX n b q
 |.orX a b,e=>jj e λo es _=>decide (o=.Or)&&Fi es λj q=>aX n a j&&aX n b q
 |.ite c a b,e=>tT e λJ j q _=>um n c J&&aX n a j&&aX n b q
 |.sub a i,e=>cC e λj E _=>!gu E&&aX n a j&&aX n i E
 |.upto a hi,e=>cC e λj s _=>pC s λl h st _=>isNone l&&isNone st&&Ff h λd=>aX n a j&&aX n hi d
 |.frm a lo,e=>cC e λj s _=>pC s λl h st _=>isNone h&&isNone st&&Ff l λm=>aX n a j&&aX n lo m
 |.lst es,e=>yg e λy _=>dC n es y
 |.tup es,e=>lG e λy _ _=>dC n es y
 |.dic,e=>xR e λI vs _=>I.isEmpty&&vs.isEmpty
 |.fn f es,e=>rU e λx _ as _=>!n.lf&&!(x==qD)&&n.glo x&&gT (t.fi.lookup x) f&&dC n es as
 |.mk c es,e=>rU e λx _ as _=>!n.lf&&!(x==qD)&&n.glo x&&gT (t.ki.lookup x) c&&dC n es as
 |.mth o g es,e=>Db e λo' x D as p=>kI o'&&D.endLine==p.line&&decide (as.length<30)&&!n.lf&&gT (t.gi.lookup x) g&&aX n o o'&&dC n es as
 |.bi b es,e=>rU e λx _ as _=>x==nk b&&(CV b||!n.lf)&&n.bi t x&&dC n es as
 |.bm b o es,e=>Db e λo' x D as p=>kI o'&&D.endLine==p.line&&decide (as.length<30)&&x==D6 b&&aX n o o'&&dC n es as
 |.comp i G A e,z=>fY z λz B u _=>uw B λx _ it' w=>!n.lf&&(n.nm.all λp=>!(p.2==i))&&n.ok u x&&!oH it'&&gT (n.cv.lookup x) i&&aX n G it'&&kM (n.inner u x i) A w&&aX (n.inner u x i) e z
 |.compR i lo hi A e,z=>fY z λz B u _=>uw B λx _ it' w=>rU it' λr _ as _=>!n.lf&&(n.nm.all λp=>!(p.2==i))&&n.ok u x&&gT (n.cv.lookup x) i&&r==gh&&n.bi t r&&
   (Fi as (λm d=>!bB m&&!bB d&&aX n lo m&&aX n hi d)||wq as λd=>!bB d&&pu lo&&aX n hi d)&&kM (n.inner u x i) A w&&aX (n.inner u x i) e z
noncomputable def dC(n:Cn):XS->List Expr->Bool
 |.nil,es=>es.isEmpty
 |.cons e es,a=>Fk a λb r=>!bB b&&aX n e b&&dC n es r
noncomputable def um(n:Cn):C->Expr->Bool
 |.t x,e=>oV e&&(CZ x||!(e.ctorIdx==15))&&aX n x e
 |.not c,e=>ip e λo e _=>decide (o=.Not)&&um n c e
 |.and a,e=>jj e λo es _=>decide (o=.And)&&kM n a es
 |.or a,e=>jj e λo es _=>decide (o=.Or)&&kM n a es
noncomputable def kM(n:Cn):CS->List Expr->Bool
 |.nil,es=>es.isEmpty
 |.cons c a,es=>Fk es λe r=>um n c e&&kM n a r
end
noncomputable def names(n:Cn):List Nat->List Expr->Bool
 |[],es=>es.isEmpty
 |i::is,es=>Fk es λe r=>fC e λx _=>gT (n.sto x) i&&names n is r
noncomputable def Hq:List Nat->Bool
 |_::_::_=>true
 |_=>false
noncomputable def wG(e:Expr):Bool:=!(e.ctorIdx==25)
noncomputable def tI:BO->Bool
 |.add=>true
 |.sub=>true
 |.mul=>true
 |_=>false
noncomputable def zB:List (Str×Nat)->Bool
 |[]=>true
 |y::r=>r.all (λz=>!(z.2==y.2))&&zB r
mutual
noncomputable def oz(n:Cn):S->Stmt->Bool
 |.asg i e,s=>gQ s λts g _=>wq ts λd=>fC d λx _=>gT (n.sto x) i&&yY g&&aX t n e g
 |.asgT is e,s=>gQ s λts g _=>wq ts λd=>lG d λts _ _=>!pi g&&wG g&&Hq is&&names n is ts&&aX t n e g
 |.setA o f e,s=>gQ s λts g _=>wq ts λd=>dL d λo' x _=>!pi g&&gT (t.ai.lookup x) f&&aX t n o o'&&aX t n e g
 |.setI o i e,s=>gQ s λts g _=>wq ts λd=>cC d λo' l _=>!pi g&&!gu l&&aX t n o o'&&aX t n i l&&aX t n e g
 |.aug i o e,s=>eZ s λd o' g _=>fC d λx _=>tI o&&gT (n.sto x) i&&AA o o'&&aX t n e g
 |.augA o f op e,s=>eZ s λd m g _=>dL d λo' x _=>tI op&&kI o'&&gT (t.ai.lookup x) f&&AA op m&&aX t n o o'&&aX t n e g
 |.augI o i op e,s=>eZ s λd m g _=>cC d λo' l _=>tI op&&!gu l&&AA op m&&aX t n o o'&&aX t n i l&&aX t n e g
 |.ex e,s=>yl s λg _=>!pi g&&aX t n e g
 |.ret e,s=>qm s λo _=>Ff o (λg=>aX t n e g)||(isNone o&&K9 e)
 |.ite c a b,s=>Hj s λp v k _=>um t n c p&&aJ n a v&&aJ n b k
 |.whl c b,s=>uP s λp k o _=>o.isEmpty&&um t n c p&&aJ n b k
 |.for is q b,s=>yP s λd it' k o _=>o.isEmpty&&!oH it'&&(fC d (λx _=>wq is λi=>gT (n.sto x) i)||lG d λts _ _=>Hq is&&names n is ts)&&aX t n q it'&&aJ n b k
 |.forR i lo hi up b,s=>yP s λd it' k o _=>o.isEmpty&&fC d λx _=>rU it' λr _ as _=>r==gh&&n.bi t r&&gT (n.sto x) i&&
   ((up&&(Fi as (λj h=>!bB j&&!bB h&&aX t n lo j&&aX t n hi h)||wq as λh=>!bB h&&pu lo&&aX t n hi h))||
    (!up&&Fk as λj r=>Fi r λh st=>ip st λu c _=>decide (u=.USub)&&gn c λc _ _=>decide (c=.int 1)&&!bB j&&!bB h&&aX t n lo j&&aX t n hi h))&&aJ n b k
 |.brk,s=>tR s λ_=>true
 |.cnt,s=>mn s λ_=>true
 |.pas,s=>yV s λ_=>true
 |.delI o i,s=>qP s λts _=>wq ts λd=>cC d λo' l _=>!gu l&&aX t n o o'&&aX t n i l
 |.tri b,s=>Cz s λk hs o f _=>!hs.isEmpty&&o.isEmpty&&f.isEmpty&&aJ n b k
 |.dead,_=>true
noncomputable def aJ(n:Cn):SS->List Stmt->Bool
 |.nil,b=>b.isEmpty
 |.cons s b,a=>Fk a λs' r=>oz n s s'&&aJ n b r
end
end
end
section
structure cF(Z h₀ g:Heap):Prop where
 size:g.objs.size=h₀.objs.size
 none_:∀b,h₀.get? b=none->g.get? b=none
 base:Z.StaysIn g
 up:∀b o,h₀.get? b=some o->∃sl,g.get? b=some {o with slots:=sl}
theorem cF.refl{Z h₀:Heap}(st:Z.StaysIn h₀):cF Z h₀ h₀:=⟨rfl,λ_ e=>e,st,λ_ o e=>⟨o.slots,e⟩⟩
theorem cF.trans{Z h₀ g a:Heap}(x:cF Z h₀ g)(y:cF Z g a):cF Z h₀ a:=⟨y.size.trans x.size,λb e=>y.none_ b (x.none_ b e),y.base,λb o e=>by
 obtain⟨_,h⟩:=x.up b o e
 obtain⟨s,h⟩:=y.up b _ h
 exact⟨s,h⟩⟩
theorem cF.un{Z h₀ g:Heap}(x:cF Z h₀ g){b:Addr}(e:g.get? b=none):h₀.get? b=none:=by
 cases q:h₀.get? b with
 |none=>rfl
 |some o=>obtain⟨_,h⟩:=x.up b o q;rw[e]at h;cases h
inductive HS(T:Tb)(Z h₀:Heap)(L:Addr)(opq:List (Addr×Obj))(m:Str->Option Value)(σ:Hp)(h:Heap):Prop
 |mk g (h1:cF Z h₀ g) news D (h2:Fr g L h m) (h3:News g L h news) (h4:HR T σ Z news D opq):HS T Z h₀ L opq m σ h
structure Gd(K:Frag)(Z h₀:Heap)(A:Around)(env:Env):Prop where
 Xb:K.In Z
 trb:∃p loose mean mg mb,Top p loose mean mg mb Z
 st:Z.StaysIn h₀
 fk:env.scope.kind=.function
 gl:env.globals=mainGlobals
 bu:env.builtins=builtinsNs
 un:A.units+200<cLine
 fits:mainGlobals<Z.objs.size
section
variable {K:Frag} {Z h₀ g:Heap} {A:Around} {env:Env}
theorem Gd.X(G:Gd K Z h₀ A env):K.In h₀:=G.Xb.keeps G.st
theorem Gd.tr(G:Gd K Z h₀ A env):∃p a b c,TopRead p a b c h₀:=G.trb.elim λp h=>h.elim λl h=>h.elim λ_ h=>h.elim λb h=>h.elim λc h=>⟨p,l,b,c,topRead_of (h.keeps G.st)⟩
theorem Gd.lim(G:Gd K Z h₀ A env):h₀.NoLimit:=G.trb.elim λ_ h=>h.elim λ_ h=>h.elim λ_ h=>h.elim λ_ h=>h.elim λ_ h=>h.nolimit.keeps G.st
theorem Gd.turn(G:Gd K Z h₀ A env)(x:Z.StaysIn g):Gd K Z g A env:={G with st:=x}
end
def Az(env:Env)(m:Str->Option Value)(opq:List (Addr×Obj))(x:Str)(v:Value):Prop:=
 (env.scope.names.lookup x=some .local/\m x=some v)∨(vW (env.scope.names.lookup x)=true/\∃a o,env.cells.lookup x=some a/\(a,o)∈opq/\o.data=.cell (some v))
def AT(env:Env)(a:List (Str×Nat))(m:Str->Option Value)(opq:List (Addr×Obj))(l:aG):Prop:=
 ∀x i,a.lookup x=some i->get l i≠.undef->∃v,Az env m opq x v/\VR v (get l i)
structure DL(K:Frag)(c:Addr):Prop where
 pg:plainGet K c ""=true
 hd:hasDictIn K c=true
 sa:findIn K (.ref c) "__setattr__"=some (some (.builtin "object.__setattr__"))
 po:plainOver K c=true
structure CE(K:Frag)(T:Tb)(F:Ft)(t:Ct):Prop where
 int:∀x n,t.ii.lookup x=some n->∃tk,nsIn K mainGlobals x=some (some (.int n tk))
 fn:∀x i,t.fi.lookup x=some i->nsIn K mainGlobals x=some (some (.ref (F.fa i)))/\keepIn K (.ref (F.fa i))=true
 cl:∀x i,t.ki.lookup x=some i->nsIn K mainGlobals x=some (some (.ref (T.ca i)))/\keepIn K (.ref (T.ca i))=true/\makesIn K (T.ca i)=true/\
  findIn K (.ref (T.ca i)) "__init__"=some (some (match F.mi i with|some g=>.ref (F.fa g)|none=>.builtin "object.__init__"))/\(∀g,F.mi i=some g->isFn K (.ref (F.fa g))=true)
 fld:∀c f,F.fo c f=true->f<T.nf/\DL K (T.ca c)/\findIn K (.ref (T.ca c)) (T.an f)=some none
 inj:∀i j,i<T.nf->j<T.nf->T.an i=T.an j->i=j
 atn:∀x i,t.ai.lookup x=some i->x=T.an i
 mth:∀x g,t.gi.lookup x=some g->∀c f,F.mt c g=some f->DL K (T.ca c)/\findIn K (.ref (T.ca c)) x=some (some (.ref (F.fa f)))/\isFn K (.ref (F.fa f))=true/\keepIn K (.ref (F.fa f))=true
 bi:∀b,nsIn K mainGlobals (nk b)=some none
 rg:nsIn K mainGlobals gh=some none
section
variable {prog:Program} {w:World} {K:Frag} {T:Tb} {Z h₀:Heap} {A:Around} {E:Value->Shared->Prop} {L:Addr} {m:Str->Option Value} {opq:List (Addr×Obj)} {σ:Hp} {s:Shared} {Q:PX}
inductive aC(T:Tb)(Z h₀:Heap)(L:Addr)(opq:List (Addr×Obj))(m:Str->Option Value)(Q:PX)(s:Shared)(v:Value)(s':Shared):Prop
 |mk a σ' h' tk (h1:s'={s with heap:=h',toks:=tk}) (h2:VR v a) (h3:HS T Z h₀ L opq m σ' h') (h4:Q a σ'):aC T Z h₀ L opq m Q s v s'
inductive ku(T:Tb)(Z h₀:Heap)(L:Addr)(opq:List (Addr×Obj))(m:Str->Option Value)(Q:Hp->Prop)(s:Shared)(s':Shared):Prop
 |mk σ' h' tk (h1:s'={s with heap:=h',toks:=tk}) (h2:HS T Z h₀ L opq m σ' h') (h3:Q σ'):ku T Z h₀ L opq m Q s s'
theorem aC.same{v:Value}{a:AV}{tk:Nat}(H:HS T Z h₀ L opq m σ s.heap)(r:VR v a)(q:Q a σ):aC T Z h₀ L opq m Q s v {s with toks:=tk}:=⟨a,σ,s.heap,tk,rfl,r,H,q⟩
theorem aC.same0{v:Value}{a:AV}(H:HS T Z h₀ L opq m σ s.heap)(r:VR v a)(q:Q a σ):aC T Z h₀ L opq m Q s v s:=⟨a,σ,s.heap,s.toks,rfl,r,H,q⟩
theorem aC.trans{s':Shared}{h':Heap}{tk:Nat}{v:Value}(e:∃h' tk,s'={s with heap:=h',toks:=tk}){b:Shared}(p:aC T Z h₀ L opq m Q s' v b):aC T Z h₀ L opq m Q s v b:=by
 obtain⟨h',tk,rfl⟩:=e
 obtain⟨a,d,i,c,rfl,r,f,h⟩:=p
 exact⟨a,d,i,c,rfl,r,f,h⟩
theorem VR.int{v:Value}{i:Int}(h:VR v (.int i)):∃t,v=.int i t:=by
 cases v<;>first|exact absurd h id|(obtain rfl:_=i:=h;exact⟨_,rfl⟩)
theorem VR.bool{v:Value}{b:Bool}(h:VR v (.bool b)):v=.bool b:=by
 cases v<;>first|exact absurd h id|(obtain rfl:_=b:=h;rfl)
theorem VR.none{v:Value}(h:VR v .none):v=.none:=by
 cases v<;>first|exact absurd h id|rfl
theorem VR.bytes{v:Value}{l:List UInt8}(h:VR v (.bytes l)):∃t,v=.bytes l.toArray t:=by
 cases v with
 |bytes b t=>obtain rfl:b.toList=l:=h;exact⟨t,by rw[Array.toArray_toList]⟩
 |_=>exact absurd h id
theorem VR.ref{v:Value}{a:Addr}(h:VR v (.ref a)):v=.ref a:=by
 cases v<;>first|exact absurd h id|(obtain rfl:_=a:=h;rfl)
theorem VR.not_undef{v:Value}(h:VR v .undef):False:=by cases v<;>exact h
@[elab_as_elim] theorem bw{P:Value->Prop}{v:Value}{a:AV}{k:Int->Prop}(r:VR v a)(h:bV a k)(f:∀i t,k i->P (.int i t)):P v:=by
 cases a with
 |int i=>obtain⟨t,rfl⟩:=r.int;exact f i t h
 |_=>exact h.elim
@[elab_as_elim] theorem zf{P:Value->Prop}{v:Value}{a:AV}{k:List UInt8->Prop}(r:VR v a)(h:CX a k)(f:∀b t,k b->P (.bytes b.toArray t)):P v:=by
 cases a with
 |bytes i=>obtain⟨t,rfl⟩:=r.bytes;exact f i t h
 |_=>exact h.elim
@[elab_as_elim] theorem bY{P:Value->Prop}{v:Value}{a:AV}{k:Addr->Prop}(r:VR v a)(h:kh a k)(f:∀x,k x->P (.ref x)):P v:=by
 cases a with
 |ref i=>obtain rfl:=r.ref;exact f i h
 |_=>exact h.elim
@[elab_as_elim] theorem s8{P:Value->Prop}{v:Value}{a:AV}{k:Prop}(r:VR v a)(h:Eu a k)(f:k->P .none):P v:=by
 cases a with
 |none=>obtain rfl:=r.none;exact f h
 |_=>exact h.elim
@[elab_as_elim] theorem Ea{P:Value->Prop}{v:Value}{a:AV}{k:Bool->Prop}(r:VR v a)(h:Mb a k)(f:∀b,k b->P (.bool b)):P v:=by
 cases a with
 |bool i=>obtain rfl:=r.bool;exact f i h
 |_=>exact h.elim
@[elab_as_elim] theorem eJ{P:Value->Prop}{v:Value}{a:AV}{f:Prop}{c:Int->Prop}{d:List UInt8->Prop}{e:Addr->Prop}(r:VR v a)(h:sel a f c d e)(fn:f->P .none)(k:∀i t,c i->P (.int i t))(j:∀b t,d b->P (.bytes b.toArray t))(l:∀x,e x->P (.ref x)):P v:=by
 cases a with
 |none=>obtain rfl:=r.none;exact fn h
 |int i=>obtain⟨t,rfl⟩:=r.int;exact k i t h
 |bytes i=>obtain⟨t,rfl⟩:=r.bytes;exact j i t h
 |ref i=>obtain rfl:=r.ref;exact l i h
 |_=>exact h.elim
theorem C5{a:Type}{P n:Prop}{o:Option a}{k:a->Prop}(h:ei o k n)(f:∀v,o=some v->k v->P)(g:n->P):P:=by
 cases o with
 |none=>exact g h
 |some v=>exact f v rfl h
theorem di{a:Type}{P:Prop}{o:Option a}{k:a->Prop}(h:op o k)(f:∀v,o=some v->k v->P):P:=C5 h f False.elim
theorem kf{P:Prop}{o:Option (Bool×AO)}{a f:List AV->Prop}{i:List (Int×AV)->Prop}(h:Bs o a f i)(l:∀z xs,o=some (z,.list xs)->a xs->P)(t:∀z xs,o=some (z,.tup xs)->f xs->P)(d:∀z es,o=some (z,.dict es)->i es->P):P:=
 di h λv e h=>by
  cases v with
  |mk b o=>cases o with
   |list xs=>exact l _ _ e h
   |tup xs=>exact t _ _ e h
   |dict xs=>exact d _ _ e h
   |inst c j=>exact h.elim
theorem uB{P:Prop}{o:Option (Bool×AO)}{k:List AV->Prop}(h:cL o k)(f:∀z xs,o=some (z,.list xs)->k xs->P):P:=kf h f (λ_ _ _ h=>h.elim) λ_ _ _ h=>h.elim
theorem C4{P:Prop}{o:Option (Bool×AO)}{k:List AV->Prop}(h:cT o k)(f:∀z xs,o=some (z,.tup xs)->k xs->P):P:=kf h (λ_ _ _ h=>h.elim) f λ_ _ _ h=>h.elim
theorem xV{P:Prop}{o:Option (Bool×AO)}{k:List (Int×AV)->Prop}(h:cD o k)(f:∀z xs,o=some (z,.dict xs)->k xs->P):P:=kf h (λ_ _ _ h=>h.elim) (λ_ _ _ h=>h.elim) f
theorem CM{P:Prop}{o:Option (Bool×AO)}{k:Nat->List (Nat×AV)->Prop}(h:cN o k)(f:∀z c fs,o=some (z,.inst c fs)->k c fs->P):P:=
 di h λv e h=>by
  cases v with
  |mk b o=>cases o with
   |inst c fs=>exact f _ _ _ e h
   |_=>exact h.elim
theorem pE{P:Prop}{o:Option (Bool×AO)}{a:List AV->Prop}{i:List (Int×AV)->Prop}{f:Nat->List (Nat×AV)->Prop}(h:CW o a i f)(l:∀xs,o=some (false,.list xs)->a xs->P)(d:∀es,o=some (false,.dict es)->i es->P)(n:∀c fs,o=some (false,.inst c fs)->f c fs->P):P:=
 di h λv e h=>by
  cases v with
  |mk b o=>
   obtain rfl:b=false:=h.1
   cases o with
   |list xs=>exact l _ e h.2
   |tup xs=>exact h.2.elim
   |dict xs=>exact d _ e h.2
   |inst c fs=>exact n _ _ e h.2
theorem yE{P:Prop}{o:Option (Bool×AO)}{k:List AV->Prop}(h:wL o k)(f:∀xs,o=some (false,.list xs)->k xs->P):P:=pE h f (λ_ _ h=>h.elim) λ_ _ _ h=>h.elim
@[elab_as_elim] theorem gq{P:List Value->Prop}{vs:List Value}{as:List AV}{k:AV->Prop}(r:aF VR vs as)(h:Ah as k)(f:∀v a,VR v a->k a->P [v]):P vs:=by
 cases r with
 |nil=>exact h.elim
 |cons r q=>cases q with
  |nil=>exact f _ _ r h
  |cons _ _=>exact h.elim
@[elab_as_elim] theorem jV{P:List Value->Prop}{vs:List Value}{as:List AV}{k:AV->AV->Prop}(r:aF VR vs as)(h:EV as k)(f:∀v a u b,VR v a->VR u b->k a b->P [v,u]):P vs:=by
 cases r with
 |nil=>exact h.elim
 |cons r q=>cases q with
  |nil=>exact h.elim
  |cons q t=>cases t with
   |nil=>exact f _ _ _ _ r q h
   |cons _ _=>exact h.elim
theorem HS.get{a:Addr}{fz:Bool}{o:AO}(st:Z.StaysIn h₀)(H:HS T Z h₀ L opq m σ s.heap)(e:σ a=some (fz,o)):∃D,OR T D (λx ob=>s.heap.get? x=some ob) a o:=by
 obtain⟨g,d,b,D,c,N,R⟩:=H
 refine⟨D,(R.ob _ _ _ e).mono (λ_ _ _=>rfl) λx ob h=>?_⟩
 rcases h with h|⟨_,h⟩
 ·exact(N _ h).1
 ·exact c.keep _ _ (d.base _ _ h)
theorem HS.list{a:Addr}{fz:Bool}{xs:List AV}(st:Z.StaysIn h₀)(H:HS T Z h₀ L opq m σ s.heap)(e:σ a=some (fz,.list xs)):∃vs n,s.heap.get? a=some (jF vs n)/\aF VR vs xs:=by
 obtain⟨D,vs,n,c,b⟩:=H.get st e;exact⟨vs,n,c,b⟩
theorem HS.tup{a:Addr}{fz:Bool}{xs:List AV}(st:Z.StaysIn h₀)(H:HS T Z h₀ L opq m σ s.heap)(e:σ a=some (fz,.tup xs)):∃vs n,s.heap.get? a=some (kJ vs n)/\aF VR vs xs:=by
 obtain⟨D,vs,n,c,b⟩:=H.get st e;exact⟨vs,n,c,b⟩
theorem HS.alloc{h' g:Heap}{a:Addr}{ob:Obj}{fz:Bool}{o:AO}{b:List (Addr×Obj)}{D:Addr->Addr}(f:cF Z h₀ g)(R:HR T σ Z b D opq)(k:Fr g L h' m)(h:News g L h' ((a,ob)::b))(l:∀p∈b,p.1<a)
  (q:∀P:Addr->Obj->Prop,P a ob->OR T D P a o) (hi:∀c fs,o≠.inst c fs):HS T Z h₀ L opq m (upd σ a (fz,o)) h'/\σ a=none:=by
 have j:g.get? a=none:=(h _ (.head _)).2.2
 have i:Z.get? a=none:=by
  cases e:Z.get? a with
  |none=>rfl
  |some o=>have:=f.base _ _ e;rw[j]at this;cases this
 have d:∀p∈b,p.1≠a:=λp n e=>absurd (l p n) (by rw[e];exact Nat.lt_irrefl _)
 exact⟨⟨g,f,_,D,k,h,R.alloc d i q hi⟩,R.fresh d i⟩
theorem qg{xs:List AV}:∀c fs,AO.list xs≠.inst c fs:=λ_ _ e=>AO.noConfusion e
theorem M8{xs:List AV}:∀c fs,AO.tup xs≠.inst c fs:=λ_ _ e=>AO.noConfusion e
theorem Cg{xs:List (Int×AV)}:∀c fs,AO.dict xs≠.inst c fs:=λ_ _ e=>AO.noConfusion e
theorem HS.cL{a:Addr}{P:Prop}{k:List AV->Prop}(st:Z.StaysIn h₀)(H:HS T Z h₀ L opq m σ s.heap)(h:cL (σ a) k)(f:∀z xs vs n,σ a=some (z,.list xs)->s.heap.get? a=some (jF vs n)->aF VR vs xs->vs.length=xs.length->k xs->P):P:=
 uB h λz xs e h=>(H.list st e).elim λvs b=>b.elim λn b=>f z xs vs n e b.1 b.2 b.2.length h
theorem HS.cT{a:Addr}{P:Prop}{k:List AV->Prop}(st:Z.StaysIn h₀)(H:HS T Z h₀ L opq m σ s.heap)(h:cT (σ a) k)(f:∀vs n xs,s.heap.get? a=some (kJ vs n)->aF VR vs xs->k xs->P):P:=
 C4 h λz xs e h=>(H.tup st e).elim λvs b=>b.elim λn b=>f vs n xs b.1 b.2 h
theorem HS.newL{h' g:Heap}{a:Addr}{ob:Obj}{vs:List Value}{n tk:Nat}{ys:List AV}{b:List (Addr×Obj)}{D:Addr->Addr}(d:cF Z h₀ g)(R:HR T σ Z b D opq)(f:Fr g L h' m)(h:News g L h' ((a,ob)::b))(i:∀p∈b,p.1<a)
  (e:ob=jF vs n) (r:aF VR vs ys) (q:∀c,σ c=none->Q (.ref c) (upd σ c (false,.list ys))):aC T Z h₀ L opq m Q s (.ref a) {s with heap:=h',toks:=tk}:=
 have H:=HS.alloc (fz:=false) (o:=.list ys) d R f h i (λP j=>⟨vs,n,by rw[←e];exact j,r⟩) qg
 ⟨.ref a,_,h',tk,rfl,rfl,H.1,q _ H.2⟩
end
end
section
section
variable {prog:Program} {w:World} {K:Frag} {T:Tb} {Z h₀:Heap} {A:Around} {E:Value->Shared->Prop} {L:Addr} {m:Str->Option Value} {opq:List (Addr×Obj)} {σ:Hp} {s:Shared} {Q:PX}
theorem bI:line=10000:=rfl
theorem ou(i:Int)(t:Tok):VR (.int i t) (.int i):=rfl
theorem Jw(b:Bool):VR (.bool b) (.bool b):=rfl
theorem On:VR .none .none:=trivial
theorem IY(l:List UInt8)(t:Tok):VR (.bytes l.toArray t) (.bytes l):=by show _=_;simp
theorem aL{h:Heap}{a:Addr}{vs:List Value}{n:Nat}(e:h.get? a=some (jF vs n)):h.IsList a vs.toArray:=⟨_,e,rfl,n,rfl⟩
@[elab_as_elim] theorem eN{P:Value->Value->Prop}{a b:AV}{u v:Value}{k:Int->Int->Prop}(r:VR u a)(q:VR v b)(h:bV a λx=>bV b λy=>k x y)(f:∀x t y w,k x y->P (.int x t) (.int y w)):P u v:=
 bw (P:=λu=>P u v) r h λx t h=>bw (P:=P (.int x t)) q h λy w h=>f x t y w h
theorem uC{x:Int}(h: -(2 ^ 62)<x/\x<2 ^ 62):Builtin.Int.intBits x<=64:=PySem.intBits_le_64 (by exact Int.lt_trans (by decide) h.1) (by exact Int.lt_trans h.2 (by decide))
theorem Qx{x y:Int}(e:x=12)(c:0<=y)(b:y<=2):(Builtin.Int.intBits x:Int)*y<=128:=by
 subst e
 have a:(Builtin.Int.intBits 12:Int)<=64:=bF (PySem.intBits_le_64 (by decide) (by decide))
 exact Int.mul_le_mul a b c (by decide)
theorem vJ{o:BO}{a b:AV}{I J:Value}(st:Z.StaysIn h₀)(e:VR I a)(c:VR J b)(H:HS T Z h₀ L opq m σ s.heap)(h:bin o a b σ Q):wpAny (model prog w) A (binaryOp (M7 o) I J) (aC T Z h₀ L opq m Q s) E s:=by
 cases o with
 |add=>
  exact eJ e h False.elim (λx t h=>bw c h λy u h=>add_int (aC.same H (ou _ _) h))
   (λx t h=>zf c h λy u h=>bytes_add_K (d:=x++y) (by have:=h.1;have:=bI;simp only[List.size_toArray];exact m3 [_,_,_] NS 0 1 1 2 J4 ON RH rfl h.1.1 h.1.2 this) rfl λt' k=>aC.same H (IY _ _) h.2)
   λa h=>bY c h λb h=>H.cL st h λ_ Y i n _ g1 q B h=>H.cL st h λ_ ys us k _ g2 r2 V h=>H.casesOn λg j f D z N R=>
    add_arrays z N (aL g1) (aL g2) (λO l r=>HS.newL (n:=0) j R l r (λp hp=>Heap.lt_size (N p hp).1) rfl (q.append r2) h.2) (by have:=h.1;have:=bI;rw[sizeLine_eq];simp only[List.size_toArray];exact m5 [_,_,_,_,_] NS 0 1 1 1 1 2 Kl Ln (.le (.v 2) (.v 4)) (.le (.v 3) (.v 4)) (.eq (.v 4) (.n 10000)) rfl B V h.1.1 h.1.2 this)
 |mul=>
  exact eJ e h False.elim (λx t h=>bw c h λy u h=>mul_int (aC.same H (ou _ _) h.2) (PySem.IntMulOk.of_left (uC h.1))) (λ_ _ h=>h.elim)
   λa h=>bw c h λn u h=>H.cL st h λ_ Y i k _ g1 q B h=>H.casesOn λg j f D z N R=>gq (P:=λi=>s.heap.get? a=some (jF i k)->_) q h (λv x r0 h g1=>
    KMa.mul (ws:=List.replicate n.toNat v) z N (aL g1) (by have:=h.1;exact Int.le_trans (by decide) this.1) (by have:=h.1;exact Int.lt_of_le_of_lt this.2 (by decide)) (by have:=h.1;simp only[List.length_cons,List.length_nil,Nat.zero_add,Nat.one_mul];exact Nat.le_trans (Int.toNat_le.mpr this.2:n.toNat<=100) (by decide)) (by simp) λa O l r hn=>HS.newL (n:=0) j R l r hn rfl (aF.replicate r0 _) h.2) g1
 |sub=>exact eN e c h λx t y u h=>sub_int (aC.same H (ou _ _) h)
 |fdiv=>exact eN e c h λx t y u h=>floordiv_int (Int.ne_of_gt h.1.1) (aC.same H (ou _ _) (by rw[Int.fdiv_eq_ediv_of_nonneg _ (Int.le_of_lt h.1.1)];exact h.2)) (.inl (PyProof.noPylong_small (by have:=h.1;exact cq (by rw[Int.natAbs_of_nonneg (Int.le_of_lt this.1)];exact this.2))))
 |mod=>exact eN e c h λx t y u h=>mod_int' (Int.ne_of_gt h.1) (aC.same H (ou _ _) (by rw[Int.fmod_eq_emod_of_nonneg _ (Int.le_of_lt h.1)];exact h.2))
 |band=>exact eN e c h λx t y u h=>and_int (aC.same H (ou _ _) h)
 |bor=>exact eN e c h λx t y u h=>or_int (aC.same H (ou _ _) h)
 |shl=>exact eN e c h λx t y u h=>lshift_int_small h.1.1 (by have:=h.1.2.1;exact z1 [_] (.le (.v 0) (.n 1000000)) NM rfl h.1.2.1) h.1.2.2 (aC.same H (ou _ _) h.2)
 |shr=>exact eN e c h λx t y u h=>rshift_int h.1 (aC.same H (ou _ _) h.2)
 |pow=>
  exact eN e c h λx t y u h=>by
   obtain⟨⟨rfl,G,W⟩,U⟩:=h
   refine pow_int G ?_ (aC.same H (ou _ _) U)
   exact Int.le_trans (Qx rfl G W) (by decide)
end
end
section
theorem nI:∀a b:List UInt8,(Builtin.Bytes.order a b==.lt)=decide (a<b)
 |[],[]=>by decide
 |[],_::_=>by simp[Builtin.Bytes.order]
 |_::_,[]=>by simp[Builtin.Bytes.order]
 |x::a,y::b=>by
  simp only[Builtin.Bytes.order]
  by_cases d:x<y
  ·simp[d,List.cons_lt_cons_iff]
  ·by_cases c:x>y
   ·have:¬x=y:=λe=>by subst e;exact absurd c (UInt8.lt_irrefl _)
    simp[d,c,this,List.cons_lt_cons_iff]
   ·have:x=y:=UInt8.le_antisymm (UInt8.not_lt.mp c) (UInt8.not_lt.mp d)
    subst this
    simp[UInt8.lt_irrefl,nI a b,List.cons_lt_cons_iff]
theorem mE:∀a b:List UInt8,(Builtin.Bytes.order a b==.gt)=decide (b<a)
 |[],[]=>by decide
 |[],_::_=>by simp[Builtin.Bytes.order]
 |_::_,[]=>by simp[Builtin.Bytes.order]
 |x::a,y::b=>by
  simp only[Builtin.Bytes.order]
  by_cases c:x<y
  ·have:¬y=x:=λe=>by subst e;exact absurd c (UInt8.lt_irrefl _)
   have f:¬y<x:=UInt8.not_lt.mpr (UInt8.le_of_lt c)
   simp[c,this,f,List.cons_lt_cons_iff]
  ·by_cases d:x>y
   ·simp[c,d,List.cons_lt_cons_iff]
   ·have:x=y:=UInt8.le_antisymm (UInt8.not_lt.mp d) (UInt8.not_lt.mp c)
    subst this
    simp[UInt8.lt_irrefl,mE a b,List.cons_lt_cons_iff]
theorem oe:Slot "bytes" (cmpInfo .Lt).2.1 "bytes.__lt__":=
 .of (owner:="bytes") (n:="__lt__") (by rw[typeLookup_type,builtinLookup_eq_fast];kernel_rfl) (by decide+kernel) (by decide+kernel) (by decide+kernel)
  (by first|exact .inl (by decide+kernel)|exact .inr (by decide+kernel)) (by rw[isSubtype_type];kernel_rfl)
theorem lS:entryFor table "bytes.__lt__"=some Builtin.«bytes.__lt__»:=entryFor_of_tree (by kernel_rfl)
theorem kN(a b:Value):argsOk "bytes.__lt__" ⟨[a,b],[]⟩:=by
 unfold argsOk;rw[signature?_of (id:="bytes.__lt__") (n:=['_','_','t','l','_','_']) (o:=['s','e','t','y','b']) (by kernel_rfl) PySem.W.FB.owner_bytes];kernel_rfl
theorem l5(b c:Array UInt8)(t u:Tok):Gives (Builtin.«bytes.__lt__» ⟨[.bytes b t,.bytes c u],[]⟩) (.val (.bool (Builtin.Bytes.holds "__lt__" (Builtin.Bytes.order b.toList c.toList)))):=by
 refine .of_wp λM A E s Q a=>?_
 show wpAny M A (isInstance (.bytes c u) (.type "bytes") >>= λr=>_) _ E s
 refine wpAny_bind (wpAny_isInstance (typeIs_bytes s c u) F.sub_bytes_bytes ?_)
 exact wpAny_pure ⟨_,rfl,a⟩
theorem nX:Slot "bytes" (cmpInfo .LtE).2.1 "bytes.__le__":=
 .of (owner:="bytes") (n:="__le__") (by rw[typeLookup_type,builtinLookup_eq_fast];kernel_rfl) (by decide+kernel) (by decide+kernel) (by decide+kernel)
  (by first|exact .inl (by decide+kernel)|exact .inr (by decide+kernel)) (by rw[isSubtype_type];kernel_rfl)
theorem mT:entryFor table "bytes.__le__"=some Builtin.«bytes.__le__»:=entryFor_of_tree (by kernel_rfl)
theorem kR(a b:Value):argsOk "bytes.__le__" ⟨[a,b],[]⟩:=by
 unfold argsOk;rw[signature?_of (id:="bytes.__le__") (n:=['_','_','e','l','_','_']) (o:=['s','e','t','y','b']) (by kernel_rfl) PySem.W.FB.owner_bytes];kernel_rfl
theorem my(b c:Array UInt8)(t u:Tok):Gives (Builtin.«bytes.__le__» ⟨[.bytes b t,.bytes c u],[]⟩) (.val (.bool (Builtin.Bytes.holds "__le__" (Builtin.Bytes.order b.toList c.toList)))):=by
 refine .of_wp λM A E s Q a=>?_
 show wpAny M A (isInstance (.bytes c u) (.type "bytes") >>= λr=>_) _ E s
 refine wpAny_bind (wpAny_isInstance (typeIs_bytes s c u) F.sub_bytes_bytes ?_)
 exact wpAny_pure ⟨_,rfl,a⟩
theorem ow:Slot "bytes" (cmpInfo .Gt).2.1 "bytes.__gt__":=
 .of (owner:="bytes") (n:="__gt__") (by rw[typeLookup_type,builtinLookup_eq_fast];kernel_rfl) (by decide+kernel) (by decide+kernel) (by decide+kernel)
  (by first|exact .inl (by decide+kernel)|exact .inr (by decide+kernel)) (by rw[isSubtype_type];kernel_rfl)
theorem nO:entryFor table "bytes.__gt__"=some Builtin.«bytes.__gt__»:=entryFor_of_tree (by kernel_rfl)
theorem kY(a b:Value):argsOk "bytes.__gt__" ⟨[a,b],[]⟩:=by
 unfold argsOk;rw[signature?_of (id:="bytes.__gt__") (n:=['_','_','t','g','_','_']) (o:=['s','e','t','y','b']) (by kernel_rfl) PySem.W.FB.owner_bytes];kernel_rfl
theorem nG(b c:Array UInt8)(t u:Tok):Gives (Builtin.«bytes.__gt__» ⟨[.bytes b t,.bytes c u],[]⟩) (.val (.bool (Builtin.Bytes.holds "__gt__" (Builtin.Bytes.order b.toList c.toList)))):=by
 refine .of_wp λM A E s Q a=>?_
 show wpAny M A (isInstance (.bytes c u) (.type "bytes") >>= λr=>_) _ E s
 refine wpAny_bind (wpAny_isInstance (typeIs_bytes s c u) F.sub_bytes_bytes ?_)
 exact wpAny_pure ⟨_,rfl,a⟩
theorem oi:Slot "bytes" (cmpInfo .GtE).2.1 "bytes.__ge__":=
 .of (owner:="bytes") (n:="__ge__") (by rw[typeLookup_type,builtinLookup_eq_fast];kernel_rfl) (by decide+kernel) (by decide+kernel) (by decide+kernel)
  (by first|exact .inl (by decide+kernel)|exact .inr (by decide+kernel)) (by rw[isSubtype_type];kernel_rfl)
theorem lZ:entryFor table "bytes.__ge__"=some Builtin.«bytes.__ge__»:=entryFor_of_tree (by kernel_rfl)
theorem kQ(a b:Value):argsOk "bytes.__ge__" ⟨[a,b],[]⟩:=by
 unfold argsOk;rw[signature?_of (id:="bytes.__ge__") (n:=['_','_','e','g','_','_']) (o:=['s','e','t','y','b']) (by kernel_rfl) PySem.W.FB.owner_bytes];kernel_rfl
theorem mU(b c:Array UInt8)(t u:Tok):Gives (Builtin.«bytes.__ge__» ⟨[.bytes b t,.bytes c u],[]⟩) (.val (.bool (Builtin.Bytes.holds "__ge__" (Builtin.Bytes.order b.toList c.toList)))):=by
 refine .of_wp λM A E s Q a=>?_
 show wpAny M A (isInstance (.bytes c u) (.type "bytes") >>= λr=>_) _ E s
 refine wpAny_bind (wpAny_isInstance (typeIs_bytes s c u) F.sub_bytes_bytes ?_)
 exact wpAny_pure ⟨_,rfl,a⟩
section
variable {prog:Program} {w:World} {K:Frag} {T:Tb} {hb h₀:Heap} {A:Around} {E:Value->Shared->Prop} {L:Addr} {m:Str->Option Value} {opq:List (Addr×Obj)} {σ:Hp} {s:Shared}
theorem yt{a b:List UInt8}{t u:Tok}{Q:Value->Shared->Prop}(h:Q (.bool (decide (a<b))) s):wpAny (model prog w) A (compareOp .Lt (.bytes a.toArray t) (.bytes b.toArray u)) Q E s:=
 compareOp_gives (op:=.Lt) (typeIs_bytes s _ t) (typeIs_bytes s _ u) oe lS (kN _ _) (l5 _ _ t u) (λe=>nomatch e) (by
  show Q (.bool (Builtin.Bytes.order _ _==.lt)) s
  rw[nI];exact h)
theorem xD{a b:List UInt8}{t u:Tok}{Q:Value->Shared->Prop}(h:Q (.bool (decide (b<a))) s):wpAny (model prog w) A (compareOp .Gt (.bytes a.toArray t) (.bytes b.toArray u)) Q E s:=
 compareOp_gives (op:=.Gt) (typeIs_bytes s _ t) (typeIs_bytes s _ u) ow nO (kY _ _) (nG _ _ t u) (λe=>nomatch e) (by
  show Q (.bool (Builtin.Bytes.order _ _==.gt)) s
  rw[mE];exact h)
theorem Aa{a b:List UInt8}{t u:Tok}{Q:Value->Shared->Prop}(h:Q (.bool (!decide (b<a))) s):wpAny (model prog w) A (compareOp .LtE (.bytes a.toArray t) (.bytes b.toArray u)) Q E s:=
 compareOp_gives (op:=.LtE) (typeIs_bytes s _ t) (typeIs_bytes s _ u) nX mT (kR _ _) (my _ _ t u) (λe=>nomatch e) (by
  show Q (.bool (Builtin.Bytes.order _ _ !=.gt)) s
  rw[bne,mE];exact h)
theorem xS{a b:List UInt8}{t u:Tok}{Q:Value->Shared->Prop}(h:Q (.bool (!decide (a<b))) s):wpAny (model prog w) A (compareOp .GtE (.bytes a.toArray t) (.bytes b.toArray u)) Q E s:=
 compareOp_gives (op:=.GtE) (typeIs_bytes s _ t) (typeIs_bytes s _ u) oi lZ (kQ _ _) (mU _ _ t u) (λe=>nomatch e) (by
  show Q (.bool (Builtin.Bytes.order _ _ !=.lt)) s
  rw[bne,nI];exact h)
end
end
section
theorem eD:Slot "bytes" (cmpInfo .NotEq).2.2 "bytes.__ne__":=
 .of (owner:="bytes") (n:="__ne__") (by rw[typeLookup_type,builtinLookup_eq_fast];kernel_rfl) (by decide+kernel) (by decide+kernel) (by decide+kernel)
  (by first|exact .inl (by decide+kernel)|exact .inr (by decide+kernel)) (by rw[isSubtype_type];kernel_rfl)
theorem dT(a:Array UInt8)(t:Tok):Gives (Builtin.«bytes.__ne__» ⟨[.bytes a t,.none],[]⟩) (.val (Value.notImplemented)):=
 .of_wp λM A E s Q h=>by obtain⟨c,g,d,e,os⟩:=s;have f1:=F.sub_NoneType_bytes;wp_walk;exact⟨_,rfl,h⟩
theorem dU(a:Array UInt8)(t:Tok):Gives (Builtin.«NoneType.__ne__» ⟨[.none,.bytes a t],[]⟩) (.val (Value.notImplemented)):=
 .of_wp λM A E s Q h=>by obtain⟨c,g,d,e,os⟩:=s;wp_walk;exact⟨_,rfl,h⟩
theorem Bx{c:Type}[BEq c][LawfulBEq c][DecidableEq c](a b:c):(a==b)=decide (a=b):=by
 by_cases h:a=b<;>simp[h]
section
variable {prog:Program} {w:World} {A:Around} {E:Value->Shared->Prop} {s:Shared} {Q:Value->Shared->Prop}
theorem nZ{a:Array UInt8}{t:Tok}(h:Q (.bool true) s):wpAny (model prog w) A (compareOp .NotEq (.bytes a t) .none) Q E s:=by
 show wpAny _ A (richCompare .NotEq _ _) Q E s
 exact EqNone.wpAny_richCompare_ne_decline (k:=false) (λc=>typeIs_bytes c a t) (λ_=>rfl) (by decide) F.sub_NoneType_bytes PySem.W.FB.slot_bytes_ne F.slot_NoneType_ne_refl rfl
  (call_gives PySem.W.FB.slot_bytes_ne (typeIs_bytes s a t) PySem.W.FB.entry_bytes_ne (PySem.W.FB.args_bytes_ne_2 _ _) (dT a t)
   ⟨rfl,call_gives F.slot_NoneType_ne_refl rfl F.entry_NoneType_ne (F.args_NoneType_ne_2 _ _) (dU a t) ⟨rfl,h⟩⟩)
theorem nW{a:Array UInt8}{t:Tok}(h:Q (.bool true) s):wpAny (model prog w) A (compareOp .NotEq .none (.bytes a t)) Q E s:=by
 show wpAny _ A (richCompare .NotEq _ _) Q E s
 exact EqNone.wpAny_richCompare_ne_decline (k:=false) (λ_=>rfl) (λc=>typeIs_bytes c a t) (by decide) F.sub_bytes_NoneType F.slot_NoneType_ne eD rfl
  (call_gives F.slot_NoneType_ne rfl F.entry_NoneType_ne (F.args_NoneType_ne_2 _ _) (dU a t)
   ⟨rfl,call_gives eD (typeIs_bytes s a t) PySem.W.FB.entry_bytes_ne (PySem.W.FB.args_bytes_ne_2 _ _) (dT a t) ⟨rfl,h⟩⟩)
end
section
variable {prog:Program} {w:World} {A:Around} {E:Value->Shared->Prop} {s:Shared}
theorem CT{x y:Int}{t u:Tok}{Q:Value->Shared->Prop}(h:Q (.bool (decide (y<=x))) s):wpAny (model prog w) A (richCompare .GtE (.int x t) (.int y u)) Q E s:=ge_int h
theorem BN{a b:Addr}{x y u v:Int}{t1 t2 t3 g:Tok}{P:Fin->Shared->Prop}(i:IsTup s.heap a #[.int x t1,.int y t2])(Z:IsTup s.heap b #[.int u t3,.int v g])
  (h:P (.done (.ret (.bool (decide (u<x∨(u=x/\v<=y)))))) s):wpAny (model prog w) A (Builtin.«tuple.__ge__» ⟨[.ref a,.ref b],[]⟩) P E s:=by
 show wpAny _ A (isInstance (.ref b) (.type "tuple") >>= λr=>_) _ E s
 refine wpAny_bind (wpAny_isInstance Z.typeIs F.sub_tuple_tuple ?_)
 refine wpAny_bind (tupleItemsOf_ i ?_)
 refine wpAny_bind (tupleItemsOf_ Z ?_)
 show wpAny _ A (forIn [(Value.int x t1,Value.int u t3),(Value.int y t2,Value.int v g)] _ _ >>= _) P E s
 rw[List.forIn_cons]
 by_cases d:x=u
 ·subst d
  refine wpAny_bind (wpAny_bind (wpAny_bind (wpAny_eqBool_int ?_)))
  simp only[beq_self_eq_true,Bool.not_true,Bool.false_eq_true,if_false]
  refine wpAny_pure ?_
  dsimp only
  rw[List.forIn_cons]
  by_cases f:y=v
  ·subst f
   refine wpAny_bind (wpAny_bind (wpAny_eqBool_int ?_))
   simp only[beq_self_eq_true,Bool.not_true,Bool.false_eq_true,if_false]
   refine wpAny_pure ?_
   dsimp only
   rw[List.forIn_nil]
   refine wpAny_pure ?_
   dsimp only
   refine wpAny_pure ?_
   simpa[Builtin.Tuple.tupleCompareSizes]using h
  ·refine wpAny_bind (wpAny_bind (wpAny_eqBool_int ?_))
   have:(y==v)=false:=by simpa using f
   simp only[this,Bool.not_false,if_true]
   refine wpAny_bind (wpAny_rule ?_)
   refine wpAny_bind (CT ?_)
   refine wpAny_bind (wpAny_pure ?_)
   refine wpAny_pure ?_
   refine wpAny_pure ?_
   refine wpAny_pure ?_
   simpa[f]using h
 ·refine wpAny_bind (wpAny_bind (wpAny_bind (wpAny_eqBool_int ?_)))
  have:(x==u)=false:=by simpa using d
  simp only[this,Bool.not_false,if_true]
  refine wpAny_bind (wpAny_rule ?_)
  refine wpAny_bind (CT ?_)
  refine wpAny_bind (wpAny_pure ?_)
  refine wpAny_pure ?_
  refine wpAny_pure ?_
  refine wpAny_pure ?_
  have c:¬u=x:=λe=>d e.symm
  have:(u<x↔u<=x):=by exact⟨Int.le_of_lt,λk=>Int.lt_iff_le_and_ne.mpr ⟨k,c⟩⟩
  simpa[c,this]using h
theorem wS{a b:Addr}{x y u v:Int}{t1 t2 t3 e:Tok}{Q:Value->Shared->Prop}(c:IsTup s.heap a #[.int x t1,.int y t2])(Z:IsTup s.heap b #[.int u t3,.int v e])(d:A.units<cLine)
  (h:Q (.bool (decide (u<x∨(u=x/\v<=y)))) s):wpAny (model prog w) A (compareOp .GtE (.ref a) (.ref b)) Q E s:=by
 show wpAny _ A (richCompare .GtE _ _) Q E s
 exact wpAny_richCompare_same_room c.typeIs Z.typeIs F.slot_tuple_ge (wpAny_call_entry F.slot_tuple_ge c.typeIs F.entry_tuple_ge (BN c Z ⟨_,rfl,(by simp),h⟩) (F.args_tuple_ge_2 _ _)) d
end
section
variable {prog:Program} {w:World} {K:Frag} {T:Tb} {Z h₀:Heap} {A:Around} {E:Value->Shared->Prop} {L:Addr} {m:Str->Option Value} {opq:List (Addr×Obj)} {σ:Hp} {s:Shared}
theorem HS.dict{a:Addr}{fz:Bool}{es:List (Int×AV)}(st:Z.StaysIn h₀)(H:HS T Z h₀ L opq m σ s.heap)(e:σ a=some (fz,.dict es)):∃ob kvs,s.heap.get? a=some ob/\aF KR kvs es/\(∀prog w,ob.IsDictOf (intKind prog w) kvs)/\a≠sysModules:=by
 obtain⟨D,d,n,c,f,g⟩:=H.get st e;exact⟨d,n,c,f,g⟩
noncomputable def Dv:Option Value->Option AV->Prop
 |some v,some a=>VR v a
 |none,none=>True
 |_,_=>False
theorem iw{k:Int}{kvs:List (Int×Value)}{es:List (Int×AV)}(h:aF KR kvs es):Dv (valueAt kvs k) (bE es k):=by
 induction h with
 |nil=>exact trivial
 |cons h r c=>
  rename_i e p j i
  obtain⟨f,g⟩:=h
  simp only[valueAt,bE,List.find?_cons,f]at c ⊢
  by_cases d:p.1=k
  ·simp only[d,decide_true];exact g
  ·simp only[d,decide_false];exact c
theorem Dv.isSome{o:Option Value}{a:Option AV}(h:Dv o a):o.isSome=a.isSome:=by
 cases o<;>cases a<;>first|rfl|exact h.elim
theorem Ee{k:Int}{kvs:List (Int×Value)}{es:List (Int×AV)}(h:aF KR kvs es):(kvs.any λe=>decide (e.1=k))=es.any λe=>decide (e.1=k):=by
 induction h with
 |nil=>rfl
 |cons h r c=>simp only[List.any_cons,h.1,c]
theorem EG{k:Int}{v:Value}{a:AV}{kvs:List (Int×Value)}{es:List (Int×AV)}(h:aF KR kvs es)(r:VR v a):aF KR (stored kvs k v) (dZ k a es):=by
 unfold stored dZ
 rw[Ee h]
 split
 ·refine h.map λp q e=>?_
  rw[e.1]
  by_cases c:q.1=k
  ·rw[if_pos c,if_pos c];exact⟨rfl,r⟩
  ·rw[if_neg c,if_neg c];exact e
 ·exact h.append (.one ⟨rfl,r⟩)
theorem ET{k:Int}{kvs:List (Int×Value)}{es:List (Int×AV)}(h:aF KR kvs es):aF KR (without kvs k) (EH k es):=by
 induction h with
 |nil=>exact .nil
 |cons h r c=>
  rename_i e p g f
  unfold without EH at c ⊢
  rw[List.filter_cons,List.filter_cons,h.1]
  by_cases d:p.1=k
  ·simp only[d,ne_eq,not_true_eq_false,decide_false,Bool.false_eq_true,if_false];exact c
  ·simp only[d,ne_eq,not_false_eq_true,decide_true,if_true];exact .cons h c
theorem nJ{prog:Program}{w:World}{o:Obj}{kvs:List (Int×Value)}(h:o.IsDictOf (intKind prog w) kvs)(c:Program)(k:World):o.IsDictOf (intKind c k) kvs:=by
 obtain⟨g,p,j,f,e,d,i⟩:=h
 refine⟨g,p,j,f,e,?_,i⟩
 clear f e i
 generalize g.toList=l at d
 induction d with
 |nil=>exact .nil
 |cons a b _ n=>exact .cons a b n
theorem yN{c:Type}{P:Prop}{o:Option c}{p:Option (List c)}{ns:List c}(e:(o.bind λi=>p.map (i::·))=some ns)(f:∀i r,o=some i->p=some r->i::r=ns->P):P:=by
 cases o with
 |none=>exact oW e
 |some i=>cases p with
  |none=>exact oW e
  |some r=>exact f _ _ rfl rfl (Option.some.inj e)
theorem xP{u:Value}{v:AV}{i:Int}(r:VR u v)(e:A1 v=some i):∃t,u=.int i t:=by
 cases v<;>first|(cases e;exact r.int)|cases e
theorem jy{xs:List AV}{ns:List Int}{vs:List Value}(e:cI xs=some ns)(h:aF VR vs xs):IntsAre vs ns:=by
 induction h generalizing ns with
 |nil=>obtain rfl:=Option.some.inj e;exact .nil
 |cons r _ f=>exact yN e λi c j d k=>(xP r j).elim λt g=>g▸k▸.cons i t (f d)
theorem vN{v:Value}{a:AV}(r:VR v a):(v==.none)=Ci a:=by
 cases a with
 |undef=>exact r.not_undef.elim
 |none=>rw[r.none];rfl
 |bool _=>rw[r.bool];rfl
 |int _=>obtain⟨_,rfl⟩:=r.int;rfl
 |bytes _=>obtain⟨_,rfl⟩:=r.bytes;rfl
 |ref _=>rw[r.ref];rfl
section
variable {Q:PX} {a b:AV} {U O:Value} {N:Int->Int->Prop} {J:List UInt8->List UInt8->Prop} {I:Addr->Prop}
@[elab_as_elim] theorem rK{P:Value->Value->Prop}(g:VR U a)(c:VR O b)(h:sel a False (λx=>bV b λy=>N x y) (λx=>CX b λy=>J x y) I)(e:∀x t y u,N x y->P (.int x t) (.int y u))(f:∀x t y u,J x y->P (.bytes x.toArray t) (.bytes y.toArray u))(d:∀x,I x->P (.ref x) O):P U O:=
 eJ (P:=λU=>P U O) g h False.elim (λx t h=>bw c h λy u h=>e x t y u h) (λx t h=>zf c h λy u h=>f x t y u h) d
theorem oR{o:CO}(st:Z.StaysIn h₀)(r:A.units+200<cLine)(e:VR U a)(d:VR O b)(H:HS T Z h₀ L opq m σ s.heap)(h:cmp o a b σ λc=>Q (.bool c) σ):
  wpAny (model prog w) A (compareOp (OY o) U O) (aC T Z h₀ L opq m Q s) E s:=by
 have R:=λb (h:Q (.bool b) σ)=>aC.same0 (s:=s) H (Jw b) h
 cases o with
 |eq=>exact rK e d h (λx t y u h=>eq_int (by rw[Bx];exact R _ h)) (λx t y u h=>eq_bytes (by rw[Bx];exact R _ h)) λ_ h=>h.elim
 |ne=>
  exact eJ e h (λh=>eJ d h (λh=>EqNone.ne_none_none (R _ h)) (λ_ _ h=>h.elim) (λy u h=>nW (R _ h)) λ_ h=>h.elim)
   (λx t h=>bw d h λy u h=>ne_int (by rw[bne,Bx,←decide_not];exact R _ h))
   (λx t h=>eJ d h (λh=>nZ (R _ h)) (λ_ _ h=>h.elim) (λy u h=>ne_bytes (by rw[bne,Bx,←decide_not];exact R _ h)) λ_ h=>h.elim)
   λa h=>bY d h λb h=>H.cL st h λ_ xs i n _ g1 g _ h=>H.cL st h λ_ G l k _ g2 p _ h=>di h λms W h=>di h λns e2 h=>
    ne_intsK (aL g1) (jy W g) (aL g2) (jy e2 p) (Nat.lt_of_le_of_lt (Nat.add_le_add_left (by decide) _) r) (R _ h)
 |lt=>exact rK e d h (λx t y u h=>lt_int (R _ h)) (λx t y u h=>yt (R _ h)) λ_ h=>h.elim
 |le=>exact rK e d h (λx t y u h=>le_int (R _ h)) (λx t y u h=>Aa (R _ h)) λ_ h=>h.elim
 |gt=>exact rK e d h (λx t y u h=>gt_int (R _ h)) (λx t y u h=>xD (R _ h)) λ_ h=>h.elim
 |ge=>
  exact rK e d h (λx t y u h=>ge_int (R _ h)) (λx t y u h=>xS (R _ h)) λa h=>bY d h λb h=>H.cT st h λi n xs g1 g h=>
   jV (P:=λi=>s.heap.get? a=some (kJ i n)->_) g h (λz x B y q1 q2 h g1=>eN (P:=λz B=>s.heap.get? a=some (kJ [z,B] n)->_) q1 q2 h (λx t1 y t2 h g1=>H.cT st h λl k G g2 p h=>
    jV (P:=λl=>s.heap.get? b=some (kJ l k)->_) p h (λD x q y V q4 h g2=>eN (P:=λD q=>s.heap.get? b=some (kJ [D,q] k)->_) V q4 h (λu t3 v t4 h g2=>
     wS ⟨_,g1,rfl,_,rfl⟩ ⟨_,g2,rfl,_,rfl⟩ (Nat.lt_of_le_of_lt (Nat.le_add_right _ _) r) (R _ h)) g2) g2) g1) g1
 |is=>exact s8 d h λh=>is_none (by rw[vN e];exact R _ h)
 |isnt=>exact s8 d h λh=>isNot_none (by rw[vN e];exact R _ h)
 |isin=>
  exact bw e h λx t h=>bY d h λb h=>xV h λ_ es eb h=>(H.dict st eb).elim λY f=>f.elim λj f=>
   wpAny_in_of (knd:=intKind prog w) (k:=x) (by simp[intKind,Value.isInt]) (by simpa using f.2.2.2) (show s.heap.DictOf (intKind prog w) b j from Heap.dictOf_iff.mpr ⟨Y,f.1,f.2.2.1 prog w⟩).mapOf (aC.same H (Jw _) (by rw[(iw f.2.1).isSome];exact h))
 |notin=>exact bw e h λx t h=>bY d h λb h=>H.cL st h λ_ G i n _ g1 g _ h=>di h λns en h=>notin_list_ints (aL g1) (jy en g) (R _ h)
end
end
end
section
section
variable {prog:Program} {w:World} {K:Frag} {T:Tb} {F:Ft} {t:Ct} {U h₀:Heap} {A:Around} {E:Value->Shared->Prop} {L:Addr} {m:Str->Option Value} {opq:List (Addr×Obj)} {σ:Hp} {s:Shared}
theorem iT{k:Int}(h: -(2 ^ 63)<=k)(b:k<2 ^ 63):Builtin.List.listFitsIndex k=true:=by
 simp only[Builtin.List.listFitsIndex,Bool.and_eq_true,decide_eq_true_eq];exact⟨z1 [_,_] Gr Gr rfl h,z1 [_,_] J2 J2 rfl b⟩
theorem vE{k:Int}{n:Nat}(h:0<=k)(b:k<n):seqIndex? k n=some k.toNat:=by
 have c:¬k<0:=by exact fZ h
 simp[seqIndex?,c,h,b]
theorem EK{n:Nat}{k:Int}(h:n<=line)(q:k<=n):k<2 ^ 63:=Int.lt_of_le_of_lt (Int.le_trans q (bF h)) (show((10000:Nat):Int)<2 ^ 63 by decide)
theorem HE{n:Nat}{k:Int}(h:n<=line)(q:k<n):k<2 ^ 63:=EK h (Int.le_of_lt q)
theorem IB{k:Int}(h:0<=k): -(2 ^ 63)<=k:=Int.le_trans (by decide) h
theorem HB{n m:Nat}(e:m=n)(h:n<=line):(m:Int)<2 ^ 63:=EK h (Int.le_of_eq (ce e))
theorem DX{n m:Nat}{k:Int}(e:m=n)(h:0<=k)(q:k<n):seqIndex? k m=some k.toNat:=vE h (e.symm▸q)
theorem Ql{n:Nat}(h:n<=line):n+1<=sizeLine:=by rw[sizeLine_eq];exact Nat.le_trans (Nat.succ_le_succ h) (Nat.le_of_ble_eq_true rfl)
theorem lz{n:Nat}(h:n<=line):n<=sizeLine:=Nat.le_of_succ_le (Ql h)
theorem wx{n m:Nat}(e:m=n)(h:n<=line):m<=sizeLine:=e.symm▸lz h
theorem OZ{k:Int}{n:Nat}(h:0<=k)(q:k<n):k.toNat<n:=(Int.toNat_lt h).mpr q
theorem tM{b:Type}{xs:List b}{k:Int}{v:b}(h:0<=k)(e:xs[k.toNat]?=some v):k<xs.length:=by
 obtain⟨q,_⟩:=be e
 exact(Int.toNat_lt h).mp q
theorem aF.at{d c:Type}{R:d->c->Prop}{l₁:List d}{l₂:List c}{P:Prop}(h:aF R l₁ l₂){i:Nat}{b:c}(e:l₂[i]?=some b)(f:∀a,l₁[i]?=some a->R a b->P):P:=(h.get e).elim λa h=>f a h.1 h.2
theorem HS.dic{a:Addr}{P:Prop}{fz:Bool}{es:List (Int×AV)}(st:U.StaysIn h₀)(H:HS T U h₀ L opq m σ s.heap)(e:σ a=some (fz,.dict es))(f:∀kvs,(∀prog w,s.heap.DictOf (intKind prog w) a kvs)->aF KR kvs es->(a==sysModules)=false->P):P:=
 (H.dict st e).elim λb h=>h.elim λkvs h=>f kvs (λprog w=>Heap.dictOf_iff.mpr ⟨b,h.1,h.2.2.1 prog w⟩) h.2.1 (beq_eq_false_iff_ne.mpr h.2.2.2)
theorem ik{k:Int}{t:Tok}:(intKind prog w).is k (.int k t)=true:=by simp[intKind,Value.isInt]
theorem qx{Q:Bool->Hp->Prop}{a:AV}{v:Value}{R:Bool->Shared->Prop}(st:U.StaysIn h₀)(r:VR v a)(H:HS T U h₀ L opq m σ s.heap)(h:mx a σ λb=>Q b σ)
  (k:∀b tk,Q b σ->R b {s with toks:=tk}):wpAny (model prog w) A (truthy v) R E s:=by
 cases a with
 |bool b=>rw[r.bool];exact wpAny_truthy_bool (k b s.toks h)
 |ref a=>
  rw[r.ref]
  refine H.cL st (show Mine.cL (σ a) _ from h) λ_ i c n _ g1 f d h=>wpAny_truthy_list (aL g1) (HB d h.1) (k _ _ ?_)
  rw[show c.toArray.isEmpty=i.isEmpty by cases f<;>simp];exact h.2
 |_=>exact h.elim
theorem AY{Q:PX}{a:Addr}{k:Int}{tk:Tok}{xs:List AV}{vs:List Value}{n:Nat}(H:HS T U h₀ L opq m σ s.heap)(g1:s.heap.get? a=some (jF vs n))(j:aF VR vs xs)(h:xs.length<=line/\(if 0<=k then op xs[k.toNat]? λv=>Q v σ else k= -1/\op xs.getLast? λv=>Q v σ)):
  wpAny (model prog w) A (getItem (.ref a) (.int k tk)) (aC T U h₀ L opq m Q s) E s:=by
 have b:=h.2
 by_cases d:0<=k
 ·rw[if_pos d]at b
  exact di b λv c q=>j.at c λu f i=>wpAny_getItem_list (aL g1) d (HE h.1 (tM d c)) (by rw[List.getElem?_toArray];exact f) (aC.same0 H i q)
 ·rw[if_neg d]at b
  have p:=j.length
  refine di b.2 λv c q=>j.at (List.getLast?_eq_getElem?.symm.trans c) λu f i=>?_
  have l:=(be (List.getLast?_eq_getElem?.symm.trans c)).1
  obtain rfl:=b.1
  have r:((-1+(vs.toArray.size:Int)).toNat)=xs.length-1:=te (by rw[List.size_toArray,p,Int.ofNat_sub (Nat.zero_lt_of_lt l)];exact Int.add_comm _ _)
  exact wpAny_getItem_list_neg (aL g1) (by decide) (by rw[List.size_toArray,p];exact Int.neg_le_neg (bF (Nat.zero_lt_of_lt l))) (by decide) (by rw[List.getElem?_toArray,r];exact f) (aC.same0 H i q)
theorem lY{Q:PX}{a i:AV}{x r:Value}(st:U.StaysIn h₀)(I:VR x a)(y:VR r i)(H:HS T U h₀ L opq m σ s.heap)(h:nY a i σ Q):
  wpAny (model prog w) A (getItem x r) (aC T U h₀ L opq m Q s) E s:=by
 refine eJ I h False.elim (λ_ _ h=>h.elim) (λb t h=>bw y h λk tk h=>di h.2.2 λv d q=>PySem.W.getItem_bytes (Nat.le_trans h.1 (by decide)) h.2.1 (tM h.2.1 d) ?_) λa h=>bw y h λk tk h=>
  kf h (λ_ N ex h=>(H.list st ex).elim λl c=>c.elim λn c=>AY H c.1 c.2 h)
   (λ_ N ex h=>(H.tup st ex).elim λl c=>c.elim λn c=>di h.2.2 λv d q=>c.2.at d λu z B=>
    have p:=tM h.2.1 d
    PyProof.Rows.getItem_tuple (items:=l.toArray) ⟨_,c.1,rfl,_,rfl⟩ (IB h.2.1) (HE h.1 p) (DX c.2.length h.2.1 p) (by rw[List.getElem?_toArray];exact z) (aC.same0 H B q))
   λ_ V ex h=>di h.2 λv d q=>H.dic st ex λj G g2 _=>?_
 ·rw[List.getD_eq_getElem?_getD,d]
  exact aC.same H (ou _ _) q
 ·have f:=iw (k:=k) g2
  rw[d]at f
  cases e:valueAt j k with
  |none=>rw[e]at f;exact f.elim
  |some u=>rw[e]at f;exact wpAny_getItem_of ik (G prog w).mapOf e (aC.same H f q)
theorem rM{a:Addr}{o:Obj}{Z:List (Addr×Obj)}(b:(Z.map (·.1)).Nodup)(h:(a,o)∈Z):UpdF a o Z (λob=>qh a ob Z):=by
 induction Z with
 |nil=>cases h
 |cons p r k=>
  rw[List.map_cons,List.nodup_cons]at b
  by_cases e:p.1=a
  ·rcases au h with c|i
   ·subst c
    have:(λob=>qh a ob ((a,o)::r))=λd=>(a,d)::r:=funext λob=>jf rfl
    rw[this]
    exact .head λq l j=>b.1 (by rw[←j];exact List.mem_map_of_mem (f:=(·.1)) l)
   ·exact absurd (List.mem_map_of_mem (f:=(·.1)) i) (by rw[←e];exact b.1)
  ·have:(λob=>qh a ob (p::r))=λd=>p::qh a d r:=funext λob=>gW e
   rw[this]
   rcases au h with c|i
   ·exact absurd (by rw[←c]) e
   ·exact .tail e (k b.2 i)
theorem HR.mem{Z:List (Addr×Obj)}{D:Addr->Addr}{a:Addr}{o:AO}(R:HR T σ U Z D opq)(e:σ a=some (false,o)):OR T D (λx ob=>(x,ob)∈Z) a o:=
 (R.ob _ _ _ e).mono (λ_ _ _=>rfl) λ_ _ h=>h.elim id λh=>by cases h.1
theorem uT:∀{l:List Value} {k:Nat} {v:Value},k<l.length->ki_setL l k v=some (l.set k v)
 |[],_,_,h=>absurd h (Nat.not_lt_zero _)
 |_::_,0,_,_=>rfl
 |x::r,k+1,v,h=>by
  unfold ki_setL
  rw[uT (by simpa using h)]
  rfl
theorem uq:∀{l:List Value} {k:Nat},k<l.length->ki_delL l k=some (l.eraseIdx k)
 |[],_,h=>absurd h (Nat.not_lt_zero _)
 |_::_,0,_=>rfl
 |x::r,k+1,h=>by
  unfold ki_delL
  rw[uq (by simpa using h)]
  rfl
theorem aF.eraseIdx{c b:Type}{R:c->b->Prop}{l₁:List c}{l₂:List b}(h:aF R l₁ l₂):∀n,aF R (l₁.eraseIdx n) (l₂.eraseIdx n):=by
 induction h with
 |nil=>intro n;simp;exact .nil
 |cons h t d=>intro n;cases n with
  |zero=>exact t
  |succ n=>exact .cons h (d n)
section
variable {Q:Hp->Prop} {g h':Heap} {a:Addr} {o:AO} {Z:List (Addr×Obj)} {D:Addr->Addr} {tk:Nat} (O:cF U h₀ g) (R:HR T σ U Z D opq) (J:Fr g L h' m) (e:σ a=some (false,o)) (hi:∀c fs,o≠.inst c fs)
include O R J e hi
theorem HS.wrL{vs:List Value}{n:Nat}{xs:List AV}(b:News g L h' (qh a (jF vs n) Z))(r:aF VR vs xs)(q:Q (upd σ a (false,.list xs))):ku T U h₀ L opq m Q s {s with heap:=h',toks:=tk}:=
 ⟨_,h',tk,rfl,⟨g,O,_,D,J,b,R.write (o':=.list xs) e hi (λP c=>⟨_,n,c,r⟩) qg⟩,q⟩
theorem HS.wrD{ob:Obj}{kvs:List (Int×Value)}{es:List (Int×AV)}(b:News g L h' (qh a ob Z))(r:aF KR kvs es)(hd:ob.IsDictOf (intKind prog w) kvs)(hs:a≠sysModules)(q:Q (upd σ a (false,.dict es))):ku T U h₀ L opq m Q s {s with heap:=h',toks:=tk}:=
 ⟨_,h',tk,rfl,⟨g,O,_,D,J,b,R.write (o':=.dict es) e hi (λP c=>⟨_,_,c,r,λp w=>nJ hd p w,hs⟩) Cg⟩,q⟩
end
theorem iP{Q:Hp->Prop}{a i v:AV}{p l d:Value}(u:VR p a)(x:VR l i)(f:VR d v)(H:HS T U h₀ L opq m σ s.heap)(h:setItem a i v σ Q):
  wpAny (model prog w) A (PySem.setItem p l d) (λ_ s'=>ku T U h₀ L opq m Q s s') E s:=
 bY u h λa h=>bw x h λk tk h=>H.casesOn λg O Z D j N R=>pE h
  (λG ex h=>(R.mem ex).elim λq b=>b.elim λn b=>
   ki_set (its:=q.toArray) (n:=n) j N h.2.1 (HE h.1 h.2.2.1) (uT (b.2.length.symm▸OZ h.2.1 h.2.2.1)) (fj R.nd b.1) λh' J c=>HS.wrL O R J ex qg c (b.2.set f _) h.2.2.2)
  (λB ex h=>(R.mem ex).elim λy b=>b.elim λr b=>
   kda_set (knd:=intKind prog w) (k:=k) j N (rM R.nd b.1) (b.2.2.1 prog w) ik (wx b.2.1.length h.1) λh' z J c hd=>HS.wrD O R J ex Cg c (EG b.2.1 f) hd b.2.2.2 h.2)
  λ_ _ _ h=>h.elim
theorem n9{Q:Hp->Prop}{a i:AV}{l j:Value}(r:VR l a)(u:VR j i)(H:HS T U h₀ L opq m σ s.heap)(h:delItem a i σ Q):
  wpAny (model prog w) A (PySem.delItem l j) (λ_ s'=>ku T U h₀ L opq m Q s s') E s:=
 bY r h λa h=>bw u h λk tk h=>H.casesOn λg O Z D f N R=>pE h
  (λz ex h=>(R.mem ex).elim λp b=>b.elim λn b=>
   have c:=b.2.length
   ki_del (its:=p.toArray) (n:=n) f N (iT (IB h.2.1) (HE h.1 h.2.2.1)) (DX c h.2.1 h.2.2.1) (uq (c.symm▸OZ h.2.1 h.2.2.1)) (fj R.nd b.1) (wx c h.1) λh' J d=>HS.wrL O R J ex qg d (b.2.eraseIdx _) h.2.2.2)
  (λy ex h=>(R.mem ex).elim λv b=>b.elim λq b=>
   kob_del (knd:=intKind prog w) (k:=k) f N (rM R.nd b.1) (b.2.2.1 prog w) ik ((iw b.2.1).isSome.trans h.2.1) (wx b.2.1.length h.1) λh' x J d hd=>HS.wrD O R J ex Cg d (ET b.2.1) hd b.2.2.2 h.2.2)
  λ_ _ _ h=>h.elim
theorem ub(c:∀i j,i<T.nf->j<T.nf->T.an i=T.an j->i=j){f:Nat}(y:f<T.nf){b:List DictEntry}{fs:List (Nat×AV)}(h:aF (FR T) b fs):
  match vI fs f with
  |some a=>∃v,getL (T.an f) b=some (some v)/\VR v a
  |none=>getL (T.an f) b=some none:=by
 induction h with
 |nil=>rfl
 |cons h r k=>
  rename_i e p B z
  obtain⟨n,⟨tk,x⟩,l⟩:=h
  unfold vI getL at k ⊢
  simp only[List.find?_cons,List.any_cons,x,Value.isStr,DictEntry.refKey,Bool.false_or]
  by_cases d:p.1=f
  ·simp only[d,beq_self_eq_true,Option.map_some]
   exact⟨_,rfl,l⟩
  ·have q:(T.an p.1==T.an f)=false:=by
    simp only[beq_eq_false_iff_ne,ne_eq];exact λe=>d (c _ _ n y e)
   have u:(p.1==f)=false:=by simpa using d
   simp only[q,u]
   exact k
theorem AG(c:∀i j,i<T.nf->j<T.nf->T.an i=T.an j->i=j){f:Nat}(l:f<T.nf){hs:Int}{tk:Tok}{v:Value}{a:AV}(r:VR v a){b:List DictEntry}{fs:List (Nat×AV)}(h:aF (FR T) b fs):
  aF (FR T) (putL (T.an f) hs (.str (T.an f) tk) v b) (gE f a fs):=by
 induction h with
 |nil=>exact .cons ⟨l,⟨_,rfl⟩,r⟩ .nil
 |cons h z y=>
  rename_i e p G B
  obtain⟨n,⟨tk,k⟩,q⟩:=h
  unfold putL gE
  by_cases d:p.1=f
  ·simp only[k,Value.isStr,d,beq_self_eq_true,if_true]
   exact .cons ⟨l,⟨_,rfl⟩,r⟩ z
  ·have u:(T.an p.1==T.an f)=false:=by
    simp only[beq_eq_false_iff_ne,ne_eq];exact λe=>d (c _ _ n l e)
   have x:(p.1==f)=false:=by simpa using d
   simp only[k,Value.isStr,u,x,Bool.false_eq_true,if_false]
   exact .cons ⟨n,⟨_,k⟩,q⟩ y
theorem qY{x:Str}{hs:Int}{k v:Value}:∀es:List DictEntry,(putL x hs k v es).length<=es.length+1
 |[]=>Nat.le_refl _
 |e::r=>by
  unfold putL
  split
  ·simp
  ·simpa using qY r
theorem VR.handed{v:Value}{a:AV}(h:VR v a):handedIn v=true:=by
 cases v<;>first|rfl|(cases a<;>exact h.elim)
theorem HS.inst{a:Addr}{fz:Bool}{c:Nat}{fs:List (Nat×AV)}(st:U.StaysIn h₀)(H:HS T U h₀ L opq m σ s.heap)(e:σ a=some (fz,.inst c fs)):
  ∃d b n,InstAt s.heap a (instObj (T.ca c) d) (T.ca c) (some (dictOf b n))/\aF (FR T) b fs:=by
 obtain⟨D,b,n,i,f,h⟩:=H.get st e
 exact⟨_,b,n,⟨i,rfl,rfl,f⟩,h⟩
theorem mw{Q:PX}{a:AV}{f:Nat}{l:Value}{x:Str}{expr:Bool}(ok:CE K T F t)(X:K.In U)(st:U.StaysIn h₀)(p:t.ai.lookup x=some f)(r:VR l a)(H:HS T U h₀ L opq m σ s.heap)(h:zA F.fo a f σ Q):
  wpAny (model prog w) A (getAttr l x expr) (aC T U h₀ L opq m Q s) E s:=by
 obtain rfl:=ok.atn _ _ p
 refine bY r h λa h=>CM h λ_ c B ex h=>di h.2 λv z q=>(H.inst st ex).elim λd b=>b.elim λk b=>b.elim λn b=>?_
 have i:=ok.fld _ _ h.1
 have j:=ub ok.inj i.1 b.2
 rw[z]at j
 exact j.elim λu e=>H.casesOn λg O _ _ y _ _=>get_own y (X.keeps O.base) b.1 i.2.1.pg i.2.1.hd i.2.2 rfl e.1 e.2.handed (aC.same H e.2 q)
theorem vu(d:∀i j,i<T.nf->j<T.nf->T.an i=T.an j->i=j){f:Nat}(l:f<T.nf){b:List DictEntry}{fs:List (Nat×AV)}(h:aF (FR T) b fs):(getL (T.an f) b).isSome=true:=by
 have c:=ub d l h
 cases e:vI fs f with
 |none=>rw[e]at c;rw[c];rfl
 |some v=>rw[e]at c;exact c.elim λu k=>by rw[k.1];rfl
theorem iK{Q:Hp->Prop}{a v:AV}{f:Nat}{p l:Value}{x:Str}(ok:CE K T F t)(X:K.In U)(q:t.ai.lookup x=some f)(r:VR p a)(y:VR l v)(H:HS T U h₀ L opq m σ s.heap)(h:setAttr F.fo a f v σ Q):
  wpAny (model prog w) A (PySem.setAttr p x l) (λ_ s'=>ku T U h₀ L opq m Q s s') E s:=by
 obtain rfl:=ok.atn _ _ q
 refine bY r h λa h=>H.casesOn λg O Z D z N R=>pE h (λ_ _ h=>h.elim) (λ_ _ h=>h.elim) λc B ex h=>(R.mem ex).elim λb d=>d.elim λn d=>?_
 have i:=ok.fld _ _ h.1
 have j:=d.2.2
 refine PySem.W.set_dict z (X.keeps O.base) N (show InstAt s.heap a (instObj (T.ca c) (D a)) (T.ca c) (some (dictOf b n))from⟨(N _ d.1).1,rfl,rfl,(N _ d.2.1).1⟩) rfl i.2.1.sa i.2.1.po (by unfold takerIn;rw[i.2.2];rfl) i.2.1.hd (vu ok.inj i.1 j) rfl (fj R.nd d.2.1)
  (Nat.le_trans (qY (x:=T.an f) (hs:=PyData.keyHash w.params (T.an f)) (k:=.str (T.an f) (s.toks+1)) (v:=l) b) (by rw[j.length];exact Nat.le_trans (Nat.succ_le_succ h.2.1) (by decide))) λh' J u=>?_
 exact⟨_,h',s.toks+2,rfl,⟨g,O,_,D,J,u,R.writeI (fz:=false) ex (AG ok.inj i.1 y j)⟩,h.2.2⟩
end
end
section
theorem oa:typeLookup (.type "bytes") "__bytes__"=pure (some (.builtin "bytes.__bytes__")):=by rw[typeLookup_type,builtinLookup_eq_fast];kernel_rfl
section
variable {prog:Program} {w:World} {A:Around} {E:Value->Shared->Prop} {s:Shared}
theorem vm{b:Array UInt8}{t:Tok}{Q:Value->Shared->Prop}(c:Q (.bytes b t) s):
  codeAny (model prog w) A (.call (.builtin "bytes.__new__") ⟨[.type "bytes",.bytes b t],[]⟩) (wants Q E) s:=by
 refine codeAny_of_tree ?_
 show wpAny _ A.in1 (do checkBuiltinCall "bytes.__new__" ⟨[.type "bytes",.bytes b t],[]⟩;again (.builtin "bytes.__new__" ⟨[.type "bytes",.bytes b t],[]⟩)) _ _ s
 refine wpAny_bind (wpAny_of_eq (F.bm_newCall _) (wpAny_pure ⟨plainId_quiet F.bm_plain _,codeAny_builtin F.bm_entry ?_⟩))
 rw[Around.under_plainId F.bm_plain _]
 unfold Builtin.«bytes.__new__»
 refine wpAny_bind (wpAny_of_eq (a:=true) rfl ?_)
 refine bm_if_false rfl ?_
 refine wpAny_bind (wpAny_of_eq F.bm_sub ?_)
 refine bm_if_false rfl ?_
 refine wpAny_bind (wpAny_of_eq (F.bm_bind _) ?_)
 refine wpAny_bind (wpAny_of_eq (a:=()) rfl ?_)
 refine wpAny_bind (wpAny_of_eq (a:=()) rfl ?_)
 refine bm_if_false rfl ?_
 refine wpAny_bind (wpAny_specialOf (PySem.W.typeIs_bytes s b t) oa ?_)
 refine wpAny_bind (wpAny_rule ?_)
 refine wpAny_bind (wpAny_typeOf (PySem.W.typeIs_bytes s b t) ?_)
 refine bm_if_true rfl ?_
 exact wpAny_pure c
theorem qW{b:Array UInt8}{t:Tok}{Q:Value->Shared->Prop}(d:Q (.bytes b t) s):wpAny (model prog w) A (call (.type "bytes") [.bytes b t]) Q E s:=by
 refine callType_codes (Q₁:=λobj a=>a.TypeIs obj "bytes"/\Q obj a) F.bm_called (F.bm_typeCall _) F.entry_object_init
  (vm ⟨PySem.W.typeIs_bytes _ _ _,d⟩) λobj a c=>?_
 exact⟨c.1,F.args_object_init_2 obj _,object_init_meets F.bm_called.init.lookup F.bm_called.made (by decide) prog w A.in1 _ a ⟨c.1,rfl,c.2⟩⟩
end
section
variable {prog:Program} {w:World} {K:Frag} {T:Tb} {F:Ft} {t:Ct} {Z h₀:Heap} {A:Around} {E:Value->Shared->Prop} {L:Addr} {m:Str->Option Value} {opq:List (Addr×Obj)} {σ:Hp} {s:Shared}
theorem uU{vs:List Value}{ns:List Int}(h:IntsAre vs ns):aF VR vs (ns.map .int):=by
 induction h with
 |nil=>exact .nil
 |cons n t _ a=>exact .cons (ou n t) a
theorem Hi{v:AV}{b:UInt8}(e:u8 v=some b):∃i,A1 v=some i/\(0<=i/\i<256)/\i.toNat.toUInt8=b:=by
 unfold u8 at e
 cases h:A1 v with
 |none=>rw[h]at e;cases e
 |some i=>
  rw[h]at e
  by_cases a:0<=i/\i<256
  ·rw[Option.bind_some,if_pos a]at e;exact⟨i,rfl,a,Option.some.inj e⟩
  ·rw[Option.bind_some,if_neg a]at e;cases e
theorem DK{xs:List AV}{b:List UInt8}{vs:List Value}(e:EN xs=some b)(h:aF VR vs xs):∃ns,IntsAre vs ns/\(∀n∈ns,0<=n/\n<256)/\(ns.map λn=>n.toNat.toUInt8)=b:=by
 induction h generalizing b with
 |nil=>obtain rfl:=Option.some.inj e;exact⟨[],.nil,(λ_ h=>nM h),rfl⟩
 |cons r _ g=>exact yN e λi j a f d=>(Hi a).elim λi h=>(g f).elim λns q=>(xP r h.1).elim λt c=>⟨i::ns,c▸.cons i t q.1,List.forall_mem_cons.mpr ⟨h.2.1,q.2.1⟩,by rw[List.map_cons,h.2.2,q.2.2,d]⟩
noncomputable def Jv:BF->Value
 |.len=>.builtin "len"
 |.sorted=>.builtin "sorted"
 |.min1=>.builtin "min"
 |.min2=>.builtin "min"
 |.bytes=>.type "bytes"
 |.list=>.type "list"
theorem oK{Q:PX}{as:List AV}{vs:List Value}(st:Z.StaysIn h₀)(d:aF VR vs as)(H:HS T Z h₀ L opq m σ s.heap)(h:eO .len as σ Q):
  wpAny (model prog w) A (call (.builtin "len") vs) (aC T Z h₀ L opq m Q s) E s:=
 gq d h λv a r h=>eJ r h False.elim (λ_ _ h=>h.elim) (λb t h=>PySem.W.len_bytes (Nat.le_trans h.1 (by decide)) (aC.same (a:=.int b.length) H rfl h.2))
  λa h=>H.cL st h λ_ e f n _ g1 g c h=>call_len_list (aL g1) (HB c h.1) (aC.same (a:=.int e.length) H (congrArg Int.ofNat c) h.2)
theorem qt{Q:PX}{b:BF}{as:List AV}{vs:List Value}(I:∀(Q:PX) (r:Addr) (fz:Bool) (xs:List AV) (rs:List (Int×Int×Int)),σ r=some (fz,.list xs)->xs.length<=60->dI σ xs=some rs->rs.Nodup->
   (∀c (ys:List AV) (ts:List (Int×Int×Int)),σ c=none->ys.Perm xs->dI σ ys=some ts->ts.Perm rs->ts.Pairwise (λa b=>jI a b=true)->Q (.ref c) (upd σ c (false,.list ys)))->
   wpAny (model prog w) A (call (.builtin "sorted") [.ref r]) (aC T Z h₀ L opq m Q s) E s)
  (J:∀(Q:PX) (r:Addr) (fz:Bool) (es:List (Int×AV)),σ r=some (fz,.dict es)->es.length<=60->
   (∀c (f:List Int),σ c=none->f.Perm (es.map (·.1))->f.Pairwise (·<=·)->Q (.ref c) (upd σ c (false,.list (f.map .int))))->
   wpAny (model prog w) A (call (.builtin "sorted") [.ref r]) (aC T Z h₀ L opq m Q s) E s)
  (st:Z.StaysIn h₀) (hh:A.handled=none) (O:aF VR vs as) (H:HS T Z h₀ L opq m σ s.heap) (h:eO b as σ Q):
  wpAny (model prog w) A (call (Jv b) vs) (aC T Z h₀ L opq m Q s) E s:=by
 cases b with
 |len=>exact oK st O H h
 |sorted=>
  exact gq O h λv a r h=>bY r h λr h=>kf h (λz xs ex h=>C5 h.2
   (λns en q=>(H.list st ex).elim λV i=>i.elim λn i=>H.casesOn λg j e D p N R=>
    have hi:=jy en i.2
    kso_sorted p N (aL i.1) hi (Nat.lt_succ_of_le (Nat.le_trans (by rw[←hi.length,i.2.length];exact h.1) (Nat.le_add_right 60 3))) λd γ f c B l o hn β _ hp hs _=>HS.newL (n:=c) j R l o hn rfl (uU β) λc hc=>q c _ hc hp hs)
   λq=>di q λrs er q=>I Q r z xs rs ex h.1 er q.1 q.2) (λ_ _ _ h=>h.elim) λz es ex h=>J Q r z es ex h.1 h.2
 |min1=>
  exact gq O h λv a r h=>bY r h λr h=>H.cL st h λz xs V n ex g1 G _ h=>di h.2 λns en q=>H.casesOn λg j e D p N R=>
   kso_min p N (aL g1) (jy en G) q.1 hh λB M t Y l o hm W=>⟨.int M,σ,B,Y,rfl,ou M t,⟨g,j,e,D,l,o,R⟩,q.2 _ hm W⟩
 |min2=>
  exact jV O h λv a u b G r2 h=>eN G r2 h λx t y w h=>H.casesOn λg j e D p N R=>min_two_N hh p N λB Y l o=>⟨.int _,σ,B,Y,rfl,ou _ _,⟨g,j,e,D,l,o,R⟩,h⟩
 |bytes=>
  exact gq O h λv a r h=>eJ r h False.elim (λ_ _ h=>h.elim) (λb t h=>qW (aC.same0 H (IY _ _) h.2))
   λr h=>H.cL st h λz xs V n ex g1 G U h=>di h.2 λbs eb q=>(DK eb G).elim λns i=>H.casesOn λg j e D p N R=>
    bytes_K p N (aL g1) i.1 i.2.1 (wx U (Nat.le_trans h.1 (by decide))) hh λB t k l o _=>⟨.bytes bs,σ,B,k,rfl,by rw[i.2.2];exact IY _ _,⟨g,j,e,D,l,o,R⟩,q⟩
 |list=>
  exact gq O h λv a r h=>bY r h λr h=>H.cL st h λz xs V n ex g1 G U h=>H.casesOn λg j e D p N R=>
   list_copyK p N (aL g1) (λd c B l o hn=>HS.newL (n:=c) j R l o hn rfl G h.2) (wx U h.1)
noncomputable def NE:BM->Value
 |.append=>.builtin "list.append"
 |.insert=>.builtin "list.insert"
 |.pop=>.builtin "list.pop"
 |.get=>.builtin "dict.get"
theorem zb:∀{l:List Value} {k:Nat} {y:Value},l[k]?=some y->kl_cut l k=some (l.take k,y,l.drop (k+1))
 |[],_,_,h=>by simp at h
 |x::r,0,y,h=>by simp at h;subst h;rfl
 |x::r,k+1,y,h=>by
  unfold kl_cut
  rw[zb (by simpa using h)]
  rfl
theorem Er{Q:PX}{v:Value}{a:AV}{s':Shared}(r:VR v a)(p:ku T Z h₀ L opq m (Q a) s s'):aC T Z h₀ L opq m Q s v s':=p.casesOn λb c d e H q=>⟨a,b,c,d,e,r,H,q⟩
theorem Ep{xs:List AV}{a:List Value}{n:Int}{u:Value}{v:AV}(r:aF VR a xs)(b:VR u v)(h:0<=n)(d:n<=xs.length):aF VR (kl_ins a n u) (xs.take n.toNat++v::xs.drop n.toNat):=by
 have e:=r.length
 have c:min n.toNat a.length=n.toNat:=by exact Nat.min_eq_left (Int.toNat_le.mpr (by rw[e];exact d))
 unfold kl_ins
 rw[if_neg (fZ h)]
 simp only[c]
 exact(r.take _).append (.cons b (r.drop _))
theorem E5{kvs:List (Int×Value)}{es:List (Int×AV)}{n:Int}{u:Value}{d:AV}(g:aF KR kvs es)(r:VR u d):VR ((valueAt kvs n).getD u) ((bE es n).getD d):=by
 have a:=iw (k:=n) g
 cases c:valueAt kvs n with
 |none=>cases b:bE es n with
  |none=>exact r
  |some y=>rw[c,b]at a;exact a.elim
 |some x=>cases b:bE es n with
  |none=>rw[c,b]at a;exact a.elim
  |some y=>rw[c,b]at a;exact a
theorem rO{Q:PX}{b:BM}{a:Addr}{as:List AV}{vs:List Value}(st:Z.StaysIn h₀)(r:aF VR vs as)(H:HS T Z h₀ L opq m σ s.heap)(h:jD b (.ref a) as σ Q):
  wpAny (model prog w) A (call (NE b) (.ref a::vs)) (aC T Z h₀ L opq m Q s) E s:=by
 cases b with
 |append=>
  exact gq r h λv x j h=>yE h λI ex h=>H.casesOn λg f d D o N R=>(R.mem ex).elim λe c=>c.elim λn c=>
   append_K (its:=e.toArray) (n:=n) o N (fj R.nd c.1) (λz i l=>Er (a:=.none) trivial (HS.wrL (vs:=e++[v]) f R i ex qg (by simpa using l) (c.2.append (.one j)) h.2)) (wx c.2.length h.1)
 |insert=>
  exact jV r h λv x u y p j h=>bw p h λn t h=>yE h λI ex h=>H.casesOn λg f d D o N R=>(R.mem ex).elim λe c=>c.elim λk c=>
   kl_insert (its:=e.toArray) (n:=k) o N (iT (IB h.2.1) (EK h.1 h.2.2.1)) rfl (fj R.nd c.1) (wx c.2.length h.1) λz i l=>Er (a:=.none) trivial (HS.wrL f R i ex qg l (Ep c.2 j h.2.1 h.2.2.1) h.2.2.2)
 |pop=>
  exact gq r h λv x p h=>bw p h λn t h=>yE h λI ex h=>di h.2.2 λv J q=>H.casesOn λg f d D o N R=>(R.mem ex).elim λe c=>c.elim λk c=>c.2.at J λu V W=>
   have B:=tM h.2.1 J
   kl_popAt (its:=e.toArray) (n:=k) (k:=n.toNat) o N (iT (IB h.2.1) (HE h.1 B)) (DX c.2.length h.2.1 B) (zb V) (fj R.nd c.1) (wx c.2.length h.1) λz i l=>Er W (HS.wrL f R i ex qg l ((c.2.take _).append (c.2.drop _)) q)
 |get=>
  exact jV r h λv x u y p j h=>bw p h λn t h=>xV h λ_ Y ex h=>H.dic st ex λO G g2 U=>
   call_meetsIn PySem.F.slot_dict_get (G prog w).typeIs PySem.F.entry_dict_get (PySem.F.args_dict_get_3 _ _ _) (meets_dict_get_default (intKind prog w) a (k:=n) ik U _) ⟨_,(G prog w).mapOf,aC.same (a:=(bE Y n).getD y) H (E5 g2 j) h.2⟩
end
end
section
section
variable {N:Nat} {Z:Nat->Int} {cmp:Nat->Nat->(Bool->Shared->Prop)->Shared->Prop} {s:Shared}
noncomputable def PK(Z:Nat->Int)(p:Array Nat)(k:Nat):Int:=Z (p.getD k 0)
structure Pm(N:Nat)(p:Array Nat):Prop where
 sz:p.size=N
 pm:p.toList.Perm (List.range N)
theorem Pm.lt{p:Array Nat}(h:Pm N p){k:Nat}(a:k<N):p.getD k 0<N:=by
 have d:k<p.size:=by rw[h.sz];exact a
 have b:p.getD k 0=p[k]:=by simp[Array.getD,d]
 have c:p[k]∈p.toList:=by simp
 have:=h.pm.mem_iff.mp c
 rw[b];simpa using this
theorem Pm.inj{p:Array Nat}(h:Pm N p){i j:Nat}(hi:i<N)(f:j<N)(e:p.getD i 0=p.getD j 0):i=j:=by
 have b:i<p.size:=by rw[h.sz];exact hi
 have a:j<p.size:=by rw[h.sz];exact f
 have d:p.toList.Nodup:=h.pm.nodup_iff.mpr List.nodup_range
 have c:p.toList[i]'(by simpa using b)=p.toList[j]'(by simpa using a):=by
  simpa[Array.getD,b,a]using e
 exact(List.getElem_inj d).mp c
structure As(N:Nat)(Z:Nat->Int)(cmp:Nat->Nat->(Bool->Shared->Prop)->Shared->Prop)(s:Shared):Prop where
 ask:∀i j (C:Bool->Shared->Prop),i<N->j<N->C (decide (Z i<Z j)) s->cmp i j C s
 inj:∀i j,i<N->j<N->Z i=Z j->i=j
theorem nh(C:As N Z cmp s){a:Type}{i j:Nat}{k:Bool->KasT a}{Q:a->Shared->Prop}(hi:i<N)(d:j<N)(c:Z i<Z j->(k true).kasWp cmp Q s)(b:¬Z i<Z j->(k false).kasWp cmp Q s):
  (KasT.ask i j k).kasWp cmp Q s:=by
 show cmp i j _ s
 refine C.ask _ _ _ hi d ?_
 by_cases h:Z i<Z j
 ·rw[decide_eq_true h];exact c h
 ·rw[decide_eq_false h];exact b h
theorem mK{c:Type}{a b:KasT c}{Q:c->Shared->Prop}(h:a.kasWp cmp Q s):KasT.kasWp cmp (if true=true then a else b) Q s:=h
theorem yf{c:Type}{a b:KasT c}{Q:c->Shared->Prop}(h:b.kasWp cmp Q s):KasT.kasWp cmp (if false=true then a else b) Q s:=h
def Up(Z:Nat->Int)(p:Array Nat)(k:Nat):Prop:=∀i j,i<j->j<k->PK Z p i<PK Z p j
theorem Pm.ne(C:As N Z cmp s){p:Array Nat}(h:Pm N p){i j:Nat}(hi:i<N)(b:j<N)(a:i≠j):PK Z p i≠PK Z p j:=λe=>
 a (h.inj hi b (C.inj _ _ (h.lt hi) (h.lt b) e))
theorem Up.step{p:Array Nat}{k:Nat}(h:Up Z p k)(d:1<=k)(c:PK Z p (k-1)<PK Z p k):Up Z p (k+1):=λi j a f=>by
 by_cases e:j=k
 ·subst e
  by_cases b:i=j-1
  ·rw[b];exact c
  ·exact Int.lt_trans (h i (j-1) (by exact lp a b) (by exact n1 [_,_] J2 G0 rfl (Nat.sub_add_cancel (n:=j) (m:=1) (n1 [_] (.le (.n 1) (.v 0)) (.le (.n 1) (.v 0)) rfl d)))) c
 ·exact h i j a (by exact ln f e)
theorem tj(C:As N Z cmp s){p:Array Nat}(k:Pm N p){Q:Nat->Shared->Prop}:∀(f n:Nat),1<=n->n+f=N->Up Z p n->
  (∀m,n<=m->m<=N->Up Z p m->(m<N->PK Z p m<PK Z p (m-1))->Q m s)->(kas_asc p f n).kasWp cmp Q s
 |0,n,l,e,g,h=>h n (Nat.le_refl _) (by exact n1 [_,_] J0 J1 rfl e) g (λh=>by exact(Nat.lt_irrefl n (Nat.lt_of_lt_of_eq h e.symm)).elim)
 |f+1,n,l,e,g,h=>by
  refine nh C (k.lt (by exact n1 [_,_,_] J2 J5 rfl e)) (k.lt (by exact n2 [_,_,_,_] J2 J3 J4 rfl e (Nat.sub_le (n) (1)))) (λq=>mK ?_) λq=>yf ?_
  ·exact h n (Nat.le_refl _) (by exact n1 [_,_,_] J0 J5 rfl e) g λ_=>q
  ·have r:=Pm.ne C k (i:=n) (j:=n-1) (by exact n1 [_,_,_] J2 J5 rfl e) (by exact n2 [_,_,_,_] J2 J3 J4 rfl e (Nat.sub_le (n) (1))) (by exact Nat.ne_of_gt (Nat.sub_lt l Nat.one_pos))
   have o:¬PK Z p n<PK Z p (n-1):=q
   exact tj C k f (n+1) (by exact Nat.le_add_left 1 n) (by exact Nat.le_antisymm (n1 [_,_,_] J6 J7 rfl e) (m1 [_,_,_] J8 0 (-1) J9 rfl e)) (g.step l (by exact iN r o)) λm a b c d=>h m (by exact Nat.le_of_lt a) b c d
def Dn(Z:Nat->Int)(p:Array Nat)(k:Nat):Prop:=∀i j,i<j->j<k->PK Z p j<PK Z p i
theorem Dn.step{p:Array Nat}{k:Nat}(h:Dn Z p k)(d:1<=k)(c:PK Z p k<PK Z p (k-1)):Dn Z p (k+1):=λi j a f=>by
 by_cases e:j=k
 ·subst e
  by_cases b:i=j-1
  ·rw[b];exact c
  ·exact Int.lt_trans c (h i (j-1) (by exact lp a b) (by exact n1 [_,_] J2 G0 rfl (Nat.sub_add_cancel (n:=j) (m:=1) (n1 [_] (.le (.n 1) (.v 0)) (.le (.n 1) (.v 0)) rfl d))))
 ·exact h i j a (by exact ln f e)
theorem ur(C:As N Z cmp s){p:Array Nat}(e:Pm N p){Q:Array Nat×Nat×Nat->Shared->Prop}:∀(f n:Nat),1<=n->n+f=N->Dn Z p n->
  (∀m,n<=m->m<=N->Dn Z p m->Q (p,m,0) s)->(kas_desc f p n 0).kasWp cmp Q s
 |0,n,q,d,g,h=>h n (Nat.le_refl _) (by exact n1 [_,_] J0 J1 rfl d) g
 |f+1,n,q,d,g,h=>by
  refine nh C (e.lt (by exact n1 [_,_,_] J2 J5 rfl d)) (e.lt (by exact n2 [_,_,_,_] J2 J3 J4 rfl d (Nat.sub_le (n) (1)))) (λo=>mK ?_) λo=>yf ?_
  ·rw[if_neg (Nat.lt_irrefl 0)]
   exact ur C e f (n+1) (by exact Nat.le_add_left 1 n) (by exact Nat.le_antisymm (n1 [_,_,_] J6 J7 rfl d) (m1 [_,_,_] J8 0 (-1) J9 rfl d)) (g.step q o) λm a b c=>h m (by exact Nat.le_of_lt a) b c
  ·have l:=Pm.ne C e (i:=n) (j:=n-1) (by exact n1 [_,_,_] J2 J5 rfl d) (by exact n2 [_,_,_,_] J2 J3 J4 rfl d (Nat.sub_le (n) (1))) (by exact Nat.ne_of_gt (Nat.sub_lt q Nat.one_pos))
   refine nh C (e.lt (by exact n2 [_,_,_,_] J2 J3 J4 rfl d (Nat.sub_le (n) (1)))) (e.lt (by exact n1 [_,_,_] J2 J5 rfl d)) (λhd=>mK ?_) λhd=>by
    have k:¬PK Z p n<PK Z p (n-1):=o
    have:PK Z p (n-1)<PK Z p n:=by exact iN l k
    exact absurd this hd
   exact h n (Nat.le_refl _) (by exact n1 [_,_,_] J0 J5 rfl d) g
theorem xq{p:Array Nat}(a:Pm N p)(i j:Nat):Pm N (kas_rev p i j):=by
 refine⟨by rw[kas_rev,mirror_size];exact a.sz,?_⟩
 exact(Array.perm_iff_toList_perm.mp (mirror_perm p i j _)).trans a.pm
theorem xU{p:Array Nat}{j:Nat}(b:j<=p.size)(k:Nat):PK Z (kas_rev p 0 j) k=if k<j then PK Z p (j-1-k) else PK Z p k:=by
 have h:=getElem?_mirror_all (i:=0) b k
 unfold PK kas_rev
 rw[Array.getD_eq_getD_getElem?,h]
 split
 ·rename_i a
  rw[if_pos (by exact n1 [_,_] J2 J2 rfl a.2),Array.getD_eq_getD_getElem?]
  simp
 ·rename_i a
  rw[if_neg (by exact λq=>a ⟨Nat.zero_le _,q⟩),Array.getD_eq_getD_getElem?]
theorem xv(C:As N Z cmp s){p:Array Nat}(g:Pm N p)(r:2<=N){Q:Nat×Array Nat->Shared->Prop}
  (h:∀m q,1<=m->m<=N->Pm N q->Up Z q m->Q (m,q) s):(kas_count N p).kasWp cmp Q s:=by
 unfold kas_count
 rw[KasT.kasWp_bind]
 refine tj C g (N-1) 1 (Nat.le_refl _) (by exact Nat.add_sub_cancel' (Nat.le_of_lt r)) (λi j f k=>by exact(Nat.not_lt_zero _ (Nat.lt_of_lt_of_le f (Nat.le_of_lt_succ k))).elim) λm a b c d=>?_
 by_cases e:m=N
 ·rw[if_pos (by simpa using e)]
  exact h m p a b g c
 ·rw[if_neg (by simpa using e)]
  by_cases o:m>1
  ·rw[if_pos o]
   exact nh C (g.lt (by exact Nat.le_of_lt r)) (g.lt (by exact n2 [_,_,_] J2 Aj Q1 rfl b (Nat.sub_add_cancel (n:=m) (m:=1) (n1 [_] (.le (.n 1) (.v 0)) (.le (.n 1) (.v 0)) rfl a)))) (λt=>mK (h m p a b g c)) λt=>absurd (c 0 (m-1) (by exact n2 [_,_] CL (.le (.a (.n 1) (.n 1)) (.v 1)) (.le (.v 1) (.a (.v 0) (.n 1))) rfl o (sb (m) (1))) (by exact n1 [_,_] J2 G0 rfl (Nat.sub_add_cancel (n:=m) (m:=1) (n1 [_] (.le (.n 1) (.v 0)) (.le (.n 1) (.v 0)) rfl a)))) t
  ·rw[if_neg o]
   have w:m=1:=by exact Nat.le_antisymm (n1 [_] LE LE rfl (nl o)) (n1 [_] Fb Fb rfl a)
   subst w
   have d1:=d (by exact r)
   unfold kas_descPart
   rw[KasT.kasWp_bind]
   refine ur C g (N-2) 2 (by exact Nat.le_succ 1) (by exact Nat.le_antisymm (n1 [_,_] (.le (.a (.n 2) (.v 0)) (.v 1)) (.eq (.a (.v 0) (.n 2)) (.v 1)) rfl (Nat.sub_add_cancel (n:=N) (m:=2) (n1 [_] (.le (.n 2) (.v 0)) (.le (.n 2) (.v 0)) rfl r))) (n1 [_,_] (.le (.v 0) (.a (.n 2) (.v 1))) OK rfl (sb (N) (2)))) (λi j f k=>?_) λm a b c=>?_
   ·have:i=0:=by exact Nat.le_antisymm (n2 [_,_] OI J2 (.le (.a (.v 1) (.n 1)) (.n 2)) rfl f k) (n0 [_] Jm rfl)
    have:j=1:=by exact Nat.le_antisymm (n1 [_] LE M2 rfl k) (n1 [_,_] Fb Li rfl f)
    subst i j;exact d1
   ·rw[if_neg (Nat.lt_irrefl 0)]
    show KasT.kasWp cmp (kas_tail3 m N p) Q s
    unfold kas_tail3
    rw[KasT.kasWp_bind]
    have l:=g.sz
    refine tj C (xq g 0 m) (N-m) m (by exact Nat.le_of_lt a) (by exact Nat.add_sub_cancel' b) (λi j f k=>?_) λx y u z _=>h x _ (by exact n2 [_,_] Fb LK (.le (.v 1) (.v 0)) rfl a y) u (xq g 0 m) z
    rw[xU (by exact m2 [_,_,_] J0 0 1 (-1) J4 Lr rfl b l),xU (by exact m2 [_,_,_] J0 0 1 (-1) J4 Lr rfl b l),if_pos (by exact n2 [_,_,_] J2 Fe E8 rfl f k),if_pos (by exact k)]
    exact c _ _ (by exact Nat.sub_lt_sub_left (Nat.lt_of_lt_of_le f (Nat.le_sub_one_of_lt k)) f) (by exact Nat.lt_of_le_of_lt (Nat.sub_le _ _) (Nat.sub_lt (Nat.le_of_lt a) Nat.one_pos))
theorem mN(C:As N Z cmp s){p:Array Nat}(w:Pm N p){k:Nat}(q:k<N)(A:Up Z p k){Q:Nat->Shared->Prop}:∀(f l r:Nat),r-l<=f->l<=r->r<=k->(∀i,i<l->PK Z p i<PK Z p k)->(∀i,r<=i->i<k->PK Z p k<PK Z p i)->
  (∀l,l<=k->(∀i,i<l->PK Z p i<PK Z p k)->(∀i,l<=i->i<k->PK Z p k<PK Z p i)->Q l s)->(kas_place p k f l r).kasWp cmp Q s
 |0,l,r,z,E,d,y,D,h=>h l (by exact n2 [_,_,_] J0 J4 Aj rfl E d) y λi a b=>D i (by exact n3 [_,_,_,_] J0 (.le (.v 2) (.n 0)) NB (.le (.v 0) (.a (.v 2) (.v 3))) rfl z a (sb (r) (l))) b
 |f+1,l,r,z,E,d,y,D,h=>by
  unfold kas_place
  by_cases e:l≥r
  ·rw[if_pos e]
   exact h l (by exact n2 [_,_,_] J0 J4 Aj rfl E d) y λi a b=>D i (by exact n2 [_,_,_] J0 J4 Aj rfl e a) b
  ·rw[if_neg e]
   have o:(l+r)/2<r:=by exact Nat.div_lt_of_lt_mul (by rw[Nat.two_mul];exact Nat.add_lt_add_right (Nat.lt_of_not_le e) r)
   have g:l<=(l+r)/2:=by exact(Nat.le_div_iff_mul_le Nat.two_pos).mpr (by rw[Nat.mul_two];exact Nat.add_le_add_left (Nat.le_of_lt (Nat.lt_of_not_le e)) l)
   generalize (l+r)/2=c at o g ⊢
   refine nh C (w.lt q) (w.lt (by exact n3 [_,_,_,_] J2 E8 Pa P1 rfl q d o)) (λB=>mK ?_) λB=>yf ?_
   ·refine mN C w q A f l c (by exact m4 [_,_,_,_,_,_] J0 0 1 1 1 1 (.le (.v 2) (.a (.v 1) (.n 1))) (.le (.a (.v 3) (.n 1)) (.v 4)) (.eq (.a (.v 0) (.v 5)) (.v 3)) (.le (.v 4) (.a (.v 2) (.v 5))) rfl z o (Nat.sub_add_cancel (n:=c) (m:=l) (n1 [_,_] (.le (.v 0) (.v 1)) (.le (.v 0) (.v 1)) rfl g)) (sb (r) (l))) g (by exact n2 [_,_,_] J0 Aj Fe rfl d o) y (λi a b=>?_) h
    by_cases u:i=c
    ·rw[u];exact B
    ·exact Int.lt_trans B (A c i (by exact Nat.lt_of_le_of_ne a (Ne.symm u)) b)
   ·have x:=Pm.ne C w (i:=k) (j:=c) q (by exact n3 [_,_,_,_] J2 E8 Pa P1 rfl q d o) (by exact Nat.ne_of_gt (n2 [_,_,_] J2 Aj Fe rfl d o))
    have t:¬PK Z p k<PK Z p c:=B
    refine mN C w q A f (c+1) r (by exact Nat.le_trans (Nat.sub_le_sub_left (Nat.succ_le_succ g) r) (Nat.pred_le_pred z)) (by exact o) d (λi a=>?_) D h
    by_cases u:i=c
    ·rw[u];exact iN x t
    ·exact Int.lt_trans (A i c (by exact ln a u) (by exact n2 [_,_,_] J2 Aj Fe rfl d o)) (by exact iN x t)
theorem Ex{p:Array Nat}(a:Pm N p)(i j:Nat):Pm N (bubble p i j):=by
 refine⟨by rw[bubble_size];exact a.sz,?_⟩
 exact(Array.perm_iff_toList_perm.mp (bubble_perm p i j)).trans a.pm
theorem zu{p:Array Nat}{k l:Nat}(a:k<p.size)(b:l<=k)(i:Nat):PK Z (bubble p k (k-l)) i=if i=l then PK Z p k else if l<i/\i<=k then PK Z p (i-1) else PK Z p i:=by
 have h:=getElem?_bubble a (k-l) (by exact Nat.sub_le k l) i
 have:k-(k-l)=l:=by exact Nat.sub_sub_self b
 rw[this]at h
 unfold PK
 simp only[Array.getD_eq_getD_getElem?,h]
 repeat' split
 all_goals rfl
theorem zO(C:As N Z cmp s){Q:Array Nat->Shared->Prop}:∀(f:Nat) (p:Array Nat) (k:Nat),Pm N p->f+k=N->Up Z p k->
  (∀q,Pm N q->Up Z q N->Q q s)->(kas_bin f p k).kasWp cmp Q s
 |0,p,k,t,e,m,h=>h p t (by rw[←e,Nat.zero_add];exact m)
 |f+1,p,k,t,e,m,h=>by
  unfold kas_bin
  rw[KasT.kasWp_bind]
  refine mN C t (by exact n1 [_,_,_] J2 (.eq (.a (.a (.v 2) (.n 1)) (.v 0)) (.v 1)) rfl e) m k 0 k (by exact Nat.sub_le k 0) (by exact Nat.zero_le k) (by exact Nat.le_refl k) (λi a=>by exact(Nat.not_lt_zero _ a).elim) (λi a b=>by exact(eK b a).elim) λl a b c=>?_
  refine zO C f _ (k+1) (Ex t _ _) (by exact Nat.le_antisymm (n1 [_,_,_] (.le (.a (.v 0) (.a (.v 1) (.n 1))) (.v 2)) (.eq (.a (.a (.v 0) (.n 1)) (.v 1)) (.v 2)) rfl e) (m1 [_,_,_] (.le (.v 0) (.a (.v 1) (.a (.v 2) (.n 1)))) 0 (-1) (.eq (.a (.a (.v 1) (.n 1)) (.v 2)) (.v 0)) rfl e)) (λi j d z=>?_) h
  have r:=t.sz
  rw[zu (by exact m2 [_,_,_,_] J2 0 1 (-1) OC Ln rfl e r) a,zu (by exact m2 [_,_,_,_] J2 0 1 (-1) OC Ln rfl e r) a]
  have w:=Nat.le_of_lt_succ z
  by_cases u:j=l
  ·have il:=u▸d
   rw[if_pos u,if_neg (Nat.ne_of_lt il),if_neg (c:=l<i/\i<=k) (λq=>Nat.lt_asymm q.1 il)];exact b _ il
  ·rw[if_neg u]
   by_cases o:l<j
   ·have g:=Nat.lt_of_lt_of_le (Nat.sub_lt (Nat.zero_lt_of_lt o) Nat.one_pos) w
    rw[if_pos (c:=l<j/\j<=k) ⟨o,w⟩]
    by_cases x:i=l
    ·rw[if_pos x];exact c _ (Nat.le_sub_one_of_lt o) g
    ·rw[if_neg x]
     by_cases i2:l<i
     ·rw[if_pos (c:=l<i/\i<=k) ⟨i2,Nat.le_trans (Nat.le_of_lt d) w⟩];exact m _ _ (Nat.sub_lt_sub_right (Nat.zero_lt_of_lt i2) d) g
     ·rw[if_neg (c:=l<i/\i<=k) (λq=>i2 q.1)];exact m _ _ (Nat.lt_of_lt_of_le (Nat.lt_of_le_of_ne (nl i2) x) (Nat.le_sub_one_of_lt o)) g
   ·have y:=Nat.lt_of_le_of_ne (nl o) u
    have il:=Nat.lt_trans d y
    rw[if_neg (c:=l<j/\j<=k) (λq=>o q.1),if_neg (Nat.ne_of_lt il),if_neg (c:=l<i/\i<=k) (λq=>Nat.lt_asymm q.1 il)];exact m _ _ d (Nat.lt_of_lt_of_le y a)
theorem A5(C:As N Z cmp s)(f:2<=N){Q:Array Nat->Shared->Prop}(h:∀q,Pm N q->Up Z q N->Q q s):(kas_sort N).kasWp cmp Q s:=by
 unfold kas_sort
 rw[KasT.kasWp_bind]
 refine xv C ⟨by simp,by simp⟩ f λm q a b c d=>?_
 show KasT.kasWp cmp (if m<N then _ else _) Q s
 by_cases e:m<N
 ·rw[if_pos e]
  have:max m 1=m:=by exact Nat.max_eq_left a
  rw[this]
  exact zO C _ _ _ c (by exact Nat.sub_add_cancel (Nat.le_of_lt e)) d h
 ·rw[if_neg e]
  have:m=N:=by exact Nat.le_antisymm (n1 [_,_] J0 J0 rfl b) (n1 [_,_] J0 J0 rfl (nl e))
  subst this
  exact h q c d
end
end
section
noncomputable abbrev R3:=Int×Int×Int
theorem dk{σ:Hp}:∀{xs:List AV} {rs:List R3},dI σ xs=some rs↔xs.map (kP σ)=rs.map some
 |[],rs=>by cases rs<;>simp[dI]
 |v::r,rs=>by
  refine⟨λh=>yN h λx y a b e=>by rw[←e,List.map_cons,List.map_cons,a,dk.mp b],λh=>?_⟩
  cases rs with
  |nil=>cases h
  |cons x y=>
   have q:=List.cons.inj h
   show((kP σ v).bind λx=>(dI σ r).map (x::·))=_
   rw[q.1,dk.mpr q.2];rfl
theorem AM(a:R3):jI a a=false:=by simp[jI]
theorem q7{a b c:Int}{P Q R:Prop}(k:P->Q->R)(h:a<b∨(a=b/\P))(g:b<c∨(b=c/\Q)):a<c∨(a=c/\R):=
 h.elim (λh=>g.elim (λg=>.inl (Int.lt_trans h g)) λg=>.inl (g.1▸h)) λh=>g.elim (λg=>.inl (h.1.symm▸g)) λg=>.inr ⟨h.1.trans g.1,k h.2 g.2⟩
theorem xf{a b:Int}{P Q:Prop}(k:a=b->P∨Q):(a<b∨(a=b/\P))∨(b<a∨(b=a/\Q)):=
 (Int.lt_trichotomy a b).elim (λh=>.inl (.inl h)) λh=>h.elim (λe=>(k e).elim (λp=>.inl (.inr ⟨e,p⟩)) λq=>.inr (.inr ⟨e.symm,q⟩)) λh=>.inr (.inl h)
theorem vB{a b c:R3}(h:jI a b=true)(k:jI b c=true):jI a c=true:=decide_eq_true (q7 (q7 Int.lt_trans) (of_decide_eq_true h) (of_decide_eq_true k))
theorem uQ{a b:R3}(h:a≠b):jI a b=true∨jI b a=true:=
 (xf λd=>xf λc=>(Int.lt_or_gt_of_ne λe=>h (Prod.ext d (Prod.ext c e)))).imp decide_eq_true decide_eq_true
theorem vj{c:Type}{p q:c->Bool}{l:List c}{a:c}(h:∀a∈l,p a=true->q a=true)(b:a∈l)(d:q a=true)(f:p a=false):l.countP p<l.countP q:=by
 induction b with
 |head r=>rw[List.countP_cons_of_pos d,List.countP_cons_of_neg (by rw[f];exact Bool.false_ne_true)];exact Nat.lt_succ_of_le (List.countP_mono_left λa b=>h a (.tail _ b))
 |tail x _ g=>
  rw[List.countP_cons,List.countP_cons]
  exact Nat.add_lt_add_of_lt_of_le (g λa b=>h a (.tail _ b)) (by cases e:p x with
   |true=>rw[h x (.head _) e];exact Nat.le_refl _
   |false=>exact Nat.zero_le _)
noncomputable def qQ(rs:List R3)(i:Nat):Int:=(rs.countP λa=>jI a (rs.getD i default):Nat)
theorem yO{a:Type}[Inhabited a]{l:List a}{i:Nat}(h:i<l.length):l.getD i default∈l:=by
 rw[List.getD_eq_getElem?_getD,List.getElem?_eq_getElem h];exact List.getElem_mem h
theorem lI{rs:List R3}{i j:Nat}(hi:i<rs.length)(h:jI (rs.getD i default) (rs.getD j default)=true):qQ rs i<qQ rs j:=by
 have:=vj (p:=λa=>jI a (rs.getD i default)) (q:=λa=>jI a (rs.getD j default)) (l:=rs) (λa _ b=>vB b h) (yO hi) h (AM _)
 unfold qQ;exact z1 [_,_] J2 J2 rfl (cl this)
theorem rW{rs:List R3}(a:rs.Nodup){i j:Nat}(hi:i<rs.length)(b:j<rs.length)(h:rs.getD i default=rs.getD j default):i=j:=by
 rw[List.getD_eq_getElem?_getD,List.getD_eq_getElem?_getD,List.getElem?_eq_getElem hi,List.getElem?_eq_getElem b]at h
 exact(List.getElem_inj a).mp h
theorem rI{rs:List R3}(c:rs.Nodup){i j:Nat}(hi:i<rs.length)(b:j<rs.length):decide (qQ rs i<qQ rs j)=jI (rs.getD i default) (rs.getD j default):=by
 cases h:jI (rs.getD i default) (rs.getD j default)with
 |true=>exact decide_eq_true (lI hi h)
 |false=>
  by_cases e:i=j
  ·subst e;simp
  ·rcases uQ (λx=>e (rW c hi b x))with a|a
   ·rw[h]at a;cases a
   ·have:=lI b a;simp;exact Int.le_of_lt this
theorem xY{rs:List R3}(c:rs.Nodup){i j:Nat}(hi:i<rs.length)(b:j<rs.length)(h:qQ rs i=qQ rs j):i=j:=by
 by_cases e:i=j
 ·exact e
 ·rcases uQ (λx=>e (rW c hi b x))with a|a
  ·have:=lI hi a;exact absurd h (Int.ne_of_lt this)
  ·have:=lI b a;exact absurd h (Int.ne_of_gt this)
theorem mY{a:Type}(l:List a)(d:a):(List.range l.length).map (λi=>l.getD i d)=l:=by
 apply List.ext_getElem?
 intro i
 by_cases h:i<l.length
 ·simp[h]
 ·simp[h]
section
variable {prog:Program} {w:World} {K:Frag} {T:Tb} {F:Ft} {t:Ct} {Z h₀:Heap} {A:Around} {E:Value->Shared->Prop} {L:Addr} {m:Str->Option Value} {opq:List (Addr×Obj)} {σ:Hp} {s:Shared}
theorem oA{a:Addr}{v:Value}{n:Nat}{c:List (Addr×Obj)}{P:PySem.Fin->Shared->Prop}(F:Fr h₀ L s.heap m)(N:News h₀ L s.heap c)(q:s.heap.get? a=some (seqObj "list" #[v] n))(d:a≠L)(g:h₀.get? a=none)(i:∀p∈c,p.1≠a)
  (h:∀j h',Fr h₀ L h' m->News h₀ L h' ((a,seqObj "list" #[v] j)::c)->P (.done (.ret .none)) {s with heap:=h'}):
  wpAny (model prog w) A (Builtin.«list.sort» ⟨[.ref a],[]⟩) P E s:=by
 have D:a<s.heap.objs.size:=Heap.lt_size q
 have s1:=Heap.SameBut.update s.heap a (Obj.mapSeq λ_=>(#[]:Array Value))
 obtain⟨j,o⟩:∃j,(s.heap.update a (Obj.mapSeq λ_=>(#[]:Array Value))).get? a=some (seqObj "list" #[] j):=⟨_,get?_update_seq q λ_=>#[]⟩
 have z:Fr h₀ L (((s.heap.update a (Obj.mapSeq λ_=>(#[]:Array Value))).push (seqObj "tuple" #[v] 0)).push (seqObj "list" #[] 0)) m:=((kas_fr F s1 d g).push _).push _
 have B:News h₀ L (((s.heap.update a (Obj.mapSeq λ_=>(#[]:Array Value))).push (seqObj "tuple" #[v] 0)).push (seqObj "list" #[] 0)) c:=
  (kas_news N s1 i).grown λb x e=>Heap.get?_push_of_some _ (Heap.get?_push_of_some _ e)
 have f:(((s.heap.update a (Obj.mapSeq λ_=>(#[]:Array Value))).push (seqObj "tuple" #[v] 0)).push (seqObj "list" #[] 0)).get? a=some (seqObj "list" #[] j):=Heap.get?_push_of_some _ (Heap.get?_push_of_some _ o)
 rw[list_sort_plain]
 refine wpAny_bind (listItems_at q rfl ?_)
 refine wpAny_bind (listUpdate_at q rfl ?_ (by rw[List.size_toArray,sizeLine_eq];show 1<=_;decide) (Nat.zero_le _))
 refine wpAny_bind (seqEpoch_at o rfl ?_)
 refine wpAny_bind (wpAny_newTuple ?_ (by rw[sizeLine_eq];show 1<=_;decide))
 refine wpAny_bind (wpAny_newList ?_ (Nat.zero_le _))
 refine wpAny_holding ?_
 show wpAny (model prog w) A _ P E {s with heap:=((s.heap.update a (Obj.mapSeq λ_=>(#[]:Array Value))).push (seqObj "tuple" #[v] 0)).push (seqObj "list" #[] 0)}
 dsimp only
 have k:(#[v]:Array Value).size<2:=Nat.lt_succ_self 1
 have l:Array.map (λx=>x.snd) (arrOf (SortSt.mk' general' (#[v].zip #[v]) #[] 7 none))=#[v]:=by
  show Array.map (λx=>x.snd) (#[v].zip #[v])=#[v]
  simp
 rw[if_pos k,if_pos k]
 refine wpAny_bind (wpAny_pure ?_)
 refine wpAny_bind (wpAny_pure ?_)
 dsimp only
 rw[l]
 refine wpAny_bind (seqEpoch_at f rfl ?_)
 have s2:=Heap.SameBut.update (((s.heap.update a (Obj.mapSeq λ_=>(#[]:Array Value))).push (seqObj "tuple" #[v] 0)).push (seqObj "list" #[] 0)) a (Obj.mapSeq λ_=>#[v])
 obtain⟨u,r⟩:∃u,((((s.heap.update a (Obj.mapSeq λ_=>(#[]:Array Value))).push (seqObj "tuple" #[v] 0)).push (seqObj "list" #[] 0)).update a (Obj.mapSeq λ_=>#[v])).get? a=some (seqObj "list" #[v] u):=⟨_,get?_update_seq f λ_=>#[v]⟩
 refine wpAny_bind (listUpdate_at f rfl ?_ (Nat.zero_le _) (by rw[sizeLine_eq];show 1<=_;decide))
 show wpAny _ _ (if _ then _ else _) _ _ _
 simp only[bne_self_eq_false,Bool.false_eq_true,if_false]
 refine wpAny_pure (h u _ (kas_fr z s2 d g) λp y=>?_)
 rcases au y with rfl|y
 ·exact⟨r,d,g⟩
 ·exact kas_news B s2 i p y
theorem tt{l:Addr}{v:Value}{a:List (Addr×Obj)}{Q:Value->Shared->Prop}(F:Fr h₀ L s.heap m)(N:News h₀ L s.heap a)(i:s.heap.IsList l #[v])
  (h:∀D f h',Fr h₀ L h' m->News h₀ L h' ((D,seqObj "list" #[v] f)::a)->(∀q∈a,q.1<D)->Q (.ref D) {s with heap:=h'}):
  wpAny (model prog w) A (call (.builtin "sorted") [.ref l]) Q E s:=by
 refine Calls.call_function_entry kind_sorted plain_sorted entry_sorted (args_sorted1 _) ?_
 unfold Builtin.«sorted»
 refine wpAny_bind (m:=checkCount "sorted" 1 1 _) (wpAny_pure ?_)
 refine wpAny_bind (collect_list (vs:=[v]) i ?_ (by rw[sizeLine_eq];show 1<=_;decide))
 refine wpAny_bind (wpAny_newList ?_ (by rw[sizeLine_eq];show 1<=_;decide))
 have d:((s.heap.push (seqObj "list" #[] 0)).update s.heap.objs.size (Obj.mapSeq (·++#[v]))).objs.size=s.heap.objs.size+1:=by
  rw[Heap.size_update,size_push']
 have e:(((s.heap.push (seqObj "list" #[] 0)).update s.heap.objs.size (Obj.mapSeq (·++#[v]))).push (seqObj "list" #[v] 0)).get? (s.heap.objs.size+1)=some (seqObj "list" #[v] 0):=by
  rw[←d];exact Heap.get?_push_size _ rfl
 have keep:∀b o,s.heap.get? b=some o->(((s.heap.push (seqObj "list" #[] 0)).update s.heap.objs.size (Obj.mapSeq (·++#[v]))).push (seqObj "list" #[v] 0)).get? b=some o:=λb o q=>by
  have c:b<s.heap.objs.size:=Heap.lt_size q
  rw[Heap.get?_push_ne _ _ _ (by rw[d];exact Nat.ne_of_lt (Nat.lt_succ_of_lt c)),Heap.get?_update_ne _ _ _ _ (Nat.ne_of_lt c),Heap.get?_push_ne _ _ _ (Nat.ne_of_lt c)]
  exact q
 have g:L<s.heap.objs.size:=F.ns.lt
 show wpAny _ _ _ _ _ {s with heap:=((s.heap.push (seqObj "list" #[] 0)).update s.heap.objs.size (Obj.mapSeq (·++#[v]))).push (seqObj "list" #[v] 0)}
 rw[d]
 refine wpAny_bind (wpAny_holding (wpAny_call_entry slot_list_sort ⟨_,e,rfl⟩ entry_list_sort ?body (args_list_sort _)))
 case body=>
  refine oA (s:={s with heap:=((s.heap.push (seqObj "list" #[] 0)).update s.heap.objs.size (Obj.mapSeq (·++#[v]))).push (seqObj "list" #[v] 0)})
   (F.kept keep) (N.grown keep) e (Nat.ne_of_gt (Nat.lt_succ_of_lt g)) (Heap.get?_none_of_le (Nat.le_trans F.above (Nat.le_succ_of_le (Nat.le_of_lt g))))
   (λp r=>Nat.ne_of_lt (Nat.lt_succ_of_lt (Heap.lt_size (N p r).1))) λf h' j k=>?_
  exact⟨_,rfl,wpAny_pure ⟨_,rfl,h _ f h' j k λq n=>Nat.lt_succ_of_lt (Heap.lt_size (N q n).1)⟩⟩
theorem wK{x y:Int}{t u:Tok}{Q:Bool->Shared->Prop}(h:Q (decide (x<y)) s):wpAny (model prog w) A (oneLt' true (.int x t) (.int y u)) Q E s:=oneLt_int h
theorem lK{b a:Type}{P:Prop}{o:Option b}{f:b->Option a}{y:a}(h:o.bind f=some y)(k:∀x,o=some x->f x=some y->P):P:=by
 cases o with
 |none=>exact oW h
 |some x=>exact k x rfl h
theorem DY{v:AV}{r:Addr}(h:PO v=some r):v=.ref r:=by
 cases v with
 |ref a=>rw[Option.some.inj h]
 |_=>cases h
theorem AP{o:AO}{a:AV}{l:List AV}(h:Fp o=a::l):o=.tup (a::l):=by
 cases o with
 |tup b=>rw[show b=a::l from h]
 |_=>cases h
theorem sC{v:AV}{i:Int}(h:A1 v=some i):v=.int i:=by
 cases v with
 |int a=>rw[Option.some.inj h]
 |_=>cases h
theorem Br{l:List AV}{x:R3}(h:Gm l=some x):l=[.int x.1,.int x.2.1,.int x.2.2]:=by
 cases l with
 |nil=>exact oW h
 |cons a l=>cases l with
  |nil=>exact oW h
  |cons b l=>cases l with
   |nil=>exact oW h
   |cons c l=>cases l with
    |cons d l=>exact oW h
    |nil=>exact lK h λa f h=>lK h λb e h=>(Option.map_eq_some_iff.mp h).elim λc h=>by rw[sC f,sC e,sC h.1,←h.2]
theorem Ch{P:Prop}{v:AV}{u:Value}{x:R3}(st:Z.StaysIn h₀)(H:HS T Z h₀ L opq m σ s.heap)(h:kP σ v=some x)(r:VR u v)
  (k:∀a t1 t2 t3 n,u=.ref a->s.heap.get? a=some (kJ [.int x.1 t1,.int x.2.1 t2,.int x.2.2 t3] n)->P):P:=
 lK h λa d h=>lK h λc f h=>by
  rw[DY d]at r
  have e:σ a=some (c.1,.tup [.int x.1,.int x.2.1,.int x.2.2]):=f.trans (congrArg some (Prod.ext rfl (AP (Br h))))
  refine(H.tup st e).elim λl d=>d.elim λn d=>?_
  obtain⟨g1,b⟩:=d
  cases b with
  |cons j b=>cases b with
   |cons i b=>cases b with
    |cons g b=>
     cases b
     obtain⟨t1,rfl⟩:=j.int;obtain⟨t2,rfl⟩:=i.int;obtain⟨t3,rfl⟩:=g.int
     exact k a t1 t2 t3 n r.ref g1
theorem yS{u v:Value}{x y:R3}{a b:Addr}{t1 t2 t3 g f e:Tok}{n k:Nat}{C:Bool->Shared->Prop}(j:s.heap.get? a=some (kJ [.int x.1 t1,.int x.2.1 t2,.int x.2.2 t3] n))
  (l:s.heap.get? b=some (kJ [.int y.1 g,.int y.2.1 f,.int y.2.2 e] k)) (h:C (jI x y) s):wpAny (model prog w) A (keyLt' (tuples' true) (.ref a) (.ref b)) C E s:=by
 refine kat_lt j rfl l rfl ?_
 have o:decide ((#[Value.int x.1 t1,.int x.2.1 t2,.int x.2.2 t3]:Array Value).size<(#[Value.int y.1 g,.int y.2.1 f,.int y.2.2 e]:Array Value).size)=false:=rfl
 rw[show decide ([Value.int x.1 t1,.int x.2.1 t2,.int x.2.2 t3].toArray.size<[Value.int y.1 g,.int y.2.1 f,.int y.2.2 e].toArray.size)=false from rfl]
 show KatLex prog w A true false C [(.int x.1 t1,.int y.1 g),(.int x.2.1 t2,.int y.2.1 f),(.int x.2.2 t3,.int y.2.2 e)] 0 s
 refine kat_cons (wpAny_eqBool_int ?_)
 by_cases c:x.1=y.1
 ·rw[c,beq_self_eq_true]
  refine kat_yes (kat_cons (wpAny_eqBool_int ?_))
  by_cases d:x.2.1=y.2.1
  ·rw[d,beq_self_eq_true]
   refine kat_yes (kat_cons (wpAny_eqBool_int ?_))
   by_cases i:x.2.2=y.2.2
   ·rw[i,beq_self_eq_true]
    refine kat_yes (kat_nil ?_)
    have:jI x y=false:=by simp[jI,c,d,i]
    rw[this]at h;exact h
   ·rw[beq_eq_false_iff_ne.mpr i]
    refine kat_no (kat_one _ _ (lt_int ?_))
    have:jI x y=decide (x.2.2<y.2.2):=by simp[jI,c,d]
    rw[this]at h;exact h
  ·rw[beq_eq_false_iff_ne.mpr d]
   refine kat_no (kat_one _ _ (lt_int ?_))
   have:jI x y=decide (x.2.1<y.2.1):=by simp[jI,c,d]
   rw[this]at h;exact h
 ·rw[beq_eq_false_iff_ne.mpr c]
  refine kat_no (wK ?_)
  have:jI x y=decide (x.1<y.1):=by simp[jI,c]
  rw[this]at h;exact h
theorem oQ{h':Heap}:∀(vs:List Value),(∀v∈vs,∃a x t1 t2 t3 n,v=.ref a/\h'.get? a=some (kJ [.int (x:R3).1 t1,.int x.2.1 t2,.int x.2.2 t3] n))->
  ∃fs,KatTups h' vs fs/\fs.length=vs.length/\∀f∈fs,∃i t,f=.int i t
 |[],_=>⟨[],trivial,rfl,λ_ h=>nM h⟩
 |v::vs,h=>by
  obtain⟨fs,d,g,e⟩:=oQ vs λv j=>h v (.tail _ j)
  obtain⟨a,x,t1,t2,t3,n,rfl,c⟩:=h v (.head _)
  exact⟨.int x.1 t1::fs,.cons c rfl rfl rfl d,by simp[g],λf b=>by
   rcases au b with rfl|b
   ·exact⟨_,_,rfl⟩
   ·exact e f b⟩
theorem lQ{a:Type}{l:List a}{i:Nat}{d:a}(h:i<l.length):l[i]?=some (l.getD i d):=by rw[List.getD_eq_getElem?_getD,List.getElem?_eq_getElem h];rfl
theorem pU{b:Type}{l:List b}{i:Nat}{d a:b}(h:l[i]?=some a):l.getD i d=a:=by rw[List.getD_eq_getElem?_getD,h];rfl
theorem CH{xs:List AV}{rs:List R3}(a:xs.map (kP σ)=rs.map some){i:Nat}(h:i<xs.length):kP σ (xs.getD i .undef)=some (rs.getD i default):=by
 have e:(xs.map (kP σ))[i]?=(rs.map some)[i]?:=congrArg (λl=>l[i]?) a
 have b:i<rs.length:=by have:=congrArg List.length a;rw[List.length_map,List.length_map]at this;rw[←this];exact h
 rw[List.getElem?_map,List.getElem?_map,lQ (d:=AV.undef) h,lQ (d:=default) b]at e
 exact Option.some.inj e
theorem tB{P:Prop}{vs:List Value}{xs:List AV}{rs:List R3}(st:Z.StaysIn h₀)(H:HS T Z h₀ L opq m σ s.heap)(b:aF VR vs xs)(f:xs.map (kP σ)=rs.map some){i:Nat}(h:i<vs.length)
  (k:∀a t1 t2 t3 n,vs.getD i .none=.ref a->s.heap.get? a=some (kJ [.int (rs.getD i default).1 t1,.int (rs.getD i default).2.1 t2,.int (rs.getD i default).2.2 t3] n)->P):P:=
 have c:i<xs.length:=b.length▸h
 b.at (lQ (d:=AV.undef) c) λu j l=>Ch st H (CH f c) l λa t1 t2 t3 n e g=>k a t1 t2 t3 n ((pU j).trans e) g
theorem qj{vs:List Value}{xs:List AV}(a:aF VR vs xs):∀l:List Nat,(∀i∈l,i<vs.length)->aF VR (l.map λi=>vs.getD i .none) (l.map λi=>xs.getD i .undef)
 |[],_=>.nil
 |i::l,h=>.cons (a.at (lQ (d:=AV.undef) (a.length▸h i (.head _))) λu b c=>show VR (vs.getD i .none) _ by rw[pU b];exact c) (qj a l λj e=>h j (.tail _ e))
theorem o9{a:Type}{q:List Nat}{xs:List a}{n:Nat}(d:a)(h:q.Perm (List.range n))(e:n=xs.length):(q.map λi=>xs.getD i d).Perm xs:=by
 have k:=h.map λi=>xs.getD i d
 rw[e,mY]at k
 exact k
theorem vX(Q:PX)(r:Addr)(vs:List Value)(n:Nat)(xs:List AV)(rs:List R3)(st:Z.StaysIn h₀)(H:HS T Z h₀ L opq m σ s.heap)(g1:s.heap.get? r=some (jF vs n))(J:aF VR vs xs)(c2:2<=vs.length)(h0:vs.length<=60)(O:xs.map (kP σ)=rs.map some)(o:vs.length=rs.length)(nd:rs.Nodup)
   (h:∀c (ys:List AV) (ts:List (Int×Int×Int)),σ c=none->ys.Perm xs->dI σ ys=some ts->ts.Perm rs->ts.Pairwise (λa b=>jI a b=true)->Q (.ref c) (upd σ c (false,.list ys))):
   wpAny (model prog w) A (call (.builtin "sorted") [.ref r]) (aC T Z h₀ L opq m Q s) E s:=by
 refine H.casesOn λg tu I D Fh N R=>kat_sorted Fh N (aL g1) c2 (Nat.lt_succ_of_le (Nat.le_trans h0 (Nat.le_add_right 60 3))) λd c l F' N' hn=>?_
 have W:HS T Z h₀ L opq m σ l:=⟨g,tu,I,D,F',λp hp=>N' p (.tail _ hp),R⟩
 obtain⟨fs,Y,ζ,β⟩:=oQ (h':=l) vs λv hv=>(List.mem_iff_getElem.mp hv).elim λi f=>f.elim λf e=>tB (s:={s with heap:=l}) st W J O f λa t1 t2 t3 n e3 e4=>
  ⟨a,_,t1,t2,t3,n,e.symm.trans ((pU (List.getElem?_eq_getElem f)).symm.trans e3),e4⟩
 refine kat_kind (s:={s with heap:=l}) (T:=.type "int") Y (Nat.le_of_succ_le (ζ.symm▸c2)) (λv hv=>(β v hv).elim λi h=>h.elim λt h=>h▸Looks.of_pure rfl) (by decide) ?_
 have C:As vs.length (qQ rs) (kas_ask prog w A.in1.in1 (tuples' (Value.type "int"!=Value.type "tuple")) vs) {s with heap:=l}:=by
  refine⟨λi j C f y hC=>tB (s:={s with heap:=l}) st W J O f λa t1 t2 t3 n1 e3 e4=>tB (s:={s with heap:=l}) st W J O y λb t4 t5 t6 n2 e5 e6=>?_,λi j f y=>xY nd (o▸f) (o▸y)⟩
  unfold kas_ask
  rw[e3,e5]
  rw[rI nd (o▸f) (o▸y)]at hC
  exact yS (u:=.none) (v:=.none) e4 e6 hC
 refine A5 C c2 λq z V=>KasFin.intro F' N' (.head λp hp=>Nat.ne_of_lt (hn p hp)) λη c' δ U=>?_
 have lt:∀i∈q.toList,i<vs.length:=λi f=>List.mem_range.mp (z.pm.mem_iff.mp f)
 have e1:=J.length
 refine HS.newL (n:=c') tu R δ U hn rfl (qj J _ lt) λx hx=>h x _ (q.toList.map λi=>rs.getD i default) hx (o9 _ z.pm e1) (dk.mpr ?_) (o9 _ z.pm o) ?_
 ·rw[List.map_map,List.map_map]
  exact List.map_congr_left λi f=>CH O (e1▸lt i f)
 ·rw[List.pairwise_map,List.pairwise_iff_getElem]
  intro i j f y γ
  have ε:i<vs.length:=z.sz▸f
  have G:j<vs.length:=z.sz▸y
  have h2:=rI nd (o▸z.lt ε) (o▸z.lt G)
  replace h2:=(decide_eq_true (V i j γ G)).symm.trans h2
  have B:∀{k} (hk:k<q.toList.length),q.getD k 0=q.toList[k]:=λhk=>by simp[Array.getD,show _<q.size from hk]
  rw[←B f,←B y];exact h2.symm
theorem BK{d c:Type}{R:d->c->Prop}{P:List d->List c->Prop}{l₁:List d}{l₂:List c}(h:aF R l₁ l₂)(n:P [] [])(o:∀a b,R a b->P [a] [b])(m:∀l₁ l₂,aF R l₁ l₂->2<=l₁.length->P l₁ l₂):P l₁ l₂:=by
 cases h with
 |nil=>exact n
 |cons a r=>cases r with
  |nil=>exact o _ _ a
  |cons b r=>exact m _ _ (.cons a (.cons b r)) (Nat.le_add_left 2 _)
theorem rows_len{xs:List AV}{rs:List R3}(a:xs.map (kP σ)=rs.map some):xs.length=rs.length:=by have:=congrArg List.length a;rw[List.length_map,List.length_map]at this;exact this
theorem sE(Q:PX)(r:Addr)(fz:Bool)(xs:List AV)(rs:List R3)(st:Z.StaysIn h₀)(H:HS T Z h₀ L opq m σ s.heap)(ex:σ r=some (fz,.list xs))(G:xs.length<=60)(f:dI σ xs=some rs)(V:rs.Nodup)
   (h:∀c (ys:List AV) (ts:List (Int×Int×Int)),σ c=none->ys.Perm xs->dI σ ys=some ts->ts.Perm rs->ts.Pairwise (λa b=>jI a b=true)->Q (.ref c) (upd σ c (false,.list ys))):
   wpAny (model prog w) A (call (.builtin "sorted") [.ref r]) (aC T Z h₀ L opq m Q s) E s:=
 (H.list st ex).elim λj g=>g.elim λn g=>BK (P:=λj xs=>s.heap.get? r=some (jF j n)->xs.length<=60->dI σ xs=some rs->
   (∀c (ys:List AV) (ts:List (Int×Int×Int)),σ c=none->ys.Perm xs->dI σ ys=some ts->ts.Perm rs->ts.Pairwise (λa b=>jI a b=true)->Q (.ref c) (upd σ c (false,.list ys)))->wpAny (model prog w) A (call (.builtin "sorted") [.ref r]) (aC T Z h₀ L opq m Q s) E s) g.2
  (λg1 _ f h=>H.casesOn λg k i D u N R=>kso_sorted (ns:=[]) u N (aL g1) .nil (by decide) λd U I c J o q B z O hp hs _=>by
   obtain rfl:=List.length_eq_zero_iff.mp O
   cases z
   exact HS.newL (n:=c) k R o q B rfl .nil λr l=>h r _ rs l (.refl _) f (.refl _) (by rw[List.length_eq_zero_iff.mp (rows_len (dk.mp f)).symm];exact .nil))
  (λv x Y g1 _ f h=>H.casesOn λg k i D u N R=>tt u N (aL g1) λd c J o q B=>HS.newL (n:=c) k R o q B rfl (.one Y) λr l=>h r _ rs l (.refl _) f (.refl _) (by
   obtain⟨y,e⟩:=List.length_eq_one_iff.mp (rows_len (dk.mp f)).symm
   rw[e];exact List.pairwise_singleton _ _))
  (λj xs p W g1 G f h=>vX Q r j n xs rs st H g1 p W (by rw[p.length];exact G) (dk.mp f) (p.length.trans (rows_len (dk.mp f))) V h) g.1 G f h
theorem tq(Q:PX)(r:Addr)(fz:Bool)(es:List (Int×AV))(st:Z.StaysIn h₀)(hh:A.handled=none)(H:HS T Z h₀ L opq m σ s.heap)(ex:σ r=some (fz,.dict es))(h0:es.length<=60)
   (h:∀c (ns':List Int),σ c=none->ns'.Perm (es.map (·.1))->ns'.Pairwise (·<=·)->Q (.ref c) (upd σ c (false,.list (ns'.map .int)))):
   wpAny (model prog w) A (call (.builtin "sorted") [.ref r]) (aC T Z h₀ L opq m Q s) E s:=by
 obtain⟨ob,kvs,g1,g2,g3,g4⟩:=H.dict st ex
 have hD:s.heap.DictOf (intKind prog w) r kvs:=Heap.dictOf_iff.mpr ⟨ob,g1,g3 prog w⟩
 have e1:=g2.length
 obtain⟨g,tu,news,D,Fh,N,R⟩:=H
 obtain⟨ep,hat⟩:=hD.dictAt
 refine kdu_sorted (kdl_dict (knd:=intKind prog w) (kvs:=kvs) (ep:=ep) (by simpa using g4)) hh Fh N hat (by rw[sizeLine_eq];exact n2 [_,_] (.le (.v 0) (.n 16777216)) yQ C1 rfl h0 e1) λd h' tk us F' N' hn hl hv=>?_
 have hi:IntsAre us (es.map (·.1)):=by
  have:∀(us:List Value) (kvs:List (Int×Value)) (es:List (Int×AV)),us.length=kvs.length->aF KR kvs es->(∀(j:Nat) (v:Value),us[j]?=some v->∃k x,kvs[j]?=some (k,x)/\(intKind prog w).is k v=true)->IntsAre us (es.map (·.1)):=by
   intro us
   induction us with
   |nil=>intro kvs es hl g2 _;cases g2 with
    |nil=>exact .nil
    |cons _ _=>simp at hl
   |cons u us ih=>
    intro kvs es hl g2 hv
    cases g2 with
    |nil=>simp at hl
    |cons a b=>
     obtain⟨k,x,h1,h2⟩:=hv 0 u rfl
     simp only[List.getElem?_cons_zero,Option.some.injEq]at h1
     obtain⟨t,rfl⟩:=Value.isInt_shape h2
     have:=a.1
     rw[h1]at this
     obtain rfl:k=_:=this
     exact .cons _ t (ih _ _ (by simpa using hl) b λj v hj=>by simpa using hv (j+1) v (by simpa using hj))
  exact this us kvs es hl g2 hv
 have hl2:=hi.length
 refine ksk_lsort (news':=λo=>(d,o)::news) (its:=us.toArray) (n:=0) F' N' (λo=>.head λp hp e=>absurd (hn p hp) (by rw[e];exact Nat.lt_irrefl _)) rfl hi (by exact m4 [_,_,_,_] (.le (.a (.v 0) (.n 1)) (.n 64)) 0 1 1 1 (-1) yQ (.eq (.v 2) (.v 1)) PN (.eq (.v 3) (.v 0)) rfl h0 e1 hl hl2) λvs' ns' c h2 F2 N2 hi' _ hp hs _=>?_
 exact HS.newL (n:=c) tu R F2 N2 hn rfl (uU hi') λr hr=>h r _ hr hp hs
theorem yi{Q:PX}{b:BF}{as:List AV}{vs:List Value}(st:Z.StaysIn h₀)(g:A.handled=none)(l:aF VR vs as)(H:HS T Z h₀ L opq m σ s.heap)(h:eO b as σ Q):
  wpAny (model prog w) A (call (Jv b) vs) (aC T Z h₀ L opq m Q s) E s:=
 qt (λQ r f k j a b c d e=>sE Q r f k j st H a b c d e) (λQ r f i a b c=>tq Q r f i st g H a b c) st g l H h
end
end
section
structure Fn(A A':Around):Prop where
 fr:A'.frames=A.frames
 hh:A'.handled=A.handled
 dp:A'.depth<=A.depth+2
 un:A'.units<=A.units+10
theorem Fn.refl(A:Around):Fn A A:=⟨rfl,rfl,by exact Nat.le_add_right A.depth 2,by exact Nat.le_add_right A.units 10⟩
def gY(prog:Program)(w:World)(T:Tb)(cal:bj)(A:Around)(Z h₀:Heap)(L:Addr):Prop:=
 ∀(d:Around) (f:Addr) (c:List AV) (b:List Value) (σ:Hp) (s:Shared) (opq:List (Addr×Obj)) (m:Str->Option Value) (Q:PX) (R:Result->Shared->Prop),
  Fn A d->cal f c σ Q->aF VR b c->HS T Z h₀ L opq m σ s.heap->(∀v a,aC T Z h₀ L opq m Q s v a->R (.ok (.ret v)) a)->codeAny (model prog w) d (.call (.ref f) ⟨b,[]⟩) R s
def gc(a b:Option NameKind):Prop:=a=b∨(a=some .free/\b=some .cell)
theorem gc.local{b:Option NameKind}(h:gc (some .local) b):b=some .local:=h.elim Eq.symm λh=>absurd h.1 (by decide)
theorem gc.cell{b:Option NameKind}(h:gc (some .cell) b):b=some .cell:=h.elim Eq.symm λh=>absurd h.1 (by decide)
theorem gc.glo{b:Option NameKind}(h:gc (some .globalImplicit) b):b=some .globalImplicit:=h.elim Eq.symm λh=>absurd h.1 (by decide)
structure Lv(prog:Program)(w:World)(K:Frag)(T:Tb)(F:Ft)(t:Ct)(cal:bj)(A:Around)(env:Env)(n:Cn)(Z h₀:Heap)(L:Addr)(m:Str->Option Value)(opq:List (Addr×Obj))(l:aG):Prop where
 gd:Gd K Z h₀ A env
 ok:CE K T F t
 lr:AT env n.nm m opq l
 sc:∀x,gc (n.sc.names.lookup x) (env.scope.names.lookup x)
 lo:env.locals=L
 cc:n.lf=false->∀y,vW (env.scope.names.lookup y)=true->(env.cells.lookup y).isSome=true
 ca:n.lf=false->gY prog w T cal A Z h₀ L
 hh:n.lf=false->A.handled=none
section
variable {prog:Program} {w:World} {K:Frag} {T:Tb} {F:Ft} {t:Ct} {cal:bj} {A:Around} {env:Env} {n:Cn} {Z h₀:Heap} {L:Addr} {m:Str->Option Value} {opq:List (Addr×Obj)} {l:aG} {E:Value->Shared->Prop} {σ:Hp} {s:Shared}
theorem bH{a:Option Nat}{i:Nat}(h:gT a i=true):a=some i:=by
 cases a with
 |none=>cases h
 |some j=>rw[show j=i by simpa[gT]using h]
@[elab_as_elim] theorem fR{b:Type}{P:Option b->Prop}{a:Option b}(h:isNone a=true)(f:P none):P a:=by
 cases a with
 |none=>exact f
 |some j=>exact fT h
theorem b8{o:Option NameKind}{k:NameKind}(h:uV o k=true):o=some k:=of_decide_eq_true h
theorem lB{a:Type}{P:Prop}{c:Bool}{o:Option a}{i:a}(h:(bif c then o else none)=some i)(f:c=true->o=some i->P):P:=by
 cases c with
 |false=>exact oW h
 |true=>exact f rfl h
theorem Bv{a:AV}{k:AV->Prop}(h:zK a k):a≠.undef/\k a:=by
 refine⟨λe=>by subst e;exact h,?_⟩
 cases a with
 |undef=>exact h.elim
 |_=>exact h
theorem sq{Q:PX}{x:Str}{i:Nat}(lv:Lv prog w K T F t cal A env n Z h₀ L m opq l)(y:n.loc x=some i)(H:HS T Z h₀ L opq m σ s.heap)
  (h:dc F cal (.v i) l σ Q):wpAny (model prog w) A (loadName env x) (aC T Z h₀ L opq m Q s) E s:=by
 refine lB y λc u=>?_
 have f:=Bv (show zK (get l i) λv=>Q v σ from h)
 obtain⟨v,d,r⟩:=lv.lr x i u f.1
 have a:aC T Z h₀ L opq m Q s v s:=aC.same0 H r f.2
 have j:=lv.sc x
 refine H.casesOn λg I q D B N R=>?_
 rcases d with d|⟨G,J,o,p,z,k⟩
 ·exact wpAny_loadName_local lv.gd.fk d.1 (lv.lo▸B.ns) d.2 a
 ·have cell:=(N _ (R.oq _ z).1).1
  refine bor G (λe=>wpAny_loadName_cell lv.gd.fk (b8 e) p ⟨o,cell,k⟩ a) λe=>wpAny_loadName_free lv.gd.fk (b8 e) p ⟨o,cell,k⟩ a ?_
  rw[b8 e]at j
  have b:n.sc.names.lookup x=some .free:=j.elim id λh=>nomatch h.2
  refine bor c (λc=>bor c (λc=>?_) λc=>?_) λc=>gF c λ_ c=>nt c
  ·rw[b8 c]at b;cases b
  ·rw[b8 c]at b;cases b
theorem wZ{Q:PX}{x:Str}{i:Nat}{pos:Pos}(lv:Lv prog w K T F t cal A env n Z h₀ L m opq l)(hd:(x==qD)=false)(a:n.loc x=some i)(H:HS T Z h₀ L opq m σ s.heap)
  (h:dc F cal (.v i) l σ Q):wpAny (model prog w) A (eval (.Name x pos) env) (aC T Z h₀ L opq m Q s) E s:=wpAny_Name (sq lv a H h) hd
theorem nL{x:Str}{v:Value}{pos:Pos}{Q:Value->Shared->Prop}(lv:Lv prog w K T F t cal A env n Z h₀ L m opq l)(hd:(x==qD)=false)(j:n.glo x=true)(H:HS T Z h₀ L opq m σ s.heap)
  (e:nsIn K mainGlobals x=some (some v)) (h:Q v s):wpAny (model prog w) A (eval (.Name x pos) env) Q E s:=by
 obtain⟨g,d,i,D,k,N,R⟩:=H
 obtain⟨p,c,o,q,f⟩:=(lv.gd.turn d.base).tr
 have b:=b8 j
 have a:=lv.sc x
 rw[b]at a
 replace b:=a.glo
 refine wpAny_Name ?_ hd
 rw[loadName_read lv.gd.fk b]
 unfold loadGlobal
 refine wpAny_bind (wpAny_nsGet (m:=o) (by rw[lv.gd.gl];exact f.g.keeps k.keep) ?_)
 rw[mg_of (lv.gd.turn d.base).X f.g e]
 exact wpAny_pure h
theorem mh{x:Str}{v:Value}{pos:Pos}{Q:Value->Shared->Prop}(lv:Lv prog w K T F t cal A env n Z h₀ L m opq l)(hd:(x==qD)=false)(o:n.glo x=true)(H:HS T Z h₀ L opq m σ s.heap)
  (e:nsIn K mainGlobals x=some none) (y:bootBuiltins x=some v) (u:x≠"__name__") (h:Q v s):wpAny (model prog w) A (eval (.Name x pos) env) Q E s:=by
 obtain⟨g,i,k,D,j,N,R⟩:=H
 obtain⟨p,f,r,q,c⟩:=(lv.gd.turn i.base).tr
 have d:=b8 o
 have a:=lv.sc x
 rw[d]at a
 replace d:=a.glo
 refine wpAny_Name ?_ hd
 rw[loadName_read lv.gd.fk d]
 unfold loadGlobal
 refine wpAny_bind (wpAny_nsGet (m:=r) (by rw[lv.gd.gl];exact c.g.keeps j.keep) ?_)
 rw[mg_none_of (lv.gd.turn i.base).X c.g e]
 refine wpAny_bind (wpAny_nsGet (m:=q) (by rw[lv.gd.bu];exact c.b.keeps j.keep) ?_)
 rw[(c.builtins x u).trans y]
 exact wpAny_pure h
theorem Bz(b:BF):bootBuiltins (nk b)=some (Jv b):=by cases b<;>(first|rfl|decide+kernel)
theorem tY:bootBuiltins gh=some (.type "range"):=by first|rfl|decide+kernel
theorem AF(b:BF):nk b≠"__name__":=by cases b<;>decide
end
end
section
structure Wd where
 prog:Program
 w:World
 K:Frag
 T:Tb
 F:Ft
 t:Ct
 cal:bj
 A:Around
 hb:Heap
 h₀:Heap
namespace Wd
variable (W:Wd)
noncomputable abbrev M:Model:=model W.prog W.w
abbrev L(env:Env)(n:Cn)(L:Addr)(m:Str->Option Value)(opq:List (Addr×Obj))(l:aG):Prop:=Lv W.prog W.w W.K W.T W.F W.t W.cal W.A env n W.hb W.h₀ L m opq l
abbrev H(L:Addr)(opq:List (Addr×Obj))(m:Str->Option Value)(σ:Hp)(h:Heap):Prop:=HS W.T W.hb W.h₀ L opq m σ h
abbrev P(L:Addr)(opq:List (Addr×Obj))(m:Str->Option Value)(Q:PX)(s:Shared):Value->Shared->Prop:=aC W.T W.hb W.h₀ L opq m Q s
inductive PL(L:Addr)(opq:List (Addr×Obj))(m:Str->Option Value)(Q:List AV->Hp->Prop)(s:Shared)(vs:List Value)(s':Shared):Prop
 |mk as σ' h' tk (h1:s'={s with heap:=h',toks:=tk}) (h2:aF VR vs as) (h3:W.H L opq m σ' h') (h4:Q as σ'):PL L opq m Q s vs s'
inductive PB(L:Addr)(opq:List (Addr×Obj))(m:Str->Option Value)(Q:Bool->Hp->Prop)(s:Shared)(b:Bool)(s':Shared):Prop
 |mk σ' h' tk (h1:s'={s with heap:=h',toks:=tk}) (h2:W.H L opq m σ' h') (h3:Q b σ'):PB L opq m Q s b s'
def SX(n:Cn)(x:X)(e:Expr):Prop:=∀env L m opq l σ s Q E,W.L env n L m opq l->W.H L opq m σ s.heap->dc W.F W.cal x l σ Q->wpAny W.M W.A (eval e env) (W.P L opq m Q s) E s
def SXS(n:Cn)(xs:XS)(es:List Expr):Prop:=∀env L m opq l σ s pos Q E,W.L env n L m opq l->W.H L opq m σ s.heap->kX W.F W.cal xs l σ Q->wpAny W.M W.A (spliced (backTo pos (starEach es env))) (W.PL L opq m Q s) E s
def SC(n:Cn)(c:C)(e:Expr):Prop:=∀env L m opq l σ s Q E,W.L env n L m opq l->W.H L opq m σ s.heap->Ae W.F W.cal c l σ Q->wpAny W.M W.A (isTrue e env (eval e env)) (W.PB L opq m Q s) E s
noncomputable def SCS(n:Cn):CS->List Expr->Prop
 |.nil,[]=>True
 |.cons c a,e::r=>W.SC n c e/\SCS n a r
 |_,_=>False
end Wd
section
variable {W:Wd} {env:Env} {n:Cn} {L:Addr} {m:Str->Option Value} {opq:List (Addr×Obj)} {l:aG} {E:Value->Shared->Prop} {σ:Hp} {s:Shared}
def d8(s s':Shared):Prop:=∃b a,s'={s with heap:=b,toks:=a}
theorem d8.refl(s:Shared):d8 s s:=⟨s.heap,s.toks,rfl⟩
theorem d8.trans{s s' c:Shared}(a:d8 s s')(b:d8 s' c):d8 s c:=by
 obtain⟨h,t,rfl⟩:=a
 obtain⟨d,e,rfl⟩:=b
 exact⟨d,e,rfl⟩
theorem mQ{Q:PX}{s':Shared}(e:d8 s s'){v:Value}{a:Shared}(p:W.P L opq m Q s' v a):W.P L opq m Q s v a:=aC.trans (h':=s.heap) (tk:=0) e p
theorem DQ{Q:List AV->Hp->Prop}{s':Shared}(e:d8 s s'){v:List Value}{b:Shared}(p:W.PL L opq m Q s' v b):W.PL L opq m Q s v b:=by
 obtain⟨i,j,rfl⟩:=e
 obtain⟨a,d,g,c,rfl,r,f,h⟩:=p
 exact⟨a,d,g,c,rfl,r,f,h⟩
theorem j6{Q:Bool->Hp->Prop}{s':Shared}(e:d8 s s'){v:Bool}{a:Shared}(p:W.PB L opq m Q s' v a):W.PB L opq m Q s v a:=by
 obtain⟨g,h,rfl⟩:=e
 obtain⟨c,f,b,rfl,r,d⟩:=p
 exact⟨c,f,b,rfl,r,d⟩
theorem aN{t:Sem Value}{Q:PX}{R:Value->Shared->Prop}(h:wpAny W.M W.A t (W.P L opq m Q s) E s)
  (c:∀v a b s',d8 s s'->VR v a->W.H L opq m b s'.heap->Q a b->R v s'):wpAny W.M W.A t R E s:=
 wpAny_mono h (λv s' p=>by
  obtain⟨a,b,e,f,rfl,g,i,d⟩:=p
  exact c v a b _ ⟨e,f,rfl⟩ g i d) λ_ _ x=>x
theorem xz{t:Sem (List Value)}{Q:List AV->Hp->Prop}{R:List Value->Shared->Prop}(h:wpAny W.M W.A t (W.PL L opq m Q s) E s)
  (c:∀v a b s',d8 s s'->aF VR v a->W.H L opq m b s'.heap->Q a b->R v s'):wpAny W.M W.A t R E s:=
 wpAny_mono h (λv s' p=>by
  obtain⟨a,b,e,f,rfl,g,i,d⟩:=p
  exact c v a b _ ⟨e,f,rfl⟩ g i d) λ_ _ x=>x
theorem jv{t:Sem Bool}{Q:Bool->Hp->Prop}{R:Bool->Shared->Prop}(h:wpAny W.M W.A t (W.PB L opq m Q s) E s)
  (c:∀v a s',d8 s s'->W.H L opq m a s'.heap->Q v a->R v s'):wpAny W.M W.A t R E s:=
 wpAny_mono h (λv s' p=>by
  obtain⟨a,d,e,rfl,f,b⟩:=p
  exact c v a _ ⟨d,e,rfl⟩ f b) λ_ _ x=>x
theorem gw{t:Sem Value}{Q:PX}{a:Shared}(e:d8 a s)(h:wpAny W.M W.A t (W.P L opq m Q s) E s):wpAny W.M W.A t (W.P L opq m Q a) E s:=
 wpAny_mono h (λ_ _ p=>mQ e p) λ_ _ x=>x
theorem H8{t:Sem (List Value)}{Q:List AV->Hp->Prop}{a:Shared}(e:d8 a s)(h:wpAny W.M W.A t (W.PL L opq m Q s) E s):wpAny W.M W.A t (W.PL L opq m Q a) E s:=
 wpAny_mono h (λ_ _ p=>DQ e p) λ_ _ x=>x
theorem yC{t:Sem Bool}{Q:Bool->Hp->Prop}{a:Shared}(e:d8 a s)(h:wpAny W.M W.A t (W.PB L opq m Q s) E s):wpAny W.M W.A t (W.PB L opq m Q a) E s:=
 wpAny_mono h (λ_ _ p=>j6 e p) λ_ _ x=>x
theorem gg{Q:Bool->Hp->Prop}{b:Bool}(H:W.H L opq m σ s.heap)(q:Q b σ):W.PB L opq m Q s b s:=⟨σ,s.heap,s.toks,rfl,H,q⟩
theorem si{e:Expr}{es:List Expr}{env:Env}(h:bB e=false):starEach (e::es) env=(false,eval e env)::starEach es env:=by
 cases e<;>first|rfl|cases h
theorem eI{t:Ct}{env:Env}{n:Cn}{pos:Pos}:∀{xs:XS} {es:List Expr},dC t n xs es=true->(backTo pos (starEach es env)).any (·.1)=false/\(∀e r,es=e::r->starEach es env=(false,eval e env)::starEach r env)
 |.nil,es,h=>cS h ⟨rfl,λ_ _ h=>nomatch h⟩
 |.cons x xs,es,h=>iU h λe r g=>kZ g λg1 _ g3=>
  have a:=si (es:=r) (env:=env) (nt g1)
  have c:=eI (pos:=pos) (env:=env) g3
  ⟨by rw[a];exact(Bool.false_or _).trans c.1,λf d b=>by cases b;exact a⟩
theorem mu{t:Ct}{f:Value}{first:List Value}{pos:Pos}{P:Heap->Prop}{xs:XS}{es:List Expr}{Q:Value->Shared->Prop}{Qs:List AV->Hp->Prop}(c:dC t n xs es=true)(i:W.SXS n xs es)
  (b:∀h,P h->∃k,(k=Keeper.frame∨k=Keeper.machine∨k=Keeper.boundFrame)/\Looks W.M h (keeperOf f) k) (lv:W.L env n L m opq l) (H:W.H L opq m σ s.heap) (h:kX W.F W.cal xs l σ Qs)
  (k:∀vs as a s',d8 s s'->aF VR vs as->W.H L opq m a s'.heap->Qs as a->P s'.heap/\wpAny W.M W.A (call f (first++vs)) Q E s'):
  wpAny W.M W.A (callWith pos f first (backTo pos (starEach es env)) []) Q E s:=by
 obtain⟨d,g⟩:=eI (pos:=pos) (env:=env) c
 cases es with
 |nil=>
  refine callWith_of rfl b (evalArgs_nil3 ?_)
  cases xs with
  |nil=>exact k [] [] σ s (.refl s) .nil H h
  |cons _ _=>cases c
 |cons e r=>
  refine callWith_of (by rw[d];rfl) b ?_
  have:=xz (i env L m opq l σ s pos Qs E lv H h) k
  rw[g e r rfl]at this ⊢
  exact evalArgs_plain this
theorem jt{f:Value}(h:∀a,f≠.ref a):∀h:Heap,True->∃k,(k=Keeper.frame∨k=Keeper.machine∨k=Keeper.boundFrame)/\Looks W.M h (keeperOf f) k:=λh _=>by
 refine⟨.machine,.inr (.inl rfl),?_⟩
 cases f<;>first|exact Looks.of_pure rfl|exact absurd rfl (h _)
theorem jq{a:Addr}(b:keepIn W.K (.ref a)=true):∀h:Heap,W.K.In h->∃k,(k=Keeper.frame∨k=Keeper.machine∨k=Keeper.boundFrame)/\Looks W.M h (keeperOf (.ref a)) k:=λh X=>keeps_K b h X
theorem JL(lv:W.L env n L m opq l)(H:W.H L opq m σ s.heap):W.K.In s.heap:=by
 obtain⟨g,b,_,_,a,_,_⟩:=H
 exact(lv.gd.turn b.base).X.keeps a.keep
theorem DM(o:Obj)(H:W.H L opq m σ s.heap):W.H L opq m σ (s.heap.push o):=by
 obtain⟨g,c,a,D,b,N,R⟩:=H
 exact⟨g,c,a,D,b.push o,N.pushKeep o,R⟩
theorem fH{e:Expr}{x:Value}(h:oH e=false):foldedSetIterable e env x=pure x:=by
 cases e<;>first|rfl|cases h
theorem iC{i:Expr}{o v:Value}(h:gu i=false):subscripted i false o v=operate [o,v] (getItem o v):=by
 cases i<;>first|rfl|cases h
theorem qB{e:Expr}{op:CmpOp}(h:oH e=false):behindInMarks op e=false:=by
 cases e<;>first|rfl|cases h
theorem wz:∀{a b:List UInt8},(a.map λc=>(c.toNat:Int))=b.map (λc=>(c.toNat:Int))->a=b
 |[],[],_=>rfl
 |[],_::_,h=>by simp at h
 |_::_,[],h=>by simp at h
 |x::a,y::b,h=>by
  simp only[List.map_cons,List.cons.injEq]at h
  have e:x=y:=UInt8.toNat_inj.mp (cY h.1)
  rw[wz h.2,e]
theorem vh{Q:PX}{a i:AV}{e d:Value}{value slice:Expr}(lv:W.L env n L m opq l)(hs:gu slice=false)(f:VR e a)(k:VR d i)(H:W.H L opq m σ s.heap)(h:nY a i σ Q):
  wpAny W.M W.A (subscriptTail value slice e d) (W.P L opq m Q s) E s:=by
 have g:=lY (prog:=W.prog) (w:=W.w) (A:=W.A) (E:=E) lv.gd.st f k H h
 exact eJ (P:=λe=>wpAny W.M W.A (getItem e d) (W.P L opq m Q s) E s->wpAny W.M W.A (subscriptTail value slice e d) (W.P L opq m Q s) E s) f h False.elim (λ_ _ h=>h.elim)
  (λb t _ g=>tail_any (T:="bytes") (PySem.W.typeIs_bytes _ _ _) PySem.W.FB.slot_bytes_getitem.lookup g (iC hs))
  (λa h=>bw (P:=λd=>wpAny W.M W.A (getItem (.ref a) d) (W.P L opq m Q s) E s->wpAny W.M W.A (subscriptTail value slice (.ref a) d) (W.P L opq m Q s) E s) k h λj t h g=>kf h
   (λ_ r ex _=>(H.list lv.gd.st ex).elim λo c=>c.elim λn c=>tail_any (T:="list") ⟨_,c.1,rfl⟩ PySem.F.slot_list_getitem.lookup g (iC hs))
   (λ_ r ex _=>(H.tup lv.gd.st ex).elim λo c=>c.elim λn c=>tail_any (T:="tuple") ⟨_,c.1,rfl⟩ PySem.F.slot_tuple_getitem.lookup g (iC hs))
   λ_ u ex _=>H.dic lv.gd.st ex λp q _ _=>tail_any (T:="dict") (q W.prog W.w).typeIs PySem.F.slot_dict_getitem.lookup g (iC hs)) g
end
end
section
section
variable {W:Wd} {env:Env} {n:Cn} {L:Addr} {m:Str->Option Value} {opq:List (Addr×Obj)} {l:aG} {E:Value->Shared->Prop} {σ:Hp} {s:Shared}
theorem neg_int{i:Int}{t:Tok}{Q:Value->Shared->Prop}(h:∀t,Q (.int (-i) t) {s with toks:=s.toks+1}):wpAny W.M W.A (unaryOp .USub (.int i t)) Q E s:=by
 first
  |exact usub_int (h _)
  |exact PyProof.Rows.neg_int (h _)
  |exact IsLeap.wpAny_neg_int (h _)
theorem xu{v:AV}{i:Int}(h:NF v i=true):v=.int i:=by
 cases v with
 |int j=>rw[eq_of_beq (show(i==j)=true from h)]
 |_=>cases h
theorem BA{c:Const}{d:Nat}{e:Pos}{v:AV}{Q:PX}(g:OD v c=true)(H:W.H L opq m σ s.heap)(a:Q v σ):wpAny W.M W.A (eval (.Constant c d e) env) (W.P L opq m Q s) E s:=by
 cases v with
 |none=>exact bZ g (Constant_none (aC.same0 H On a))
 |bool b=>exact bZ g (Constant_bool (aC.same0 H (Jw _) a))
 |int b=>exact bZ g (wpAny_Constant_int (aC.same H (ou _ _) a))
 |bytes b=>exact bZ g (Constant_bytes (aC.same H (IY _ _) a))
 |_=>cases g
theorem Q6{v:AV}{e:Expr}(c:aX W.t n (.k v) e=true):W.SX n (.k v) e:=
 bor c (λc=>bor c
  (λc=>fw c λk j a g env L m opq l σ s Q E lv H h=>BA g H h)
  (λc=>f8 c λo u a g=>gF g λb g=>bZ b (fw g λk j q g=>yx g λi g=>by
   obtain rfl:=xu g
   exact λenv L m opq l σ s Q E lv H h=>wpAny_UnaryOp (wpAny_Constant_int (neg_int λt=>⟨_,σ,s.heap,_,rfl,ou _ _,H,h⟩)))))
  λc=>bW c λx a g=>kZ g λf d g=>Dg g λi p g=>by
   obtain rfl:=xu g
   exact λenv L m opq l σ s Q E lv H h=>(lv.ok.int _ _ p).elim λr e=>nL lv (nt f) d H e (aC.same0 H (ou _ _) h)
theorem Ry{i:Nat}{e:Expr}(c:aX W.t n (.v i) e=true):W.SX n (.v i) e:=
 bW c λx d g=>gF g λb a env L m opq l σ s Q E lv H h=>wZ lv (nt b) (bH a) H h
theorem Au{o:Expr}{x:Str}{t:Sem Value}(h:(!(o.ctorIdx==16))=true):attributeBase o x env t=t:=by
 cases o with
 |Call _ _ _ _=>cases h
 |_=>rfl
theorem tU{o:Expr}{x:Str}{t:Sem Value}(h:kI o=true):attributeBase o x env t=t:=bor h Au λh=>fW h λy q b p h=>by
 cases b with
 |cons a b=>rfl
 |nil=>exact(if_pos (by rw[h];rfl)).trans (by first|rfl|exact bind_pure t)
theorem wf{o:Expr}{x:Str}{pos:Pos}{Q:Value->Shared->Prop}(hs:kI o=true)(h:wpAny W.M W.A (eval o env) (λo a=>wpAny W.M W.A (getAttr o x true) Q E a) E s):wpAny W.M W.A (eval (.Attribute o x pos) env) Q E s:=by
 show wpAny W.M W.A (attributeBase o x env (eval o env) >>= λv=>_) Q E s
 rw[tU hs]
 exact wpAny_bind (wpAny_mono h (λv a b=>wpAny_bind (wpAny_standAt (wpAny_bind (wpAny_holding (wpAny_mono b (λr d c=>wpAny_bind (wpAny_letTemporaryGo (wpAny_pure c))) λ_ _ x=>x))))) λ_ _ x=>x)
theorem jK{t:Ct}{xs:XS}{o:Expr}{x:Str}{as:List Expr}{apos pos:Pos}{Q:Value->Shared->Prop}(hs:kI o=true)(j:(apos.endLine==pos.line)=true)(q:as.length<30)(c:dC t n xs as=true)
  (h:∀p,wpAny W.M W.A (eval o env) (λov b=>wpAny W.M W.A (getMethod ov x p) (λf a=>wpAny W.M W.A (callWith pos f.1 f.2 (backTo pos (starEach as env)) []) Q E a) E b) E s):
  wpAny W.M W.A (eval (.Call (.Attribute o x apos) as [] pos) env) Q E s:=by
 obtain⟨i,r⟩:=eI (pos:=pos) (env:=env) c
 have g:methodCallForm (as.length+([]:List Keyword).length) (backTo pos (starEach as env)) []=true:=by
  unfold methodCallForm
  have:(backTo pos (starEach as env)).all (!·.1)=true:=by
   rw[List.all_eq_true]
   intro y k
   rw[List.any_eq_false]at i
   have:=i y k
   simpa using this
  rw[this]
  simpa using q
 show wpAny W.M W.A (attributeBase o x env (eval o env) >>= λov=>_) Q E s
 rw[tU hs]
 refine wpAny_bind (wpAny_mono (h (do return(←importBound o env).getD true)) (λv b d=>wpAny_bind (wpAny_standAt ?_)) λ_ _ x=>x)
 unfold methodCall
 rw[show backToKw pos (keywordEach [] env)=[]from rfl,g]
 refine wpAny_bind (wpAny_holding ?_)
 unfold calleeOf
 rw[if_pos rfl]
 refine wpAny_mono d (λf a e=>wpAny_bind ?_) λ_ _ x=>x
 unfold methodCallPos
 rw[if_pos (by rw[j];rfl)]
 exact wpAny_pure e
theorem vK{C:Addr}{pos:List Value}{kw:List (Str×Value)}:Fn W.A (W.A.under (.builtin "type.__call__" ⟨.ref C::pos,kw⟩)):=by
 have b:Code.weight (.builtin "type.__call__" ⟨.ref C::pos,kw⟩)<=2:=by
  have:Code.weight (.builtin "type.__call__" ⟨.ref C::pos,kw⟩)=1:=by kernel_rfl
  exact Nat.le_succ (Code.builtin "type.__call__" {pos:=Value.ref C::pos,kw:=kw}).weight
 have a:Code.cUnits (.builtin "type.__call__" ⟨.ref C::pos,kw⟩)<=10:=by
  have:Code.cUnits (.builtin "type.__call__" ⟨.ref C::pos,kw⟩)=1:=by kernel_rfl
  exact Nat.le_add_left (Code.builtin "type.__call__" {pos:=Value.ref C::pos,kw:=kw}).cUnits 9
 exact⟨rfl,rfl,Nat.add_le_add_left b _,Nat.add_le_add_left a _⟩
theorem uc{a:Around}{f:Addr}{as:List AV}{vs:List Value}{Q:PX}(lv:W.L env n L m opq l)(b:n.lf=false)(sb:Fn W.A a)(h:W.cal f as σ Q)(r:aF VR vs as)(H:W.H L opq m σ s.heap):
  wpAny W.M a (call (.ref f) vs) (W.P L opq m Q s) E s:=
 wpAny_call (lv.ca b a f as vs σ s opq m Q _ sb h r H λv c p=>p)
theorem ut{G:Heap}{y:Addr}(a:cF W.hb W.h₀ G)(e:G.get? y=none):W.hb.get? y=none:=by
 cases q:W.hb.get? y with
 |none=>rfl
 |some o=>have:=a.base _ _ q;rw[e]at this;cases this
theorem allocI{G h':Heap}{c:Nat}{x b:Addr}{a:List (Addr×Obj)}{D:Addr->Addr}(e:cF W.hb W.h₀ G)(R:HR W.T σ W.hb a D opq)(i:Fr G L h' m)(d:News G L h' ((x,instObj (W.T.ca c) b)::(b,dictOf [] 0)::a))(h:∀p∈a,p.1<b)(g:b<x):
  W.H L opq m (upd σ x (false,.inst c [])) h'/\σ x=none:=
 have f:=ut e (d _ (.head _)).2.2
 ⟨⟨G,e,_,_,i,d,R.allocI h g (ut e (d _ (.tail _ (.head _))).2.2) f⟩,R.fresh (λp j=>Nat.ne_of_lt (Nat.lt_trans (h p j) g)) f⟩
theorem B7{c:Nat}{x:Str}{as:List AV}{vs:List Value}{Q:PX}(lv:W.L env n L m opq l)(V:n.lf=false)(I:W.t.ki.lookup x=some c)(r:aF VR vs as)(H:W.H L opq m σ s.heap)
  (h:∀r,σ r=none->ei (W.F.mi c) (λg=>W.cal (W.F.fa g) (.ref r::as) (upd σ r (false,.inst c [])) λv i=>Eu v (Q (.ref r) i)) (as=[]/\Q (.ref r) (upd σ r (false,.inst c [])))):
  wpAny W.M W.A (call (.ref (W.T.ca c)) vs) (W.P L opq m Q s) E s:=by
 obtain⟨k1,k2,k3,k4,k5⟩:=lv.ok.cl _ _ I
 refine H.casesOn λG f B D y N R=>?_
 cases z:W.F.mi c with
 |some g=>
  rw[z]at k4 h
  exact call_cls y (lv.gd.turn f.base).X N k3 k4 (k5 g z) λx dx j k u b d=>
   have a:=allocI f R k u b d
   lv.ca V _ _ _ _ _ {s with heap:=j} opq m _ _ vK (h x a.2) (.cons rfl r) a.1 λv s' p=>p.casesOn λa w U K e O Z J=>s8 O J λq=>⟨rfl,.ref x,w,U,K,e,rfl,Z,q⟩
 |none=>
  rw[z]at k4 h
  have has:vs=[]:=by
   have e:as=[]:=(h s.heap.objs.size (R.fresh (λp Y=>Nat.ne_of_lt (Heap.lt_size (N p Y).1)) (by
    cases q:W.hb.get? s.heap.objs.size with
    |none=>rfl
    |some o=>exact absurd (Heap.lt_size (y.keep _ _ (f.base _ _ q))) (Nat.lt_irrefl _)))).1
   rw[e]at r
   cases r;rfl
  rw[has]
  exact call_cls0 y (lv.gd.turn f.base).X N k3 k4 λx dx j k u b d=>
   have a:=allocI f R k u b d
   ⟨.ref x,_,j,s.toks,rfl,rfl,a.1,(h x a.2).2⟩
theorem Dy{Q:List AV->Hp->Prop}(H:W.H L opq m σ s.heap)(q:Q [] σ):W.PL L opq m Q s [] s:=⟨[],σ,s.heap,s.toks,rfl,.nil,H,q⟩
theorem Nn{o:X}{f:Nat}{e:Expr}(c:aX W.t n (.at o f) e=true)(q:∀e,aX W.t n o e=true->W.SX n o e):W.SX n (.at o f) e:=
 cZ c λw x y g=>kZ g λk i d env L m opq l σ s Q E lv H h=>
  wf k (aN (q _ d env L m opq l σ s _ E lv H h) λv a j u e r p b=>gw e (mw lv.ok lv.gd.Xb lv.gd.st (bH i) r p b))
theorem FU{o:BO}{a b:X}{e:Expr}(c:aX W.t n (.bin o a b) e=true)(w:∀e,aX W.t n a e=true->W.SX n a e)(k:∀e,aX W.t n b e=true->W.SX n b e):W.SX n (.bin o a b) e:=
 tC c λJ N R O g=>kZ g λA z u=>bZ A λenv L m opq l σ s Q E lv H h=>
  wpAny_BinOp (aN (w _ z env L m opq l σ s _ E lv H h) λv x f p e r B q=>aN (k _ u env L m opq l f p _ E lv B q) λK y j I G D i d=>gw (e.trans G) (vJ lv.gd.st r D i d))
theorem Cx{o:CO}{a b:X}{e:Expr}(c:aX W.t n (.cmp o a b) e=true)(w:∀e,aX W.t n a e=true->W.SX n a e)(k:∀e,aX W.t n b e=true->W.SX n b e):W.SX n (.cmp o a b) e:=
 ju c λK os N U g=>dQ g λR g=>dQ g λV g=>Ak g λA J z u=>bZ A λenv L m opq l σ s Q E lv H h=>
  wpAny_Compare1 (aN (w _ z env L m opq l σ s _ E lv H h) λv x f p e r D q=>aN (k _ u env L m opq l f p _ E lv D q) λO y j B I G i d=>gw (e.trans I) (oR lv.gd.st lv.gd.un r G i d)) (qB (nt J))
theorem LW{a b:X}{e:Expr}(c:aX W.t n (.orX a b) e=true)(q:∀e,aX W.t n a e=true->W.SX n a e)(j:∀e,aX W.t n b e=true->W.SX n b e):W.SX n (.orX a b) e:=
 gR c λz k A g=>gF g λp g=>bZ p (sR g λy B g=>gF g λw u env L m opq l σ s Q E lv H h=>
  BoolOp_or (aN (q _ w env L m opq l σ s _ E lv H h) λv x f o e r i d=>Ea r d λb d=>wpAny_truthy_bool (by
   cases b with
   |true=>rw[if_pos rfl];exact mQ e (aC.same0 i (Jw _) (d.1 rfl))
   |false=>rw[if_neg Bool.false_ne_true];exact BoolOp_one (gw e (j _ u env L m opq l f o Q E lv i (d.2 rfl))))))
theorem G4{f:C}{a b:X}{e:Expr}(c:aX W.t n (.ite f a b) e=true)(v:∀e,um W.t n f e=true->W.SC n f e)(q:∀e,aX W.t n a e=true->W.SX n a e)(o:∀e,aX W.t n b e=true->W.SX n b e):W.SX n (.ite f a b) e:=
 sQ c λz w y x g=>kZ g λu r p env L m opq l σ s Q E lv H h=>
  IfExp_ (jv (v _ u env L m opq l σ s _ E lv H h) λb d i e k j=>by
   cases b with
   |true=>rw[if_pos rfl];exact gw e (q _ r env L m opq l d i Q E lv k (j.1 rfl))
   |false=>rw[if_neg Bool.false_ne_true];exact gw e (o _ p env L m opq l d i Q E lv k (j.2 rfl)))
theorem Fy{a i:X}{e:Expr}(c:aX W.t n (.sub a i) e=true)(u:∀e,aX W.t n a e=true->W.SX n a e)(k:∀e,aX W.t n i e=true->W.SX n i e):W.SX n (.sub a i) e:=
 bK c λI J N g=>kZ g λz w q env L m opq l σ s Q E lv H h=>
  Subscript_ (aN (u _ w env L m opq l σ s _ E lv H h) λv x d o e r A p=>aN (k _ q env L m opq l d o _ E lv A p) λK y j G D B f b=>gw (e.trans D) (vh lv (nt z) r B f b))
theorem GW{es:XS}{e:Expr}(c:aX W.t n (.lst es) e=true)(o:∀e,dC W.t n es e=true->W.SXS n es e):W.SX n (.lst es) e:=
 vq c λf A g env L m opq l σ s Q E lv H h=>List_ (xz (o _ g env L m opq l σ s _ _ E lv H h) λx y p w e r u a=>u.casesOn λg i b D q N R=>
  newList_K q N (λd z j k v=>mQ e (HS.newL (n:=0) i R j k v rfl r a.2)) (wx r.length a.1))
theorem GS{es:XS}{e:Expr}(c:aX W.t n (.tup es) e=true)(y:∀e,dC W.t n es e=true->W.SXS n es e):W.SX n (.tup es) e:=
 iY c λi G I g env L m opq l σ s Q E lv H h=>Tuple_ (xz (y _ g env L m opq l σ s _ _ E lv H h) λk u z j e r B d=>B.casesOn λg q f D A N R=>
  newTuple_N A N (λw v x=>
   have a:=HS.alloc (fz:=true) (o:=.tup u) q R v x (λp b=>Heap.lt_size (N p b).1) (λP b=>⟨k,0,b,r⟩) M8
   mQ e ⟨.ref _,_,w,j.toks,rfl,rfl,a.1,d.2 _ a.2⟩) (wx r.length d.1))
theorem G6{e:Expr}(c:aX W.t n .dic e=true):W.SX n .dic e:=
 wd c λz j A g=>gF g λi g1=>cS i (cS g1 λenv L m opq l σ s Q E lv H h=>H.casesOn λg b f D u N R=>
  newDict_K u N (lv.gd.turn b.base).lim λd q o k r v lo _ _ y _=>
   have a:=HS.alloc (fz:=false) (o:=.dict []) b R k r v (λP x=>⟨o,[],x,.nil,λp w=>nJ y p w,beq_eq_false_iff_ne.mp lo⟩) Cg
   ⟨.ref d,_,q,s.toks,rfl,rfl,a.1,h _ a.2⟩)
theorem MU{f:Nat}{es:XS}{e:Expr}(c:aX W.t n (.fn f es) e=true)(o:∀e,dC W.t n es e=true->W.SXS n es e):W.SX n (.fn f es) e:=
 fW c λx A j p g=>Ac g λv q i w a env L m opq l σ s Q E lv H h=>
  have k:=lv.ok.fn _ _ (bH w)
  Call_ (nL lv (nt q) i H k.1 (mu a (o _ a) (jq k.2) lv H h λz j u y e r b d=>⟨JL lv b,gw e (uc lv (nt v) (.refl _) d r b)⟩))
theorem MM{f:Nat}{es:XS}{e:Expr}(c:aX W.t n (.mk f es) e=true)(q:∀e,dC W.t n es e=true->W.SXS n es e):W.SX n (.mk f es) e:=
 fW c λx A o p g=>Ac g λw u j d a env L m opq l σ s Q E lv H h=>
  have k:=lv.ok.cl _ _ (bH d)
  Call_ (nL lv (nt u) j H k.1 (mu a (q _ a) (jq k.2.1) lv H h λz o v y e r b i=>⟨JL lv b,gw e (B7 lv (nt w) (bH d) r b i)⟩))
theorem jg{T:Tb}{x:Str}{b:List DictEntry}{fs:List (Nat×AV)}(r:aF (FR T) b fs)(h:∀p∈fs,T.an p.1≠x):getL x b=some none:=by
 induction r with
 |nil=>rfl
 |cons a r c=>
  rename_i e p t i
  obtain⟨k,⟨o,f⟩,j⟩:=a
  have c:=c λq g=>h q (.tail _ g)
  have d:(T.an p.1==x)=false:=by simpa using h p (.head _)
  unfold getL at c ⊢
  simp only[List.find?_cons,List.any_cons,f,Value.isStr,DictEntry.refKey,Bool.false_or,d]
  exact c
theorem Hg{o:X}{g:Nat}{es:XS}{e:Expr}(c:aX W.t n (.mth o g es) e=true)(io:∀e,aX W.t n o e=true->W.SX n o e)(N:∀e,dC W.t n es e=true->W.SXS n es e):W.SX n (.mth o g es) e:=
 tL c λo0 x ap K p g=>Oe g λU O J c4 A c6 j env L m opq l σ s Q E lv H h=>
  jK U O (of_decide_eq_true J) j λpl=>aN (io _ c6 env L m opq l σ s _ E lv H h) λv a R s' e r u b=>bY r b λa b=>CM b λ_ c0 fs ex b=>di b λf B b=>by
   have k:=lv.ok.mth _ _ (bH A) _ _ B
   obtain⟨d,y,nn,I,G⟩:=HS.inst lv.gd.st u ex
   refine u.casesOn λg D _ _ V _ _=>method_inst V (lv.gd.turn D.base).X I k.1.pg k.2.1 k.2.2.1 (jg G λp hp e=>?_) (mu j (N _ j) (jq k.2.2.2) lv u b.2 λvs K z Y e' Z i q=>⟨JL lv i,gw (e.trans e') (uc lv (nt c4) (.refl _) q (.cons rfl Z) i)⟩)
   have w:=(lv.ok.fld _ _ (kK b.1 p hp)).2.2
   rw[e,k.2.1]at w
   cases w
theorem zZ{b:BF}(h:CV b=true):b=.len:=by cases b<;>first|rfl|cases h
theorem A6{v:Value}(h:(v.ctorIdx==(Value.ref 0).ctorIdx)=false):∀a,v≠.ref a:=λa e=>fT (h.symm.trans (by rw[e];rfl))
theorem DF(b:BF):∀a,Jv b≠.ref a:=A6 (by cases b<;>rfl)
theorem Dd(b:BM):∀a,NE b≠.ref a:=A6 (by cases b<;>rfl)
theorem Mf{b:BF}{es:XS}{e:Expr}(c:aX W.t n (.bi b es) e=true)(o:∀e,dC W.t n es e=true->W.SXS n es e):W.SX n (.bi b es) e:=
 fW c λx A k p g=>Ak g λv w a f=>by
  obtain rfl:=eq_of_beq v
  exact Ac a λa j _ _ _ env L m opq l σ s Q E lv H h=>Call_ (mh lv (nt a) j H (lv.ok.bi b) (Bz b) (AF b) (mu (P:=λ_=>True) f (o _ f) (jt (DF b)) lv H h λz k u y e r i d=>⟨trivial,gw e (bor w
   (λq=>by obtain rfl:=zZ q;exact oK lv.gd.st r i d) λq=>yi lv.gd.st (lv.hh (nt q)) r i d)⟩))
theorem LH{b:BM}{o:X}{es:XS}{e:Expr}(c:aX W.t n (.bm b o es) e=true)(Y:∀e,aX W.t n o e=true->W.SX n o e)(N:∀e,dC W.t n es e=true->W.SXS n es e):W.SX n (.bm b o es) e:=
 tL c λo' x ap K p g=>Fc g λR O J Z c6 q=>by
  obtain rfl:=eq_of_beq Z
  exact λenv L m opq l σ s Q E lv H h=>jK R O (of_decide_eq_true J) q λpl=>aN (Y _ c6 env L m opq l σ s _ E lv H h) λv a y G e r z i=>bY r i λa i=>by
   have fin:=mu (f:=NE b) (first:=[.ref a]) (pos:=p) (E:=E) (P:=λ_=>True) q (N _ q) (jt (Dd b)) lv z i.2 λj K D β V U A u=>⟨trivial,gw (e.trans V) (rO lv.gd.st U A u)⟩
   have k:cL (y a) (λ_=>True)->∃j n,G.heap.get? a=some (jF j n):=λh=>uB h λ_ xs ex _=>(z.list lv.gd.st ex).elim λj d=>d.elim λn d=>⟨j,n,d.1⟩
   cases b with
   |get=>exact xV i.1 λ_ es ex _=>z.dic lv.gd.st ex λI B _ _=>getMethod_builtin (B W.prog W.w).typeIs PySem.F.plainAttrs_dict PySem.F.slot_dict_get PySem.F.type_dict_get (B W.prog W.w).mapOf.noDict fin
   |append=>exact(k i.1).elim λj d=>d.elim λn g1=>getMethod_builtin (T:="list") ⟨_,g1,rfl⟩ PySem.F.plainAttrs_list PySem.F.slot_list_append PySem.F.type_list_append (λa e=>by cases e;exact⟨_,g1,rfl⟩) fin
   |insert=>exact(k i.1).elim λj d=>d.elim λn g1=>getMethod_builtin (T:="list") ⟨_,g1,rfl⟩ PySem.F.plainAttrs_list PySem.F.slot_list_insert PySem.F.type_list_insert (λa e=>by cases e;exact⟨_,g1,rfl⟩) fin
   |pop=>exact(k i.1).elim λj d=>d.elim λn g1=>getMethod_builtin (T:="list") ⟨_,g1,rfl⟩ PySem.F.plainAttrs_list PySem.F.slot_list_pop PySem.F.type_list_pop (λa e=>by cases e;exact⟨_,g1,rfl⟩) fin
theorem nU{a:Addr}{fz:Bool}{xs:List AV}{lo hi:Value}{b d:Option Int}{value slice:Expr}{ys:List AV}{Q:PX}(lv:W.L env n L m opq l)(H:W.H L opq m σ s.heap)(ex:σ a=some (fz,.list xs))(u:xs.length<=line)
  (x:IsPart lo b) (z:IsPart hi d) (f:∀o v,subscripted slice false o v=operate [v,o] (getItem o v))
  (w:∀vs:List Value,aF VR vs xs->aF VR (slicePick vs.toArray b d none).toList ys) (h:∀c,σ c=none->Q (.ref c) (upd σ c (false,.list ys))):
  wpAny W.M W.A (subscriptTail value slice (.ref a) (.ref s.heap.objs.size)) (W.P L opq m Q s) E {s with heap:=s.heap.push {cls:=.type "slice",data:=.fields #[lo,hi,.none]}}:=by
 have k:W.H L opq m σ (s.heap.push {cls:=.type "slice",data:=.fields #[lo,hi,.none]}):=DM _ H
 obtain⟨vs,B,g1,i⟩:=HS.list (s:={s with heap:=s.heap.push {cls:=.type "slice",data:=.fields #[lo,hi,.none]}}) lv.gd.st k ex
 have r:=i.length
 refine tail_any (T:="list") ⟨_,g1,rfl⟩ PySem.F.slot_list_getitem.lookup ?_ (f _ _)
 refine wpAny_getItem_list_slice (aL g1) (Heap.IsSliceOf.new _ _ _ _) x z .none (λe=>oW e) ?_ (wx r u)
 exact k.casesOn λg t q D j N R=>HS.newL (n:=0) (vs:=(slicePick vs.toArray b d none).toList) t R (j.push _) (N.push j _) (λp y=>Heap.lt_size (N p y).1) (by simp) (w vs i) h
end
end
section
section
variable {W:Wd} {env:Env} {n:Cn} {L:Addr} {m:Str->Option Value} {opq:List (Addr×Obj)} {l:aG} {E:Value->Shared->Prop} {σ:Hp} {s:Shared}
theorem wm{value:Expr}{b:Array UInt8}{t:Tok}{r:Value}:letTemporaryGo value (.bytes b t) r=pure ():=by cases value<;>rfl
theorem qJ{k:Int}{z:Nat}(h:0<=k):clipAt z k=min k.toNat z:=by
 obtain⟨a,rfl⟩:∃a:Nat,k=a:=⟨k.toNat,tn h⟩
 rw[clipAt_nat];simp
theorem oT{a:Type}{l:List a}{k:Int}{z:Nat}(h:0<=k)(e:z=l.length):List.take (clipAt z k) l=l.take k.toNat:=by
 rw[qJ h,e,←List.take_eq_take_min]
theorem wn{a:Type}{l:List a}{k:Int}(h:0<=k):List.take (l.length-clipAt l.length k) (List.drop (clipAt l.length k) l)=l.drop k.toNat:=by
 rw[qJ h,List.take_of_length_le (by rw[List.length_drop];exact Nat.le_refl _)]
 by_cases q:k.toNat<=l.length
 ·rw[Nat.min_eq_left q]
 ·have q:=Nat.le_of_lt (Nat.lt_of_not_le q)
  rw[Nat.min_eq_right q,List.drop_length,List.drop_of_length_le q]
theorem wb{b q:List UInt8}{k:Int}(h:0<=k)(a:(q.map λc=>(c.toNat:Int))=List.take (clipAt (b.map λc=>(c.toNat:Int)).length k) (b.map λc=>(c.toNat:Int))):q=b.take k.toNat:=
 wz (by rw[a,oT h rfl,List.map_take])
theorem D9{a i:X}{e:Expr}(c:aX W.t n (.upto a i) e=true)(Z:∀e,aX W.t n a e=true->W.SX n a e)(I:∀e,aX W.t n i e=true->W.SX n i e):W.SX n (.upto a i) e:=
 bK c λa0 sl p0 g=>nP g λlo hi st p1 g=>kZ g λO g5 g3=>fR O (fR g5 (sX g3 λb0 g=>gF g λc1 c2 env L m opq l σ s Q E lv H h=>
  Subscript_ (aN (Z _ c1 env L m opq l σ s _ E lv H h) λv x q A e r H' J=>wpAny_Slice (by
   rw[evalPart_none,evalPart_some]
   refine wpAny_pure (aN (I _ c2 env L m opq l q A _ E lv H' J) λv' y j β G B d o=>wpAny_pure ?_)
   refine eJ r o False.elim (λ_ _ h=>h.elim) (λb u h=>bw B h λk w h=>?_) λa h=>bw B h λk w h=>uB h λz xs ex h=>?_
   ·refine d.casesOn λg U f D Fh N R=>KBc.slice_K Fh N rfl .none (.int k w) (Nat.le_trans (by rw[KBw.bInts,List.length_map];exact h.1.1) (by decide)) (λh5 t' kk V Y hq=>?_) rfl (λr=>wm)
    exact mQ (e.trans G) ⟨.bytes (b.take k.toNat),j,h5,kk,rfl,wb h.1.2.1 hq,⟨g,U,f,D,V,Y,R⟩,h.2⟩
   ·refine wpAny_mono (nU lv d ex h.1.1 .none (.int k w) (λ_ _=>rfl) (λK hv=>?_) h.2) (λv A p=>mQ (e.trans G) p) λ_ _ x=>x
    rw[slicePick_plain]
    exact(oT (l:=K) h.1.2.1 rfl).symm▸hv.take _))))
theorem FZ{a i:X}{e:Expr}(c:aX W.t n (.frm a i) e=true)(B:∀e,aX W.t n a e=true->W.SX n a e)(q:∀e,aX W.t n i e=true->W.SX n i e):W.SX n (.frm a i) e:=
 bK c λV Z p0 g=>nP g λlo hi st Y g=>kZ g λA K g3=>fR A (fR K (sX g3 λb0 g=>gF g λG D env L m opq l σ s Q E lv H h=>
  Subscript_ (aN (B _ G env L m opq l σ s _ E lv H h) λv x d j e r J u=>wpAny_Slice (by
   rw[evalPart_none,evalPart_some]
   refine aN (q _ D env L m opq l d j _ E lv J u) λv' y o U R N f b=>wpAny_pure (wpAny_pure ?_)
   refine bY r b λa h=>bw N h λk I h=>uB h λz xs ex h=>wpAny_mono (nU lv f ex h.1.1 (.int k I) .none (λ_ _=>rfl) (λw O=>?_) h.2) (λv j p=>mQ (e.trans R) p) λ_ _ x=>x
   rw[slicePick_plain]
   exact(wn (l:=w) h.1.2.1).symm▸O.drop _))))
theorem xQ{e:Expr}{env:Env}{whole:Sem Value}(h:(oV e&&!(e.ctorIdx==15))=true):isTrue e env whole=(do let v ←whole;standAt e.pos;holding [v] (truthy v)):=by
 cases e<;>first|rfl|cases h
theorem oF{Q:Bool->Hp->Prop}{v:Value}{a:AV}{c:Hp}{s':Shared}(lv:W.L env n L m opq l)(e:d8 s s')(r:VR v a)(d:W.H L opq m c s'.heap)(h':mx a c (λb=>Q b c)):wpAny W.M W.A (truthy v) (W.PB L opq m Q s) E s':=
 qx (R:=W.PB L opq m Q s) lv.gd.st r d h' λb f q=>j6 e ⟨c,s'.heap,f,rfl,d,q⟩
theorem zi{x:X}(h:CZ x=true):∃o a b,x=.cmp o a b:=X.cmp.elim (motive_1:=λx=>∃o a b,x=.cmp o a b) x (eq_of_beq h) λo a b=>⟨o,a,b,rfl⟩
theorem oG{x:X}{e:Expr}(c:um W.t n (.t x) e=true)(K:∀e,aX W.t n x e=true->W.SX n x e)
  (V:∀o a b,x=.cmp o a b->(∀e,aX W.t n a e=true->W.SX n a e)/\(∀e,aX W.t n b e=true->W.SX n b e)):W.SC n (.t x) e:=
 kZ c λg2 g3 g1=>bor g3
  (λi=>(zi i).elim λo h=>h.elim λI h=>h.elim λy w=>by
   have u:=V o I y w
   subst w
   exact ju g1 λa0 os bs p0 g=>dQ g λo0 g=>dQ g λb0 g=>Ak g λR O N D=>bZ R λenv L m opq l σ s Q E lv H h=>
    wpAny_isTrue_Compare1 (aN (u.1 _ N env L m opq l σ s _ E lv H h) λv x d q e r k f=>aN (u.2 _ D env L m opq l d q _ E lv k f) λv' y z U e' Y p j=>
     aN (oR (Q:=λa σ=>mx a σ λb=>Q b σ) lv.gd.st lv.gd.un r Y p j) λv2 a2 Z s3 B G J A=>oF lv ((e.trans e').trans B) G J A) (qB (nt O)))
  λi env L m opq l σ s Q E lv H h=>isTrue_plain (aN (K _ g1 env L m opq l σ s _ E lv H h) λv a d q e r k f=>oF lv e r k f) (xQ (by rw[g2,i];rfl))
theorem Gw{a:C}{e:Expr}(c:um W.t n (.not a) e=true)(j:∀e,um W.t n a e=true->W.SC n a e):W.SC n (.not a) e:=
 f8 c λp o q g=>gF g λg1 g2=>bZ g1 λenv L m opq l σ s Q E lv H h=>isTrue_not (jv (j _ g2 env L m opq l σ s _ E lv H h) λb f k e i d=>j6 e (gg i d))
theorem y5{es:List Expr}:∀{a:CS},W.SCS n a es->∀env L m opq l σ s pos whole Q E,W.L env n L m opq l->W.H L opq m σ s.heap->rj W.F W.cal a l σ Q->
  wpAny W.M W.A (isTrue (.BoolOp .And es pos) env whole) (W.PB L opq m Q s) E s:=by
 induction es with
 |nil=>
  intro a i env L m opq l σ s pos whole Q E lv H h
  cases a with
  |nil=>exact isTrue_and_nil (gg H h)
  |cons _ _=>exact i.elim
 |cons e es k=>
  intro a i env L m opq l σ s pos whole Q E lv H h
  cases a with
  |nil=>exact i.elim
  |cons c a=>
   refine isTrue_and (jv (i.1 env L m opq l σ s _ E lv H h) λb d j e g f=>?_)
   cases b with
   |true=>rw[if_pos rfl];exact yC e (k i.2 env L m opq l d j pos whole Q E lv g (f.1 rfl))
   |false=>rw[if_neg Bool.false_ne_true];exact j6 e (gg g (f.2 rfl))
theorem B6{es:List Expr}:∀{a:CS},W.SCS n a es->∀env L m opq l σ s pos whole Q E,W.L env n L m opq l->W.H L opq m σ s.heap->BE W.F W.cal a l σ Q->
  wpAny W.M W.A (isTrue (.BoolOp .Or es pos) env whole) (W.PB L opq m Q s) E s:=by
 induction es with
 |nil=>
  intro a i env L m opq l σ s pos whole Q E lv H h
  cases a with
  |nil=>exact isTrue_or_nil (gg H h)
  |cons _ _=>exact i.elim
 |cons e es k=>
  intro a i env L m opq l σ s pos whole Q E lv H h
  cases a with
  |nil=>exact i.elim
  |cons c a=>
   refine isTrue_or (jv (i.1 env L m opq l σ s _ E lv H h) λb d j e g f=>?_)
   cases b with
   |true=>rw[if_pos rfl];exact j6 e (gg g (f.1 rfl))
   |false=>rw[if_neg Bool.false_ne_true];exact yC e (k i.2 env L m opq l d j pos whole Q E lv g (f.2 rfl))
theorem HU{a:CS}{e:Expr}(c:um W.t n (.and a) e=true)(d:∀es,kM W.t n a es=true->W.SCS n a es):W.SC n (.and a) e:=
 gR c λf b i g=>gF g λg1 g2=>bZ g1 λenv L m opq l σ s Q E lv H h=>y5 (d _ g2) env L m opq l σ s _ _ Q E lv H h
theorem FH{a:CS}{e:Expr}(c:um W.t n (.or a) e=true)(d:∀es,kM W.t n a es=true->W.SCS n a es):W.SC n (.or a) e:=
 gR c λf b i g=>gF g λg1 g2=>bZ g1 λenv L m opq l σ s Q E lv H h=>B6 (d _ g2) env L m opq l σ s _ _ Q E lv H h
theorem nN{es:List Expr}(c:dC W.t n .nil es=true):W.SXS n .nil es:=cS c λenv L m opq l σ s pos Q E lv H h=>spliced_none (Dy H h)
theorem Ba{Q:List AV->Hp->Prop}{vs:List Value}{v:Value}{a:AV}{s':Shared}(r:VR v a)(p:W.PL L opq m (λvs σ=>Q (a::vs) σ) s vs s'):W.PL L opq m Q s (v::vs) s':=p.casesOn λd b f g e c H q=>⟨a::d,b,f,g,e,.cons r c,H,q⟩
theorem iy{x:X}{xs:XS}{es:List Expr}(c:dC W.t n (.cons x xs) es=true)(q:∀e,aX W.t n x e=true->W.SX n x e)(d:∀es,dC W.t n xs es=true->W.SXS n xs es):W.SXS n (.cons x xs) es:=
 iU c λw r g=>kZ g λo k j env L m opq l σ s pos Q E lv H h=>by
  rw[si (nt o)]
  exact spliced_cons (aN (q _ k env L m opq l σ s _ E lv H h) λv a b f e r u i=>wpAny_mono (H8 e (d _ j env L m opq l b f pos _ E lv u i)) (λ_ _ p=>Ba r p) λ_ _ x=>x)
end
end
section
noncomputable def eQ(a:Addr)(ob:Obj)(o:List (Addr×Obj)):List (Addr×Obj):=o.map λp=>if p.1=a then(a,ob) else p
theorem eB{a:Addr}{ob ob':Obj}{o:List (Addr×Obj)}(h:(a,ob)∈o):(a,ob')∈eQ a ob' o:=by
 refine dq ⟨_,h,?_⟩
 rw[if_pos rfl]
theorem bg{a:Addr}{ob':Obj}{o:List (Addr×Obj)}{p:Addr×Obj}(h:p∈o)(n:p.1≠a):p∈eQ a ob' o:=by
 refine dq ⟨_,h,?_⟩
 rw[if_neg n]
noncomputable def cy(a:Addr)(o:List (Addr×Obj)):List (Addr×Obj):=o.filter λp=>decide (p.1≠a)
theorem aA{a:Addr}{o:List (Addr×Obj)}{p:Addr×Obj}:p∈cy a o↔p∈o/\p.1≠a:=by simp[cy]
section
variable {T:Tb} {σ:Hp} {U:Heap} {Z:List (Addr×Obj)} {D:Addr->Addr} {opq:List (Addr×Obj)}
theorem HR.opq_new(R:HR T σ U Z D opq){a:Addr}{ob:Obj}(d:∀p∈Z,p.1≠a)(g:U.get? a=none):HR T σ U ((a,ob)::Z) D ((a,ob)::opq) where
 nd:=hW d R.nd
 ob:=λb i o e=>(R.ob _ _ _ e).mono (λ_ _ _=>rfl) λx j h=>h.imp (.tail _) id
 dj:=R.dj
 ij:=R.ij
 oq:=λp f=>(au f).elim (λe=>by rw[e];exact⟨.head _,R.fresh d g,λx i c k e=>R.dfresh d g e⟩) λf=>have q:=R.oq p f;⟨.tail _ q.1,q.2⟩
theorem HR.opq_sub(R:HR T σ U Z D opq){o:List (Addr×Obj)}(h:∀p∈o,p∈opq):HR T σ U Z D o:=⟨R.nd,R.ob,R.dj,R.ij,λp a=>R.oq p (h p a)⟩
theorem HR.opq_set(R:HR T σ U Z D opq){a:Addr}{ob ob':Obj}(f:(a,ob)∈opq):HR T σ U (qh a ob' Z) D (eQ a ob' opq) where
 nd:=by rw[pN];exact R.nd
 ob:=λb i o e=>have q:=R.oq _ f;(R.ob _ _ _ e).mv (λ_ h=>h.imp (λh=>bX h λk=>cE q.2.1 ((show b=a from k)▸e)) id) λc g u=>⟨rfl,λ_ h=>h.imp (λh=>bX h (q.2.2 _ i c g (u▸e))) id⟩
 dj:=R.dj
 ij:=R.ij
 oq:=λp j=>(bz j).elim λq d=>have r:=R.oq _ f;have t:=R.oq q d.1;
  if hqa:q.1=a then(d.2.symm.trans (if_pos hqa)).symm▸⟨mC r.1,r.2⟩ else(d.2.symm.trans (if_neg hqa)).symm▸⟨bX t.1 hqa,t.2⟩
theorem HR.opq_drop(R:HR T σ U Z D opq){a:Addr}{ob:Obj}(i:(a,ob)∈opq):HR T σ U (cy a Z) D (cy a opq) where
 nd:=List.Nodup.sublist (List.Sublist.map _ (List.filter_sublist)) R.nd
 ob:=λb g o e=>have q:=R.oq _ i;(R.ob _ _ _ e).mv (λ_ h=>h.imp (λh=>aA.mpr ⟨h,λk=>cE q.2.1 ((show b=a from k)▸e)⟩) id) λc f d=>⟨rfl,λ_ h=>h.imp (λh=>aA.mpr ⟨h,q.2.2 _ g c f (d▸e)⟩) id⟩
 dj:=R.dj
 ij:=R.ij
 oq:=λp j=>have h:=aA.mp j;have q:=R.oq p h.1;⟨aA.mpr ⟨q.1,h.2⟩,q.2⟩
theorem HR.reveal(R:HR T σ U Z D opq){a:Addr}{ob:Obj}{fz:Bool}{o:AO}(b:(a,ob)∈opq)(d:∀P:Addr->Obj->Prop,P a ob->OR T D P a o)(hi:∀c fs,o≠.inst c fs):HR T (upd σ a (fz,o)) U Z D (cy a opq):=
 have q:=R.oq _ b
 R.putIn R.nd (d _ (.inl q.1)) hi q.2.2 (λ_ _ _ _ e=>R.ob _ _ _ e) λp f=>have h:=aA.mp f;⟨h.1,h.2,(R.oq p h.1).1⟩
end
section
variable {T:Tb} {σ:Hp} {U h₀ h h':Heap} {L:Addr} {m:Str->Option Value} {opq:List (Addr×Obj)}
theorem pq(st:U.StaysIn h₀){a:Addr}(h:h₀.get? a=none):U.get? a=none:=by
 cases q:U.get? a with
 |none=>rfl
 |some o=>have:=st _ _ q;rw[h]at this;cases this
theorem HS.opq_get(H:HS T U h₀ L opq m σ h){p:Addr×Obj}(b:p∈opq):h.get? p.1=some p.2/\p.1≠L/\h₀.get? p.1=none:=by
 obtain⟨g,a,Z,D,F,N,R⟩:=H
 have q:=N _ (R.oq _ b).1
 exact⟨q.1,q.2.1,a.un q.2.2⟩
theorem HS.opq_sub(H:HS T U h₀ L opq m σ h){o:List (Addr×Obj)}(k:∀p∈o,p∈opq):HS T U h₀ L o m σ h:=by
 obtain⟨g,a,Z,D,F,N,R⟩:=H
 exact⟨g,a,Z,D,F,N,R.opq_sub k⟩
theorem HS.opq_push(st:U.StaysIn h₀)(H:HS T U h₀ L opq m σ h)(ob:Obj)(b:ob.isFreed=false):HS T U h₀ L ((h.objs.size,ob)::opq) m σ (h.push ob):=by
 obtain⟨g,a,Z,D,F,N,R⟩:=H
 refine⟨g,a,(h.objs.size,ob)::Z,D,F.push ob,N.push F ob b,R.opq_new (λp c e=>absurd (Heap.lt_size (N p c).1) (by rw[e];exact Nat.lt_irrefl _)) (pq a.base F.fresh)⟩
theorem HS.opq_set(H:HS T U h₀ L opq m σ h){a:Addr}{ob ob':Obj}(d:(a,ob)∈opq)(hs:Heap.SameBut a h h')(i:h'.get? a=some ob'):HS T U h₀ L (eQ a ob' opq) m σ h':=by
 obtain⟨g,e,Z,D,F,N,R⟩:=H
 obtain⟨c,r,q⟩:=R.oq _ d
 obtain⟨g1,g2,g3⟩:=N _ c
 refine⟨g,e,qh a ob' Z,D,F.change hs g2 g3,?_,R.opq_set d⟩
 obtain⟨p,b,f,o,j,k⟩:=(fj (ob:=ob') R.nd c).split
 rw[o]
 rw[f]at N
 exact N.setIn j k hs i
theorem HS.opq_drop(H:HS T U h₀ L opq m σ h){a:Addr}{ob:Obj}(d:(a,ob)∈opq)(hs:Heap.ExtBut a h h'):HS T U h₀ L (cy a opq) m σ h':=by
 obtain⟨g,i,Z,D,F,N,R⟩:=H
 obtain⟨f,t,r⟩:=R.oq _ d
 obtain⟨g1,g2,g3⟩:=N _ f
 refine⟨g,i,cy a Z,D,⟨F.ns.extBut hs (Ne.symm g2),λb o e=>hs b o (λq=>by rw[q,g3]at e;cases e) (F.keep b o e),F.above⟩,λp j=>?_,R.opq_drop d⟩
 obtain⟨c,k⟩:=aA.mp j
 exact⟨hs _ _ k (N p c).1,(N p c).2.1,(N p c).2.2⟩
theorem HS.reveal(H:HS T U h₀ L opq m σ h){a:Addr}{ob:Obj}{fz:Bool}{o:AO}(b:(a,ob)∈opq)(e:∀(D:Addr->Addr) (P:Addr->Obj->Prop),P a ob->OR T D P a o)(hi:∀c fs,o≠.inst c fs):
  HS T U h₀ L (cy a opq) m (upd σ a (fz,o)) h/\σ a=none:=by
 obtain⟨g,d,Z,D,F,N,R⟩:=H
 exact⟨⟨g,d,Z,D,F,N,R.reveal b (e D) hi⟩,(R.oq _ b).2.1⟩
theorem HS.store(H:HS T U h₀ L opq m σ h){m':Str->Option Value}(c:h'.Ns L m')(hs:Heap.SameBut L h h'):HS T U h₀ L opq m' σ h':=by
 obtain⟨g,b,Z,D,F,N,R⟩:=H
 refine⟨g,b,Z,D,F.set c hs,λp a=>⟨(hs.2 _ (N p a).2.1).trans (N p a).1,(N p a).2.1,(N p a).2.2⟩,R⟩
theorem HS.enter{P:Prop}(st:U.StaysIn h₀)(H:HS T U h₀ L opq m σ h){C:Addr}{m':Str->Option Value}(u:h.objs.size<=C)(w:h'.Ns C m')(r:∀b o,h.get? b=some o->h'.get? b=some o)
  (k:∀f,(∀g:Heap,g.get? L=some f->g.Ns L m)->L<h.objs.size->h₀.objs.size<=L->HS T U h₀ C ((L,f)::opq) m' σ h'->P):P:=
 H.casesOn λg j Z D F N R=>(id F.ns).elim λf a=>a.elim λy a=>a.elim λx a=>
  have t:g.get? L=none:=Heap.get?_none_of_le F.above
  have c:L<h.objs.size:=Heap.lt_size a.1
  have i:∀{b},b<h.objs.size->b≠C:=λq=>Nat.ne_of_lt (Nat.lt_of_lt_of_le q u)
  k f (λg v=>⟨f,y,x,v,a.2⟩) c (j.size▸F.above) ⟨g,j,(L,f)::Z,D,⟨w,λb o e=>r _ _ (F.keep _ _ e),Nat.le_trans F.above (Nat.le_trans (Nat.le_of_lt c) u)⟩,
   λp d=>(au d).elim (λe=>by rw[e];exact⟨r _ _ a.1,i c,t⟩) λd=>⟨r _ _ (N p d).1,i (Heap.lt_size (N p d).1),(N p d).2.2⟩,R.opq_new (λp d=>(N p d).2.1) (pq j.base t)⟩
theorem HS.leave{C:Addr}{m':Str->Option Value}{o:List (Addr×Obj)}{k:Obj}(H:HS T U h₀ C o m' σ h)(f:(L,k)∈o)(q:∀g:Heap,g.get? L=some k->g.Ns L m)(a:h₀.objs.size<=L)(u:∀p∈opq,p∈o/\p.1≠L)(hs:Heap.SameBut C h h'):
  HS T U h₀ L opq m σ h':=by
 obtain⟨g,j,Z,D,F,N,R⟩:=H
 have d:=(N _ (R.oq _ f).1).2.1
 refine⟨g,j,cy L Z,D,⟨q _ ((hs.2 _ d).trans (N _ (R.oq _ f).1).1),λb o e=>?_,j.size▸a⟩,λp i=>?_,(R.opq_drop f).opq_sub λp i=>aA.mpr (u p i)⟩
 ·exact(hs.2 b (λt=>by rw[t,Heap.get?_none_of_le F.above]at e;cases e)).trans (F.keep _ _ e)
 ·obtain⟨c,r⟩:=aA.mp i
  exact⟨(hs.2 _ (N p c).2.1).trans (N p c).1,r,(N p c).2.2⟩
end
section
variable {W:Wd} {env:Env} {n:Cn} {L:Addr} {m:Str->Option Value} {opq:List (Addr×Obj)} {l:aG} {E:Value->Shared->Prop} {σ:Hp} {s:Shared}
theorem yG{es:List Expr}{Q:Bool->Hp->Prop}{a:Shared}(e:d8 a s)(H:W.H L opq m σ s.heap)(q:Q false σ):
  wpAny W.M W.A (forIn es false λc r=>if r=true then do let ok ←isTrue c env (eval c env);pure (ForInStep.yield ok) else pure (ForInStep.yield r)) (W.PB L opq m Q a) E s:=by
 induction es with
 |nil=>rw[List.forIn_nil];exact wpAny_pure (j6 e (gg H q))
 |cons c es b=>
  rw[List.forIn_cons]
  simp only[Bool.false_eq_true,if_false]
  exact wpAny_bind (wpAny_pure b)
theorem tJ{a:Type}{l:List a}{j:Nat}{v:a}(h:l[j]?=some v):l.drop j=v::l.drop (j+1):=by
 obtain⟨q,e⟩:=be h
 rw[List.drop_eq_getElem_cons q,e]
theorem mM:∀{a:CS} {es:List Expr},W.SCS n a es->∀env L m opq l σ s Q E,W.L env n L m opq l->W.H L opq m σ s.heap->rj W.F W.cal a l σ Q->
  wpAny W.M W.A (forIn es true λc r=>if r=true then do let ok ←isTrue c env (eval c env);pure (ForInStep.yield ok) else pure (ForInStep.yield r)) (W.PB L opq m Q s) E s
 |.nil,[],_,env,L,m,opq,l,σ,s,Q,E,lv,H,h=>by rw[List.forIn_nil];exact wpAny_pure (gg H h)
 |.nil,_::_,h,_,_,_,_,_,_,_,_,_,_,_,_=>h.elim
 |.cons _ _,[],h,_,_,_,_,_,_,_,_,_,_,_,_=>h.elim
 |.cons c a,e::es,i,env,L,m,opq,l,σ,s,Q,E,lv,H,h=>by
  rw[List.forIn_cons]
  refine wpAny_bind ?_
  rw[if_pos rfl]
  refine wpAny_bind (jv (i.1 env L m opq l σ s _ E lv H h) λb d s' e f h'=>?_)
  refine wpAny_pure ?_
  dsimp only
  cases b with
  |true=>exact yC e (mM i.2 env L m opq l d s' Q E lv f (h'.1 rfl))
  |false=>exact yG e f (h'.2 rfl)
structure xB(W:Wd)(I:Addr)(items:List AV)(need:Hp->Prop)(st:Nat->Obj->Prop):Prop where
 next:∀i v,items[i]?=some v->∀C o m σ s ob (Q:Option Value->Shared->Prop) E,W.H C o m σ s.heap->(I,ob)∈o->st i ob->need σ->
  (∀u h' tk ob',VR u v->h'.get? I=some ob'->st (i+1) ob'->Heap.SameBut I s.heap h'->Q (some u) {s with heap:=h',toks:=tk})->wpAny W.M W.A (pyNext (.ref I)) Q E s
 fin:∀C o m σ s ob (Q:Option Value->Shared->Prop) E,W.H C o m σ s.heap->(I,ob)∈o->st items.length ob->need σ->
  (∀h',Heap.ExtBut I s.heap h'->Q none {s with heap:=h'})->wpAny W.M W.A (pyNext (.ref I)) Q E s
 self:∀i C o m σ s ob (Q:Value->Shared->Prop) E,W.H C o m σ s.heap->(I,ob)∈o->st i ob->Q (.ref I) s->wpAny W.M W.A (pyIter (.ref I)) Q E s
def Lz(r:Addr)(i:Nat)(ob:Obj):Prop:=ob.cls=.type "list_iterator"/\ob.data=.fields #[.ref r,.int i 0]
theorem uu(st:W.hb.StaysIn W.h₀)(G:W.A.handled=none)(I r:Addr)(xs:List AV):xB W I xs (λσ=>∃fz,σ r=some (fz,.list xs)) (Lz r) where
 next:=λi v J C o m σ s g Q E H j f d k=>by
  obtain⟨fz,e⟩:=d
  obtain⟨x,y,g1,t⟩:=HS.list st H e
  obtain⟨u,z,B⟩:=t.get J
  exact wpAny_pyNext_list_item ⟨g,(H.opq_get j).1,f.1,f.2⟩ (aL g1) (by simpa using z) λh' K p=>by
   obtain⟨w,a,b,c⟩:=K
   exact k u h' s.toks w B a ⟨b,c⟩ p
 fin:=λC o m σ s g Q E H j f d k=>by
  obtain⟨fz,e⟩:=d
  obtain⟨x,y,g1,t⟩:=HS.list st H e
  exact wpAny_pyNext_list_end G ⟨g,(H.opq_get j).1,f.1,f.2⟩ (aL g1) (by simp[t.length]) k
 self:=λi C o m σ s g Q E H j f q=>wpAny_pyIter_listiter ⟨g,(H.opq_get j).1,f.1,f.2⟩ q
noncomputable def jE(x left step:Int):Obj:={cls:=.type "range_iterator",dict:=none,data:=.fields #[rawInt x,rawInt left,rawInt step],slots:=#[]}
theorem l8(r:W.A.handled=none)(I:Addr)(lo step:Int)(k:Nat):xB W I ((List.range k).map λj=>.int (lo+step*(j:Nat))) (λ_=>True) (λi ob=>ob=jE (lo+step*i) (k-i) step) where
 next:=λi v f C o m σ s ob Q E H d c _ e=>by
  subst c
  have p:i<k:=by
   have:=(be f).1
   simpa using this
  have:v=.int (lo+step*i):=by
   rw[List.getElem?_map,List.getElem?_range p]at f
   simpa using f.symm
  subst this
  refine wpAny_pyNext_range_item (x:=lo+step*i) (left:=k-i) (step:=step) (H.opq_get d).1 (by exact z1 [_,_] (.le (.a (.n 0) (.n 1)) (.a (.v 0) (.g (.v 1)))) Li rfl (cl p)) λh' a b=>?_
  refine e _ h' (s.toks+1) _ (ou _ _) a ?_ b
  show jE _ _ _=jE _ _ _
  congr 1
  ·push_cast;rw[Int.mul_add,Int.mul_one,Int.add_assoc]
  ·push_cast;exact Int.le_antisymm (z0 [_,_] Pb rfl) (z0 [_,_] O2 rfl)
 fin:=λC o m σ s ob Q E H d c _ e=>by
  subst c
  refine wpAny_pyNext_range_end (x:=_) (left:=_) (step:=step) r (H.opq_get d).1 ?_ e
  simp
 self:=λi C o m σ s ob Q E H d c q=>by
  subst c
  exact wpAny_pyIter_rangeiter (H.opq_get d).1 q
end
end
section
noncomputable def Av(env:Env)(a:List (Str×Addr))(y:Str×NameKind):List (Str×Addr):=if dS y.2=true then(y.1,(env.cells.lookup y.1).getD 0)::a else a
noncomputable def pF(env:Env)(l:List (Str×NameKind))(a:List (Str×Addr)):List (Str×Addr):=l.foldl (Av env) a
theorem iM{a:Scope}{env:Env}(h:∀y∈a.names,dS y.2=true->(env.cells.lookup y.1).isSome=true):closureFor a env=pure (pF env a.names []):=by
 unfold closureFor
 generalize ([]:List (Str×Addr))=b
 generalize a.names=l at h
 induction l generalizing b with
 |nil=>rfl
 |cons y r e=>
  obtain⟨x,k⟩:=y
  dsimp only at e ⊢
  rw[List.forIn_cons]
  have e:=λb=>e b (λy g=>h y (.tail _ g))
  show _=pure (pF env r (Av env b (x,k)))
  rw[←e]
  by_cases d:dS k=true
  ·obtain⟨c,f⟩:=Option.isSome_iff_exists.mp (h _ (.head _) d)
   rw[show(k==NameKind.free)=true from d,Av,if_pos d,f,if_pos rfl,show cellOf env x=pure c by unfold cellOf;rw[show env.cells.lookup x=some c from f]]
   rfl
  ·rw[show(k==NameKind.free)=false from Bool.eq_false_iff.mpr d,Av,if_neg d]
   rfl
section
variable {env:Env}
theorem AW{a:List (Str×Addr)}{y:Str×NameKind}(hs:dS y.2=true->(env.cells.lookup y.1).isSome=true)(h:∀z c,a.lookup z=some c->env.cells.lookup z=some c)(z:Str)(c:Addr)(e:(Av env a y).lookup z=some c):env.cells.lookup z=some c:=by
 unfold Av at e
 by_cases b:dS y.2=true
 ·rw[if_pos b,List.lookup_cons]at e
  cases d:z==y.1 with
  |true=>
   rw[d]at e
   obtain⟨g,f⟩:=Option.isSome_iff_exists.mp (hs b)
   rw[eq_of_beq d];rw[f]at e ⊢;exact e
  |false=>rw[d]at e;exact h z c e
 ·rw[if_neg b]at e;exact h z c e
theorem uF{a:List (Str×Addr)}{y:Str×NameKind}{z:Str}(h:(z,NameKind.free)=y∨(a.lookup z).isSome=true):((Av env a y).lookup z).isSome=true:=by
 unfold Av
 rcases h with rfl|h
 ·rw[if_pos (show dS .free=true from rfl),List.lookup_cons,beq_self_eq_true];rfl
 ·by_cases b:dS y.2=true
  ·rw[if_pos b,List.lookup_cons]
   cases c:z==y.1 with
   |true=>rfl
   |false=>exact h
  ·rw[if_neg b];exact h
theorem kG:∀(l:List (Str×NameKind)) (a:List (Str×Addr)),(∀y∈l,dS y.2=true->(env.cells.lookup y.1).isSome=true)->(∀z c,a.lookup z=some c->env.cells.lookup z=some c)->
  (∀z c,(pF env l a).lookup z=some c->env.cells.lookup z=some c)/\(∀z,((z,NameKind.free)∈l∨(a.lookup z).isSome=true)->((pF env l a).lookup z).isSome=true)
 |[],a,_,h=>⟨h,λz b=>b.elim (λh=>nM h) id⟩
 |y::r,a,hs,h=>
  have g:=kG r (Av env a y) (λy d=>hs y (.tail _ d)) (AW (hs y (.head _)) h)
  ⟨g.1,λz b=>g.2 z (b.elim (λb=>(au b).elim (λe=>.inr (uF (.inl e))) .inl) λh=>.inr (uF (.inr h)))⟩
noncomputable def BV(env:Env):Str×NameKind->Str×NameKind:=λ(n,k)=>if(k==NameKind.free&&env.scope.kind==.function&&env.kindOf n==some .cell) then(n,NameKind.cell) else(n,k)
theorem jO:∀(names:List (Str×NameKind)) (x:Str),(names.map (BV env)).lookup x=(names.lookup x).map λk=>(BV env (x,k)).2
 |[],_=>rfl
 |(n,k)::r,x=>by
  have a:BV env (n,k)=(n,(BV env (n,k)).2):=by unfold BV;dsimp only;split<;>rfl
  rw[List.map_cons,a,List.lookup_cons,List.lookup_cons]
  cases b:x==n with
  |true=>rw[eq_of_beq b];rfl
  |false=>exact jO r x
theorem dW{a:Scope}{x:Str}(h:a.names.lookup x=some .free):(relabel a env).names.lookup x=some .free∨(relabel a env).names.lookup x=some .cell:=by
 show(a.names.map (BV env)).lookup x=_∨(a.names.map (BV env)).lookup x=_
 rw[jO,h]
 unfold BV
 dsimp only[Option.map_some]
 by_cases c:(NameKind.free==NameKind.free&&env.scope.kind==.function&&env.kindOf x==some .cell)=true
 ·rw[if_pos c];exact .inr rfl
 ·rw[if_neg c];exact .inl rfl
theorem pL{a:Scope}(x:Str):gc (a.names.lookup x) ((relabel a env).names.lookup x):=by
 by_cases h:a.names.lookup x=some .free
 ·exact(dW (env:=env) h).elim (λe=>.inl (h.trans e.symm)) λe=>.inr ⟨h,e⟩
 ·refine .inl (Eq.trans ?_ (jO a.names x).symm)
  cases e:a.names.lookup x with
  |none=>rfl
  |some k=>
   have c:¬(k==NameKind.free&&env.scope.kind==.function&&env.kindOf x==some .cell)=true:=λc=>kZ c λc _ _=>h (by rw[e,eq_of_beq c])
   unfold BV
   dsimp only[Option.map_some]
   rw[if_neg c]
end
theorem bc{b:Type}:∀{l:List (Str×b)} {x:Str} {k:b},l.lookup x=some k->(x,k)∈l
 |[],_,_,h=>by simp at h
 |(n,k)::r,x,q,h=>by
  rw[List.lookup_cons]at h
  cases a:x==n with
  |true=>rw[a]at h;cases h;rw[eq_of_beq a];exact .head _
  |false=>rw[a]at h;exact .tail _ (bc h)
theorem fE{e:Type}{p:Str×e->Bool}{q:Str->Bool}(c:∀y,p y=q y.1):∀{l:List (Str×e)} {x:Str} {k:e},(l.filter p).lookup x=some k->l.lookup x=some k/\q x=true
 |[],_,_,h=>by simp at h
 |(n,k)::r,x,j,h=>by
  rw[List.filter_cons]at h
  by_cases b:p (n,k)=true
  ·rw[if_pos b,List.lookup_cons]at h
   rw[List.lookup_cons]
   cases a:x==n with
   |true=>rw[a]at h;refine⟨h,?_⟩;rw[eq_of_beq a,←c (n,k)];exact b
   |false=>rw[a]at h;exact fE c h
  ·rw[if_neg b]at h
   obtain⟨f,d⟩:=fE c h
   rw[List.lookup_cons]
   cases a:x==n with
   |true=>rw[c (n,k)]at b;rw[eq_of_beq a]at d;exact absurd d b
   |false=>exact⟨f,d⟩
section
variable {W:Wd} {env:Env} {n:Cn} {L:Addr} {m:Str->Option Value} {opq:List (Addr×Obj)} {l:aG} {E:Value->Shared->Prop} {σ:Hp} {s:Shared}
theorem pS{l:aG}{i:Nat}{v:AV}:get (l.set i v) i=v∨get (l.set i v) i=.undef:=by
 unfold get
 by_cases h:i<l.length
 ·left;simp[h]
 ·right;simp[Nat.le_of_not_lt h]
theorem iL{l:aG}{i j:Nat}{v:AV}(h:i≠j):get (l.set i v) j=get l j:=by
 unfold get
 simp[List.getElem?_set,h]
theorem Pz{l:aG}{i:Nat}{v:AV}(h:get (l.set i v) i≠.undef):get (l.set i v) i=v:=pS.resolve_right h
structure K8(n:Cn)(sc:Scope)(x:Str):Prop where
 nc:∀y∈sc.names,fB y.2=false
 fr:∀y∈sc.names,dS y.2=true->vW (n.sc.names.lookup y.1)=true
 lc:∀y∈sc.names,pZ y.2=true->At (sc.names.lookup y.1)=true
 x:sc.names.lookup x=some .local
 k:sc.kind=.function
theorem uX{a:Option NameKind}(h:At a=true):a=some .local:=b8 h
theorem wO{a b:Bool}(h:(!a||b)=true)(k:a=true):b=true:=bor h (λq=>absurd k (by rw[nt q];exact Bool.false_ne_true)) id
theorem zC{d:Scope}{x:Str}(h:n.ok d x=true):K8 n d x:=
 kZ h λc e f=>⟨λy b=>kZ (kK c y b) λa _ _=>nt a,λy b=>kZ (kK c y b) λ_ a _=>wO a,λy b=>kZ (kK c y b) λ_ _ a=>wO a,b8 e,of_decide_eq_true f⟩
theorem lF{a b:Option NameKind}(h:gc a b)(k:vW a=true):vW b=true:=h.elim (λe=>e▸k) λh=>by rw[h.2];rfl
theorem xh{sc:Scope}{x:Str}{i:Nat}{C:Addr}{m':Str->Option Value}{o:List (Addr×Obj)}{u:Value}{v:AV}(lv:W.L env n L m opq l)(G:n.lf=false)(ok:K8 n sc x)(hi:(n.nm.all λp=>!(p.2==i))=true)
  (ho:∀p∈opq,p∈o) (hm:m' x=some u) (r:VR u v):W.L (compEnvC sc (pF env sc.names []) C env) (n.inner sc x i) C m' o (l.set i v) where
 gd:={lv.gd with fk:=ok.k,gl:=lv.gd.gl,bu:=lv.gd.bu}
 ok:=lv.ok
 lr:=λy j f A=>by
  unfold Cn.inner at f
  rw[List.lookup_cons]at f
  cases b:y==x with
  |true=>
   rw[b]at f
   cases f
   rw[Pz A,eq_of_beq b]
   exact⟨u,.inl ⟨lookup_relabel_local ok.x,hm⟩,r⟩
  |false=>
   rw[b]at f
   obtain⟨K,U⟩:=fE (q:=λy=>uV (sc.names.lookup y) .free&&!(y==x)) (λ_=>rfl) f
   have D:i≠j:=λe=>by
    have q:=nt (kK hi _ (bc K))
    rw[e]at q
    exact absurd (beq_self_eq_true j) (by rw[show(j==j)=false from q];exact Bool.false_ne_true)
   rw[iL D]at A ⊢
   have d:sc.names.lookup y=some .free:=gF U λa _=>b8 a
   obtain⟨w,N,I⟩:=lv.lr y j K A
   have t:=lF (lv.sc y) (ok.fr _ (bc d) rfl)
   obtain⟨ca,Q,Z,V,R⟩:∃ca o,env.cells.lookup y=some ca/\(ca,o)∈opq/\o.data=.cell (some w):=N.elim (λh=>by rw[h.1]at t;cases t) λh=>h.2
   obtain⟨J,B⟩:=kG sc.names [] (λy Y O=>lv.cc G y.1 (lF (lv.sc _) (ok.fr y Y O))) (λz c h=>by simp at h)
   obtain⟨β,g⟩:=Option.isSome_iff_exists.mp (B y (.inl (bc d)))
   obtain rfl:=Option.some.inj (Z.symm.trans (J _ _ g))
   exact⟨w,.inr ⟨(dW (env:=env) d).elim (λe=>by rw[show(compEnvC sc (pF env sc.names []) C env).scope.names.lookup y=some .free from e];rfl) λe=>by rw[show(compEnvC sc (pF env sc.names []) C env).scope.names.lookup y=some .cell from e];rfl,ca,Q,g,ho _ V,R⟩,I⟩
 sc:=pL
 lo:=rfl
 cc:=λh=>tF h
 ca:=λh=>tF h
 hh:=λh=>tF h
end
end
section
section
variable {W:Wd} {env:Env} {n:Cn} {L:Addr} {m:Str->Option Value} {opq:List (Addr×Obj)} {l:aG} {E:Value->Shared->Prop} {σ:Hp} {s:Shared}
def one(W:Wd)(d:Hp->Prop)(g:CS)(e:X)(i:Nat)(l:aG):AV->Hp->(Option AV->Hp->Prop)->Prop:=
 λv f P=>rj W.F W.cal g (l.set i v) f λb a=>(b=true->dc W.F W.cal e (l.set i v) a λy c=>d c/\P (some y) c)/\(b=false->d a/\P none a)
theorem gV{env:Env}(h:env.scope.kind=.function):(env.scope.kind==.class||(env.scope.kind==.module&&env.locals !=env.globals))=false:=by rw[h];rfl
theorem GG{C:Addr}{o:List (Addr×Obj)}{m':Str->Option Value}{h:Heap}{x:Obj}(H:W.H C o m' σ h):W.H C o m' σ (h.push x):=by
 obtain⟨g,b,a,D,F,N,R⟩:=H
 exact⟨g,b,a,D,F.push x,N.pushKeep x,R⟩
def o5(W:Wd)(L:Addr)(m:Str->Option Value)(opq:List (Addr×Obj))(b:Shared)(k:List AV->Hp->Prop)(i:Value->Addr->Result->Shared->Prop):Prop:=
 ∀(D C:Addr) (o:List (Addr×Obj)) (j:Str->Option Value) (a:Hp) (c:Shared) (f:List AV) (d:List Value) (h:Nat) (e:Obj),d8 b c->W.H C o j a c.heap->(L,e)∈o->(∀g:Heap,g.get? L=some e->g.Ns L m)->
  W.h₀.objs.size<=L->L≠D->(D,listOf d.toArray h)∈o->(∀p∈opq,p∈o/\p.1≠D/\p.1≠L)->aF VR d f->k f a->i (.ref D) C (.ok .next) c
theorem rJ{b:Shared}{Q:PX}:o5 W L m opq b (λys d=>∀c,d c=none->Q (.ref c) (upd d c (false,.list ys))) (λq C=>compPost W.M W.A E none (W.P L opq m Q b) q C):=by
 intro D C o z j O ys t u U x H w g2 v f I i k K
 obtain⟨y,B⟩:=HS.reveal (a:=D) (ob:=listOf t.toArray u) (fz:=false) (o:=.list ys) H I (λD P e=>⟨t,u,e,k⟩) qg
 refine⟨z,by obtain⟨g,R,_,_,F,_,_⟩:=H;exact F.ns,λr h=>?_⟩
 have N:W.H L opq m (upd j D (false,.list ys)) r:=HS.leave y (aA.mpr ⟨w,f⟩) g2 v (λp e=>⟨aA.mpr ⟨(i p e).1,(i p e).2.1⟩,(i p e).2.2⟩) h
 obtain⟨V,G,J⟩:=x
 subst J
 exact⟨.ref D,_,r,G,rfl,rfl,N,K D B⟩
noncomputable def Gg(m:Str->Option Value)(y:Str)(v:Value):Str->Option Value:=λx=>if x=y then some v else m x
inductive PU(W:Wd)(L:Addr)(opq:List (Addr×Obj))(m:Str->Option Value)(y:Str)(Q:PX)(s:Shared)(s':Shared):Prop
 |mk v a σ' h' tk (h1:s'={s with heap:=h',toks:=tk}) (h2:VR v a) (h3:W.H L opq (Gg m y v) σ' h') (h4:Q a σ'):PU W L opq m y Q s s'
theorem rN{b:Shared}{Q:PX}{y:Str}{py:Pos}(lv:W.L env n L m opq l)(V:env.kindOf y=some .local):o5 W L m opq b (λys d=>∀c,d c=none->Q (.ref c) (upd d c (false,.list ys)))
  (λG C=>compPost W.M W.A E (some (assign (.Name y py) env)) (λ_ s'=>PU W L opq m y Q b s') G C):=by
 intro D C o R x s' ys q u oL N H t g2 K h mD k z hc
 show wpAny W.M W.A (assign (.Name y py) env (.ref D)) _ E s'
 have r:=(H.opq_get t).1
 refine PySem.wpAny_assign_Name (wpAny_storeName_local (m:=m) V (by rw[lv.lo];exact g2 _ r) (λh2 j f=>?_) (gV lv.gd.fk))
 rw[lv.lo]at j f
 obtain⟨i,a1,a2,w,U⟩:=id j
 have J:=HS.opq_set H t f w
 have B:(D,listOf q.toArray u)∈eQ L i o:=bg mD (Ne.symm h)
 obtain⟨O,Y⟩:=HS.reveal (a:=D) (ob:=listOf q.toArray u) (fz:=false) (o:=.list ys) J B (λD P e=>⟨q,u,e,z⟩) qg
 refine⟨R,by obtain⟨g,tu,_,_,F,_,_⟩:=J;exact F.ns,λI v=>?_⟩
 have H4:W.H L opq (Gg m y (.ref D)) (upd x D (false,.list ys)) I:=HS.leave O (aA.mpr ⟨eB t,h⟩) (λg r=>⟨i,a1,a2,r,U⟩) K (λp e=>⟨aA.mpr ⟨bg (k p e).1 (k p e).2.2,(k p e).2.1⟩,(k p e).2.2⟩) v
 obtain⟨h8,Z,e8⟩:=N
 subst e8
 exact⟨.ref D,.ref D,_,I,Z+1,rfl,rfl,H4,hc D Y⟩
inductive Ei(W:Wd)(opq:List (Addr×Obj))(L I D C:Addr)(items:List AV)(need:Hp->Prop)(st:Nat->Obj->Prop)(f:AV->Hp->(Option AV->Hp->Prop)->Prop)(Qf:List AV->Hp->Prop)(oL:Obj)(s₀:Shared)(k:Nat)(s':Shared):Prop
 |mk (j:Nat) (o:List (Addr×Obj)) (m':Str->Option Value) (σ':Hp) (ys:List AV) (vs:List Value) (nn:Nat) (ob':Obj) (_:k=items.length-j) (_:j<=items.length) (_:d8 s₀ s') (_:W.H C o m' σ' s'.heap) (_:(L,oL)∈o) (_:(I,ob')∈o) (_:(D,listOf vs.toArray nn)∈o) (_:∀p∈opq,p∈o)
   (_:st j ob') (_:need σ') (_:aF VR vs ys) (_:ys.length<=j) (_:jH f (items.drop j) ys σ' Qf):Ei W opq L I D C items need st f Qf oL s₀ k s'
theorem vR{sc:Scope}{x:Str}{px pos:Pos}{i:Nat}{it' e':Expr}{κ:List Expr}{cs:CS}{e:X}{I D C:Addr}{cenv:Env}{oL:Obj}{items:List AV}{a:Hp->Prop}{st:Nat->Obj->Prop}{h:Shared}{Qf:List AV->Hp->Prop}{RR:Value->Addr->Result->Shared->Prop}{k:Nat}
  (ε:o5 W L m opq h Qf RR) (hC:W.SCS (n.inner sc x i) cs κ) (hE:W.SX (n.inner sc x i) e e') (it:xB W I items a st) (δ:items.length<=line)
  (μ:cenv.locals=C) (hx:cenv.scope.names.lookup x=some .local) (hk:cenv.scope.kind=.function) (ω:∀o m' u v,(∀p∈opq,p∈o)->m' x=some u->VR u v->W.L cenv (n.inner sc x i) C m' o (l.set i v))
  (ζ:L≠D) (β:L≠I) (R:I≠D) (d:∀p∈opq,p.1≠I/\p.1≠D/\p.1≠L) (g2:∀g:Heap,g.get? L=some oL->g.Ns L m) (g4:W.h₀.objs.size<=L)
  (P:Ei W opq L I D C items a st (one W a cs e i l) Qf oL h k s):codeAny W.M W.A (.compLoop (.ListComp e' [⟨.Name x px,it',κ,0⟩] sc pos) 0 (.ref I) (.ref D) cenv) (RR (.ref D) C) s:=by
 refine codeAny_compLoop_tests (λk Z=>Ei W opq L I D C items a st (one W a cs e i l) Qf oL h k Z) ?_ k P
 clear P k
 rintro k Z ⟨j,o,m',r,ys,Q,nn,w,rfl,hj,ρ,H',mL,Y,mD,mo,θ,γ,B,U,hc⟩
 cases hv:items[j]? with
 |some v=>
  have f:=(be hv).1
  have less:items.length-(j+1)<items.length-j:=Nat.sub_lt_sub_left f (Nat.lt_succ_self j)
  rw[tJ hv]at hc
  refine it.next j v hv C o m' r Z w _ _ H' Y θ γ λu h2 tk c ru hg2 O ν=>?_
  have υ:=HS.opq_set H' Y ν hg2
  dsimp only
  refine PySem.wpAny_assign_Name (wpAny_storeName_local (m:=m') hx (by rw[μ];exact υ.casesOn λ_ _ _ _ F _ _=>F.ns) (λh3 N J=>?_) (gV hk))
  rw[μ]at N J
  have ξ:=bg (ob':=c) mL β
  have t:=bg (ob':=c) mD (Ne.symm R)
  have V:∀p∈opq,p∈eQ I c o:=λp G=>bg (mo p G) (d p G).1
  have π:=ω (eQ I c o) (λz=>if z=x then some u else m' z) u v V (if_pos rfl) ru
  dsimp only
  refine jv (mM hC cenv C _ _ _ r {Z with heap:=h3,toks:=tk+1} _ _ π (HS.store υ N J) hc) λb η s4 φ H4 h4=>?_
  have K:=ρ.trans (d8.trans ⟨h3,tk+1,rfl⟩ φ)
  cases b with
  |false=>
   rw[if_neg Bool.false_ne_true]
   have q:=h4.2 rfl
   exact⟨_,less,.mk (j+1) _ _ η ys Q nn c rfl f K H4 ξ (eB Y) t V O q.1 B (Nat.le_succ_of_le U) q.2⟩
  |true=>
   rw[if_pos rfl]
   exact aN (hE cenv C _ _ _ η s4 _ _ π H4 (h4.1 rfl)) λu5 y σ5 s5 χ ψ H5 h5=>H5.casesOn λg tu news D5 F5 N5 R5=>
    append_K (its:=Q.toArray) (n:=nn) F5 N5 (fj R5.nd (R5.oq _ t).1) (λh6 F6 N6=>⟨_,less,.mk (j+1) (eQ D (listOf (Q.toArray.push u5) (nn+1)) (eQ I c o)) _ σ5 (ys++[y]) (Q++[u5]) (nn+1) c rfl f (K.trans (χ.trans ⟨h6,s5.toks,rfl⟩)) ⟨g,tu,_,D5,F6,N6,R5.opq_set t⟩ (bg ξ ζ) (bg (eB Y) R)
     (by rw[show(Q++[u5]).toArray=Q.toArray.push u5 by simp];exact eB t) (λp G=>bg (V p G) (d p G).2.1) O h5.1 (B.append (.one ψ)) (by rw[List.length_append];exact Nat.succ_le_succ U) h5.2⟩)
     (wx B.length (Nat.le_trans U (Nat.le_trans hj δ)))
 |none=>
  have f:=List.getElem?_eq_none_iff.mp hv
  obtain rfl:=Nat.le_antisymm hj f
  rw[List.drop_length]at hc
  exact it.fin C o m' r Z w _ _ H' Y θ γ λh2 hs2=>ε D C (cy I o) m' r _ ys Q nn oL (ρ.trans ⟨h2,Z.toks,rfl⟩) (HS.opq_drop H' Y hs2) (aA.mpr ⟨mL,β⟩) g2 g4 ζ (aA.mpr ⟨mD,Ne.symm R⟩)
   (λp G=>⟨aA.mpr ⟨mo p G,(d p G).1⟩,(d p G).2⟩) B hc
theorem o7{g:Scope}{x:Str}{px pos:Pos}{i:Nat}{it' e':Expr}{G:List Expr}{cs:CS}{e:X}{I:Addr}{items:List AV}{f:Hp->Prop}{st:Nat->Obj->Prop}{ob:Obj}{t:Shared}{Qf:List AV->Hp->Prop}{Y:Value->Addr->Result->Shared->Prop}(J:o5 W L m opq t Qf Y)
  (lv:W.L env n L m opq l) (R:n.lf=false) (ok:K8 n g x) (hi:(n.nm.all λp=>!(p.2==i))=true) (hC:W.SCS (n.inner g x i) cs G) (hE:W.SX (n.inner g x i) e e')
  (Z:xB W I items f st) (B:items.length<=line) (la:d8 t s) (H:W.H L ((I,ob)::opq) m σ s.heap) (K:st 0 ob) (w:f σ) (V:∀p∈opq,p.1≠I)
  (h:jH (one W f cs e i l) items [] σ Qf):
  wpAny W.M W.A (newList []) (λN z=>wpAny W.M W.A (newFunctionEnv g env.globals (pF env g.names []) [] env.qual none .none (some env)) (λcenv D=>
   codeAny W.M W.A (.compStart (.ListComp e' [⟨.Name x px,it',G,0⟩] g pos) 0 (.ref I) N {cenv with scope:=relabel g env}) (Y N cenv.locals) D) E z) E s:=by
 have hI:=H.opq_get (.head _)
 refine wpAny_newObj_type (wpAny_newFunctionEnv (λy U=>by have:=ok.nc y U;intro e;rw[e]at this;cases this) (by intro y U;simp at U) (λd a c=>?_) ok.k)
 dsimp only at a c ⊢
 have HD:=HS.opq_push lv.gd.st H {cls:=.type "list",dict:=none,data:=.seq ([]:List Value).toArray} rfl
 refine HS.enter (m':=λx=>List.lookup x ([]:List (Str×Value)).reverse) lv.gd.st HD (Nat.le_refl _) a (λb o q=>c.extBut b o (Nat.ne_of_lt (Heap.lt_size q)) (Heap.get?_push_of_some _ q)) λoL g2 _ g4 HC=>?_
 have Q:L≠s.heap.objs.size:=H.casesOn λ_ _ _ _ F _ _=>Nat.ne_of_lt F.ns.lt
 have j:=vR (s:={s with heap:=d,toks:=s.toks+([]:List (Str×Value)).length}) (px:=px) (pos:=pos) (it':=it') (cenv:=compEnvC g (pF env g.names []) (s.heap.push {cls:=.type "list",dict:=none,data:=.seq ([]:List Value).toArray}).objs.size env) J hC hE Z B rfl (lookup_relabel_local ok.x) ok.k
  (λo m' u v mo hm r=>xh lv R ok hi mo hm r) Q (Ne.symm hI.2.1) (Nat.ne_of_lt (Heap.lt_size hI.1))
  (λp O=>have q:=H.opq_get (.tail _ O);⟨V p O,Nat.ne_of_lt (Heap.lt_size q.1),q.2.1⟩) g2 g4
  (.mk 0 _ _ σ [] [] 0 ob rfl (Nat.zero_le _) (la.trans ⟨d,_,rfl⟩) HC (.head _) (.tail _ (.tail _ (.head _))) (.tail _ (.head _)) (λp O=>.tail _ (.tail _ (.tail _ O))) K w .nil (Nat.le_refl _) h)
 exact codeAny_compStart_list j (Z.self 0 _ _ _ σ {s with heap:=d,toks:=s.toks+([]:List (Str×Value)).length} ob _ _ HC (.tail _ (.tail _ (.head _))) K j)
theorem qK{i:Nat}{d:X}{q:CS}{e:X}{o it':Expr}{x:Str}{px pos:Pos}{b:List Expr}{u:Scope}{use:Option (Value->Sem Unit)}{Q:PX}{G:Value->Shared->Prop}
  (c:aX W.t n (.comp i d q e) (.ListComp o [⟨.Name x px,it',b,0⟩] u pos)=true) (R:∀e,aX W.t n d e=true->W.SX n d e) (ic:∀n es,kM W.t n q es=true->W.SCS n q es) (ie:∀n o,aX W.t n e o=true->W.SX n e o)
  (lv:W.L env n L m opq l) (H:W.H L opq m σ s.heap) (h:dc W.F W.cal (.comp i d q e) l σ Q)
  (j:o5 W L m opq s (λys f=>∀c,f c=none->Q (.ref c) (upd f c (false,.list ys))) (λD C=>compPost W.M W.A E use G D C)):
  wpAny W.M W.A (comprehension (.ListComp o [⟨.Name x px,it',b,0⟩] u pos) u env (firstIterPos [⟨.Name x px,it',b,0⟩] pos) (newList []) (firstAsync [⟨.Name x px,it',b,0⟩]) (firstIter [⟨.Name x px,it',b,0⟩] env) use) G E s:=by
 exact Pr (wT (uH c)) λz Y N c4 c5 c6 U c8=>
  have ok:=zC N
  wpAny_comprehension_free (use:=use) rfl (λ_=>fH (nt c4)) (iM λy w K=>lv.cc (nt z) y.1 (lF (lv.sc _) (ok.fr y w K))) ok.k (λy w e=>uX (ok.lc y w (by rw[e];rfl)))
   (aN (R _ c6 env L m opq l σ s _ E lv H h) λv a Z J O r B g=>bY r g λI g=>B.cL lv.gd.st g λV xs vs nn ex g1 r1 _ g=>wpAny_pyIter_list (aL g1)
    (o7 j lv (nt z) ok Y (ic _ _ U) (ie _ _ c8) (uu lv.gd.st (lv.hh (nt z)) _ I xs) g.1 (O.trans ⟨_,J.toks,rfl⟩) (HS.opq_push lv.gd.st B {cls:=.type "list_iterator",data:=.fields #[.ref I,.int 0 0]} rfl) ⟨rfl,rfl⟩ ⟨V,ex⟩ (λp hp=>Nat.ne_of_lt (Heap.lt_size (B.opq_get hp).1)) g.2))
theorem D4{i:Nat}{a:X}{d:CS}{e:X}{ex:Expr}(c:aX W.t n (.comp i a d e) ex=true)(k:∀e,aX W.t n a e=true->W.SX n a e)(p:∀n es,kM W.t n d es=true->W.SCS n d es)(r:∀n f,aX W.t n e f=true->W.SX n e f):
  W.SX n (.comp i a d e) ex:=
 iO c λf v u q g=>jz g λx j b o g env L m opq l σ s Q E lv H h=>by
  rw[eval_ListComp]
  exact qK (px:=j) (pos:=q) (it':=b) g k p r lv H h rJ
end
end
section
section
variable {W:Wd} {env:Env} {n:Cn} {L:Addr} {m:Str->Option Value} {opq:List (Addr×Obj)} {l:aG} {E:Value->Shared->Prop} {σ:Hp} {s:Shared}
theorem D1{h:Heap}(H:W.H L opq m σ h):∀p∈opq,p.1≠h.objs.size:=λp a=>Nat.ne_of_lt (Heap.lt_size (H.opq_get a).1)
theorem qa{a b c:Int}{t u v:Tok}{k:Nat}{R:Value->Shared->Prop}(lv:W.L env n L m opq l)(H:W.H L opq m σ s.heap)(hs:Builtin.Range.small a b c=true)(e:Builtin.Range.rangeSize a b c=k)
  (q:∀I s',d8 s s'->W.H L ((I,jE a k c)::opq) m σ s'.heap->(∀p∈opq,p.1≠I)->R (.ref I) s'):
  wpAny W.M W.A (pyIter (.ref s.heap.objs.size)) R E {s with heap:=s.heap.push {cls:=.type "range",data:=.fields #[.int a t,.int b u,.int c v]}}:=by
 have d:W.H L opq m σ (s.heap.push {cls:=.type "range",data:=.fields #[.int a t,.int b u,.int c v]}):=GG H
 refine wpAny_pyIter_range (IsRange.new ..) hs ?_
 rw[e]
 exact q _ _ ⟨_,s.toks,rfl⟩ (HS.opq_push lv.gd.st d (jE a k c) rfl) (D1 d)
theorem tG{lo hi:Int}:Builtin.Range.rangeSize lo hi 1=((hi-lo).toNat:Nat):=by
 rw[rangeSize_one];split<;>rename_i h
 ·exact tn (Int.sub_nonneg_of_le (Int.le_of_lt h))
 ·rw[t0 (Int.sub_nonpos_of_le (il h))];rfl
theorem qr{lo hi:Int}(a: -line<=lo/\lo<=line/\ -line<=hi/\hi<=line):Builtin.Range.small lo hi 1=true:=by
 exact small_one (Int.le_trans (by decide) a.1) (Int.lt_of_le_of_lt a.2.1 (by decide)) (Int.le_trans (by decide) a.2.2.1) (Int.lt_of_le_of_lt a.2.2.2 (by decide))
theorem uI{lo:Int}:Builtin.Range.rangeSize lo (-1) (-1)=((lo+1).toNat:Nat):=by
 unfold Builtin.Range.rangeSize
 have:¬(-1:Int)>0:=by decide
 rw[if_neg this]
 split<;>rename_i h
 ·simp;exact(Int.max_eq_left (Int.le_of_lt (Int.lt_add_one_of_le (h:(0:Int)<=lo)))).symm
 ·rw[t0 (Int.add_le_add_right (il h) 1)];rfl
theorem yw{lo:Int}(a: -line<=lo/\lo<=line):Builtin.Range.small lo (-1) (-1)=true:=by
 have:=bI
 unfold Builtin.Range.small
 rw[uI]
 simp only[Builtin.Range.rangeFitsLong,Bool.and_eq_true,Bool.or_eq_true,decide_eq_true_eq,beq_iff_eq,show¬(-1:Int)>0 by decide,if_false]
 exact⟨⟨⟨⟨⟨Int.le_trans (by decide) a.1,Int.lt_of_le_of_lt a.2 (by decide)⟩,by decide,by decide⟩,by decide,by decide⟩,Int.le_trans (by decide) (Int.natCast_nonneg _),Int.lt_of_le_of_lt (bF (Int.toNat_le.mpr (Int.add_le_add_right a.2 1):_<=10001)) (by decide)⟩,.inr ⟨by decide,by decide⟩⟩
theorem rX{r:Str}{p1 p2:Pos}{xs:XS}{as:List Expr}{Qs:List AV->Hp->Prop}{R:Value->Shared->Prop}(lv:W.L env n L m opq l)(H:W.H L opq m σ s.heap)(g:(r==gh)=true)(f:n.bi W.t r=true)
  (c:dC W.t n xs as=true) (o:W.SXS n xs as) (h:kX W.F W.cal xs l σ Qs)
  (k:∀vs b a s',d8 s s'->aF VR vs b->W.H L opq m a s'.heap->Qs b a->wpAny W.M W.A (call (.type "range") vs) R E s'):
  wpAny W.M W.A (eval (.Call (.Name r p1) as [] p2) env) R E s:=by
 obtain rfl:=eq_of_beq g
 exact Ac f λj i _ _ _=>Call_ (mh lv (nt j) i H lv.ok.rg tY (by decide) (mu (P:=λ_=>True) c o (jt (A6 rfl)) lv H h λvs as a s' e r p d=>⟨trivial,k vs as a s' e r p d⟩))
noncomputable def QQ(a:X):XS:=.cons a .nil
noncomputable def MW(a b:X):XS:=.cons a (.cons b .nil)
theorem AD{v:AV}(h:FY v=true):v=.int 0:=by
 cases v with
 |int i=>exact congrArg _ (of_decide_eq_true h)
 |_=>cases h
theorem vT{x:X}(h:pu x=true):x=.k (.int 0):=zQ (P:=λx=>x=.k (.int 0)) h λv h=>congrArg _ (AD h)
theorem rq{lo hi:Int}:(aM lo hi).map AV.int=(List.range (hi-lo).toNat).map λj=>.int (lo+1*(j:Nat)):=by
 unfold aM
 rw[List.map_map]
 refine List.map_congr_left λj _=>?_
 show AV.int (lo+(j:Nat))=_
 rw[Int.one_mul]
theorem zY{lo:Int}:(dN lo).map AV.int=(List.range (lo+1).toNat).map λj=>.int (lo+(-1)*(j:Nat)):=by
 unfold dN
 rw[List.map_map]
 refine List.map_congr_left λj _=>?_
 show AV.int (lo-(j:Nat))=_
 rw[Int.neg_one_mul];rfl
theorem OL{a b:X}{c d:Expr}(f:bB c=false)(h:bB d=false)(g:aX W.t n a c=true)(e:aX W.t n b d=true):dC W.t n (MW a b) [c,d]=true:=by
 show(!bB c&&aX W.t n a c&&(!bB d&&aX W.t n b d&&true))=true
 rw[f,g,h,e];rfl
theorem QW{b:X}{a:Expr}(c:bB a=false)(d:aX W.t n b a=true):dC W.t n (QQ b) [a]=true:=by
 show(!bB a&&aX W.t n b a&&true)=true
 rw[c,d];rfl
theorem sj{r:Str}{p1 p2:Pos}{lo hi:X}{as:List Expr}{Q:Int->Int->Hp->Prop}{R:Value->Shared->Prop}(lv:W.L env n L m opq l)(H:W.H L opq m σ s.heap)(hr:(r==gh)=true)(Z:n.bi W.t r=true)
  (c:(Fi as (λj f=>!bB j&&!bB f&&aX W.t n lo j&&aX W.t n hi f)||wq as λf=>!bB f&&pu lo&&aX W.t n hi f)=true)
  (ia:∀e,aX W.t n lo e=true->W.SX n lo e) (Y:∀e,aX W.t n hi e=true->W.SX n hi e)
  (h:dc W.F W.cal lo l σ λa d=>dc W.F W.cal hi l d λb B=>bV a λx=>bV b λy=>Q x y B)
  (hq:∀x y d,Q x y d-> -line<=x/\x<=line/\ -line<=y/\y<=line)
  (k:∀lo hi d I s',Q lo hi d->d8 s s'->W.H L ((I,jE lo (hi-lo).toNat 1)::opq) m d s'.heap->(∀p∈opq,p.1≠I)->R (.ref I) s'):
  wpAny W.M W.A (eval (.Call (.Name r p1) as [] p2) env) (λv z=>wpAny W.M W.A (pyIter v) R E z) E s:=
 bor c
  (λc=>sR c λj f c=>Ak c λO N G c4=>
   have g:=OL (nt O) (nt N) G c4
   rX (Qs:=λw d=>EV w λa b=>bV a λx=>bV b λy=>Q x y d) lv H hr Z g (iy g ia λes c=>iy c Y λes c=>nN c) h λvs w d s' K J U i=>
    jV J i λv a u b r1 V i=>eN r1 V i λlo t1 hi t2 q=>call_range_2 (qa (s:={s' with toks:=s'.toks+1}) lv U (qr (hq _ _ _ q)) tG λI s2 o D hI=>k lo hi d I s2 q (K.trans (d8.trans ⟨s'.heap,_,rfl⟩ o)) D hI))
  λc=>dQ c λf c=>kZ c λO N G=>by
   obtain rfl:=vT N
   have g:=QW (W:=W) (nt O) G
   exact rX (Qs:=λw d=>Ah w λb=>bV b λy=>Q 0 y d) lv H hr Z g (iy g Y λes c=>nN c) h λvs w d s' K J U i=>
    gq J i λv a V i=>bw V i λhi t2 q=>call_range_1 (qa (s:={s' with toks:=s'.toks+1+1}) lv U (qr (hq _ _ _ q)) tG λI s2 o D hI=>k 0 hi d I s2 q (K.trans (d8.trans ⟨s'.heap,_,rfl⟩ o)) D hI)
theorem zP{r:Str}{p1 p2:Pos}{lo hi:X}{d g:Expr}{k1 p3 p4}{Q:Int->Int->Hp->Prop}{R:Value->Shared->Prop}(lv:W.L env n L m opq l)(H:W.H L opq m σ s.heap)(U:(r==gh)=true)(N:n.bi W.t r=true)
  (Z:bB d=false) (Y:bB g=false) (D:aX W.t n lo d=true) (G:aX W.t n hi g=true)
  (V:∀e,aX W.t n lo e=true->W.SX n lo e) (J:∀e,aX W.t n hi e=true->W.SX n hi e)
  (h:dc W.F W.cal lo l σ λa c=>dc W.F W.cal hi l c λb f=>bV a λx=>bV b λy=>Q x y f)
  (hq:∀x y c,Q x y c->y= -1/\ -line<=x/\x<=line)
  (k:∀lo c I s',Q lo (-1) c->d8 s s'->W.H L ((I,jE lo (lo+1).toNat (-1))::opq) m c s'.heap->(∀p∈opq,p.1≠I)->R (.ref I) s'):
  wpAny W.M W.A (eval (.Call (.Name r p1) [d,g,.UnaryOp .USub (.Constant (.int 1) k1 p3) p4] [] p2) env) (λv j=>wpAny W.M W.A (pyIter v) R E j) E s:=by
 obtain rfl:=eq_of_beq U
 refine Ac N λgF kZ _ _ _=>Call_ (mh lv (nt gF) kZ H lv.ok.rg tY (by decide) ?_)
 have k3:aX W.t n (.k (.int (-1))) (.UnaryOp .USub (.Constant (.int 1) k1 p3) p4)=true:=rfl
 have g2:=OL (W:=W) (a:=hi) (b:=.k (.int (-1))) Y rfl G k3
 have g1:dC W.t n (.cons lo (MW hi (.k (.int (-1))))) [d,g,.UnaryOp .USub (.Constant (.int 1) k1 p3) p4]=true:=by
  show(!bB d&&aX W.t n lo d&&dC W.t n (MW hi (.k (.int (-1)))) _)=true
  rw[Z,D,g2];rfl
 have B:=eI (pos:=p2) (env:=env) g1
 refine callWith_of (P:=λ_=>True) (by rw[B.1];rfl) (jt (A6 rfl)) ?_
 rw[B.2 _ _ rfl,(eI (pos:=p2) (env:=env) g2).2 _ _ rfl]
 exact evalArgs_plain (spliced_cons (aN (V _ D env L m opq l σ s _ E lv H h) λv x c s' e r H' K=>spliced_cons (aN (J _ G env L m opq l c s' _ E lv H' K) λv' y f i e' r' w o=>
  spliced_cons (wpAny_UnaryOp (wpAny_Constant_int (neg_int λt=>spliced_nil ⟨trivial,eN r r' o λlo t1 y t2 q=>by
   have u:=hq _ _ _ q
   obtain⟨rfl,u⟩:=u
   exact call_range_3 (by decide) (qa (s:={i with toks:=i.toks+1+1}) lv w (yw u) uI λI s2 z O hI=>k lo f I s2 q ((e.trans e').trans (d8.trans ⟨i.heap,_,rfl⟩ z)) O hI) (.inl (PyProof.noPylong_small (by decide)))⟩))))))
theorem D2{lo hi:Int}(h:0<=lo)(q:hi<=line):((aM lo hi).map AV.int).length<=line:=by
 rw[aM,List.length_map,List.length_map,List.length_range];exact Int.toNat_le.mpr (Int.le_trans (Int.sub_le_self hi h) q)
theorem oZ{i:Nat}{lo hi:X}{q:CS}{e:X}{p:Expr}{x r:Str}{px pos p1 p2:Pos}{as:List Expr}{d:List Expr}{u:Scope}{use:Option (Value->Sem Unit)}{Q:PX}{D:Value->Shared->Prop}
  (c:aX W.t n (.compR i lo hi q e) (.ListComp p [⟨.Name x px,.Call (.Name r p1) as [] p2,d,0⟩] u pos)=true) (U:∀e,aX W.t n lo e=true->W.SX n lo e) (G:∀e,aX W.t n hi e=true->W.SX n hi e)
  (Z:∀n es,kM W.t n q es=true->W.SCS n q es) (ie:∀n p,aX W.t n e p=true->W.SX n e p)
  (lv:W.L env n L m opq l) (H:W.H L opq m σ s.heap) (h:dc W.F W.cal (.compR i lo hi q e) l σ Q)
  (o:o5 W L m opq s (λys j=>∀c,j c=none->Q (.ref c) (upd j c (false,.list ys))) (λB C=>compPost W.M W.A E use D B C)):
  wpAny W.M W.A (comprehension (.ListComp p [⟨.Name x px,.Call (.Name r p1) as [] p2,d,0⟩] u pos) u env (firstIterPos [⟨.Name x px,.Call (.Name r p1) as [] p2,d,0⟩] pos) (newList []) (firstAsync [⟨.Name x px,.Call (.Name r p1) as [] p2,d,0⟩]) (firstIter [⟨.Name x px,.Call (.Name r p1) as [] p2,d,0⟩] env) use) D E s:=
 Ak (Ge (wT (uH c))) λg R c8 c9=>Fc g λz V N c4 J c6=>
  have ok:=zC N
  wpAny_comprehension_free (use:=use) rfl (λ_=>fH rfl) (iM λy w K=>lv.cc (nt z) y.1 (lF (lv.sc _) (ok.fr y w K))) ok.k (λy w e=>uX (ok.lc y w (by rw[e];rfl)))
   (sj lv H J c6 R U G h (λa b v f=>⟨Int.le_trans (by decide) f.1.1,f.1.2.1,Int.le_trans (by decide) f.1.2.2.1,f.1.2.2.2⟩) λlo hi v I s' f O Y hI=>
    o7 o lv (nt z) ok V (Z _ _ c8) (ie _ _ c9) (rq▸l8 (lv.hh (nt z)) I lo 1 (hi-lo).toNat) (D2 f.1.1 f.1.2.2.2) O Y (by show _=_;simp) trivial hI f.2)
theorem Aq{i:Nat}{lo hi:X}{a:CS}{e:X}{ex:Expr}(c:aX W.t n (.compR i lo hi a e) ex=true)(o:∀e,aX W.t n lo e=true->W.SX n lo e)(k:∀e,aX W.t n hi e=true->W.SX n hi e)
  (q:∀n es,kM W.t n a es=true->W.SCS n a es) (v:∀n b,aX W.t n e b=true->W.SX n e b):W.SX n (.compR i lo hi a e) ex:=
 iO c λb A y u g=>jz g λx j w p g=>fW g λr d z f g env L m opq l σ s Q E lv H h=>by
  rw[eval_ListComp]
  exact oZ (px:=j) (pos:=u) (p1:=d) (p2:=f) g o k q v lv H h rJ
end
end
section
variable {W:Wd}
mutual
theorem cg:∀(x:X) (n:Cn) (e:Expr),aX W.t n x e=true->W.SX n x e
 |.k _,_,_,c=>Q6 c
 |.v _,_,_,c=>Ry c
 |.at o _,n,_,c=>Nn c λe c=>cg o n e c
 |.bin _ a b,n,_,c=>FU c (λe c=>cg a n e c) λe c=>cg b n e c
 |.cmp _ a b,n,_,c=>Cx c (λe c=>cg a n e c) λe c=>cg b n e c
 |.orX a b,n,_,c=>LW c (λe c=>cg a n e c) λe c=>cg b n e c
 |.ite t a b,n,_,c=>G4 c (λe c=>C7 t n e c) (λe c=>cg a n e c) λe c=>cg b n e c
 |.sub a b,n,_,c=>Fy c (λe c=>cg a n e c) λe c=>cg b n e c
 |.upto a b,n,_,c=>D9 c (λe c=>cg a n e c) λe c=>cg b n e c
 |.frm a b,n,_,c=>FZ c (λe c=>cg a n e c) λe c=>cg b n e c
 |.lst es,n,_,c=>GW c λe c=>pJ es n e c
 |.tup es,n,_,c=>GS c λe c=>pJ es n e c
 |.dic,_,_,c=>G6 c
 |.fn _ es,n,_,c=>MU c λe c=>pJ es n e c
 |.mk _ es,n,_,c=>MM c λe c=>pJ es n e c
 |.mth o _ es,n,_,c=>Hg c (λe c=>cg o n e c) λe c=>pJ es n e c
 |.bi _ es,n,_,c=>Mf c λe c=>pJ es n e c
 |.bm _ o es,n,_,c=>LH c (λe c=>cg o n e c) λe c=>pJ es n e c
 |.comp _ f d x,n,_,c=>D4 c (λe c=>cg f n e c) (λn es c=>sK d n es c) λn e c=>cg x n e c
 |.compR _ a b d x,n,_,c=>Aq c (λe c=>cg a n e c) (λe c=>cg b n e c) (λn es c=>sK d n es c) λn e c=>cg x n e c
theorem pJ:∀(xs:XS) (n:Cn) (es:List Expr),dC W.t n xs es=true->W.SXS n xs es
 |.nil,_,_,c=>nN c
 |.cons x xs,n,_,c=>iy c (λe c=>cg x n e c) λe c=>pJ xs n e c
theorem C7:∀(x:C) (n:Cn) (e:Expr),um W.t n x e=true->W.SC n x e
 |.t (.cmp o a b),n,_,c=>oG c (λe c=>Cx c (λe c=>cg a n e c) λe c=>cg b n e c) λo' l j h=>by cases h;exact⟨λe c=>cg a n e c,λe c=>cg b n e c⟩
 |.t (.k v),n,_,c=>oG c (λe c=>cg (.k v) n e c) λ_ _ _ h=>nomatch h
 |.t (.v i),n,_,c=>oG c (λe c=>cg (.v i) n e c) λ_ _ _ h=>nomatch h
 |.t (.at o f),n,_,c=>oG c (λe c=>cg (.at o f) n e c) λ_ _ _ h=>nomatch h
 |.t (.bin o a b),n,_,c=>oG c (λe c=>cg (.bin o a b) n e c) λ_ _ _ h=>nomatch h
 |.t (.orX a b),n,_,c=>oG c (λe c=>cg (.orX a b) n e c) λ_ _ _ h=>nomatch h
 |.t (.ite t a b),n,_,c=>oG c (λe c=>cg (.ite t a b) n e c) λ_ _ _ h=>nomatch h
 |.t (.sub a b),n,_,c=>oG c (λe c=>cg (.sub a b) n e c) λ_ _ _ h=>nomatch h
 |.t (.upto a b),n,_,c=>oG c (λe c=>cg (.upto a b) n e c) λ_ _ _ h=>nomatch h
 |.t (.frm a b),n,_,c=>oG c (λe c=>cg (.frm a b) n e c) λ_ _ _ h=>nomatch h
 |.t (.lst es),n,_,c=>oG c (λe c=>cg (.lst es) n e c) λ_ _ _ h=>nomatch h
 |.t (.tup es),n,_,c=>oG c (λe c=>cg (.tup es) n e c) λ_ _ _ h=>nomatch h
 |.t .dic,n,_,c=>oG c (λe c=>cg .dic n e c) λ_ _ _ h=>nomatch h
 |.t (.fn f es),n,_,c=>oG c (λe c=>cg (.fn f es) n e c) λ_ _ _ h=>nomatch h
 |.t (.mk f es),n,_,c=>oG c (λe c=>cg (.mk f es) n e c) λ_ _ _ h=>nomatch h
 |.t (.mth o f es),n,_,c=>oG c (λe c=>cg (.mth o f es) n e c) λ_ _ _ h=>nomatch h
 |.t (.bi f es),n,_,c=>oG c (λe c=>cg (.bi f es) n e c) λ_ _ _ h=>nomatch h
 |.t (.bm f o es),n,_,c=>oG c (λe c=>cg (.bm f o es) n e c) λ_ _ _ h=>nomatch h
 |.t (.comp i g d x),n,_,c=>oG c (λe c=>cg (.comp i g d x) n e c) λ_ _ _ h=>nomatch h
 |.t (.compR i a b d x),n,_,c=>oG c (λe c=>cg (.compR i a b d x) n e c) λ_ _ _ h=>nomatch h
 |.not x,n,_,c=>Gw c λe c=>C7 x n e c
 |.and d,n,_,c=>HU c λe c=>sK d n e c
 |.or d,n,_,c=>FH c λe c=>sK d n e c
theorem sK:∀(a:CS) (n:Cn) (es:List Expr),kM W.t n a es=true->W.SCS n a es
 |.nil,n,es,c=>by
  refine cS c ?_
  trivial
 |.cons x a,n,es,c=>by
  refine iU c λe r g=>?_
  refine gF g λg1 g2=>?_
  exact⟨C7 x n e g1,sK a n r g2⟩
end
end
section
structure Lw(W:Wd)(env:Env)(n:Cn)(L:Addr)(m:Str->Option Value)(U Z:List (Addr×Obj))(l:aG):Prop where
 lv:W.L env n L m (U++Z) l
 lf:n.lf=false
 ce:∀y,env.scope.names.lookup y=some .cell->∃ca o v,env.cells.lookup y=some ca/\(ca,o)∈U/\o.data=.cell v
 ij:∀y z ca,env.scope.names.lookup y=some .cell->env.cells.lookup y=some ca->env.cells.lookup z=some ca->z=y
 ap:∀y ca,env.scope.names.lookup y=some .cell->env.cells.lookup y=some ca->∀p∈Z,p.1≠ca
 ni:∀y z i,n.nm.lookup y=some i->n.nm.lookup z=some i->y=z
 nf:∀y,env.scope.names.lookup y≠some .free
inductive Dt:Flow->Fl->Prop
 |next:Dt .next .next
 |brk:Dt .brk .brk
 |cont:Dt .cont .cont
 |ret {v a}:VR v a->Dt (.ret v) (.ret a)
section
variable {W:Wd} {env:Env} {n:Cn} {L:Addr} {m:Str->Option Value} {opq U Z:List (Addr×Obj)} {l:aG} {E:Value->Shared->Prop} {σ:Hp} {s:Shared}
inductive PT(W:Wd)(env:Env)(n:Cn)(L:Addr)(Z:List (Addr×Obj))(l:aG)(σ:Hp)(s s':Shared):Prop
 |mk m' cs' h' tk (h1:s'={s with heap:=h',toks:=tk}) (h2:Lw W env n L m' cs' Z l) (h3:W.H L (cs'++Z) m' σ h'):PT W env n L Z l σ s s'
inductive PS(W:Wd)(env:Env)(n:Cn)(L:Addr)(Z:List (Addr×Obj))(Q:Fl->aG->Hp->Prop)(s:Shared)(f:Flow)(s':Shared):Prop
 |mk fl l' σ' m' cs' h' tk (h1:s'={s with heap:=h',toks:=tk}) (h2:Dt f fl) (h3:Lw W env n L m' cs' Z l') (h4:W.H L (cs'++Z) m' σ' h') (h5:Q fl l' σ'):PS W env n L Z Q s f s'
@[elab_as_elim] theorem wR{Q:Fl->aG->Hp->Prop}{P:Flow->Shared->Prop}{f:Flow}{s':Shared}(p:PS W env n L Z Q s f s')(k:∀{f d},Dt f d->∀c b m' a s',d8 s s'->Lw W env n L m' a Z c->W.H L (a++Z) m' b s'.heap->Q d c b->P f s'):P f s':=by
 obtain⟨d,c,b,m',a,i,e,rfl,r,h,j,g⟩:=p
 exact k r c b m' a _ ⟨i,e,rfl⟩ h j g
theorem xc{Q:Fl->aG->Hp->Prop}{s':Shared}(e:d8 s s'){f:Flow}{a:Shared}(p:PS W env n L Z Q s' f a):PS W env n L Z Q s f a:=by
 obtain⟨t,u,rfl⟩:=e
 obtain⟨q,j,b,k,d,i,c,rfl,r,h,o,g⟩:=p
 exact⟨q,j,b,k,d,i,c,rfl,r,h,o,g⟩
theorem yK{t:Sem Flow}{Q:Fl->aG->Hp->Prop}{a:Shared}(e:d8 a s)(h:wpAny W.M W.A t (PS W env n L Z Q s) E s):wpAny W.M W.A t (PS W env n L Z Q a) E s:=
 wpAny_mono h (λ_ _ p=>xc e p) λ_ _ x=>x
theorem bf{Q:Fl->aG->Hp->Prop}{a:Shared}{f:Flow}{b:Fl}(e:d8 a s)(r:Dt f b)(c:Lw W env n L m U Z l)(H:W.H L (U++Z) m σ s.heap)(q:Q b l σ):PS W env n L Z Q a f s:=
 xc e ⟨b,l,σ,m,U,s.heap,s.toks,rfl,r,c,H,q⟩
theorem Dx{x:Str}{i:Nat}(h:n.sto x=some i):n.nm.lookup x=some i:=lB h λ_ h=>h
theorem jQ{a:Addr}{ob:Obj}:∀{o:List (Addr×Obj)},(∀p∈o,p.1≠a)->eQ a ob o=o
 |[],_=>rfl
 |p::r,h=>by
  show(if p.1=a then(a,ob) else p)::eQ a ob r=_
  rw[if_neg (h p (.head _)),jQ λq b=>h q (.tail _ b)]
theorem qL{a:Addr}{ob:Obj}{o o':List (Addr×Obj)}:eQ a ob (o++o')=eQ a ob o++eQ a ob o':=List.map_append
theorem yy{x:Str}{i:Nat}{v:Value}{a:AV}{m':Str->Option Value}{o:List (Addr×Obj)}(g:Lw W env n L m U Z l)(hi:n.nm.lookup x=some i)(r:VR v a)(p:Az env m' o x v)(k:∀y w,y≠x->Az env m (U++Z) y w->Az env m' o y w):AT env n.nm m' o (l.set i a):=λy j c d=>by
 by_cases b:y=x
 ·rw[b,hi]at c
  obtain rfl:=Option.some.inj c
  rw[Pz d,b]
  exact⟨v,p,r⟩
 ·have f:i≠j:=λe=>b (g.ni y x i (e▸c) hi)
  rw[iL f]at d ⊢
  exact(g.lv.lr y j c d).elim λw h=>⟨w,k y w b h.1,h.2⟩
theorem ry{x:Str}{i:Nat}{v:Value}{a:AV}(c:Lw W env n L m U Z l)(hi:n.nm.lookup x=some i)(b:env.scope.names.lookup x=some .local)(r:VR v a):AT env n.nm (Gg m x v) (U++Z) (l.set i a):=
 yy c hi r (.inl ⟨b,if_pos rfl⟩) λy w d h=>h.imp (λh=>⟨h.1,(if_neg d).trans h.2⟩) id
theorem Aw{x:Str}{i:Nat}{v:Value}{a:AV}{b:Addr}{o o':Obj}(g:Lw W env n L m U Z l)(hi:n.nm.lookup x=some i)(d:env.scope.names.lookup x=some .cell)(f:env.cells.lookup x=some b)(p:(b,o)∈U)(t:o'.data=.cell (some v))(r:VR v a):
  AT env n.nm m (eQ b o' U++Z) (l.set i a):=
 yy g hi r (.inr ⟨by rw[d];rfl,b,o',f,List.mem_append_left _ (eB p),t⟩) λy w k h=>h.imp id λh=>⟨h.1,h.2.elim λc h=>h.elim λj h=>⟨c,j,h.1,
  (aE h.2.1).elim (λq=>List.mem_append_left _ (bg q λe=>k (g.ij x y b d f ((show c=b from e)▸h.1)))) (List.mem_append_right _),h.2.2⟩⟩
theorem qO{x:Str}{i:Nat}{v:Value}{a:AV}(b:Lw W env n L m U Z l)(G:n.sto x=some i)(r:VR v a)(H:W.H L (U++Z) m σ s.heap):
  wpAny W.M W.A (storeName env x v) (λ_ s'=>PT W env n L Z (l.set i a) σ s s') E s:=
 lB G λc t=>bor c
  (λc=>by
   have d:=b.lv.sc x
   rw[b8 c]at d
   replace d:=d.local
   refine wpAny_storeName_local (m:=m) d (by rw[b.lv.lo];exact H.casesOn λ_ _ _ _ F _ _=>F.ns) (λk D j=>?_) (gV b.lv.gd.fk)
   rw[b.lv.lo]at D j
   exact⟨Gg m x v,U,k,s.toks+1,rfl,⟨{b.lv with lr:=ry b t d r},b.lf,b.ce,b.ij,b.ap,b.ni,b.nf⟩,HS.store H D j⟩)
  λc=>by
   have d:=b.lv.sc x
   rw[b8 c]at d
   replace d:=d.cell
   obtain⟨f,o,Q,q,p,J⟩:=b.ce x d
   have B:(f,o)∈U++Z:=List.mem_append_left _ p
   refine wpAny_storeName_cell b.lv.gd.fk d q ⟨o,(H.opq_get B).1,J⟩ λk O j=>O.elim λw g=>?_
   have z:=HS.opq_set H B j g.1
   rw[qL,jQ (b.ap x f d q)]at z
   refine⟨m,eQ f w U,k,s.toks,rfl,⟨{b.lv with lr:=Aw b t d q p g.2 r},b.lf,λy K=>?_,b.ij,b.ap,b.ni,b.nf⟩,z⟩
   exact(b.ce y K).elim λu h=>h.elim λI h=>h.elim λN h=>if e:u=f then⟨f,w,some v,e▸h.1,eB p,g.2⟩ else⟨u,I,N,h.1,bg h.2.1 e,h.2.2⟩
theorem Ew{d:aG}{s':Shared}(e:d8 s s'){a:Shared}(p:PT W env n L Z d σ s' a):PT W env n L Z d σ s a:=by
 obtain⟨i,j,rfl⟩:=e
 obtain⟨h,b,g,c,rfl,r,f⟩:=p
 exact⟨h,b,g,c,rfl,r,f⟩
theorem mW{x:Str}{i:Nat}{v:Value}{a:AV}{R:Shared->Prop}(g:Lw W env n L m U Z l)(d:n.sto x=some i)(r:VR v a)(H:W.H L (U++Z) m σ s.heap)(k:∀m' b s',d8 s s'->Lw W env n L m' b Z (l.set i a)->W.H L (b++Z) m' σ s'.heap->R s'):
  wpAny W.M W.A (storeName env x v) (λ_ s'=>R s') E s:=
 wpAny_mono (qO g d r H) (λ_ s' p=>by obtain⟨m',b,f,c,rfl,r,e⟩:=p;exact k m' b _ ⟨f,c,rfl⟩ r e) λ_ _ x=>x
theorem kC:∀{is:List Nat} {ts:List Expr} {vs:List Value} {as:List AV} {l a:aG} {m:Str->Option Value} {U:List (Addr×Obj)} {s:Shared},names n is ts=true->zp l is as=some a->aF VR vs as->Lw W env n L m U Z l->W.H L (U++Z) m σ s.heap->
  wpAny W.M W.A (assignInOrder ((assignEach ts env).map (·.2)) vs) (λ_ s'=>PT W env n L Z a σ s s') E s
 |[],ts,_,as,l,a,m,U,s,c,h,r,b,H=>cS (P:=λts=>wpAny W.M W.A (assignInOrder ((assignEach ts env).map (·.2)) _) _ E s) c (by
  cases r with
  |nil=>obtain rfl:=Option.some.inj h;exact assignInOrder_nil ⟨m,U,s.heap,s.toks,rfl,b,H⟩
  |cons _ _=>cases h)
 |i::is,ts,vs,as,l,a,m,U,s,c,h,r,b,H=>iU (P:=λts=>wpAny W.M W.A (assignInOrder ((assignEach ts env).map (·.2)) vs) _ E s) c λt ts c=>bW (P:=λt=>wpAny W.M W.A (assignInOrder ((assignEach (t::ts) env).map (·.2)) vs) _ E s) c λx p c=>gF c λg f=>by
  cases r with
  |nil=>cases h
  |cons j r=>
   exact assignInOrder_cons (PySem.wpAny_assign_Name (mW b (bH g) j H λq o s' e d k=>wpAny_mono (kC f h r d k) (λ_ _ p=>Ew e p) λ_ _ x=>x))
theorem mZ{env:Env}{n:Cn}:∀{is:List Nat} {ts:List Expr},names n is ts=true->(assignEach ts env).length=is.length/\(assignEach ts env).findIdx? (·.1)=none
 |[],ts,c=>cS c ⟨rfl,rfl⟩
 |i::is,ts,c=>iU c λt ts c=>bW c λx p c=>gF c λ_ a=>
  have h:=mZ (env:=env) a
  ⟨congrArg Nat.succ h.1,by
   show((false,assign (.Name x p) env)::assignEach ts env).findIdx? (·.1)=none
   rw[List.findIdx?_cons,h.2];rfl⟩
theorem qV:∀{is:List Nat} {as:List AV} {l a:aG},zp l is as=some a->is.length=as.length
 |[],[],_,_,_=>rfl
 |[],_::_,_,_,h=>by cases h
 |_::_,[],_,_,h=>by cases h
 |_::is,_::as,_,_,h=>congrArg Nat.succ (qV (is:=is) (as:=as) h)
theorem vP{is:List Nat}{a:AV}{Q:aG->Prop}(b:Hq is=true)(h:eU is a l σ Q):kh a λr=>cT (σ r) λvs=>op (zp l is vs) λc=>vs.length<=8/\Q c:=by
 cases is with
 |nil=>exact fT b
 |cons i is=>cases is with
  |nil=>exact fT b
  |cons j is=>exact h
theorem kD{is:List Nat}{ts:List Expr}{B:Nat}{pos:Pos}{v:Value}{a:AV}{R:Shared->Prop}{Q:aG->Prop}(o:Hq is=true)(c:names n is ts=true)(r:VR v a)(j:Lw W env n L m U Z l)(H:W.H L (U++Z) m σ s.heap)(h:eU is a l σ Q)
  (k:∀i m' b s',Q i->d8 s s'->Lw W env n L m' b Z i->W.H L (b++Z) m' σ s'.heap->R s'):
  wpAny W.M W.A (assign (.Tuple ts B pos) env v) (λ_ s'=>R s') E s:=
 bY r (vP o h) λK h=>C4 h λV Y ex h=>di h λi t G=>(HS.tup j.lv.gd.st H ex).elim λu d=>d.elim λO d=>by
  have e:=mZ (env:=env) c
  refine H.casesOn λg w f D F N R=>unpackN_ (items:=u.toArray) F N ⟨_,d.1,rfl,_,rfl⟩ (j.lv.hh j.lf) (e.1.trans ((qV t).trans d.2.length.symm)) e.2 λI J y=>?_
  exact wpAny_mono (kC (s:={s with heap:=I}) c t d.2 j ⟨g,w,f,D,J,y,R⟩) (λ_ _ p=>by obtain⟨m',b,o,q,rfl,r,z⟩:=p;exact k i m' b _ G.2 ⟨o,q,rfl⟩ r z) λ_ _ x=>x
end
end
section
def Wd.StOk(W:Wd)(n:Cn)(x:S)(st:Stmt):Prop:=∀env L m U Z l σ s Q E,Lw W env n L m U Z l->W.H L (U++Z) m σ s.heap->Ov W.F W.cal x l σ Q->wpAny W.M W.A (exec st env) (PS W env n L Z Q s) E s
def Wd.StsOk(W:Wd)(n:Cn)(x:SS)(a:List Stmt):Prop:=∀env L m U Z l σ s Q E,Lw W env n L m U Z l->W.H L (U++Z) m σ s.heap->ji W.F W.cal x l σ Q->wpAny W.M W.A (execs a env) (PS W env n L Z Q s) E s
section
variable {W:Wd} {env:Env} {n:Cn} {L:Addr} {m:Str->Option Value} {opq U Z:List (Addr×Obj)} {l:aG} {E:Value->Shared->Prop} {σ:Hp} {s:Shared}
theorem qC{e:Expr}{t:Option Expr}{k:Nat}(h:pi e=false):swapsWith e t k env=pure false:=by
 cases e<;>first|rfl|cases h
theorem jS{e t:Expr}{k:Nat}(h:pi e=false):swapsWithSole [t] e k env=pure false:=by
 cases e<;>first|rfl|cases h
theorem we{e:Expr}{ts:List Expr}{k:Nat}{p:Pos}(h:wG e=true):swappedStores [.Tuple ts k p] e env=pure none:=by
 cases e<;>first|rfl|cases h
theorem vD{i:Expr}{ov a new:Value}(h:gu i=false):augStore i ov a new=(do holding [new,ov,a] (PySem.setItem ov a new);release [new,ov,a] [];pure .next):=by
 cases i<;>first|rfl|cases h
theorem mV{x:Str}{i:Nat}{v:Value}{a:AV}{b:Shared}{Q:Fl->aG->Hp->Prop}(e:d8 b s)(h:Lw W env n L m U Z l)(d:n.sto x=some i)(r:VR v a)(H:W.H L (U++Z) m σ s.heap)(q:Q .next (l.set i a) σ):
  wpAny W.M W.A (storeName env x v) (λ_=>PS W env n L Z Q b .next) E s:=
 mW h d r H λo j k f c g=>bf (e.trans f) .next c g q
theorem rh{e:Expr}{b:List Comprehension}{a:Scope}{p pos:Pos}{x:Str}{k:Nat}:
  swapsWith (.ListComp e b a p) (some (.Name x pos)) k env=pure (env.blockKind==.function&&env.kindOf x==some .local&&pos.line==p.line&&!(a.names.any λ(n,k)=>n==x&&(k==.local||k==.cell))):=rfl
theorem Gq{x:Str}{i:Nat}{Q:Fl->aG->Hp->Prop}{s':Shared}(b:Lw W env n L m U Z l)(g:n.sto x=some i)(k:env.kindOf x=some .local)(h:PU W L (U++Z) m x (λv c=>Q .next (l.set i v) c) s s'):PS W env n L Z Q s .next s':=
 h.casesOn λv a c d f e r j q=>⟨.next,l.set i a,c,Gg m x v,U,d,f,e,.next,⟨{b.lv with lr:=ry b (Dx g) k r},b.lf,b.ce,b.ij,b.ap,b.ni,b.nf⟩,j,q⟩
theorem P4{t:Ct}{e:X}{a:Expr}{d:List Comprehension}{b:Scope}{p:Pos}(c:aX t n e (.ListComp a d b p)=true):e.ctorIdx=18∨e.ctorIdx=19:=by
 cases e with
 |comp=>exact .inl rfl
 |compR=>exact .inr rfl
 |_=>exact absurd c Bool.false_ne_true
theorem yF{i:Nat}{x:Str}{px N p:Pos}{e:X}{k:Expr}{d:List Comprehension}{f:Scope}{Q:Fl->aG->Hp->Prop}(c:aX W.t n e (.ListComp k d f p)=true)(R:n.sto x=some i)(G:env.kindOf x=some .local)
  (J:swapsWith (.ListComp k d f p) (some (.Name x px)) N.line env=pure true) (z:Lw W env n L m U Z l) (H:W.H L (U++Z) m σ s.heap) (h:dc W.F W.cal e l σ λv b=>Q .next (l.set i v) b):
  wpAny W.M W.A (exec (.Assign [.Name x px] (.ListComp k d f p) N) env) (PS W env n L Z Q s) E s:=by
 rw[exec_Assign_Name_used _ _ _ _ J]
 refine wpAny_bind (wpAny_standAt (wpAny_bind (wpAny_bind ?_)))
 show wpAny W.M W.A (comprehension (.ListComp k d f p) f env (firstIterPos d p) (newList []) (firstAsync d) (firstIter d env) (some (assign (.Name x px) env))) _ E s
 have fin:=λ(g:Shared) y=>wpAny_pure (M:=W.M) (A:=W.A) (E:=E) (Q:=λ_ g=>wpAny W.M W.A (pure Flow.next) (PS W env n L Z Q s) E g) (a:=()) (wpAny_pure (Gq (s':=g) z R G y))
 rcases P4 c with q|q
 ·exact X.comp.elim (motive_1:=λe=>aX W.t n e (.ListComp k d f p)=true->dc W.F W.cal e l σ (λv b=>Q .next (l.set i v) b)->wpAny W.M W.A (comprehension (.ListComp k d f p) f env (firstIterPos d p) (newList []) (firstAsync d) (firstIter d env) (some (assign (.Name x px) env))) _ E s) e q
   (λj D r B c h=>jz (uH c) λY o u w c=>wpAny_mono (qK (px:=o) (pos:=p) (it':=u) c (λe c=>cg D n e c) (λn I c=>sK r n I c) (λn e c=>cg B n e c) z.lv H h (rN (Q:=λv b=>Q .next (l.set i v) b) z.lv G)) (λ_ g y=>fin g y) λ_ _ x=>x) c h
 ·exact X.compR.elim (motive_1:=λe=>aX W.t n e (.ListComp k d f p)=true->dc W.F W.cal e l σ (λv b=>Q .next (l.set i v) b)->wpAny W.M W.A (comprehension (.ListComp k d f p) f env (firstIterPos d p) (newList []) (firstAsync d) (firstIter d env) (some (assign (.Name x px) env))) _ E s) e q
   (λj lo hi r B c h=>jz (uH c) λY o u w c=>fW c λr0 K V O c=>wpAny_mono (oZ (px:=o) (pos:=p) (p1:=K) (p2:=O) c (λe c=>cg lo n e c) (λe c=>cg hi n e c) (λn I c=>sK r n I c) (λn e c=>cg B n e c) z.lv H h (rN (Q:=λv b=>Q .next (l.set i v) b) z.lv G)) (λ_ g y=>fin g y) λ_ _ x=>x) c h
theorem FD{i:Nat}{e:X}{st:Stmt}(c:oz W.t n (.asg i e) st=true):W.StOk n (.asg i e) st:=
 fe c λV d w g=>dQ g λO g=>bW g λx o g=>kZ g λD N u env L m U Z l σ s Q E j H h=>by
  have q:=bH D
  have plain:swapsWith d (some (.Name x o)) w.line env=pure false->wpAny W.M W.A (exec (.Assign [.Name x o] d w) env) (PS W env n L Z Q s) E s:=λJ=>wpAny_Assign_Name (aN (cg e n d u env L m (U++Z) l σ s (λv b=>Q .next (l.set i v) b) E j.lv H h) λv a b R G r K z=>mV G j q r K z) J
  cases y:pi d with
  |false=>exact plain (qC y)
  |true=>
   obtain⟨Y,gs,B,p,rfl⟩:=Hn y N
   cases f:(env.blockKind==.function&&env.kindOf x==some .local&&o.line==p.line&&!(B.names.any λ(n,k)=>n==x&&(k==.local||k==.cell)))with
   |false=>exact plain (by rw[rh,f])
   |true=>exact Ak f λ_ I _ _=>yF u q (eq_of_beq I) (by rw[rh,f]) j H h
theorem Et{is:List Nat}{e:X}{st:Stmt}(c:oz W.t n (.asgT is e) st=true):W.StOk n (.asgT is e) st:=
 fe c λB A O g=>dQ g λI g=>iY g λR k V g=>Ac g λx u p D j env L m U Z l σ s Q E f H h=>
  Assign_Tuple (aN (cg e n A j env L m (U++Z) l σ s _ E f.lv H h) λv a w J q r y i=>kD p D r f y i λK N G s2 z b d o=>bf (q.trans b) .next d o z) (jS (nt x)) (we u)
theorem jr{Q:Fl->aG->Hp->Prop}{a:Shared}{t:Sem Unit}(e:d8 a s)(f:Lw W env n L m U Z l)
  (h:wpAny W.M W.A t (λ_ s'=>ku W.T W.hb W.h₀ L (U++Z) m (λσ=>Q .next l σ) s s') E s):wpAny W.M W.A t (λ_=>PS W env n L Z Q a .next) E s:=
 wpAny_mono h (λ_ s' p=>by
  obtain⟨g,b,c,rfl,d,q⟩:=p
  exact bf (e.trans ⟨b,c,rfl⟩) .next f d q) λ_ _ x=>x
theorem E6{o:X}{f:Nat}{e:X}{st:Stmt}(c:oz W.t n (.setA o f e) st=true):W.StOk n (.setA o f e) st:=
 fe c λJ I Y g=>dQ g λR g=>cZ g λk x O g=>Ak g λD B u K env L m U Z l σ s Q E b H h=>
  wpAny_Assign_stores (aN (cg e n I K env L m (U++Z) l σ s _ E b.lv H h) λv a d j w r G p=>show wpAny W.M W.A (assign (.Attribute k x O) env v) _ E j from
   kas_attr (aN (cg o n k u env L m (U++Z) l d j _ E b.lv G p) λV a2 y s2 i N q z=>jr (w.trans i) b (iK b.lv.ok b.lv.gd.Xb (bH B) N r q z))) (jS (nt D)) rfl
theorem Ek{o i:X}{e:X}{st:Stmt}(c:oz W.t n (.setI o i e) st=true):W.StOk n (.setI o i e) st:=
 fe c λV R sp g=>dQ g λd0 g=>bK g λu q px g=>Ac g λK c2 B Y x env L m U Z l σ s Q E b H h=>
  wpAny_Assign_stores (aN (cg e n R x env L m (U++Z) l σ s _ E b.lv H h) λv a j p D r N w=>show wpAny W.M W.A (assign (.Subscript u q px) env v) _ E p from
   kas_sub (aN (cg o n u B env L m (U++Z) l j p _ E b.lv N w) λv2 a2 f s2 k r2 y J=>aN (cg i n q Y env L m (U++Z) l f s2 _ E b.lv y J) λv3 a3 O s3 d G I z=>
    jr ((D.trans k).trans d) b (iP r2 G r I z))) (jS (nt K)) rfl
theorem jR{o:BO}{x y:Int}{t u:Tok}{Q:PX}(a:tI o=true)(H:W.H L opq m σ s.heap)(h:bin o (.int x) (.int y) σ Q):wpAny W.M W.A (inplaceOp (M7 o) (.int x t) (.int y u)) (W.P L opq m Q s) E s:=by
 cases o with
 |add=>exact iadd_int (aC.same H (ou _ _) h)
 |sub=>exact PyProof.Rows.isub_int (aC.same H (ou _ _) h)
 |mul=>exact PyProof.Rows.imul_int (aC.same H (ou _ _) h.2) (PySem.IntMulOk.of_left (uC h.1))
 |_=>cases a
theorem xe{a:AV}{k:Int->Prop}(h:bV a k):zK a λv=>bV v k:=by
 cases a with
 |int i=>exact h
 |_=>exact h.elim
theorem A4{x:Str}{i:Nat}(a:n.sto x=some i):n.loc x=some i:=lB a λc h=>by unfold Cn.loc;rw[c];exact h
theorem Fu{i:Nat}{o:BO}{e:X}{st:Stmt}(c:oz W.t n (.aug i o e) st=true):W.StOk n (.aug i o e) st:=
 eE c λd0 o' Y sp g=>bW g λx px g=>Ak g λc0 O N D=>bZ N λenv L m U Z l σ s Q E k H h=>
  have z:=bH O
  wpAny_AugAssign_Name (aN (sq (Q:=λv q=>bV v λx=>dc W.F W.cal e l q λy d=>bV y λy=>bin o (.int x) (.int y) d λv b=>Q .next (l.set i v) b) k.lv (A4 z) H (xe h)) λv a w s1 G r V j=>bw r j λx t1 j=>
   aN (cg e n Y D env L m (U++Z) l w s1 _ E k.lv V j) λv2 a2 J s2 u r2 A p=>bw r2 p λy t2 p=>aN (jR (E:=E) c0 A p) λv3 a3 R s3 f I K B=>mV ((G.trans u).trans f) k z I K B)
theorem Ef{o:X}{f:Nat}{op:BO}{e:X}{st:Stmt}(c:oz W.t n (.augA o f op e) st=true):W.StOk n (.augA o f op e) st:=
 eE c λd0 β V sp g=>cZ g λJ x px g=>Fc g λc0 c1 r A c4 v=>bZ A λenv L m U Z l σ s Q E a H h=>
  wpAny_AugAssign_AttributeAny (aN (cg o n J c4 env L m (U++Z) l σ s _ E a.lv H h) λv1 a1 Y s1 i q R z=>aN (mw (E:=E) a.lv.ok a.lv.gd.Xb a.lv.gd.st (bH r) q R z) λv2 a2 k s2 p r2 w I=>
   aN (cg e n V v env L m (U++Z) l k s2 _ E a.lv w I) λv3 a3 O s3 b D G d=>eN r2 D d λx t1 y t2 d=>aN (jR (E:=E) c0 G d) λv4 a4 B s4 j K N u=>
    jr (((i.trans p).trans b).trans j) a (iK a.lv.ok a.lv.gd.Xb (bH r) q K N u))
theorem De{o i:X}{op:BO}{e:X}{st:Stmt}(c:oz W.t n (.augI o i op e) st=true):W.StOk n (.augI o i op e) st:=
 eE c λd0 G e' sp g=>bK g λV i' px g=>Fc g λI A c3 c4 c5 J=>bZ c3 λenv L m U Z l σ s Q E a H h=>
  wpAny_AugAssign_SubscriptAny (aN (cg o n V c4 env L m (U++Z) l σ s _ E a.lv H h) λv1 a1 f s1 k u H1 K=>aN (cg i n i' c5 env L m (U++Z) l f s1 _ E a.lv H1 K) λv2 a2 N s2 p v H2 R=>
   aN (lY (E:=E) a.lv.gd.st u v H2 R) λv3 a3 r s3 j z O w=>aN (cg e n e' J env L m (U++Z) l r s3 _ E a.lv O w) λv4 a4 β s4 b B D q=>eN z B q λx t1 y t2 q=>
    aN (jR (E:=E) I D q) λv5 a5 γ s5 d r5 H5 Y=>jr ((((k.trans p).trans j).trans b).trans d) a (iP u v r5 H5 Y)) λov iv new=>vD (nt A)
theorem ML{e:X}{st:Stmt}(c:oz W.t n (.ex e) st=true):W.StOk n (.ex e) st:=
 vU c λr q g=>gF g λi f env L m U Z l σ s Q E b H h=>
  wpAny_Expr_any (aN (cg e n _ f env L m (U++Z) l σ s _ E b.lv H h) λo u k s1 a p j d=>bf a .next b j d) (by unfold interactive;rw[b.lv.gd.fk];rfl) (qC (nt i))
theorem EP{v:AV}(h:Ci v=true):v=.none:=by
 cases v with
 |none=>rfl
 |_=>cases h
theorem G5{e:X}{st:Stmt}(c:oz W.t n (.ret e) st=true):W.StOk n (.ret e) st:=
 qi c λo p g=>bor g
  (λg=>sX g λq g env L m U Z l σ s Q E a H h=>wpAny_Return_some (aN (cg e n _ g env L m (U++Z) l σ s _ E a.lv H h) λk r j s1 b f i d=>bf b (.ret f) a i d))
  λg=>gF g λg2 g3=>fR g2 (zQ g3 λv g=>by obtain rfl:=EP g;exact λenv L m U Z l σ s Q E a H h=>wpAny_Return_none (bf (.refl s) (.ret On) a H h))
theorem FQ{t:C}{a b:SS}{st:Stmt}(c:oz W.t n (.ite t a b) st=true)(q:∀e,aJ W.t n a e=true->W.StsOk n a e)(o:∀e,aJ W.t n b e=true->W.StsOk n b e):W.StOk n (.ite t a b) st:=
 Ce c λy x v w g=>kZ g λu r p env L m U Z l σ s Q E i H h=>
  wpAny_If (jv (C7 t n _ u env L m (U++Z) l σ s _ E i.lv H h) λb f s1 d k j=>by
   cases b with
   |true=>rw[if_pos rfl];exact yK d (q _ r env L m U Z l f s1 Q E i k (j.1 rfl))
   |false=>rw[if_neg Bool.false_ne_true];exact yK d (o _ p env L m U Z l f s1 Q E i k (j.2 rfl)))
theorem F9{st:Stmt}(c:oz W.t n .brk st=true):W.StOk n .brk st:=sL c λb g env L m U Z l σ s Q E a H h=>wpAny_Break (bf (.refl s) .brk a H h)
theorem Id{st:Stmt}(c:oz W.t n .cnt st=true):W.StOk n .cnt st:=oc c λb g env L m U Z l σ s Q E a H h=>wpAny_Continue (bf (.refl s) .cont a H h)
theorem HG{st:Stmt}(c:oz W.t n .pas st=true):W.StOk n .pas st:=wp c λb g env L m U Z l σ s Q E a H h=>wpAny_Pass (bf (.refl s) .next a H h)
theorem Eg{o i:X}{st:Stmt}(c:oz W.t n (.delI o i) st=true):W.StOk n (.delI o i) st:=
 rH c λz J g=>dQ g λD g=>bK g λw f V g=>kZ g λK q A env L m U Z l σ s Q E e H h=>
  wpAny_Delete (wpAny_deleteEach_cons (wpAny_delete_Subscript (aN (cg o n w q env L m (U++Z) l σ s _ E e.lv H h) λG R d s1 a u y k=>aN (cg i n f A env L m (U++Z) l d s1 _ E e.lv y k) λI N r s2 b B j v=>
   wpAny_mono (jr (Q:=Q) (a.trans b) e (n9 u B j v)) (λ_ O p=>wpAny_deleteEach_nil p) λ_ _ x=>x)))
theorem Ih{b:SS}{st:Stmt}(c:oz W.t n (.tri b) st=true)(e:∀d,aJ W.t n b d=true->W.StsOk n b d):W.StOk n (.tri b) st:=
 zx c λr a o f u g=>Ak g λk i j g2=>cS j (cS i λenv L m U Z l σ s Q E q H h=>by
  cases a with
  |nil=>cases k
  |cons v a=>
   refine wpAny_Try_except (wpAny_mono (e _ g2 env L m U Z l σ s Q _ q H h) (λf s1 p=>?_) λ_ _ x=>x)
   cases f with
   |next=>exact wpAny_execs_nil p
   |_=>exact p)
theorem GL{a:List Stmt}(c:aJ W.t n .nil a=true):W.StsOk n .nil a:=cS c λenv L m U Z l σ s Q E b H h=>wpAny_execs_nil (bf (.refl s) .next b H h)
theorem DP{x:S}{xs:SS}{b:List Stmt}(c:aJ W.t n (.cons x xs) b=true)(B:∀st,oz W.t n x st=true->W.StOk n x st)(j:∀o,aJ W.t n xs o=true->W.StsOk n xs o):W.StsOk n (.cons x xs) b:=
 iU c λD r g=>gF g λA z env L m U Z l σ s Q E v H h=>
  wpAny_execs_cons (wpAny_mono (B _ A env L m U Z l σ s _ E v H h) (λf s1 p=>wR p λu w i y k s1 d a e q=>by
   cases u with
   |next=>exact yK d (j _ z env L y k Z w i _ Q E a e q)
   |brk=>exact bf d .brk a e q
   |cont=>exact bf d .cont a e q
   |ret r=>exact bf d (.ret r) a e q) λ_ _ x=>x)
end
end
section
section
variable {W:Wd} {env:Env} {n:Cn} {L:Addr} {m:Str->Option Value} {opq U Z:List (Addr×Obj)} {l:aG} {E:Value->Shared->Prop} {σ:Hp} {s:Shared}
theorem Lw.re{d b:List (Addr×Obj)}(c:Lw W env n L m U Z l)
  (k:∀y a o,env.scope.names.lookup y=some .cell->env.cells.lookup y=some a->(a,o)∈U++Z->(a,o)∈d++b)
  (u:∀y a o,env.scope.names.lookup y=some .cell->env.cells.lookup y=some a->(a,o)∈U->(a,o)∈d)
  (i:∀y a,env.scope.names.lookup y=some .cell->env.cells.lookup y=some a->∀p∈b,p.1≠a):Lw W env n L m d b l where
 lv:={c.lv with lr:=λy j x t=>(c.lv.lr y j x t).elim λw h=>⟨w,h.1.imp id λq=>⟨q.1,q.2.elim λg r=>r.elim λo r=>⟨g,o,r.1,k y g o (bor q.1 b8 λe=>absurd (b8 e) (c.nf y)) r.1 r.2.1,r.2.2⟩⟩,h.2⟩}
 lf:=c.lf
 ce:=λy f=>(c.ce y f).elim λa h=>h.elim λo h=>h.elim λv h=>⟨a,o,v,h.1,u y a o f h.1 h.2.1,h.2.2⟩
 ij:=c.ij
 ap:=i
 ni:=c.ni
 nf:=c.nf
theorem Bn{P:Prop}{p q:Addr×Obj}{a b:List (Addr×Obj)}(h:p∈a++q::b)(f:p∈a->P)(g:p=q->P)(k:p∈b->P):P:=(aE h).elim f λh=>(au h).elim g k
theorem Lw.ne{I:Addr}{ob:Obj}(c:Lw W env n L m U ((I,ob)::Z) l){y:Str}{a:Addr}(d:env.scope.names.lookup y=some .cell)(b:env.cells.lookup y=some a):a≠I:=λe=>c.ap y a d b _ (.head _) e.symm
theorem Lw.it_new{I:Addr}{ob:Obj}(b:Lw W env n L m U Z l)(hI:∀p∈U++Z,p.1≠I):Lw W env n L m U ((I,ob)::Z) l:=
 b.re (λy a o _ _ h=>(aE h).elim (List.mem_append_left _) λh=>List.mem_append_right _ (.tail _ h)) (λy a o _ _ h=>h)
  λy a d c p g=>(au g).elim (λe=>(b.ce y d).elim λf h=>h.elim λo h=>h.elim λv h=>λq=>hI _ (List.mem_append_left _ h.2.1) ((Option.some.inj (h.1.symm.trans c)).trans (q.symm.trans (congrArg Prod.fst e)))) (b.ap y a d c p)
theorem Lw.it_set{I:Addr}{ob ob':Obj}(c:Lw W env n L m U ((I,ob)::Z) l):Lw W env n L m (eQ I ob' U) ((I,ob')::Z) l:=
 c.re (λy d o b a h=>Bn h (λh=>List.mem_append_left _ (bg h (c.ne b a))) (λe=>absurd (Prod.mk.inj e).1 (c.ne b a)) λh=>List.mem_append_right _ (.tail _ h)) (λy d o b a h=>bg h (c.ne b a))
  λy d b a p f=>(au f).elim (λe=>e▸Ne.symm (c.ne b a)) λf=>c.ap y d b a p (.tail _ f)
theorem Lw.it_end{I:Addr}{ob:Obj}(c:Lw W env n L m U ((I,ob)::Z) l):Lw W env n L m (cy I U) Z l:=
 c.re (λy d o b a h=>Bn h (λh=>List.mem_append_left _ (aA.mpr ⟨h,c.ne b a⟩)) (λe=>absurd (Prod.mk.inj e).1 (c.ne b a)) (List.mem_append_right _)) (λy d o b a h=>aA.mpr ⟨h,c.ne b a⟩) λy d b a p f=>c.ap y d b a p (.tail _ f)
theorem Lw.it_off{I:Addr}{ob:Obj}(d:Lw W env n L m U ((I,ob)::Z) l):Lw W env n L m U Z l:=
 d.re (λy c o b a h=>Bn h (List.mem_append_left _) (λe=>absurd (Prod.mk.inj e).1 (d.ne b a)) (List.mem_append_right _)) (λy c o b a h=>h) λy c b a p f=>d.ap y c b a p (.tail _ f)
theorem CI{I:Addr}{ob:Obj}{h:Heap}(H:W.H L (U++(I,ob)::Z) m σ h):W.H L (U++Z) m σ h:=H.opq_sub λp a=>(aE a).elim (List.mem_append_left _) λh=>List.mem_append_right _ (.tail _ h)
inductive G8(W:Wd)(env:Env)(n:Cn)(L:Addr)(Z:List (Addr×Obj))(I:Nat->aG->Hp->Prop)(s:Shared)(k:Nat)(s':Shared):Prop
 |mk (l:aG) (σ:Hp) (m:Str->Option Value) (U:List (Addr×Obj)) (_:d8 s s') (_:Lw W env n L m U Z l) (_:W.H L (U++Z) m σ s'.heap) (_:I k l σ):G8 W env n L Z I s k s'
theorem Ic{t:C}{b:SS}{st:Stmt}(c:oz W.t n (.whl t b) st=true)(O:∀K,aJ W.t n b K=true->W.StsOk n b K):W.StOk n (.whl t b) st:=
 sI c λc' b' o sp g=>kZ g λV g2 g3=>cS V λenv L m U Z l σ s Q E j H h=>h.elim λI h=>h.1.elim λk0 y=>by
  refine wpAny_While (codeAny_whileLoop (G8 W env n L Z I s) ?_ k0 ⟨l,σ,m,U,.refl s,j,H,y⟩)
  rintro k R ⟨l,σ,m,U,D,j,H,hI⟩
  refine jv (C7 t n _ g2 env L m (U++Z) l σ R _ _ j.lv H (h.2 k l σ hI)) λb A s1 e N B=>?_
  cases b with
  |true=>
   rw[if_pos rfl]
   exact wpAny_mono (O _ g3 env L m U Z l A s1 _ _ j N (B.1 rfl)) (λf s2 p=>wR p λY G i J u s2 z d v q=>by
    have a:=(D.trans e).trans z
    cases Y with
    |next=>exact q.elim λw q=>⟨w,q.1,.mk G i J u a d v q.2⟩
    |cont=>exact q.elim λw q=>⟨w,q.1,.mk G i J u a d v q.2⟩
    |brk=>exact bf a .next d v q
    |ret r=>exact bf a (.ret r) d v q) λ_ _ x=>x
  |false=>
   rw[if_neg Bool.false_ne_true]
   exact wpAny_execs_nil (bf (D.trans e) .next j N (B.2 rfl))
def tZ(W:Wd)(env:Env)(n:Cn)(L I:Addr)(Z:List (Addr×Obj))(f:List Nat)(b:Expr)(st:Nat->Obj->Prop):Prop:=
 ∀(j:Nat) (c:Obj) (v:Value) (a:AV) (m:Str->Option Value) (U:List (Addr×Obj)) (l:aG) (σ:Hp) (s:Shared) (Q:aG->Prop) (E i:Value->Shared->Prop) (R:Unit->Shared->Prop),Lw W env n L m U ((I,c)::Z) l->W.H L (U++(I,c)::Z) m σ s.heap->st j c->VR v a->eU f a l σ Q->
  (∀g h d e,Q g->d8 s e->Lw W env n L h d ((I,c)::Z) g->W.H L (d++(I,c)::Z) h σ e.heap->R () e)->
  wpAny W.M W.A (letOwnedTupleGo b (.ref I) v) (λ_ s1=>wpAny W.M W.A (assign b env v) R E s1) i s
theorem mJ{I:Addr}{x:Str}{px:Pos}{i:Nat}{st:Nat->Obj->Prop}(e:n.sto x=some i):tZ W env n L I Z [i] (.Name x px) st:=
 λj q v a m U l σ s Q E t R g H u r h k=>wpAny_of_eq (a:=()) rfl (PySem.wpAny_assign_Name (mW g e r H λo c d f b p=>k _ o c d h f b p))
theorem vM{I r:Addr}{is:List Nat}{ts:List Expr}{i:Nat}{pos:Pos}(t:Hq is=true)(c:names n is ts=true):tZ W env n L I Z is (.Tuple ts i pos) (Lz r):=by
 intro j B v a m U l σ s Q E D R z H g p h k
 have d:wpAny W.M W.A (assign (.Tuple ts i pos) env v) R E s:=kD (R:=R ()) t c p z H h λu w f o y q e x=>k u w f o y q e x
 have hI:=(H.opq_get (List.mem_append_right U (.head _))).1
 unfold letOwnedTupleGo
 cases v with
 |ref b=>
  dsimp only
  refine wpAny_bind (wpAny_load hI ?_)
  rw[g.1,g.2]
  dsimp only
  rw[show(["enumerate","zip","dict_itemiterator","dict_reverseitemiterator","odict_iterator","itertools.zip_longest","itertools.pairwise"].contains "list_iterator")=false by decide]
  exact wpAny_pure d
 |_=>exact wpAny_pure d
inductive Gi(W:Wd)(env:Env)(n:Cn)(L I:Addr)(Z:List (Addr×Obj))(items:List AV)(need:Hp->Prop)(st:Nat->Obj->Prop)(P:List AV->aG->Hp->Prop)(s₀:Shared)(k:Nat)(s':Shared):Prop
 |mk (j:Nat) (l:aG) (σ:Hp) (m:Str->Option Value) (U:List (Addr×Obj)) (ob:Obj) (_:k=items.length-j) (_:j<=items.length) (_:d8 s₀ s') (_:Lw W env n L m U ((I,ob)::Z) l) (_:W.H L (U++(I,ob)::Z) m σ s'.heap) (_:st j ob) (_:need σ) (_:P (items.drop j) l σ):Gi W env n L I Z items need st P s₀ k s'
theorem nR{I:Addr}{items:List AV}{c:Hp->Prop}{st:Nat->Obj->Prop}{ob:Obj}{B:List Nat}{d:Expr}{b:SS}{b':List Stmt}{y:Shared}{Q:Fl->aG->Hp->Prop}
  (it:xB W I items c st) (ht:tZ W env n L I Z B d st) (ib:W.StsOk n b b') (K:d8 y s) (Y:Lw W env n L m U Z l) (hI:∀p∈U++Z,p.1≠I) (H:W.H L ((I,ob)::(U++Z)) m σ s.heap) (J:st 0 ob) (t:c σ)
  (h:iJ c B (λl σ P=>ji W.F W.cal b l σ P) Q items l σ):
  codeAny W.M W.A (.forLoop d (.ref I) b' [] env) (λr s'=>match r with|.ok f=>PS W env n L Z Q y f s'|.error e=>cameBackBy W.M W.A env E e s') s:=by
 have G:∀p∈Z,p.1≠I:=λp V=>hI p (List.mem_append_right _ V)
 refine codeAny_forLoop_any (Gi W env n L I Z items c st (iJ c B (λl σ P=>ji W.F W.cal b l σ P) Q) y) ?_ items.length
  ⟨0,l,σ,m,U,ob,rfl,Nat.zero_le _,K,Y.it_new hI,H.opq_sub (λp V=>Bn V (λh=>.tail _ (List.mem_append_left _ h)) (λe=>e▸.head _) λh=>.tail _ (List.mem_append_right _ h)),J,t,h⟩
 clear Y H J t h K hI
 rintro k s' ⟨j,l,σ,m,U,ob,rfl,hj,la,Y,H,O,β,hf⟩
 have hm:(I,ob)∈U++(I,ob)::Z:=List.mem_append_right _ (.head _)
 cases hv:items[j]? with
 |some v=>
  have w:=(be hv).1
  have less:items.length-(j+1)<items.length-j:=Nat.sub_lt_sub_left w (Nat.lt_succ_self j)
  rw[tJ hv]at hf
  refine it.next j v hv L _ m σ s' ob _ _ H hm O β λu h2 tk a ru η o R=>?_
  have H2:=HS.opq_set H hm R η
  rw[show eQ I a (U++(I,ob)::Z)=eQ I a U++(I,a)::Z by
   rw[qL]
   show eQ I a U++(if I=I then(I,a) else(I,ob))::eQ I a Z=_
   rw[if_pos rfl,jQ G]]at H2
  dsimp only
  exact ht (j+1) a u v m (eQ I a U) l σ {s' with heap:=h2,toks:=tk} _ _ _ _ (Y.it_set (ob':=a)) H2 o ru hf λl3 m3 θ s3 hb ε γ H3=>
   wpAny_mono (ib env L m3 θ ((I,a)::Z) l3 σ s3 _ _ γ H3 hb) (λf s4 p=>wR p λζ l4 N m4 D s4 i z H4 q=>by
    have i:=(la.trans (d8.trans ⟨h2,tk,rfl⟩ ε)).trans i
    cases ζ with
    |next=>exact⟨_,less,.mk (j+1) l4 N m4 D a rfl w i z H4 o q.1 q.2⟩
    |cont=>exact⟨_,less,.mk (j+1) l4 N m4 D a rfl w i z H4 o q.1 q.2⟩
    |brk=>exact bf i .next z.it_off (CI H4) q
    |ret r=>exact bf i (.ret r) z.it_off (CI H4) q) λ_ _ x=>x
 |none=>
  have w:=List.getElem?_eq_none_iff.mp hv
  obtain rfl:=Nat.le_antisymm hj w
  rw[List.drop_length]at hf
  exact it.fin L _ m σ s' ob _ _ H hm O β λh2 δ=>wpAny_execs_nil (bf (la.trans ⟨h2,s'.toks,rfl⟩) .next Y.it_end ((HS.opq_drop H hm δ).opq_sub λp V=>(aE V).elim
   (λh=>have g:=aA.mp h;aA.mpr ⟨List.mem_append_left _ g.1,g.2⟩) λh=>aA.mpr ⟨List.mem_append_right _ (.tail _ h),G p h⟩) hf)
theorem ua{is:List Nat}{d:X}{b:SS}{c iter:Expr}{body:List Stmt}{pos:Pos}(w:oH iter=false)(u:aX W.t n d iter=true)(j:W.StsOk n b body)(q:∀env L Z I r,tZ W env n L I Z is c (Lz r)):W.StOk n (.for is d b) (.For c iter body [] pos):=
 λenv L m U Z l σ s Q E e H h=>wpAny_For (aN (cg d n iter u env L m (U++Z) l σ s _ E e.lv H h) λv a z s1 k r i f=>bY r f λg f=>i.cL e.lv.gd.st f λo x A B ex g1 D _ f=>wpAny_pyIter_list (aL g1)
  (nR (uu e.lv.gd.st (e.lv.hh e.lf) _ g x) (q _ _ _ _ g) j (k.trans ⟨_,s1.toks,rfl⟩) e (λp y=>Nat.ne_of_lt (Heap.lt_size (i.opq_get y).1)) (HS.opq_push e.lv.gd.st i {cls:=.type "list_iterator",data:=.fields #[.ref g,.int 0 0]} rfl) ⟨rfl,rfl⟩ ⟨o,ex⟩ f.2)) (λ_=>fH w)
theorem FC{is:List Nat}{a:X}{b:SS}{st:Stmt}(c:oz W.t n (.for is a b) st=true)(f:∀p,aJ W.t n b p=true->W.StsOk n b p):W.StOk n (.for is a b) st:=
 qp c λd w z o A g=>Ac g λv j r q h=>cS v (bor r
  (λg=>bW g λx y g=>dQ g λi e=>ua (nt j) q (f _ h) λ_ _ _ _ _=>mJ (bH e))
  λg=>iY g λB k y g=>gF g λe u=>ua (nt j) q (f _ h) λ_ _ _ _ _=>vM e u)
end
end
section
section
variable {W:Wd} {env:Env} {n:Cn} {L:Addr} {m:Str->Option Value} {opq U Z:List (Addr×Obj)} {l:aG} {E:Value->Shared->Prop} {σ:Hp} {s:Shared}
theorem EU{i:Nat}{lo hi:X}{up:Bool}{b:SS}{st:Stmt}(c:oz W.t n (.forR i lo hi up b) st=true)(z:∀J,aJ W.t n b J=true->W.StsOk n b J):W.StOk n (.forR i lo hi up b) st:=
 qp c λd β b' o sp g=>gF g λO g=>cS O (bW g λx px g=>fW g λr p1 as p2 g=>Ac g λG D B c4 A=>bor c4
  (λc=>gF c λp y env L m U Z l σ s Q E j H h=>by
   subst p
   exact wpAny_For (sj j.lv H G D y (λe c=>cg lo n e c) (λe c=>cg hi n e c) h (λa b k f=>⟨f.1.1,f.1.2.1,f.1.2.2.1,f.1.2.2.2.1⟩) λlo hi k I K f v w hI=>
    nR (st:=λi q=>q=jE (lo+1*i) ((hi-lo).toNat-i) 1) (rq▸l8 (j.lv.hh j.lf) I lo 1 (hi-lo).toNat) (mJ (bH B)) (z _ A) v j hI w (by show _=_;simp) trivial f.2) (λ_=>fH rfl))
  λc=>gF c λp y=>iU y λR r7 g=>sR g λV st g=>f8 g λu c0 p4 g=>gF g λk4 g=>bZ k4 (fw g λcc Y p3 g=>Ac g λd1 d2 N d4 d5=>bZ d1 λenv L m U Z l σ s Q E j H h=>by
   obtain rfl:=nt p
   exact wpAny_For (zP j.lv H G D (nt d2) (nt N) d4 d5 (λe c=>cg lo n e c) (λe c=>cg hi n e c) h (λa b k f=>⟨f.1.2.2.2.2.elim (λe=>fT e) id,f.1.1,f.1.2.1⟩) λlo k I K f v w hI=>
    nR (st:=λi q=>q=jE (lo+(-1)*i) ((lo+1).toNat-i) (-1)) (zY▸l8 (j.lv.hh j.lf) I lo (-1) (lo+1).toNat) (mJ (bH B)) (z _ A) v j hI w (by show _=_;simp) trivial f.2) (λ_=>fH rfl)))
end
variable {W:Wd}
mutual
theorem P7:∀(x:S) (n:Cn) (st:Stmt),oz W.t n x st=true->W.StOk n x st
 |.asg _ _,_,_,c=>FD c
 |.asgT _ _,_,_,c=>Et c
 |.setA _ _ _,_,_,c=>E6 c
 |.setI _ _ _,_,_,c=>Ek c
 |.aug _ _ _,_,_,c=>Fu c
 |.augA _ _ _ _,_,_,c=>Ef c
 |.augI _ _ _ _,_,_,c=>De c
 |.ex _,_,_,c=>ML c
 |.ret _,_,_,c=>G5 c
 |.ite _ a b,n,_,c=>FQ c (λd c=>pK a n d c) λd c=>pK b n d c
 |.whl _ b,n,_,c=>Ic c λd c=>pK b n d c
 |.for _ _ b,n,_,c=>FC c λd c=>pK b n d c
 |.forR _ _ _ _ b,n,_,c=>EU c λd c=>pK b n d c
 |.brk,_,_,c=>F9 c
 |.cnt,_,_,c=>Id c
 |.pas,_,_,c=>HG c
 |.delI _ _,_,_,c=>Eg c
 |.tri b,n,_,c=>Ih c λd c=>pK b n d c
 |.dead,_,_,_=>λ_ _ _ _ _ _ _ _ _ _ _ _ h=>h.elim
theorem pK:∀(x:SS) (n:Cn) (a:List Stmt),aJ W.t n x a=true->W.StsOk n x a
 |.nil,_,_,c=>GL c
 |.cons x xs,n,_,c=>DP c (λst c=>P7 x n st c) λb c=>pK xs n b c
end
end
section
theorem tm:∀{ns:List Str} {vs:List Value},ns.Nodup->vs.length=ns.length->(ns.filterMap λn=>((ns.zip vs).lookup n).map λv=>(n,v))=ns.zip vs:=by
 have d:∀(ns l:List Str) (vs:List Value) (bD:List (Str×Value)),ns.Nodup->vs.length=ns.length->(∀(i:Nat) (n:Str) (v:Value),ns[i]?=some n->vs[i]?=some v->bD.lookup n=some v)->(ns.filterMap λn=>(bD.lookup n).map λv=>(n,v))=ns.zip vs:=by
  intro ns l vs bD
  induction ns generalizing vs with
  |nil=>intro _ _ _;rfl
  |cons n r j=>
   intro f b h
   cases vs with
   |nil=>simp at b
   |cons v vs=>
    rw[List.filterMap_cons,h 0 n v rfl rfl]
    show(n,v)::_=(n,v)::r.zip vs
    rw[j vs (List.nodup_cons.mp f).2 (by simpa using b) λi m w a c=>h (i+1) m w (by simpa using a) (by simpa using c)]
 intro ns vs f b
 refine d ns [] vs _ f b ?_
 clear d
 induction ns generalizing vs with
 |nil=>intro i n v h;simp at h
 |cons m r j=>
  cases vs with
  |nil=>simp at b
  |cons u k=>
   intro i n v a c
   rw[List.zip_cons_cons,List.lookup_cons]
   cases i with
   |zero=>simp at a c;subst a c;simp
   |succ i=>
    simp at a c
    have g:n≠m:=λe=>(List.nodup_cons.mp f).1 (e▸List.mem_of_getElem? a)
    rw[show(n==m)=false by simpa using g]
    exact j (vs:=k) (List.nodup_cons.mp f).2 (by simpa using b) i n v a c
theorem qo:∀{ns:List Str} {vs:List Value},vs.length=ns.length->∀n∈ns,((ns.zip vs).lookup n).isSome=true
 |[],_,_,_,h=>nomatch h
 |m::r,[],a,_,_=>by simp at a
 |m::r,v::vs,a,n,h=>by
  rw[List.zip_cons_cons,List.lookup_cons]
  cases e:n==m with
  |true=>rfl
  |false=>
   rcases au h with rfl|h
   ·simp at e
   ·exact qo (by simpa using a) n h
theorem lX{name c:Str}{a:List Arg}{u:List (Option Expr)}{p:List Expr}{body:List Stmt}{h:Scope}{t d s:Value}{o:Option Addr}{fG ct:Value}{vs:List Value}(g:(a.map (·.arg)).Nodup)(i:vs.length=a.length):
  bindArgs (fnX name c ⟨[],a,none,[],u,none,p⟩ body h [] .none t d s o fG ct) ⟨vs,[]⟩=pure ((a.map (·.arg)).zip vs):=by
 have b:vs.length=(a.map (·.arg)).length:=by rw[List.length_map,i]
 have r:=tm g b
 have m:¬(decide (vs.length>(a.map (·.arg)).length)&&true)=true:=by rw[b];simp
 have q:∀k,¬(!(List.filter (λn=>(List.lookup n ((a.map (·.arg)).zip vs)).isNone) ((a.map (·.arg)).take k)).isEmpty)=true:=λk=>by
  rw[List.filter_eq_nil_iff.mpr λn g=>?_]
  ·exact Bool.false_ne_true
  ·have:=qo b n (List.mem_of_mem_take g)
   cases e:List.lookup n ((a.map (·.arg)).zip vs)with
   |none=>rw[e]at this;cases this
   |some _=>exact Bool.false_ne_true
 have j:∀(X:List Str) k,List.zip X (List.drop k ([]:List Value))=[]:=λX k=>by rw[List.drop_nil,List.zip_nil_right]
 refine(if_neg m).trans ((if_neg (q _)).trans ((congrArg (λl=>forIn l _ _ >>= _) (j _ _)).trans ?_))
 exact congrArg (pure (f:=Sem)) ((congrArg (List.filterMap _) (List.append_nil _)).trans r)
end
section
theorem mr(k:NameKind):(k==.cell)=fB k:=by cases k<;>rfl
theorem bq:∀(names:List (Str×NameKind)) (n:Nat) (a:List (Str×Addr)),(∀p∈a,p.2<n)->(a.map (·.2)).Nodup->(∀p∈a,0<=p.2)->
  ((cellsFrom n names a).map (·.2)).Nodup/\(∀p∈cellsFrom n names a,p∈a∨n<=p.2)/\(∀y,(y,NameKind.cell)∈names∨(a.lookup y).isSome=true->((cellsFrom n names a).lookup y).isSome=true)
 |[],n,a,c,d,_=>⟨d,λp b=>.inl b,λy h=>h.elim (λh=>nM h) id⟩
 |(x,k)::r,n,a,c,d,g=>by
  unfold cellsFrom
  rw[mr]
  by_cases f:fB k=true
  ·rw[if_pos f]
   obtain⟨g1,g2,g3⟩:=bq r (n+1) ((x,n)::a) (λp b=>by
    rcases au b with rfl|b
    ·exact Nat.lt_succ_self _
    ·exact Nat.lt_succ_of_lt (c p b)) (by
    rw[List.map_cons,List.nodup_cons]
    exact⟨λh=>by obtain⟨p,b,e⟩:=bz h;exact absurd (c p b) (by rw[e];exact Nat.lt_irrefl _),d⟩) (λ_ _=>Nat.zero_le _)
   refine⟨g1,λp b=>?_,λy h=>g3 y ?_⟩
   ·rcases g2 p b with h|h
    ·rcases au h with rfl|h
     ·exact .inr (Nat.le_refl _)
     ·exact .inl h
    ·exact .inr (Nat.le_of_succ_le h)
   ·rcases h with h|h
    ·rcases au h with e|h
     ·cases e;right;simp[List.lookup_cons]
     ·exact .inl h
    ·right
     rw[List.lookup_cons]
     cases y==x with
     |true=>rfl
     |false=>exact h
  ·rw[if_neg f]
   obtain⟨g1,g2,g3⟩:=bq r n a c d g
   refine⟨g1,g2,λy h=>g3 y ?_⟩
   rcases h with h|h
   ·rcases au h with e|h
    ·cases e;exact absurd rfl f
    ·exact .inl h
   ·exact .inr h
theorem gP{d:Str->Option Value}{a:List (Str×Addr)}{cells:List (Addr×Obj)}(h:CellsAre d a cells):cells.map (·.1)=a.map (·.2)/\∀y c,a.lookup y=some c->∃o,(c,o)∈cells/\o.data=.cell (d y):=by
 induction h with
 |nil=>exact⟨rfl,λy c h=>by simp at h⟩
 |cons f k b=>
  rename_i i c o a cells
  refine⟨by rw[List.map_cons,List.map_cons,b.1],λy j h=>?_⟩
  rw[List.lookup_cons]at h
  cases e:y==i with
  |true=>
   rw[e]at h
   cases h
   rw[eq_of_beq e]
   exact⟨o,.head _,f⟩
  |false=>
   rw[e]at h
   obtain⟨g,g1,g2⟩:=b.2 y j h
   exact⟨g,.tail _ g1,g2⟩
theorem sZ{b:List (Str×Addr)}(a:(b.map (·.2)).Nodup){y z:Str}{c:Addr}(h:b.lookup y=some c)(g:b.lookup z=some c):z=y:=by
 have m1:=bc h
 have m2:=bc g
 clear h g
 induction b with
 |nil=>cases m1
 |cons p r i=>
  rw[List.map_cons,List.nodup_cons]at a
  rcases au m1 with e|m1<;>rcases au m2 with d|m2
  ·rw[←e]at d;exact(Prod.mk.inj d).1
  ·exact absurd (List.mem_map_of_mem (f:=(·.2)) m2) (by rw[←e]at a;exact a.1)
  ·exact absurd (List.mem_map_of_mem (f:=(·.2)) m1) (by rw[←d]at a;exact a.1)
  ·exact i a.2 m1 m2
theorem yW{a:Str->Option NameKind}:∀{binds:List (Str×Value)} {m:Str->Option Value} {x:Str} {v:Value},(binds.map (·.1)).Nodup->(x,v)∈binds->a x=some .local->bindL a binds m x=some v:=by
 have keep:∀(binds:List (Str×Value)) (m:Str->Option Value) (x:Str),(∀p∈binds,p.1≠x)->bindL a binds m x=m x:=by
  intro binds
  induction binds with
  |nil=>intro m x _;rfl
  |cons p r d=>
   intro m x h
   obtain⟨n,v⟩:=p
   show bindL a r _ x=m x
   rw[d _ x λq c=>h q (.tail _ c)]
   split
   ·exact if_neg (Ne.symm (h (n,v) (.head _)))
   ·rfl
 intro binds
 induction binds with
 |nil=>intro m x v _ h;cases h
 |cons p r d=>
  intro m x v b h g
  obtain⟨n,w⟩:=p
  rw[List.map_cons,List.nodup_cons]at b
  show bindL a r _ x=some v
  rcases au h with e|h
  ·cases e
   rw[keep r _ x λq c e=>b.1 (by rw[←e];exact List.mem_map_of_mem (f:=(·.1)) c),if_pos g]
   exact if_pos rfl
  ·exact d b.2 h g
theorem xO{a:Str->Option NameKind}:∀{binds:List (Str×Value)} {m:Str->Option Value} {x:Str} {v:Value},(binds.map (·.1)).Nodup->(x,v)∈binds->a x≠some .local->bindC a binds m x=some v:=by
 have keep:∀(binds:List (Str×Value)) (m:Str->Option Value) (x:Str),(∀p∈binds,p.1≠x)->bindC a binds m x=m x:=by
  intro binds
  induction binds with
  |nil=>intro m x _;rfl
  |cons p r d=>
   intro m x h
   obtain⟨n,v⟩:=p
   show bindC a r _ x=m x
   rw[d _ x λq c=>h q (.tail _ c)]
   split
   ·rfl
   ·exact if_neg (Ne.symm (h (n,v) (.head _)))
 intro binds
 induction binds with
 |nil=>intro m x v _ h;cases h
 |cons p r d=>
  intro m x v b h g
  obtain⟨n,w⟩:=p
  rw[List.map_cons,List.nodup_cons]at b
  show bindC a r _ x=some v
  rcases au h with e|h
  ·cases e
   rw[keep r _ x λq c e=>b.1 (by rw[←e];exact List.mem_map_of_mem (f:=(·.1)) c),if_neg g]
   exact if_pos rfl
  ·exact d b.2 h g
structure Fd where
 np:Nat
 nl:Nat
 cn:Cn
 body:SS
noncomputable def gy(F:Ft)(bD:Addr->Option Fd)(ext:bj):Nat->bj
 |0,_,_,_,_=>False
 |k+1,f,as,σ,Q=>match bD f with
  |some d=>(as.length=d.np/\ji F (gy F bD ext k) d.body (as++List.replicate (d.nl-d.np) .undef) σ λc _ b=>(match c with
   |.next=>∃a,Wk a b/\Q .none a
   |.ret v=>∃a,Wk a b/\Q v a
   |_=>False))∨ext f as σ Q
  |none=>False
noncomputable def Dc(d:Fd)(a:List Arg):Bool:=
 decide (a.length=d.np)&&!d.cn.lf&&zB d.cn.nm&&(a.zipIdx.all λp=>gT (d.cn.nm.lookup p.1.arg) p.2&&(uV (d.cn.sc.names.lookup p.1.arg) .local||uV (d.cn.sc.names.lookup p.1.arg) .cell))&&(d.cn.sc.names.all λy=>!dS y.2)&&
  decide ((d.cn.sc.names.filter λy=>fB y.2).map (·.1)).Nodup&&decide (a.map (·.arg)).Nodup&&!d.cn.sc.isCoroutine&&!d.cn.sc.isGenerator&&decide (d.cn.sc.kind=.function)
structure zS(K:Frag)(t:Ct)(f:Addr)(d:Fd)(body:List Stmt):Prop where
 ex:∃(fo:Obj) (name qual:Str) (ps:List Arg) (kd:List (Option Expr)) (ds:List Expr) (kV doc pm:Value) (an:Option Addr) (fG ct:Value),K.lookup f=some fo/\fo.data=.func (fnX name qual ⟨[],ps,none,[],kd,none,ds⟩ body d.cn.sc [] .none kV doc pm an fG ct)/\
  codeIn K fG qual=true/\aJ t d.cn d.body body=true/\Dc d ps=true
end
section
theorem cF.pull{U h₀ g c:Heap}(b:U.StaysIn h₀)(st:h₀.StaysIn g)(x:cF U g c):∃h',cF U h₀ h'/\h'.StaysIn c:=by
 obtain⟨t,s⟩:=kts_turn_at (h:=c) (fs:=(List.range h₀.objs.size).filter λb=>(h₀.get? b).isSome) (g:=h₀)
  (λb U=>Option.isSome_iff_exists.mp (fN U).2)
  (λb o e n=>absurd (List.mem_filter.mpr ⟨List.mem_range.mpr (Heap.lt_size e),by rw[e];rfl⟩) n)
  λb o e _=>x.up b o (st b o e)
 refine⟨_,⟨t.size,t.none_,λa o e=>?_,λa o e=>t.up e⟩,s⟩
 obtain⟨d,h⟩:=t.up (b a o e)
 have q:=s a _ h
 rw[x.base a o e]at q
 rw[h,Option.some.inj q]
inductive Bl(U h₀:Heap)(A:Around)(env:Env):Prop
 |mk O Z (h1:Below O U Z h₀) (h2:KtsDicts (Z.filterMap (·.frame)) h₀) (h3:A.frames=some (env::Z)):Bl U h₀ A env
theorem cF.below{U h₀ g:Heap}{O:Around}{Z:List Env}(x:cF U h₀ g)(B:Below O U Z h₀):Below O U Z g:=
 ⟨B.stack,x.base,B.frames.of_keeps λb o e _=>by obtain⟨a,h⟩:=x.up b o e;exact⟨_,h,rfl⟩⟩
theorem cF.dicts{U h₀ g:Heap}{fs:List Addr}(x:cF U h₀ g)(D:KtsDicts fs h₀):KtsDicts fs g:=λb m=>by
 obtain⟨o,a,n,c,hd⟩:=D b m
 obtain⟨d,h⟩:=x.up b o c
 exact⟨_,a,n,h,hd⟩
theorem cF.bl{U h₀ g:Heap}{A:Around}{env:Env}(x:cF U h₀ g)(B:Bl U h₀ A env):Bl U g A env:=by
 obtain⟨O,Z,b,d,e⟩:=B
 exact⟨O,Z,x.below b,x.dicts d,e⟩
inductive H0(U h₀:Heap)(L:Addr)(m:Str->Option Value)(g:Heap)(R:Result->Shared->Prop)(v:Value)(s':Shared):Prop
 |mk g' L' m' news' (h1:cF U g g') (h2:Fr g' L' s'.heap m') (h3:News g' L' s'.heap news') (h4:∀h',cF U h₀ h'->Fr h' L s'.heap m->News h' L s'.heap news'->R (.ok (.ret v)) s'):H0 U h₀ L m g R v s'
section
variable {prog:Program} {w:World} {O A:Around} {s:Shared} {U h₀:Heap} {Z:List Env} {L:Addr} {m:Str->Option Value} {env:Env} {J:List (Addr×Obj)}
 {R:Result->Shared->Prop} {name qual:Str} {params:Arguments} {body:List Stmt} {scope:Scope} {dV kV doc pm fG ct:Value} {an:Option Addr} {fo:Obj} {f:Addr} {args:Args} {binds:List (Str×Value)}
theorem FJ(η:U.StaysIn h₀)(B:Below O U Z h₀)(D:KtsDicts (Z.filterMap (·.frame)) h₀)(F:Fr h₀ L s.heap m)(N:News h₀ L s.heap J)(V:h₀.NoLimit)(hA:A.frames=some (env::Z))(hf:env.frame=some L)(ζ:env.scope.kind=.function)
  (ho:s.heap.get? f=some fo) (hd:fo.data=.func (fnX name qual params body scope [] dV kV doc pm an fG ct)) (θ:s.heap.CodeRec fG qual) (t:A.depth<recursionLimit)
  (E:BindsTo s (fnX name qual params body scope [] dV kV doc pm an fG ct) args binds)
  (u:∀n,∀x∈binds,scope.names.lookup x.1=some .local∨(scope.names.lookup x.1=some .cell/\((cellsFrom n scope.names []).lookup x.1).isSome=true))
  (κ:((cellsFrom 0 scope.names []).map (·.1)).Nodup)
  (h:∀g i a tk cells,Fr h₀ L g m->Fr g i a (bindL (envOfC qual scope i f fG).kindOf binds λ_=>none)->News g i a (cells++J)->
   CellsAre (bindC (envOfC qual scope i f fG).kindOf binds λ_=>none) (cellsFrom (i+1) scope.names []) cells->Below A U (env::Z) g->KtsDicts ((env::Z).filterMap (·.frame)) g->h₀.StaysIn g->(∀p∈J,p.1<i)->
   wpAny (model prog w) (A.deeper (envOfC qual scope i f fG)) (execs body (envOfC qual scope i f fG))
    (λfl s'=>H0 U h₀ L m g R (match fl with|.ret v=>v|_=>.none) s')
    (λe s'=>wpAny (model prog w) (A.deeper (envOfC qual scope i f fG)) (leaving (envOfC qual scope i f fG) e) (λ_ z=>R (.error e) z) (λe' z=>R (.error e') z) s')
    {s with heap:=a,toks:=tk})
  (β:scope.isCoroutine=false) (I:scope.isGenerator=false) (hk:scope.kind=.function):codeAny (model prog w) A (.call (.ref f) args) R s:=by
 obtain⟨FG,BG,st,_⟩:=groundX (R:=R) B F N hA hf ζ
 obtain⟨oL,W,ep,K,Q,ε,δ⟩:=id FG.ns
 have DG:KtsDicts ((env::Z).filterMap (·.frame)) (hideAll s.heap (J.map (·.1))):=λb G=>by
  rw[List.filterMap_cons,hf]at G
  rcases au G with rfl|G
  ·exact⟨oL,W,ep,K,Q⟩
  ·obtain⟨o,W,n,q1,q2⟩:=D b G
   exact⟨o,W,n,st _ _ q1,q2⟩
 refine codeAny_call_function t ho hd β I rfl θ (E _ _ _ _ ?_)
 refine wpAny_newFunctionEnv_cells hk (u _) λμ he s' x=>?_
 subst he
 refine⟨(V.keeps F.keep).keeps x.toInCall.keep,codeAny_func ?_⟩
 obtain⟨a,tk,rfl,_⟩:=x.done
 have j:=x.toInCall.keep
 obtain⟨cells,NC,Y⟩:=Cl.news (h₀:=s.heap) (Nat.le_refl _) λn c G=>⟨x.cell n c (lookup_of_mem_nodup (cellsFrom_names scope.names 0 (s.heap.objs.size+1) [] [] rfl▸κ) G),x.above n c G⟩
 refine wpAny_mono (h _ s.heap.objs.size a tk cells FG ⟨x.toInCall.ns,λb o e=>j b o (of_hideAll _ e),Nat.le_of_eq (hideAll_size _ _)⟩ (λp d=>?_) Y BG DG st (λp d=>Heap.lt_size (N p d).1)) (λfl s' hl=>?_) λ_ _ y=>y
 ·rcases aE d with d|d
  ·refine⟨(NC p d).1,(NC p d).2.1,?_⟩
   cases q:(hideAll s.heap (J.map (·.1))).get? p.1 with
   |none=>rfl
   |some o=>have:=of_hideAll _ q;rw[(NC p d).2.2]at this;cases this
  ·exact⟨j _ _ (N p d).1,Nat.ne_of_lt (Heap.lt_size (N p d).1),hideAll_none _ (List.mem_map_of_mem d)⟩
 ·obtain⟨g',i,m',γ,T',F',N',k⟩:=hl
  obtain⟨h',l,r⟩:=cF.pull η st T'
  obtain⟨sl,hs⟩:=T'.up _ _ K
  refine k h' l ⟨⟨_,W,ep,F'.keep _ _ hs,Q,ε,δ⟩,λb o e=>F'.keep b o (r b o e),l.size▸F.above⟩ λp d=>⟨(N' p d).1,λq=>?_,?_⟩
  ·have:=(N' p d).2.2;rw[q,hs]at this;cases this
  ·cases q:h'.get? p.1 with
   |none=>rfl
   |some o=>have:=(N' p d).2.2;rw[r _ _ q]at this;cases this
end
end
section
theorem HR.opq_many{T:Tb}{σ:Hp}{g:Heap}{b:List (Addr×Obj)}{D:Addr->Addr}{opq:List (Addr×Obj)}(R:HR T σ g b D opq):∀{cells:List (Addr×Obj)},(cells.map (·.1)).Nodup->(∀p∈cells,(∀q∈b,q.1≠p.1)/\g.get? p.1=none)->
  HR T σ g (cells++b) D (cells++opq)
 |[],_,_=>R
 |c::cells,i,h=>by
  rw[List.map_cons,List.nodup_cons]at i
  have j:=R.opq_many (cells:=cells) i.2 λp d=>h p (.tail _ d)
  refine j.opq_new (a:=c.1) (ob:=c.2) (λp d e=>?_) (h c (.head _)).2
  rcases aE d with d|d
  ·exact i.1 (by rw[←e];exact List.mem_map_of_mem (f:=(·.1)) d)
  ·exact(h c (.head _)).1 p d e
theorem nH:∀{l:List (Str×Nat)},zB l=true->∀y z i,l.lookup y=some i->l.lookup z=some i->y=z
 |[],_,y,z,i,h,_=>by simp at h
 |(x,j)::r,h,y,z,i,b,a=>by
  simp only[zB,Bool.and_eq_true,List.all_eq_true,Bool.not_eq_true',beq_eq_false_iff_ne]at h
  rw[List.lookup_cons]at b a
  cases d:y==x with
  |true=>
   rw[d]at b;cases b
   cases c:z==x with
   |true=>rw[eq_of_beq d,eq_of_beq c]
   |false=>rw[c]at a;exact absurd rfl (h.1 _ (bc a))
  |false=>
   rw[d]at b
   cases c:z==x with
   |true=>rw[c]at a;cases a;exact absurd rfl (h.1 _ (bc b))
   |false=>rw[c]at a;exact nH h.2 y z i b a
structure Gn(d:Fd)(ps:List Arg):Prop where
 np:ps.length=d.np
 lf:d.cn.lf=false
 nm:zB d.cn.nm=true
 ix:∀i p,ps[i]?=some p->d.cn.nm.lookup p.arg=some i
 kd:∀p∈ps,d.cn.sc.names.lookup p.arg=some .local∨d.cn.sc.names.lookup p.arg=some .cell
 nf:∀y∈d.cn.sc.names,dS y.2=false
 nc:((d.cn.sc.names.filter λy=>fB y.2).map (·.1)).Nodup
 nd:(ps.map (·.arg)).Nodup
 co:d.cn.sc.isCoroutine=false
 ge:d.cn.sc.isGenerator=false
 k:d.cn.sc.kind=.function
theorem vd{d:Fd}{e:List Arg}(h:Dc d e=true):Gn d e:=
 kZ h λh s c=>Pr h λj k g f n l o u=>
  have q:=λ{i:Nat} {p:Arg} (b:e[i]?=some p)=>kK f (p,i) (List.mk_mem_zipIdx_iff_getElem?.mpr b)
  ⟨of_decide_eq_true j,nt k,g,λi p b=>gF (q b) λa _=>bH a,λp b=>(List.getElem?_of_mem b).elim λi r=>gF (q r) λ_ a=>bor a (λa=>.inl (b8 a)) λa=>.inr (b8 a),
   λy m=>nt (kK n y m),of_decide_eq_true l,of_decide_eq_true o,nt u,nt s,of_decide_eq_true c⟩
theorem je{names:List (Str×NameKind)}(h:((names.filter λy=>fB y.2).map (·.1)).Nodup)(n:Nat):((cellsFrom n names []).map (·.1)).Nodup:=by
 have:∀(names:List (Str×NameKind)) (n:Nat) (a:List (Str×Addr)),(cellsFrom n names a).map (·.1)=((names.filter λy=>fB y.2).map (·.1)).reverse++a.map (·.1):=by
  intro names
  induction names with
  |nil=>intro n a;rfl
  |cons p r c=>
   intro n a
   obtain⟨x,k⟩:=p
   unfold cellsFrom
   rw[mr,List.filter_cons]
   by_cases b:fB k=true
   ·rw[if_pos b,if_pos b,c];simp
   ·rw[if_neg b,if_neg b,c]
 rw[this,List.map_nil,List.append_nil]
 exact(List.reverse_perm _).nodup_iff.mpr h
section
variable {prog:Program} {w:World} {K:Frag} {T:Tb} {F:Ft} {t:Ct} {bD:Addr->Option Fd}
def cO(Q:PX):Fl->aG->Hp->Prop:=λc _ b=>(match c with
   |.next=>∃a,Wk a b/\Q .none a
   |.ret v=>∃a,Wk a b/\Q v a
   |_=>False)
theorem rV{a:Addr}{names:List (Str×NameKind)}{cells:List (Addr×Obj)}(b:cells.map (·.1)=(cellsFrom (a+1) names []).map (·.2)):∀p∈cells,a<p.1:=λp c=>by
 have q:p.1∈cells.map (·.1):=List.mem_map_of_mem (f:=(·.1)) c
 rw[b]at q
 exact(bz q).elim λq h=>h.2▸((bq names (a+1) [] (λ_ h=>nM h) .nil (λ_ h=>nM h)).2.1 q h.1).elim (λh=>nM h) id
theorem Bo{as:List AV}{k j:Nat}:get (as++List.replicate k .undef) j=get as j:=by
 unfold get
 rw[List.getD_eq_getElem?_getD,List.getD_eq_getElem?_getD]
 by_cases h:j<as.length
 ·rw[List.getElem?_append_left h]
 ·rw[List.getElem?_append_right (Nat.le_of_not_lt h),List.getElem?_eq_none (Nat.le_of_not_lt h),List.getElem?_replicate]
  split<;>rfl
theorem sh{cal:bj}{d:Fd}{q:List Arg}(ok:CE K T F t)(f:Gn d q){U:Around}{W g:Heap}{b:Env}{u:Addr}{cells opq:List (Addr×Obj)}{as:List AV}{vs:List Value}(l:b.scope=d.cn.sc)(s:b.cells=cellsFrom (u+1) d.cn.sc.names [])(D:b.locals=u)
  (Y:CellsAre (bindC b.kindOf ((q.map (·.arg)).zip vs) λ_=>none) (cellsFrom (u+1) d.cn.sc.names []) cells) (δ:Gd K W g U b) (c:gY prog w T cal U W g u) (hh:U.handled=none) (n:as.length=d.np) (r:aF VR vs as) (V:∀p∈opq,p.1<u):
  Lw ⟨prog,w,K,T,F,t,cal,U,W,g⟩ b d.cn u (bindL b.kindOf ((q.map (·.arg)).zip vs) λ_=>none) cells opq (as++List.replicate (d.nl-d.np) .undef):=by
 have J:(((q.map (·.arg)).zip vs).map (·.1))=q.map (·.arg):=by
  rw[←List.unzip_fst,List.unzip_zip (by rw[List.length_map,f.np,r.length,n])]
 have Q:=bq d.cn.sc.names (u+1) [] (λ_ h=>nM h) .nil (λ_ h=>nM h)
 have N:=gP Y
 have β:=rV N.1
 have G:∀y,b.scope.names.lookup y≠some .free:=λy e=>by
  rw[l]at e
  have:=f.nf _ (bc e)
  cases this
 have cellOf:∀{P:Prop} {y},b.scope.names.lookup y=some .cell->(∀c o,b.cells.lookup y=some c->(c,o)∈cells->o.data=.cell (bindC b.kindOf ((q.map (·.arg)).zip vs) (λ_=>none) y)->P)->P:=λ{P y} e k=>
  (Option.isSome_iff_exists.mp (Q.2.2 y (.inl (bc (l▸e))))).elim λc I=>(N.2 y c I).elim λo g=>k c o (by rw[s];exact I) g.1 g.2
 refine⟨⟨δ,ok,λy j hj hu=>?_,λx=>.inl (by rw[l]),D,λ_ y A=>bor A (λe=>cellOf (b8 e) λc _ h _ _=>by rw[h];rfl) λe=>absurd (b8 e) (G y),λ_=>c,λ_=>hh⟩,f.lf,λy A=>cellOf A λc o E Z h3=>⟨c,o,_,E,Z,h3⟩,
  λy z c A E Z=>sZ Q.1 (s▸E) (s▸Z),λy c A E p O=>cellOf A λε o c1 c2 _ e=>?_,nH f.nm,G⟩
 ·rw[Bo]at hu ⊢
  cases R:as[j]? with
  |none=>exact absurd (by rw[get,List.getD_eq_getElem?_getD,R];rfl) hu
  |some a=>
   have γ:=(be R).1
   obtain⟨p,O⟩:∃p,q[j]?=some p:=⟨_,List.getElem?_eq_getElem (by rw[f.np,←n];exact γ)⟩
   have hyp:y=p.arg:=nH f.nm _ _ j hj (f.ix j p O)
   refine r.at R λv hv rv=>⟨v,?_,by rw[get,List.getD_eq_getElem?_getD,R];exact rv⟩
   have m:(y,v)∈(q.map (·.arg)).zip vs:=List.mem_of_getElem? (i:=j) (List.getElem?_zip_eq_some.mpr ⟨by rw[List.getElem?_map,O,hyp];rfl,hv⟩)
   have kd:b.scope.names.lookup y=some .local∨b.scope.names.lookup y=some .cell:=by rw[l,hyp];exact f.kd p (List.mem_of_getElem? O)
   refine kd.imp (λB=>⟨B,yW (by rw[J];exact f.nd) m B⟩) λB=>⟨by rw[B];rfl,cellOf B λc o c1 c2 c3=>⟨c,o,c1,List.mem_append_left _ c2,?_⟩⟩
   rw[c3,xO (by rw[J];exact f.nd) m (by show b.scope.names.lookup y≠_;rw[B];exact nofun)]
 ·obtain rfl:=Option.some.inj (E.symm.trans c1)
  exact absurd (β _ c2) (iG (Nat.le_of_lt (e▸V p O)))
structure En(hb:Heap)(A':Around)(env:Env)(L:Addr)(m:Str->Option Value)(f:Addr)(sc:Scope)(g0 g:Heap)(L2:Addr)(env2:Env)(s s2:Shared):Prop where
 ee:∃qual fG,env2=envOfC qual sc L2 f fG
 bl:∃outer,A'.frames=some (env::outer)/\Below A' hb (env::outer) g/\KtsDicts ((env::outer).filterMap (·.frame)) g
 fr:Fr g0 L g m
 la:d8 s s2
theorem En.b{h:Heap}{d:Around}{env:Env}{L:Addr}{m:Str->Option Value}{f:Addr}{j:Scope}{k g:Heap}{i:Addr}{a:Env}{s s2:Shared}(e:En h d env L m f j k g i a s s2):Bl h g (d.deeper a) a:=by
 obtain⟨c,o,l,n⟩:=e.bl
 exact⟨d,env::c,l,n,by show d.frames.map _=_;rw[o];rfl⟩
theorem En.f{d:Heap}{j:Around}{env:Env}{L:Addr}{m:Str->Option Value}{f:Addr}{h:Scope}{i g:Heap}{b:Addr}{a:Env}{s s2:Shared}(e:En d j env L m f h i g b a s s2):a.frame=some b:=by
 obtain⟨q,c,rfl⟩:=e.ee;rfl
theorem qb{cal:bj}{f:Addr}{d:Fd}{body:List Stmt}(ok:CE K T F t)(η:zS K t f d body){A:Around}{env:Env}{i h₀:Heap}{L:Addr}(E:Gd K i h₀ A env)(hf:env.frame=some L)(hB:Bl i h₀ A env)
  (hh:A.handled=none) (hd:A.depth<=990) (hu:A.units+300<=cLine)
  (ν:∀A2 c g W,Gd K i g A2 c->c.frame=some W->Bl i g A2 c->A2.handled=none->A2.depth<=A.depth+3->A2.units<=A.units+13->gY prog w T cal A2 i g W)
  {z:Around} {as:List AV} {vs:List Value} {σ:Hp} {s:Shared} {opq:List (Addr×Obj)} {m:Str->Option Value} {Q:PX} {R:Result->Shared->Prop} (sb:Fn A z) (I:as.length=d.np) (r:aF VR vs as) (H:HS T i h₀ L opq m σ s.heap)
  (hR:∀v s',aC T i h₀ L opq m Q s v s'->R (.ok (.ret v)) s')
  (Z:∀c g0 g W m2 cells s2,En i z env L m f d.cn.sc g0 g W c s s2->cF i h₀ g0->Lw ⟨prog,w,K,T,F,t,cal,z.deeper c,i,g⟩ c d.cn W m2 cells opq (as++List.replicate (d.nl-d.np) .undef)->HS T i g W (cells++opq) m2 σ s2.heap->aJ t d.cn d.body body=true->
   wpAny (model prog w) (z.deeper c) (execs body c) (PS ⟨prog,w,K,T,F,t,cal,z.deeper c,i,g⟩ c d.cn W opq (cO Q) s2)
    (λe s'=>wpAny (model prog w) (z.deeper c) (leaving c e) (λ_ U=>R (.error e) U) (λe' U=>R (.error e') U) s') s2):
  codeAny (model prog w) z (.call (.ref f) ⟨vs,[]⟩) R s:=by
 refine H.casesOn λg0 tu ζ D Fh N R0=>(tu.bl hB).casesOn λυ β B DD hA=>?_
 replace E:=E.turn tu.base
 obtain⟨fo,name,j,ps,kd,ds,kV,φ,pm,an,fG,ct,e1,e2,e3,e4,e5⟩:=η.ex
 have G:=vd e5
 have hX:K.In s.heap:=E.X.keeps Fh.keep
 refine FJ (binds:=(ps.map (·.arg)).zip vs) E.st B DD Fh N E.lim (sb.fr.trans hA) hf E.fk (hX _ _ e1) e2 (codeRec_of hX e3) (Nat.lt_of_le_of_lt (Nat.le_trans sb.dp (Nat.add_le_add_right hd 2)) (by decide)) (.of_eq (lX G.nd (by rw[r.length,I,G.np]))) (λn x hx=>?_) (je G.nc 0) (λg J y tk cells F0 F' N' Y B' D' st ε=>?_) G.co G.ge G.k
 ·obtain⟨p,O,e⟩:=bz (List.of_mem_zip hx).1
  rw[←(show p.arg=_ from e)]
  exact(G.kd p O).imp id λh=>⟨h,(bq d.cn.sc.names n [] (λ_ h=>nM h) .nil (λ_ h=>nM h)).2.2 _ (.inl (bc h))⟩
 ·have θ:=gP Y
  have ξ:=rV θ.1
  have V:i.StaysIn g:=λb o e=>st _ _ (E.st _ _ e)
  have R1:HR T σ i (cells++ζ) D (cells++opq):=R0.opq_many (by rw[θ.1];exact(bq d.cn.sc.names (J+1) [] (λ_ h=>nM h) .nil (λ_ h=>nM h)).1) λp O=>⟨λq hq=>Nat.ne_of_lt (Nat.lt_trans (ε q hq) (ξ p O)),pq V (N' p (List.mem_append_left _ O)).2.2⟩
  have un:z.units+3<=A.units+13:=Nat.add_le_add_right (k:=3) sb.un
  have γ:Gd K i g (z.deeper (envOfC j d.cn.sc J f fG)) (envOfC j d.cn.sc J f fG):=⟨E.Xb,E.trb,V,G.k,rfl,rfl,Nat.lt_of_lt_of_le (Nat.lt_of_le_of_lt (Nat.add_le_add_right un 200) (Nat.add_lt_add_left (show 213<300 by decide) _)) hu,E.fits⟩
  have en:En i z env L m f d.cn.sc g0 g J (envOfC j d.cn.sc J f fG) s {s with heap:=y,toks:=tk}:=⟨⟨j,fG,rfl⟩,⟨β,by rw[sb.fr,hA],B',D'⟩,F0,y,tk,rfl⟩
  have ca:=ν _ _ g J γ en.f en.b (sb.hh.trans hh) (Nat.succ_le_succ sb.dp) un
  have lw:=sh (prog:=prog) (w:=w) (cal:=cal) (vs:=vs) (opq:=opq) ok G rfl rfl rfl Y γ ca (sb.hh.trans hh) I r λp O=>ε p (R0.oq p O).1
  refine wpAny_mono (Z _ g0 g J _ cells {s with heap:=y,toks:=tk} en tu lw ⟨g,.refl V,_,D,F',N',R1⟩ e4) (λfl s' p=>?_) λ_ _ x=>x
  obtain⟨ψ,l',π,m',ω,h',δ,rfl,ρ,χ,H',q⟩:=p
  refine H'.casesOn λg' μ u D' F2 N2 R2=>⟨g',J,m',u,μ,F2,N2,λh3 κ F3 N3=>?_⟩
  have fin:∀{v a},VR v a->(∃l,Wk l π/\Q a l)->R (.ok (.ret v)) {s with heap:=h',toks:=δ}:=λrv q=>q.elim λl q=>hR _ _ ⟨_,l,h',δ,rfl,rv,⟨h3,tu.trans κ,u,D',F3,N3,(R2.opq_sub λp O=>List.mem_append_right _ O).wk q.1⟩,q.2⟩
  cases ρ with
  |next=>exact fin (a:=.none) trivial q
  |ret rv=>exact fin rv q
  |brk=>exact q.elim
  |cont=>exact q.elim
theorem qM{ext:bj}(ok:CE K T F t)(uG:∀f d,bD f=some d->∃body,zS K t f d body)
  (e:∀(A:Around) (env:Env) (c h₀:Heap) (L:Addr),Gd K c h₀ A env->env.frame=some L->Bl c h₀ A env->A.handled=none->A.depth<=890->A.units+320<=cLine->gY prog w T ext A c h₀ L):
  ∀(k:Nat) (A:Around) (env:Env) (c h₀:Heap) (L:Addr),Gd K c h₀ A env->env.frame=some L->Bl c h₀ A env->A.handled=none->
  A.depth+4*(k+1)<=890->A.units+20*(k+1)+300<=cLine->gY prog w T (gy F bD ext k) A c h₀ L
 |0,A,env,c,h₀,L,_,_,_,_,_,_=>λz f as vs σ s opq m Q R sb h=>h.elim
 |k+1,A,env,c,h₀,L,I,D,G,E,hd,q=>λz f as vs σ s opq m Q R sb h r H hR=>by
  unfold gy at h
  split at h
  ·rename_i d u
   rcases h with⟨l,i⟩|h
   ·obtain⟨body,j⟩:=uG f d u
    exact qb ok j I D G E (by exact n1 [_,_] PD (.le (.a (.v 0) (.m 4 (.a (.a (.v 1) (.n 1)) (.n 1)))) (.n 890)) rfl hd) (by exact n1 [_,_,_] Pn (.le (.a (.a (.v 0) (.m 20 (.a (.a (.v 2) (.n 1)) (.n 1)))) (.n 300)) (.v 1)) rfl q) (λV b g o p B x y N U=>qM ok uG e k V b c g o p B x y (by exact n2 [_,_,_] (.le (.a (.v 0) (.m 4 (.a (.v 1) (.n 1)))) (.n 890)) (.le (.a (.v 2) (.m 4 (.a (.a (.v 1) (.n 1)) (.n 1)))) (.n 890)) O4 rfl hd N) (by exact n2 [_,_,_,_] (.le (.a (.a (.v 0) (.m 20 (.a (.v 1) (.n 1)))) (.n 300)) (.v 2)) (.le (.a (.a (.v 3) (.m 20 (.a (.a (.v 1) (.n 1)) (.n 1)))) (.n 300)) (.v 2)) (.le (.v 0) (.a (.v 3) (.n 13))) rfl q U)) sb l r H hR
     λb Z g o m2 cells s2 en tu Y J O=>pK (W:=⟨prog,w,K,T,F,t,gy F bD ext k,z.deeper b,c,g⟩) d.body d.cn body O b o m2 cells opq _ σ s2 _ _ Y J i
   ·exact e A env c h₀ L I D G E (by exact Nat.le_trans (Nat.le_add_right _ _) hd) (by exact n1 [_,_,_] (.le (.a (.v 0) (.n 320)) (.v 1)) (.le (.a (.a (.v 0) (.m 20 (.a (.a (.v 2) (.n 1)) (.n 1)))) (.n 300)) (.v 1)) rfl q) z f as vs σ s opq m Q R sb h r H hR
  ·exact h.elim
end
end
section
section
variable {prog:Program} {w:World} {K:Frag} {T:Tb} {F:Ft} {t:Ct}
theorem sM{cal:bj}{f:Addr}{d:Fd}{body:List Stmt}(ok:CE K T F t)(Z:zS K t f d body){s:Shared}{as:List AV}{vs:List Value}{σ:Hp}{D:Addr->Addr}{Q:PX}{R:Result->Shared->Prop}
  (X:K.In s.heap) (Tp:∃p A O mg mb,Top p A O mg mb s.heap) (V:mainGlobals<s.heap.objs.size) (R0:HR T σ s.heap [] D []) (u:as.length=d.np) (r:aF VR vs as)
  (δ:∀G j g L2,Gd K s.heap g G j->j.frame=some L2->Bl s.heap g G j->G.handled=none->G.depth<=callerA.depth+3->G.units<=callerA.units+13->gY prog w T cal G s.heap g L2)
  (B:ji F cal d.body (as++List.replicate (d.nl-d.np) .undef) σ (cO Q))
  (hR:∀v a z h' tk,VR v a->Q a z->s.heap.StaysIn h'->R (.ok (.ret v)) {s with heap:=h',toks:=tk}):codeAny (model prog w) callerA (.call (.ref f) ⟨vs,[]⟩) R s:=by
 obtain⟨fo,name,l,ps,kd,ds,kV,θ,pm,an,fG,ct,e1,e2,e3,e4,e5⟩:=Z.ex
 have m:=vd e5
 have U:s.heap.NoLimit:=Tp.elim λ_ h=>h.elim λ_ h=>h.elim λ_ h=>h.elim λ_ h=>h.elim λ_ h=>h.nolimit
 have hc:=λn=>bq d.cn.sc.names n [] (λ_ h=>nM h) .nil (λ_ h=>nM h)
 refine codeAny_call_function (by decide+kernel) (X _ _ e1) e2 m.co m.ge rfl (codeRec_of X e3) ((BindsTo.of_eq (lX m.nd (by rw[r.length,u,m.np]))) _ _ _ _ (wpAny_newFunctionEnv_cells m.k (λx hx=>?_) λη he s' x=>?_))
 ·obtain⟨p,hp,e⟩:=bz (List.of_mem_zip hx).1
  rw[←(show p.arg=_ from e)]
  exact(m.kd p hp).imp id λh=>⟨h,(hc _).2.2 _ (.inl (bc h))⟩
 subst he
 refine⟨U.keeps x.toInCall.keep,codeAny_func ?_⟩
 obtain⟨J,tk,rfl,_⟩:=x.done
 have E:=x.toInCall.keep
 have ζ:=je m.nc 0
 obtain⟨cells,NC,Y⟩:=Cl.news (h₀:=s.heap) (Nat.le_refl _) λn c hm=>⟨x.cell n c (lookup_of_mem_nodup (cellsFrom_names d.cn.sc.names 0 (s.heap.objs.size+1) [] [] rfl▸ζ) hm),x.above n c hm⟩
 have st:s.heap.StaysIn s.heap:=λ_ _ e=>e
 have R1:HR T σ s.heap (cells++[]) D (cells++[]):=R0.opq_many (by rw[(gP Y).1];exact(hc _).1) λp hp=>⟨λq hq=>(nM hq),(NC p hp).2.2⟩
 have I:Gd K s.heap s.heap (callerA.deeper (envOfC l d.cn.sc s.heap.objs.size f fG)) (envOfC l d.cn.sc s.heap.objs.size f fG):=⟨X,Tp,st,m.k,rfl,rfl,by show 4+3+200<cLine;decide+kernel,V⟩
 have lw:=sh (prog:=prog) (w:=w) (cal:=cal) (vs:=vs) (opq:=[]) ok m rfl rfl rfl Y I (δ _ _ _ _ I rfl ⟨callerA,[],below_caller _,ktsDicts_nil,rfl⟩ rfl (Nat.le_add_right _ 2) (Nat.le_add_right _ 10)) rfl u r (λ_ h=>nM h)
 refine wpAny_mono (pK (W:=⟨prog,w,K,T,F,t,cal,callerA.deeper (envOfC l d.cn.sc s.heap.objs.size f fG),s.heap,s.heap⟩) d.body d.cn body e4 _ _ _ cells [] _ σ {s with heap:=J,toks:=tk} _ _ lw ⟨s.heap,.refl st,_,D,⟨x.toInCall.ns,E,Nat.le_refl _⟩,by rw[List.append_nil];exact NC,R1⟩ B) (λfl s' p=>?_) λ_ _ y=>y
 obtain⟨μ,l',z,m',ν,h',N,rfl,ε,κ,H',q⟩:=p
 refine H'.casesOn λg' β γ D' F2 N2 R2=>?_
 have fin:∀{v a},VR v a->(∃i,Wk i z/\Q a i)->R (.ok (.ret v)) {s with heap:=h',toks:=N}:=λrv q=>q.elim λi q=>hR _ _ i h' N rv q.2 λb o e=>F2.keep _ _ (β.base _ _ e)
 cases ε with
 |next=>exact fin (a:=.none) trivial q
 |ret rv=>exact fin rv q
 |brk=>exact q.elim
 |cont=>exact q.elim
end
end
section
noncomputable abbrev pw:Program:=PySem.Challenge.pw_xm0840_01
noncomputable def ao:Stmt->List Stmt
 |.FunctionDef _ _ b _ _ _ _ _ _ _=>b
 |_=>[]
noncomputable def ae:Stmt->Scope
 |.FunctionDef _ _ _ _ _ _ a _ _ _=>a
 |_=>default
noncomputable def gr:Stmt->Arguments
 |.FunctionDef _ a _ _ _ _ _ _ _ _=>a
 |_=>⟨[],[],none,[],[],none,[]⟩
noncomputable def BL:Stmt->List Stmt
 |.ClassDef _ _ _ b _ _ _ _ _ _ _=>b
 |_=>[]
noncomputable def top(i:Nat):Stmt:=pw.main.body.getD i (.Pass default)
noncomputable def sub(i j:Nat):Stmt:=(BL (top i)).getD j (.Pass default)
noncomputable def ar(b:Scope):Cn:=
 let a:=(b.names.filter λp=>pZ p.2||fB p.2).map (·.1)
 ⟨b,a.zipIdx,[("e",a.length),("one",a.length+1),("k",a.length+2),("n",a.length+3),("x",a.length+4)],false⟩
noncomputable def N0:List (Str×Nat):=[(Str.ofString "put_fixed32",10),(Str.ofString "put_fixed64",11),(Str.ofString "read_fixed32",12),(Str.ofString "read_fixed64",13),(Str.ofString "pack_tag",14),(Str.ofString "make_ikey",15),(Str.ofString "split_ikey",16),(Str.ofString "user_of",17),(Str.ofString "tag_of",18),(Str.ofString "find_file",43),(Str.ofString "total_size",60),(Str.ofString "key_range",61),(Str.ofString "max_octets_of",68),(Str.ofString "score_of",69),(Str.ofString "_law_draw",76),(Str.ofString "_law_user",77),(Str.ofString "_law_ikey",78),(Str.ofString "_law_made",79),(Str.ofString "_law_put",80),(Str.ofString "_law_compact",81),(Str.ofString "_law_told",82),(Str.ofString "_law_readers_told",83),(Str.ofString "_law_forget",84),(Str.ofString "_law_smallest",85),(Str.ofString "_law_by_hand",86),(Str.ofString "_law_writes",87),(Str.ofString "_law_live",88),(Str.ofString "law",89)]
noncomputable def PA:List (Str×Nat):=[(Str.ofString "SnapMark",7),(Str.ofString "MarkList",8),(Str.ofString "Order",9),(Str.ofString "BytesOrder",10),(Str.ofString "InternalOrder",11),(Str.ofString "Options",12),(Str.ofString "Sieve",13),(Str.ofString "FileMeta",14),(Str.ofString "VersionEdit",15),(Str.ofString "Version",16),(Str.ofString "VersionMaker",17),(Str.ofString "Compaction",18),(Str.ofString "Picker",19)]
noncomputable def Oy:List (Str×Int):=[(Str.ofString "MAX_32",4294967295),(Str.ofString "MAX_64",18446744073709551615),(Str.ofString "CHECK_CRC",1),(Str.ofString "CHECK_SUM",2),(Str.ofString "KIND_DELETE",0),(Str.ofString "KIND_VALUE",1),(Str.ofString "KIND_SEEK",1),(Str.ofString "MAX_SEQ",72057594037927935),(Str.ofString "TAG_LENGTH",8),(Str.ofString "LEAST_BLOCK",8),(Str.ofString "MOST_BLOCK",65542),(Str.ofString "MOST_LEVELS",12)]
noncomputable def O1:List (Str×Nat):=[(Str.ofString "score",0),(Str.ofString "score_level",1),(Str.ofString "number",2),(Str.ofString "seq",3),(Str.ofString "live",4),(Str.ofString "marks",5),(Str.ofString "made",6),(Str.ofString "user_order",7),(Str.ofString "check",8),(Str.ofString "log_block",9),(Str.ofString "sync_writes",10),(Str.ofString "create_missing",11),(Str.ofString "paranoid",12),(Str.ofString "write_buffer",13),(Str.ofString "max_height",14),(Str.ofString "heights",15),(Str.ofString "block_size",16),(Str.ofString "restart_interval",17),(Str.ofString "filter_bits",18),(Str.ofString "filter_base_lg",19),(Str.ofString "max_file_size",20),(Str.ofString "num_levels",21),(Str.ofString "l0_trigger",22),(Str.ofString "l0_stop",23),(Str.ofString "base_bytes",24),(Str.ofString "level_factor",25),(Str.ofString "max_mem_level",26),(Str.ofString "grandparent_factor",27),(Str.ofString "expand_factor",28),(Str.ofString "c",29),(Str.ofString "smallest",30),(Str.ofString "current",31),(Str.ofString "newer",32),(Str.ofString "stop",33),(Str.ofString "size",34),(Str.ofString "largest",35),(Str.ofString "comparator",36),(Str.ofString "log_number",37),(Str.ofString "next_file",38),(Str.ofString "last_seq",39),(Str.ofString "compact_pointers",40),(Str.ofString "deleted",41),(Str.ofString "added",42),(Str.ofString "reset",43),(Str.ofString "order",44),(Str.ofString "files",45),(Str.ofString "refs",46),(Str.ofString "base",47),(Str.ofString "dropped",48),(Str.ofString "level",49),(Str.ofString "version",50),(Str.ofString "options",51),(Str.ofString "users",52),(Str.ofString "inputs",53),(Str.ofString "grandparents",54),(Str.ofString "edit",55),(Str.ofString "manual",56),(Str.ofString "grand_at",57),(Str.ofString "grand_octets",58),(Str.ofString "seen_key",59),(Str.ofString "places",60)]
noncomputable def Pw:List (Str×Nat):=[(Str.ofString "__init__",0),(Str.ofString "size",1),(Str.ofString "add",2),(Str.ofString "place",3),(Str.ofString "holds",4),(Str.ofString "drop",5),(Str.ofString "drop_all",6),(Str.ofString "smallest",7),(Str.ofString "compare",8),(Str.ofString "separator",9),(Str.ofString "successor",10),(Str.ofString "name",11),(Str.ofString "dress",12),(Str.ofString "check_all",13),(Str.ofString "tiny",14),(Str.ofString "turn",15),(Str.ofString "row",16),(Str.ofString "encode",17),(Str.ofString "overlapping",18),(Str.ofString "candidates",19),(Str.ofString "get",20),(Str.ofString "overlaps",21),(Str.ofString "level_for_mem",22),(Str.ofString "level_octets",23),(Str.ofString "numbers",24),(Str.ofString "iterators",25),(Str.ofString "check",26),(Str.ofString "within",27),(Str.ofString "apply",28),(Str.ofString "before",29),(Str.ofString "finish",30),(Str.ofString "grand_limit",31),(Str.ofString "trivial",32),(Str.ofString "stop_before",33),(Str.ofString "base_level_for",34),(Str.ofString "add_deletions",35),(Str.ofString "needs_compaction",36),(Str.ofString "user_range",37),(Str.ofString "pick",38),(Str.ofString "pick_range",39),(Str.ofString "set_up_other",40)]
noncomputable def ct:Ct:=⟨N0,PA,Oy,O1,Pw⟩
noncomputable def b1:SS:=
 (.cons (.setA (.v 0) 2 (.v 1))
 (.cons (.setA (.v 0) 3 (.v 2))
 (.cons (.setA (.v 0) 4 (.k (.bool true)))
 .nil)))
noncomputable def s1:Stmt:=sub 10 0
theorem RT:aJ ct (ar (ae s1)) b1 (ao s1)=true:=by kernel_rfl
noncomputable def b2:SS:=
 (.cons (.setA (.v 0) 5 (.lst .nil))
 (.cons (.setA (.v 0) 6 (.k (.int 0)))
 .nil))
noncomputable def s2:Stmt:=sub 11 0
theorem RX:aJ ct (ar (ae s2)) b2 (ao s2)=true:=by kernel_rfl
noncomputable def b4:SS:=
 (.cons (.ite (.and (.cons (.t (.at (.v 0) 5)) (.cons (.t (.cmp .gt (.at (.sub (.at (.v 0) 5) (.k (.int (-1)))) 3) (.v 1))) .nil))) (.cons .dead
 .nil) .nil)
 (.cons (.augA (.v 0) 6 .add (.k (.int 1)))
 (.cons (.asg 2 (.mk 7 (.cons (.at (.v 0) 6) (.cons (.v 1) .nil))))
 (.cons (.ex (.bm .append (.at (.v 0) 5) (.cons (.v 2) .nil)))
 (.cons (.ret (.v 2))
 .nil)))))
noncomputable def s4:Stmt:=sub 11 2
theorem RU:aJ ct (ar (ae s4)) b4 (ao s4)=true:=by kernel_rfl
noncomputable def b5:SS:=
 (.cons (.asg 2 (.k (.int 0)))
 (.cons (.asg 3 (.bi .len (.cons (.at (.v 0) 5) .nil)))
 (.cons (.whl (.t (.cmp .lt (.v 2) (.v 3))) (.cons (.asg 4 (.bin .fdiv (.bin .add (.v 2) (.v 3)) (.k (.int 2))))
 (.cons (.ite (.t (.cmp .lt (.at (.sub (.at (.v 0) 5) (.v 4)) 2) (.at (.v 1) 2))) (.cons (.asg 2 (.bin .add (.v 4) (.k (.int 1))))
 .nil) (.cons (.asg 3 (.v 4))
 .nil))
 .nil)))
 (.cons (.ite (.or (.cons (.t (.cmp .eq (.v 2) (.bi .len (.cons (.at (.v 0) 5) .nil)))) (.cons (.not (.t (.at (.v 1) 4))) .nil))) (.cons (.ret (.k (.int (-1))))
 .nil) .nil)
 (.cons (.asg 5 (.sub (.at (.v 0) 5) (.v 2)))
 (.cons (.ite (.or (.cons (.t (.cmp .ne (.at (.v 5) 2) (.at (.v 1) 2))) (.cons (.t (.cmp .ne (.at (.v 5) 3) (.at (.v 1) 3))) .nil))) (.cons (.ret (.k (.int (-1))))
 .nil) .nil)
 (.cons (.ret (.v 2))
 .nil)))))))
noncomputable def s5:Stmt:=sub 11 3
theorem RY:aJ ct (ar (ae s5)) b5 (ao s5)=true:=by kernel_rfl
noncomputable def b7:SS:=
 (.cons (.asg 2 (.mth (.v 0) 3 (.cons (.v 1) .nil)))
 (.cons (.ite (.t (.cmp .lt (.v 2) (.k (.int 0)))) (.cons .dead
 .nil) .nil)
 (.cons (.setA (.sub (.at (.v 0) 5) (.v 2)) 4 (.k (.bool false)))
 (.cons (.setA (.v 1) 4 (.k (.bool false)))
 (.cons (.delI (.at (.v 0) 5) (.v 2))
 .nil)))))
noncomputable def s7:Stmt:=sub 11 5
theorem RQ:aJ ct (ar (ae s7)) b7 (ao s7)=true:=by kernel_rfl
noncomputable def b9:SS:=
 (.cons (.ite (.not (.t (.at (.v 0) 5))) (.cons .dead
 .nil) .nil)
 (.cons (.ret (.at (.sub (.at (.v 0) 5) (.k (.int 0))) 3))
 .nil))
noncomputable def s9:Stmt:=sub 11 7
theorem RW:aJ ct (ar (ae s9)) b9 (ao s9)=true:=by kernel_rfl
noncomputable def I4:SS:=
 (.cons (.ite (.or (.cons (.t (.cmp .lt (.v 0) (.k (.int 0)))) (.cons (.t (.cmp .gt (.v 0) (.k (.int 4294967295)))) .nil))) (.cons .dead
 .nil) .nil)
 (.cons (.ret (.bi .bytes (.cons (.lst (.cons (.bin .band (.v 0) (.k (.int 255))) (.cons (.bin .band (.bin .shr (.v 0) (.k (.int 8))) (.k (.int 255))) (.cons (.bin .band (.bin .shr (.v 0) (.k (.int 16))) (.k (.int 255))) (.cons (.bin .shr (.v 0) (.k (.int 24))) .nil))))) .nil)))
 .nil))
noncomputable def Iq:Stmt:=top 17
theorem QO:aJ ct (ar (ae Iq)) I4 (ao Iq)=true:=by kernel_rfl
noncomputable def Kz:SS:=
 (.cons (.ite (.or (.cons (.t (.cmp .lt (.v 0) (.k (.int 0)))) (.cons (.t (.cmp .gt (.v 0) (.k (.int 18446744073709551615)))) .nil))) (.cons .dead
 .nil) .nil)
 (.cons (.ret (.bin .add (.fn 10 (.cons (.bin .band (.v 0) (.k (.int 4294967295))) .nil)) (.fn 10 (.cons (.bin .shr (.v 0) (.k (.int 32))) .nil))))
 .nil))
noncomputable def JT:Stmt:=top 18
theorem QJ:aJ ct (ar (ae JT)) Kz (ao JT)=true:=by kernel_rfl
noncomputable def IF:SS:=
 (.cons (.ite (.or (.cons (.t (.cmp .lt (.v 1) (.k (.int 0)))) (.cons (.t (.cmp .gt (.bin .add (.v 1) (.k (.int 4))) (.bi .len (.cons (.v 0) .nil)))) .nil))) (.cons .dead
 .nil) .nil)
 (.cons (.ret (.bin .bor (.bin .bor (.bin .bor (.sub (.v 0) (.v 1)) (.bin .shl (.sub (.v 0) (.bin .add (.v 1) (.k (.int 1)))) (.k (.int 8)))) (.bin .shl (.sub (.v 0) (.bin .add (.v 1) (.k (.int 2)))) (.k (.int 16)))) (.bin .shl (.sub (.v 0) (.bin .add (.v 1) (.k (.int 3)))) (.k (.int 24)))))
 .nil))
noncomputable def JK:Stmt:=top 19
theorem QA:aJ ct (ar (ae JK)) IF (ao JK)=true:=by kernel_rfl
noncomputable def JV:SS:=
 (.cons (.ite (.or (.cons (.t (.cmp .lt (.v 1) (.k (.int 0)))) (.cons (.t (.cmp .gt (.bin .add (.v 1) (.k (.int 8))) (.bi .len (.cons (.v 0) .nil)))) .nil))) (.cons .dead
 .nil) .nil)
 (.cons (.ret (.bin .bor (.fn 12 (.cons (.v 0) (.cons (.v 1) .nil))) (.bin .shl (.fn 12 (.cons (.v 0) (.cons (.bin .add (.v 1) (.k (.int 4))) .nil))) (.k (.int 32)))))
 .nil))
noncomputable def IV:Stmt:=top 20
theorem QC:aJ ct (ar (ae IV)) JV (ao IV)=true:=by kernel_rfl
noncomputable def KI:SS:=
 (.cons (.ite (.or (.cons (.t (.cmp .lt (.v 0) (.k (.int 0)))) (.cons (.t (.cmp .gt (.v 0) (.k (.int 72057594037927935)))) .nil))) (.cons .dead
 .nil) .nil)
 (.cons (.ite (.and (.cons (.t (.cmp .ne (.v 1) (.k (.int 0)))) (.cons (.t (.cmp .ne (.v 1) (.k (.int 1)))) .nil))) (.cons .dead
 .nil) .nil)
 (.cons (.ret (.bin .bor (.bin .shl (.v 0) (.k (.int 8))) (.v 1)))
 .nil)))
noncomputable def IR:Stmt:=top 30
theorem Rt:aJ ct (ar (ae IR)) KI (ao IR)=true:=by kernel_rfl
noncomputable def Kg:SS:=
 (.cons (.ret (.bin .add (.bi .bytes (.cons (.v 0) .nil)) (.fn 11 (.cons (.fn 14 (.cons (.v 1) (.cons (.v 2) .nil))) .nil))))
 .nil)
noncomputable def I9:Stmt:=top 31
theorem Rl:aJ ct (ar (ae I9)) Kg (ao I9)=true:=by kernel_rfl
noncomputable def CJ:SS:=
 (.cons (.asg 1 (.fn 17 (.cons (.v 0) .nil)))
 (.cons (.asg 2 (.fn 18 (.cons (.v 0) .nil)))
 (.cons (.asg 3 (.bin .band (.v 2) (.k (.int 255))))
 (.cons (.ite (.t (.cmp .gt (.v 3) (.k (.int 1)))) (.cons .dead
 .nil) .nil)
 (.cons (.ret (.tup (.cons (.v 1) (.cons (.bin .shr (.v 2) (.k (.int 8))) (.cons (.v 3) .nil)))))
 .nil)))))
noncomputable def Jl:Stmt:=top 32
theorem Rn:aJ ct (ar (ae Jl)) CJ (ao Jl)=true:=by kernel_rfl
noncomputable def Jo:SS:=
 (.cons (.ite (.t (.cmp .lt (.bi .len (.cons (.v 0) .nil)) (.k (.int 8)))) (.cons .dead
 .nil) .nil)
 (.cons (.ret (.bi .bytes (.cons (.upto (.v 0) (.bin .sub (.bi .len (.cons (.v 0) .nil)) (.k (.int 8)))) .nil)))
 .nil))
noncomputable def Kd:Stmt:=top 33
theorem Ri:aJ ct (ar (ae Kd)) Jo (ao Kd)=true:=by kernel_rfl
noncomputable def Jg:SS:=
 (.cons (.ite (.t (.cmp .lt (.bi .len (.cons (.v 0) .nil)) (.k (.int 8)))) (.cons .dead
 .nil) .nil)
 (.cons (.ret (.fn 13 (.cons (.v 0) (.cons (.bin .sub (.bi .len (.cons (.v 0) .nil)) (.k (.int 8))) .nil))))
 .nil))
noncomputable def I6:Stmt:=top 34
theorem QG:aJ ct (ar (ae I6)) Jg (ao I6)=true:=by kernel_rfl
noncomputable def JM:SS:=
 (.cons (.ite (.t (.cmp .lt (.v 1) (.v 2))) (.cons (.ret (.k (.int (-1))))
 .nil) .nil)
 (.cons (.ite (.t (.cmp .gt (.v 1) (.v 2))) (.cons (.ret (.k (.int 1)))
 .nil) .nil)
 (.cons (.ret (.k (.int 0)))
 .nil)))
noncomputable def KU:Stmt:=sub 35 0
theorem Q3:aJ ct (ar (ae KU)) JM (ao KU)=true:=by kernel_rfl
noncomputable def IQ:SS:=
 (.cons (.setA (.v 0) 7 (.mk 10 .nil))
 .nil)
noncomputable def Ky:Stmt:=sub 37 0
theorem Qh:aJ ct (ar (ae Ky)) IQ (ao Ky)=true:=by kernel_rfl
noncomputable def Cv:SS:=
 (.cons (.asg 3 (.mth (.at (.v 0) 7) 8 (.cons (.fn 17 (.cons (.v 1) .nil)) (.cons (.fn 17 (.cons (.v 2) .nil)) .nil))))
 (.cons (.ite (.t (.cmp .ne (.v 3) (.k (.int 0)))) (.cons (.ret (.v 3))
 .nil) .nil)
 (.cons (.asg 4 (.fn 18 (.cons (.v 1) .nil)))
 (.cons (.asg 5 (.fn 18 (.cons (.v 2) .nil)))
 (.cons (.ite (.t (.cmp .gt (.v 4) (.v 5))) (.cons (.ret (.k (.int (-1))))
 .nil) .nil)
 (.cons (.ite (.t (.cmp .lt (.v 4) (.v 5))) (.cons (.ret (.k (.int 1)))
 .nil) .nil)
 (.cons (.ret (.k (.int 0)))
 .nil)))))))
noncomputable def Iy:Stmt:=sub 37 1
theorem Qc:aJ ct (ar (ae Iy)) Cv (ao Iy)=true:=by kernel_rfl
noncomputable def It:SS:=
 (.cons (.setA (.v 0) 8 (.k (.int 1)))
 (.cons (.setA (.v 0) 9 (.k (.int 32768)))
 (.cons (.setA (.v 0) 10 (.k (.bool true)))
 (.cons (.setA (.v 0) 11 (.k (.bool true)))
 (.cons (.setA (.v 0) 12 (.k (.bool false)))
 (.cons (.setA (.v 0) 13 (.k (.int 4194304)))
 (.cons (.setA (.v 0) 14 (.k (.int 12)))
 (.cons (.setA (.v 0) 15 (.tup (.cons (.k (.int 1)) (.cons (.k (.int 2)) (.cons (.k (.int 1)) (.cons (.k (.int 3)) (.cons (.k (.int 1)) (.cons (.k (.int 2)) (.cons (.k (.int 1)) (.cons (.k (.int 4)) .nil))))))))))
 (.cons (.setA (.v 0) 16 (.k (.int 4096)))
 (.cons (.setA (.v 0) 17 (.k (.int 16)))
 (.cons (.setA (.v 0) 18 (.k (.int 10)))
 (.cons (.setA (.v 0) 19 (.k (.int 11)))
 (.cons (.setA (.v 0) 20 (.k (.int 2097152)))
 (.cons (.setA (.v 0) 21 (.k (.int 7)))
 (.cons (.setA (.v 0) 22 (.k (.int 4)))
 (.cons (.setA (.v 0) 23 (.k (.int 12)))
 (.cons (.setA (.v 0) 24 (.k (.int 10485760)))
 (.cons (.setA (.v 0) 25 (.k (.int 10)))
 (.cons (.setA (.v 0) 26 (.k (.int 2)))
 (.cons (.setA (.v 0) 27 (.k (.int 10)))
 (.cons (.setA (.v 0) 28 (.k (.int 25)))
 .nil)))))))))))))))))))))
noncomputable def KK:Stmt:=sub 38 0
theorem RI:aJ ct (ar (ae KK)) It (ao KK)=true:=by kernel_rfl
noncomputable def KT:SS:=
 (.cons (.setA (.v 0) 8 (.k (.int 2)))
 (.cons (.setA (.v 0) 9 (.k (.int 32)))
 (.cons (.setA (.v 0) 13 (.k (.int 96)))
 (.cons (.setA (.v 0) 14 (.k (.int 4)))
 (.cons (.setA (.v 0) 16 (.k (.int 48)))
 (.cons (.setA (.v 0) 17 (.k (.int 2)))
 (.cons (.setA (.v 0) 18 (.k (.int 4)))
 (.cons (.setA (.v 0) 19 (.k (.int 5)))
 (.cons (.setA (.v 0) 20 (.k (.int 128)))
 (.cons (.setA (.v 0) 21 (.k (.int 4)))
 (.cons (.setA (.v 0) 22 (.k (.int 2)))
 (.cons (.setA (.v 0) 23 (.k (.int 4)))
 (.cons (.setA (.v 0) 24 (.k (.int 256)))
 (.cons (.setA (.v 0) 25 (.k (.int 2)))
 (.cons (.ret (.v 0))
 .nil)))))))))))))))
noncomputable def JY:Stmt:=sub 38 2
theorem Qz:aJ ct (ar (ae JY)) KT (ao JY)=true:=by kernel_rfl
noncomputable def KD:SS:=
 (.cons (.setA (.v 0) 29 (.v 1))
 (.cons (.setA (.v 0) 30 (.v 2))
 (.cons (.setA (.v 0) 31 (.k .none))
 (.cons (.setA (.v 0) 32 (.bin .add (.k (.int 72057594037927935)) (.k (.int 1))))
 (.cons (.setA (.v 0) 33 (.k (.bool false)))
 .nil)))))
noncomputable def IO:Stmt:=sub 41 0
theorem Qu:aJ ct (ar (ae IO)) KD (ao IO)=true:=by kernel_rfl
noncomputable def Ke:SS:=
 (.cons (.asgT [3,4,5] (.fn 16 (.cons (.v 1) .nil)))
 (.cons (.ite (.t (.mth (.at (.v 0) 29) 33 (.cons (.v 1) .nil))) (.cons (.setA (.v 0) 33 (.k (.bool true)))
 .nil) .nil)
 (.cons (.asg 6 (.k (.bool false)))
 (.cons (.ite (.or (.cons (.t (.cmp .is (.at (.v 0) 31) (.k .none))) (.cons (.t (.cmp .ne (.v 3) (.at (.v 0) 31))) .nil))) (.cons (.ite (.t (.cmp .ge (.v 2) (.k (.int 0)))) (.cons (.asg 6 (.orX (.at (.v 0) 33) (.cmp .ge (.v 2) (.at (.at (.at (.v 0) 29) 51) 20))))
 .nil) .nil)
 (.cons (.setA (.v 0) 31 (.v 3))
 (.cons (.setA (.v 0) 32 (.bin .add (.k (.int 72057594037927935)) (.k (.int 1))))
 .nil))) .nil)
 (.cons (.ite (.or (.cons (.t (.cmp .lt (.v 2) (.k (.int 0)))) (.cons (.t (.v 6)) .nil))) (.cons (.setA (.v 0) 33 (.k (.bool false)))
 .nil) .nil)
 (.cons (.asg 7 (.k (.bool false)))
 (.cons (.ite (.t (.cmp .le (.at (.v 0) 32) (.at (.v 0) 30))) (.cons (.asg 7 (.k (.bool true)))
 .nil) (.cons (.ite (.and (.cons (.t (.cmp .eq (.v 5) (.k (.int 0)))) (.cons (.t (.cmp .le (.v 4) (.at (.v 0) 30))) .nil))) (.cons (.asg 7 (.mth (.at (.v 0) 29) 34 (.cons (.v 3) .nil)))
 .nil) .nil)
 .nil))
 (.cons (.setA (.v 0) 32 (.v 4))
 (.cons (.ret (.tup (.cons (.v 6) (.cons (.v 7) .nil))))
 .nil)))))))))
noncomputable def Jb:Stmt:=sub 41 1
theorem Qn:aJ ct (ar (ae Jb)) Ke (ao Jb)=true:=by kernel_rfl
noncomputable def JN:SS:=
 (.cons (.setA (.v 0) 2 (.v 1))
 (.cons (.setA (.v 0) 34 (.v 2))
 (.cons (.setA (.v 0) 30 (.v 3))
 (.cons (.setA (.v 0) 35 (.v 4))
 .nil))))
noncomputable def Kr:Stmt:=sub 43 0
theorem QN:aJ ct (ar (ae Kr)) JN (ao Kr)=true:=by kernel_rfl
noncomputable def JP:SS:=
 (.cons (.setA (.v 0) 36 (.k .none))
 (.cons (.setA (.v 0) 37 (.k .none))
 (.cons (.setA (.v 0) 38 (.k .none))
 (.cons (.setA (.v 0) 39 (.k .none))
 (.cons (.setA (.v 0) 40 (.lst .nil))
 (.cons (.setA (.v 0) 41 (.lst .nil))
 (.cons (.setA (.v 0) 42 (.lst .nil))
 (.cons (.setA (.v 0) 43 (.k (.bool false)))
 .nil))))))))
noncomputable def I0:Stmt:=sub 44 0
theorem RD:aJ ct (ar (ae I0)) JP (ao I0)=true:=by kernel_rfl
noncomputable def Kk:SS:=
 (.cons (.asg 3 (.k (.int 0)))
 (.cons (.asg 4 (.bi .len (.cons (.v 0) .nil)))
 (.cons (.whl (.t (.cmp .lt (.v 3) (.v 4))) (.cons (.asg 5 (.bin .fdiv (.bin .add (.v 3) (.v 4)) (.k (.int 2))))
 (.cons (.ite (.t (.cmp .lt (.mth (.v 2) 8 (.cons (.at (.sub (.v 0) (.v 5)) 35) (.cons (.v 1) .nil))) (.k (.int 0)))) (.cons (.asg 3 (.bin .add (.v 5) (.k (.int 1))))
 .nil) (.cons (.asg 4 (.v 5))
 .nil))
 .nil)))
 (.cons (.ret (.v 3))
 .nil))))
noncomputable def Jp:Stmt:=top 45
theorem QR:aJ ct (ar (ae Jp)) Kk (ao Jp)=true:=by kernel_rfl
noncomputable def Iw:SS:=
 (.cons (.setA (.v 0) 21 (.v 1))
 (.cons (.setA (.v 0) 44 (.v 2))
 (.cons (.setA (.v 0) 45 (.lst .nil))
 (.cons (.forR 3 (.k (.int 0)) (.v 1) true (.cons (.ex (.bm .append (.at (.v 0) 45) (.cons (.lst .nil) .nil)))
 .nil))
 (.cons (.setA (.v 0) 46 (.k (.int 0)))
 (.cons (.setA (.v 0) 0 (.tup (.cons (.k (.int 0)) (.cons (.k (.int 1)) .nil))))
 (.cons (.setA (.v 0) 1 (.k (.int (-1))))
 .nil)))))))
noncomputable def Kc:Stmt:=sub 46 0
theorem P2:aJ ct (ar (ae Kc)) Iw (ao Kc)=true:=by kernel_rfl
noncomputable def JS:SS:=
 (.cons (.asg 4 (.v 2))
 (.cons (.asg 5 (.v 3))
 (.cons (.asg 6 (.lst .nil))
 (.cons (.asg 7 (.k (.int 0)))
 (.cons (.whl (.t (.cmp .lt (.v 7) (.bi .len (.cons (.sub (.at (.v 0) 45) (.v 1)) .nil)))) (.cons (.asg 8 (.sub (.sub (.at (.v 0) 45) (.v 1)) (.v 7)))
 (.cons (.asg 9 (.fn 17 (.cons (.at (.v 8) 30) .nil)))
 (.cons (.asg 10 (.fn 17 (.cons (.at (.v 8) 35) .nil)))
 (.cons (.aug 7 .add (.k (.int 1)))
 (.cons (.ite (.and (.cons (.t (.cmp .isnt (.v 4) (.k .none))) (.cons (.t (.cmp .lt (.v 10) (.v 4))) .nil))) (.cons .cnt
 .nil) .nil)
 (.cons (.ite (.and (.cons (.t (.cmp .isnt (.v 5) (.k .none))) (.cons (.t (.cmp .gt (.v 9) (.v 5))) .nil))) (.cons .cnt
 .nil) .nil)
 (.cons (.ex (.bm .append (.v 6) (.cons (.v 8) .nil)))
 (.cons (.ite (.t (.cmp .eq (.v 1) (.k (.int 0)))) (.cons (.ite (.and (.cons (.t (.cmp .isnt (.v 4) (.k .none))) (.cons (.t (.cmp .lt (.v 9) (.v 4))) .nil))) (.cons (.asg 4 (.v 9))
 (.cons (.asg 6 (.lst .nil))
 (.cons (.asg 7 (.k (.int 0)))
 .nil))) (.cons (.ite (.and (.cons (.t (.cmp .isnt (.v 5) (.k .none))) (.cons (.t (.cmp .gt (.v 10) (.v 5))) .nil))) (.cons (.asg 5 (.v 10))
 (.cons (.asg 6 (.lst .nil))
 (.cons (.asg 7 (.k (.int 0)))
 .nil))) .nil)
 .nil))
 .nil) .nil)
 .nil)))))))))
 (.cons (.ret (.v 6))
 .nil))))))
noncomputable def Ji:Stmt:=sub 46 1
theorem RK:aJ ct (ar (ae Ji)) JS (ao Ji)=true:=by kernel_rfl
noncomputable def Kh:SS:=
 (.cons (.asg 2 (.fn 17 (.cons (.v 1) .nil)))
 (.cons (.asg 3 (.lst .nil))
 (.cons (.asg 4 (.sub (.at (.v 0) 45) (.k (.int 0))))
 (.cons (.forR 5 (.bin .sub (.bi .len (.cons (.v 4) .nil)) (.k (.int 1))) (.k (.int (-1))) false (.cons (.asg 6 (.sub (.v 4) (.v 5)))
 (.cons (.ite (.and (.cons (.t (.cmp .le (.fn 17 (.cons (.at (.v 6) 30) .nil)) (.v 2))) (.cons (.t (.cmp .le (.v 2) (.fn 17 (.cons (.at (.v 6) 35) .nil)))) .nil))) (.cons (.ex (.bm .append (.v 3) (.cons (.tup (.cons (.k (.int 0)) (.cons (.v 6) .nil))) .nil)))
 .nil) .nil)
 .nil)))
 (.cons (.forR 7 (.k (.int 1)) (.at (.v 0) 21) true (.cons (.asg 8 (.sub (.at (.v 0) 45) (.v 7)))
 (.cons (.asg 5 (.fn 43 (.cons (.v 8) (.cons (.v 1) (.cons (.at (.v 0) 44) .nil)))))
 (.cons (.ite (.and (.cons (.t (.cmp .lt (.v 5) (.bi .len (.cons (.v 8) .nil)))) (.cons (.t (.cmp .le (.fn 17 (.cons (.at (.sub (.v 8) (.v 5)) 30) .nil)) (.v 2))) .nil))) (.cons (.ex (.bm .append (.v 3) (.cons (.tup (.cons (.v 7) (.cons (.sub (.v 8) (.v 5)) .nil))) .nil)))
 .nil) .nil)
 .nil))))
 (.cons (.ret (.v 3))
 .nil))))))
noncomputable def Jj:Stmt:=sub 46 2
theorem RC:aJ ct (ar (ae Jj)) Kh (ao Jj)=true:=by kernel_rfl
noncomputable def IA:SS:=
 (.cons (.asg 4 (.fn 15 (.cons (.v 2) (.cons (.v 3) (.cons (.k (.int 1)) .nil)))))
 (.cons (.for [5,6] (.mth (.v 0) 19 (.cons (.v 4) .nil)) (.cons (.asg 7 (.bm .get (.v 1) (.cons (.at (.v 6) 2) (.cons (.v 4) .nil))))
 (.cons (.ite (.t (.cmp .is (.v 7) (.k .none))) (.cons .cnt
 .nil) .nil)
 (.cons (.asgT [8,9,10] (.fn 16 (.cons (.sub (.v 7) (.k (.int 0))) .nil)))
 (.cons (.ite (.t (.cmp .eq (.v 8) (.v 2))) (.cons (.ite (.t (.cmp .eq (.v 10) (.k (.int 0)))) (.cons (.ret (.tup (.cons (.k (.bool true)) (.cons (.k (.int 0)) (.cons (.k (.bytes [])) .nil)))))
 .nil) .nil)
 (.cons (.ret (.tup (.cons (.k (.bool true)) (.cons (.k (.int 1)) (.cons (.sub (.v 7) (.k (.int 1))) .nil)))))
 .nil)) .nil)
 .nil)))))
 (.cons (.ret (.tup (.cons (.k (.bool false)) (.cons (.k (.int 0)) (.cons (.k (.bytes [])) .nil)))))
 .nil)))
noncomputable def IW:Stmt:=sub 46 3
theorem Qi:aJ ct (ar (ae IW)) IA (ao IW)=true:=by kernel_rfl
noncomputable def IX:SS:=
 (.cons (.asg 2 (.k (.int 0)))
 (.cons (.for [3] (.sub (.at (.v 0) 45) (.v 1)) (.cons (.aug 2 .add (.at (.v 3) 34))
 .nil))
 (.cons (.ret (.v 2))
 .nil)))
noncomputable def Jz:Stmt:=sub 46 6
theorem RF:aJ ct (ar (ae Jz)) IX (ao Jz)=true:=by kernel_rfl
noncomputable def JA:SS:=
 (.cons (.asg 1 (.lst .nil))
 (.cons (.for [2] (.at (.v 0) 45) (.cons (.for [3] (.v 2) (.cons (.ex (.bm .append (.v 1) (.cons (.at (.v 3) 2) .nil)))
 .nil))
 .nil))
 (.cons (.ret (.bi .sorted (.cons (.v 1) .nil)))
 .nil)))
noncomputable def Ko:Stmt:=sub 46 7
theorem P5:aJ ct (ar (ae Ko)) JA (ao Ko)=true:=by kernel_rfl
noncomputable def JH:SS:=
 (.cons (.asg 1 (.mth (.v 0) 24 .nil))
 (.cons (.forR 2 (.k (.int 1)) (.bi .len (.cons (.v 1) .nil)) true (.cons (.ite (.t (.cmp .eq (.sub (.v 1) (.bin .sub (.v 2) (.k (.int 1)))) (.sub (.v 1) (.v 2)))) (.cons .dead
 .nil) .nil)
 .nil))
 (.cons (.forR 3 (.k (.int 0)) (.at (.v 0) 21) true (.cons (.asg 4 (.sub (.at (.v 0) 45) (.v 3)))
 (.cons (.forR 2 (.k (.int 0)) (.bi .len (.cons (.v 4) .nil)) true (.cons (.asg 5 (.sub (.v 4) (.v 2)))
 (.cons (.ite (.t (.cmp .gt (.mth (.at (.v 0) 44) 8 (.cons (.at (.v 5) 30) (.cons (.at (.v 5) 35) .nil))) (.k (.int 0)))) (.cons .dead
 .nil) .nil)
 (.cons (.ite (.t (.cmp .eq (.v 2) (.k (.int 0)))) (.cons .cnt
 .nil) .nil)
 (.cons (.asg 6 (.sub (.v 4) (.bin .sub (.v 2) (.k (.int 1)))))
 (.cons (.ite (.t (.cmp .eq (.v 3) (.k (.int 0)))) (.cons (.ite (.t (.cmp .ge (.at (.v 6) 2) (.at (.v 5) 2))) (.cons .dead
 .nil) .nil)
 .nil) (.cons (.ite (.t (.cmp .ge (.fn 17 (.cons (.at (.v 6) 35) .nil)) (.fn 17 (.cons (.at (.v 5) 30) .nil)))) (.cons .dead
 .nil) .nil)
 .nil))
 .nil))))))
 .nil)))
 .nil)))
noncomputable def Ik:Stmt:=sub 46 9
theorem QD:aJ ct (ar (ae Ik)) JH (ao Ik)=true:=by kernel_rfl
noncomputable def ID:SS:=
 (.cons (.setA (.v 0) 47 (.v 1))
 (.cons (.setA (.v 0) 48 (.k (.bool false)))
 (.cons (.setA (.v 0) 41 (.lst .nil))
 (.cons (.setA (.v 0) 42 (.lst .nil))
 (.cons (.forR 2 (.k (.int 0)) (.at (.v 1) 21) true (.cons (.ex (.bm .append (.at (.v 0) 41) (.cons .dic .nil)))
 (.cons (.ex (.bm .append (.at (.v 0) 42) (.cons .dic .nil)))
 .nil)))
 .nil)))))
noncomputable def KM:Stmt:=sub 47 0
theorem Q8:aJ ct (ar (ae KM)) ID (ao KM)=true:=by kernel_rfl
noncomputable def KJ:SS:=
 (.cons (.ite (.or (.cons (.t (.cmp .lt (.v 1) (.k (.int 0)))) (.cons (.t (.cmp .ge (.v 1) (.at (.at (.v 0) 47) 21))) .nil))) (.cons .dead
 .nil) .nil)
 .nil)
noncomputable def KW:Stmt:=sub 47 1
theorem Q5:aJ ct (ar (ae KW)) KJ (ao KW)=true:=by kernel_rfl
noncomputable def I5:SS:=
 (.cons (.for [2,3] (.at (.v 1) 41) (.cons (.ex (.mth (.v 0) 27 (.cons (.v 2) .nil)))
 .nil))
 (.cons (.for [2,4] (.at (.v 1) 42) (.cons (.ex (.mth (.v 0) 27 (.cons (.v 2) .nil)))
 .nil))
 (.cons (.ite (.t (.at (.v 1) 43)) (.cons (.setA (.v 0) 48 (.k (.bool true)))
 (.cons (.forR 2 (.k (.int 0)) (.at (.at (.v 0) 47) 21) true (.cons (.setI (.at (.v 0) 41) (.v 2) .dic)
 (.cons (.setI (.at (.v 0) 42) (.v 2) .dic)
 .nil)))
 .nil)) .nil)
 (.cons (.for [2,3] (.at (.v 1) 41) (.cons (.setI (.sub (.at (.v 0) 41) (.v 2)) (.v 3) (.k (.bool true)))
 (.cons (.ite (.t (.cmp .isin (.v 3) (.sub (.at (.v 0) 42) (.v 2)))) (.cons (.delI (.sub (.at (.v 0) 42) (.v 2)) (.v 3))
 .nil) .nil)
 .nil)))
 (.cons (.for [2,4] (.at (.v 1) 42) (.cons (.setI (.sub (.at (.v 0) 42) (.v 2)) (.at (.v 4) 2) (.v 4))
 (.cons (.ite (.t (.cmp .isin (.at (.v 4) 2) (.sub (.at (.v 0) 41) (.v 2)))) (.cons (.delI (.sub (.at (.v 0) 41) (.v 2)) (.at (.v 4) 2))
 .nil) .nil)
 .nil)))
 .nil)))))
noncomputable def Ku:Stmt:=sub 47 2
theorem Qw:aJ ct (ar (ae Ku)) I5 (ao Ku)=true:=by kernel_rfl
noncomputable def Kx:SS:=
 (.cons (.ite (.t (.cmp .gt (.v 1) (.k (.int 0)))) (.cons (.asg 4 (.mth (.at (.at (.v 0) 47) 44) 8 (.cons (.at (.v 2) 30) (.cons (.at (.v 3) 30) .nil))))
 (.cons (.ite (.t (.cmp .ne (.v 4) (.k (.int 0)))) (.cons (.ret (.cmp .lt (.v 4) (.k (.int 0))))
 .nil) .nil)
 .nil)) .nil)
 (.cons (.ret (.cmp .lt (.at (.v 2) 2) (.at (.v 3) 2)))
 .nil))
noncomputable def IS:Stmt:=sub 47 3
theorem Rq:aJ ct (ar (ae IS)) Kx (ao IS)=true:=by kernel_rfl
noncomputable def IE:SS:=
 (.cons (.asg 4 (.k (.int 0)))
 (.cons (.asg 5 (.bi .len (.cons (.v 2) .nil)))
 (.cons (.whl (.t (.cmp .lt (.v 4) (.v 5))) (.cons (.asg 6 (.bin .fdiv (.bin .add (.v 4) (.v 5)) (.k (.int 2))))
 (.cons (.ite (.t (.mth (.v 0) 29 (.cons (.v 1) (.cons (.sub (.v 2) (.v 6)) (.cons (.v 3) .nil))))) (.cons (.asg 4 (.bin .add (.v 6) (.k (.int 1))))
 .nil) (.cons (.asg 5 (.v 6))
 .nil))
 .nil)))
 (.cons (.ex (.bm .insert (.v 2) (.cons (.v 4) (.cons (.v 3) .nil))))
 .nil))))
noncomputable def Im:Stmt:=sub 47 4
theorem Q0:aJ ct (ar (ae Im)) IE (ao Im)=true:=by kernel_rfl
noncomputable def IJ:SS:=
 (.cons (.asg 1 (.mk 16 (.cons (.at (.at (.v 0) 47) 21) (.cons (.at (.at (.v 0) 47) 44) .nil))))
 (.cons (.forR 2 (.k (.int 0)) (.at (.at (.v 0) 47) 21) true (.cons (.asg 3 (.sub (.at (.v 1) 45) (.v 2)))
 (.cons (.ite (.not (.t (.at (.v 0) 48))) (.cons (.for [4] (.sub (.at (.at (.v 0) 47) 45) (.v 2)) (.cons (.ite (.t (.cmp .isin (.at (.v 4) 2) (.sub (.at (.v 0) 41) (.v 2)))) (.cons .cnt
 .nil) .nil)
 (.cons (.ite (.t (.cmp .isin (.at (.v 4) 2) (.sub (.at (.v 0) 42) (.v 2)))) (.cons .cnt
 .nil) .nil)
 (.cons (.ex (.bm .append (.v 3) (.cons (.v 4) .nil)))
 .nil))))
 .nil) .nil)
 (.cons (.for [5] (.bi .sorted (.cons (.sub (.at (.v 0) 42) (.v 2)) .nil)) (.cons (.ex (.mth (.v 0) 3 (.cons (.v 2) (.cons (.v 3) (.cons (.sub (.sub (.at (.v 0) 42) (.v 2)) (.v 5)) .nil)))))
 .nil))
 .nil))))
 (.cons (.ex (.mth (.v 1) 26 .nil))
 (.cons (.ret (.v 1))
 .nil))))
noncomputable def IZ:Stmt:=sub 47 5
theorem RE:aJ ct (ar (ae IZ)) IJ (ao IZ)=true:=by kernel_rfl
noncomputable def KL:SS:=
 (.cons (.asg 1 (.k (.int 0)))
 (.cons (.for [2] (.v 0) (.cons (.aug 1 .add (.at (.v 2) 34))
 .nil))
 (.cons (.ret (.v 1))
 .nil)))
noncomputable def JC:Stmt:=top 49
theorem Rg:aJ ct (ar (ae JC)) KL (ao JC)=true:=by kernel_rfl
noncomputable def KZ:SS:=
 (.cons (.asg 2 (.at (.sub (.v 0) (.k (.int 0))) 30))
 (.cons (.asg 3 (.at (.sub (.v 0) (.k (.int 0))) 35))
 (.cons (.for [4] (.frm (.v 0) (.k (.int 1))) (.cons (.ite (.t (.cmp .lt (.mth (.v 1) 8 (.cons (.at (.v 4) 30) (.cons (.v 2) .nil))) (.k (.int 0)))) (.cons (.asg 2 (.at (.v 4) 30))
 .nil) .nil)
 (.cons (.ite (.t (.cmp .gt (.mth (.v 1) 8 (.cons (.at (.v 4) 35) (.cons (.v 3) .nil))) (.k (.int 0)))) (.cons (.asg 3 (.at (.v 4) 35))
 .nil) .nil)
 .nil)))
 (.cons (.ret (.tup (.cons (.v 2) (.cons (.v 3) .nil))))
 .nil))))
noncomputable def Iv:Stmt:=top 50
theorem Qe:aJ ct (ar (ae Iv)) KZ (ao Iv)=true:=by kernel_rfl
noncomputable def I3:SS:=
 (.cons (.setA (.v 0) 49 (.v 1))
 (.cons (.setA (.v 0) 50 (.v 2))
 (.cons (.setA (.v 0) 51 (.v 3))
 (.cons (.setA (.v 0) 44 (.mk 11 .nil))
 (.cons (.setA (.v 0) 52 (.mk 10 .nil))
 (.cons (.setA (.v 0) 53 (.lst (.cons (.lst .nil) (.cons (.lst .nil) .nil))))
 (.cons (.setA (.v 0) 54 (.lst .nil))
 (.cons (.setA (.v 0) 55 (.mk 15 .nil))
 (.cons (.setA (.v 0) 56 (.k (.bool false)))
 (.cons (.setA (.v 0) 57 (.k (.int 0)))
 (.cons (.setA (.v 0) 58 (.k (.int 0)))
 (.cons (.setA (.v 0) 59 (.k (.bool false)))
 (.cons (.setA (.v 0) 60 (.bin .mul (.lst (.cons (.k (.int 0)) .nil)) (.at (.v 3) 21)))
 .nil)))))))))))))
noncomputable def JZ:Stmt:=sub 51 0
theorem QI:aJ ct (ar (ae JZ)) I3 (ao JZ)=true:=by kernel_rfl
noncomputable def Kq:SS:=
 (.cons (.ret (.bin .mul (.at (.at (.v 0) 51) 27) (.at (.at (.v 0) 51) 20)))
 .nil)
noncomputable def Ix:Stmt:=sub 51 1
theorem Qd:aJ ct (ar (ae Ix)) Kq (ao Ix)=true:=by kernel_rfl
noncomputable def Je:SS:=
 (.cons (.ite (.or (.cons (.t (.cmp .ne (.bi .len (.cons (.sub (.at (.v 0) 53) (.k (.int 0))) .nil)) (.k (.int 1)))) (.cons (.t (.cmp .ne (.bi .len (.cons (.sub (.at (.v 0) 53) (.k (.int 1))) .nil)) (.k (.int 0)))) .nil))) (.cons (.ret (.k (.bool false)))
 .nil) .nil)
 (.cons (.ret (.cmp .le (.fn 60 (.cons (.at (.v 0) 54) .nil)) (.mth (.v 0) 31 .nil)))
 .nil))
noncomputable def Ir:Stmt:=sub 51 2
theorem Ra:aJ ct (ar (ae Ir)) Je (ao Ir)=true:=by kernel_rfl
noncomputable def JO:SS:=
 (.cons (.whl (.t (.cmp .lt (.at (.v 0) 57) (.bi .len (.cons (.at (.v 0) 54) .nil)))) (.cons (.asg 2 (.sub (.at (.v 0) 54) (.at (.v 0) 57)))
 (.cons (.ite (.t (.cmp .le (.mth (.at (.v 0) 44) 8 (.cons (.v 1) (.cons (.at (.v 2) 35) .nil))) (.k (.int 0)))) (.cons .brk
 .nil) .nil)
 (.cons (.ite (.t (.at (.v 0) 59)) (.cons (.augA (.v 0) 58 .add (.at (.v 2) 34))
 .nil) .nil)
 (.cons (.augA (.v 0) 57 .add (.k (.int 1)))
 .nil)))))
 (.cons (.setA (.v 0) 59 (.k (.bool true)))
 (.cons (.ite (.t (.cmp .gt (.at (.v 0) 58) (.mth (.v 0) 31 .nil))) (.cons (.setA (.v 0) 58 (.k (.int 0)))
 (.cons (.ret (.k (.bool true)))
 .nil)) .nil)
 (.cons (.ret (.k (.bool false)))
 .nil))))
noncomputable def I8:Stmt:=sub 51 3
theorem QH:aJ ct (ar (ae I8)) JO (ao I8)=true:=by kernel_rfl
noncomputable def JR:SS:=
 (.cons (.forR 2 (.bin .add (.at (.v 0) 49) (.k (.int 2))) (.at (.at (.v 0) 51) 21) true (.cons (.asg 3 (.sub (.at (.at (.v 0) 50) 45) (.v 2)))
 (.cons (.whl (.t (.cmp .lt (.sub (.at (.v 0) 60) (.v 2)) (.bi .len (.cons (.v 3) .nil)))) (.cons (.asg 4 (.sub (.v 3) (.sub (.at (.v 0) 60) (.v 2))))
 (.cons (.ite (.t (.cmp .le (.mth (.at (.v 0) 52) 8 (.cons (.v 1) (.cons (.fn 17 (.cons (.at (.v 4) 35) .nil)) .nil))) (.k (.int 0)))) (.cons (.ite (.t (.cmp .ge (.mth (.at (.v 0) 52) 8 (.cons (.v 1) (.cons (.fn 17 (.cons (.at (.v 4) 30) .nil)) .nil))) (.k (.int 0)))) (.cons (.ret (.k (.bool false)))
 .nil) .nil)
 (.cons .brk
 .nil)) .nil)
 (.cons (.augI (.at (.v 0) 60) (.v 2) .add (.k (.int 1)))
 .nil))))
 .nil)))
 (.cons (.ret (.k (.bool true)))
 .nil))
noncomputable def JW:Stmt:=sub 51 4
theorem Qo:aJ ct (ar (ae JW)) JR (ao JW)=true:=by kernel_rfl
noncomputable def IT:SS:=
 (.cons (.forR 1 (.k (.int 0)) (.k (.int 2)) true (.cons (.for [2] (.sub (.at (.v 0) 53) (.v 1)) (.cons (.ex (.bm .append (.at (.at (.v 0) 55) 41) (.cons (.tup (.cons (.bin .add (.at (.v 0) 49) (.v 1)) (.cons (.at (.v 2) 2) .nil))) .nil)))
 .nil))
 .nil))
 .nil)
noncomputable def JJ:Stmt:=sub 51 5
theorem Rb:aJ ct (ar (ae JJ)) IT (ao JJ)=true:=by kernel_rfl
noncomputable def JU:SS:=
 (.cons (.asg 2 (.at (.v 0) 24))
 (.cons (.whl (.t (.cmp .gt (.v 1) (.k (.int 1)))) (.cons (.aug 2 .mul (.at (.v 0) 25))
 (.cons (.aug 1 .sub (.k (.int 1)))
 .nil)))
 (.cons (.ret (.v 2))
 .nil)))
noncomputable def Ks:Stmt:=top 52
theorem Rv:aJ ct (ar (ae Ks)) JU (ao Ks)=true:=by kernel_rfl
noncomputable def KO:SS:=
 (.cons (.ite (.t (.cmp .eq (.bi .len (.cons (.at (.v 0) 45) .nil)) (.k (.int 0)))) (.cons (.ret (.at (.v 0) 0))
 .nil) .nil)
 (.cons (.asg 2 (.bi .len (.cons (.sub (.at (.v 0) 45) (.k (.int 0))) .nil)))
 (.cons (.asg 3 (.at (.v 1) 22))
 (.cons (.asg 4 (.k (.int 0)))
 (.cons (.forR 5 (.k (.int 1)) (.bin .sub (.at (.v 1) 21) (.k (.int 1))) true (.cons (.asg 6 (.mth (.v 0) 23 (.cons (.v 5) .nil)))
 (.cons (.asg 7 (.fn 68 (.cons (.v 1) (.cons (.v 5) .nil))))
 (.cons (.ite (.t (.cmp .gt (.bin .mul (.v 6) (.v 3)) (.bin .mul (.v 2) (.v 7)))) (.cons (.asg 2 (.v 6))
 (.cons (.asg 3 (.v 7))
 (.cons (.asg 4 (.v 5))
 .nil))) .nil)
 .nil))))
 (.cons (.setA (.v 0) 0 (.tup (.cons (.v 2) (.cons (.v 3) .nil))))
 (.cons (.setA (.v 0) 1 (.v 4))
 (.cons (.ret (.at (.v 0) 0))
 .nil))))))))
noncomputable def JG:Stmt:=top 53
theorem QL:aJ ct (ar (ae JG)) KO (ao JG)=true:=by kernel_rfl
noncomputable def Jq:SS:=
 (.cons (.setA (.v 0) 51 (.v 1))
 (.cons (.setA (.v 0) 44 (.v 2))
 .nil))
noncomputable def Jt:Stmt:=sub 54 0
theorem Rs:aJ ct (ar (ae Jt)) Jq (ao Jt)=true:=by kernel_rfl
noncomputable def II:SS:=
 (.cons (.ret (.cmp .ge (.sub (.at (.v 1) 0) (.k (.int 0))) (.sub (.at (.v 1) 0) (.k (.int 1)))))
 .nil)
noncomputable def KA:Stmt:=sub 54 1
theorem Qv:aJ ct (ar (ae KA)) II (ao KA)=true:=by kernel_rfl
noncomputable def K1:SS:=
 (.cons (.asg 2 (.fn 61 (.cons (.v 1) (.cons (.at (.v 0) 44) .nil))))
 (.cons (.ret (.tup (.cons (.fn 17 (.cons (.sub (.v 2) (.k (.int 0))) .nil)) (.cons (.fn 17 (.cons (.sub (.v 2) (.k (.int 1))) .nil)) .nil))))
 .nil))
noncomputable def KF:Stmt:=sub 54 2
theorem QE:aJ ct (ar (ae KF)) K1 (ao KF)=true:=by kernel_rfl
noncomputable def KV:SS:=
 (.cons (.ite (.not (.t (.mth (.v 0) 36 (.cons (.v 1) .nil)))) (.cons (.ret (.k .none))
 .nil) .nil)
 (.cons (.asg 3 (.at (.v 1) 1))
 (.cons (.asg 4 (.mk 18 (.cons (.v 3) (.cons (.v 1) (.cons (.at (.v 0) 51) .nil)))))
 (.cons (.asg 5 (.sub (.at (.v 1) 45) (.v 3)))
 (.cons (.asg 6 (.sub (.v 2) (.v 3)))
 (.cons (.asg 7 (.sub (.v 5) (.k (.int 0))))
 (.cons (.for [8] (.v 5) (.cons (.ite (.or (.cons (.t (.cmp .eq (.v 6) (.k (.bytes [])))) (.cons (.t (.cmp .gt (.mth (.at (.v 0) 44) 8 (.cons (.at (.v 8) 35) (.cons (.v 6) .nil))) (.k (.int 0)))) .nil))) (.cons (.asg 7 (.v 8))
 (.cons .brk
 .nil)) .nil)
 .nil))
 (.cons (.setI (.at (.v 4) 53) (.k (.int 0)) (.lst (.cons (.v 7) .nil)))
 (.cons (.ite (.t (.cmp .eq (.v 3) (.k (.int 0)))) (.cons (.asg 9 (.mth (.v 0) 37 (.cons (.sub (.at (.v 4) 53) (.k (.int 0))) .nil)))
 (.cons (.setI (.at (.v 4) 53) (.k (.int 0)) (.mth (.v 1) 18 (.cons (.k (.int 0)) (.cons (.sub (.v 9) (.k (.int 0))) (.cons (.sub (.v 9) (.k (.int 1))) .nil)))))
 .nil)) .nil)
 (.cons (.ex (.mth (.v 0) 40 (.cons (.v 4) (.cons (.v 2) .nil))))
 (.cons (.ret (.v 4))
 .nil)))))))))))
noncomputable def Jn:Stmt:=sub 54 3
theorem Qm:aJ ct (ar (ae Jn)) KV (ao Jn)=true:=by kernel_rfl
noncomputable def Ju:SS:=
 (.cons (.ite (.or (.cons (.t (.cmp .lt (.v 3) (.k (.int 0)))) (.cons (.t (.cmp .ge (.v 3) (.bin .sub (.at (.at (.v 0) 51) 21) (.k (.int 1))))) .nil))) (.cons .dead
 .nil) .nil)
 (.cons (.asg 6 (.mth (.v 1) 18 (.cons (.v 3) (.cons (.v 4) (.cons (.v 5) .nil)))))
 (.cons (.ite (.t (.cmp .eq (.bi .len (.cons (.v 6) .nil)) (.k (.int 0)))) (.cons (.ret (.k .none))
 .nil) .nil)
 (.cons (.ite (.t (.cmp .gt (.v 3) (.k (.int 0)))) (.cons (.asg 7 (.k (.int 0)))
 (.cons (.asg 8 (.k (.int 0)))
 (.cons (.whl (.and (.cons (.t (.cmp .lt (.v 8) (.bi .len (.cons (.v 6) .nil)))) (.cons (.t (.cmp .lt (.v 7) (.at (.at (.v 0) 51) 20))) .nil))) (.cons (.aug 7 .add (.at (.sub (.v 6) (.v 8)) 34))
 (.cons (.aug 8 .add (.k (.int 1)))
 .nil)))
 (.cons (.asg 6 (.upto (.v 6) (.v 8)))
 .nil)))) .nil)
 (.cons (.asg 9 (.mk 18 (.cons (.v 3) (.cons (.v 1) (.cons (.at (.v 0) 51) .nil)))))
 (.cons (.setA (.v 9) 56 (.k (.bool true)))
 (.cons (.setI (.at (.v 9) 53) (.k (.int 0)) (.v 6))
 (.cons (.ex (.mth (.v 0) 40 (.cons (.v 9) (.cons (.v 2) .nil))))
 (.cons (.ret (.v 9))
 .nil)))))))))
noncomputable def KN:Stmt:=sub 54 4
theorem P9:aJ ct (ar (ae KN)) Ju (ao KN)=true:=by kernel_rfl
noncomputable def JX:SS:=
 (.cons (.asg 3 (.at (.v 1) 49))
 (.cons (.asg 4 (.at (.v 1) 50))
 (.cons (.asg 5 (.mth (.v 0) 37 (.cons (.sub (.at (.v 1) 53) (.k (.int 0))) .nil)))
 (.cons (.setI (.at (.v 1) 53) (.k (.int 1)) (.mth (.v 4) 18 (.cons (.bin .add (.v 3) (.k (.int 1))) (.cons (.sub (.v 5) (.k (.int 0))) (.cons (.sub (.v 5) (.k (.int 1))) .nil)))))
 (.cons (.asg 6 (.mth (.v 0) 37 (.cons (.bin .add (.sub (.at (.v 1) 53) (.k (.int 0))) (.sub (.at (.v 1) 53) (.k (.int 1)))) .nil)))
 (.cons (.ite (.t (.cmp .gt (.bi .len (.cons (.sub (.at (.v 1) 53) (.k (.int 1))) .nil)) (.k (.int 0)))) (.cons (.asg 7 (.mth (.v 4) 18 (.cons (.v 3) (.cons (.sub (.v 6) (.k (.int 0))) (.cons (.sub (.v 6) (.k (.int 1))) .nil)))))
 (.cons (.asg 8 (.bin .mul (.at (.at (.v 0) 51) 28) (.at (.at (.v 0) 51) 20)))
 (.cons (.asg 9 (.bin .add (.fn 60 (.cons (.sub (.at (.v 1) 53) (.k (.int 1))) .nil)) (.fn 60 (.cons (.v 7) .nil))))
 (.cons (.ite (.and (.cons (.t (.cmp .gt (.bi .len (.cons (.v 7) .nil)) (.bi .len (.cons (.sub (.at (.v 1) 53) (.k (.int 0))) .nil)))) (.cons (.t (.cmp .lt (.v 9) (.v 8))) .nil))) (.cons (.asg 5 (.mth (.v 0) 37 (.cons (.v 7) .nil)))
 (.cons (.asg 10 (.mth (.v 4) 18 (.cons (.bin .add (.v 3) (.k (.int 1))) (.cons (.sub (.v 5) (.k (.int 0))) (.cons (.sub (.v 5) (.k (.int 1))) .nil)))))
 (.cons (.ite (.t (.cmp .eq (.bi .len (.cons (.v 10) .nil)) (.bi .len (.cons (.sub (.at (.v 1) 53) (.k (.int 1))) .nil)))) (.cons (.setI (.at (.v 1) 53) (.k (.int 0)) (.v 7))
 (.cons (.setI (.at (.v 1) 53) (.k (.int 1)) (.v 10))
 (.cons (.asg 6 (.mth (.v 0) 37 (.cons (.bin .add (.sub (.at (.v 1) 53) (.k (.int 0))) (.sub (.at (.v 1) 53) (.k (.int 1)))) .nil)))
 .nil))) .nil)
 .nil))) .nil)
 .nil)))) .nil)
 (.cons (.ite (.t (.cmp .lt (.bin .add (.v 3) (.k (.int 2))) (.at (.at (.v 0) 51) 21))) (.cons (.setA (.v 1) 54 (.mth (.v 4) 18 (.cons (.bin .add (.v 3) (.k (.int 2))) (.cons (.sub (.v 6) (.k (.int 0))) (.cons (.sub (.v 6) (.k (.int 1))) .nil)))))
 .nil) .nil)
 (.cons (.asg 11 (.sub (.fn 61 (.cons (.sub (.at (.v 1) 53) (.k (.int 0))) (.cons (.at (.v 0) 44) .nil))) (.k (.int 1))))
 (.cons (.setI (.v 2) (.v 3) (.v 11))
 (.cons (.ex (.bm .append (.at (.at (.v 1) 55) 40) (.cons (.tup (.cons (.v 3) (.cons (.v 11) .nil))) .nil)))
 .nil))))))))))
noncomputable def IK:Stmt:=sub 54 5
theorem RG:aJ ct (ar (ae IK)) JX (ao IK)=true:=by kernel_rfl
noncomputable def JE:SS:=
 (.cons (.ret (.bin .add (.sub (.v 0) (.bin .mod (.v 1) (.bi .len (.cons (.v 0) .nil)))) (.bin .mul (.k (.int 7919)) (.bin .fdiv (.v 1) (.bi .len (.cons (.v 0) .nil))))))
 .nil)
noncomputable def Jy:Stmt:=top 56
theorem QB:aJ ct (ar (ae Jy)) JE (ao Jy)=true:=by kernel_rfl
noncomputable def IM:SS:=
 (.cons (.ret (.sub (.lst (.cons (.k (.bytes [])) (.cons (.k (.bytes [97])) (.cons (.k (.bytes [97,0])) (.cons (.k (.bytes [98])) .nil))))) (.v 0)))
 .nil)
noncomputable def JF:Stmt:=top 57
theorem Qj:aJ ct (ar (ae JF)) IM (ao JF)=true:=by kernel_rfl
noncomputable def Kb:SS:=
 (.cons (.ret (.bin .add (.fn 77 (.cons (.sub (.v 0) (.k (.int 0))) .nil)) (.bi .bytes (.cons (.lst (.cons (.sub (.v 0) (.k (.int 2))) (.cons (.bin .sub (.k (.int 0)) (.sub (.v 0) (.k (.int 1)))) (.cons (.k (.int 0)) (.cons (.k (.int 0)) (.cons (.k (.int 0)) (.cons (.k (.int 0)) (.cons (.k (.int 0)) (.cons (.k (.int 0)) .nil))))))))) .nil))))
 .nil)
noncomputable def I2:Stmt:=top 58
theorem QV:aJ ct (ar (ae I2)) Kb (ao I2)=true:=by kernel_rfl
noncomputable def KC:SS:=
 (.cons (.asg 3 (.mk 17 (.cons (.v 0) .nil)))
 (.cons (.ex (.mth (.v 3) 28 (.cons (.v 1) .nil)))
 (.cons (.asg 4 (.mth (.v 3) 30 .nil))
 (.cons (.ex (.fn 69 (.cons (.v 4) (.cons (.v 2) .nil))))
 (.cons (.ret (.v 4))
 .nil)))))
noncomputable def K0:Stmt:=top 59
theorem QU:aJ ct (ar (ae K0)) KC (ao K0)=true:=by kernel_rfl
noncomputable def I1:SS:=
 (.cons (.asg 5 (.fn 78 (.cons (.sub (.v 1) (.k (.int 0))) .nil)))
 (.cons (.asg 6 (.fn 78 (.cons (.sub (.v 1) (.bin .sub (.bi .len (.cons (.v 1) .nil)) (.k (.int 1)))) .nil)))
 (.cons (.ex (.bm .append (.at (.v 3) 42) (.cons (.tup (.cons (.v 0) (.cons (.mk 14 (.cons (.bi .len (.cons (.v 2) .nil)) (.cons (.bin .mul (.bi .len (.cons (.v 1) .nil)) (.v 4)) (.cons (.v 5) (.cons (.v 6) .nil))))) .nil))) .nil)))
 (.cons (.ex (.bm .append (.v 2) (.cons (.v 1) .nil)))
 .nil))))
noncomputable def IC:Stmt:=top 60
theorem Qk:aJ ct (ar (ae IC)) I1 (ao IC)=true:=by kernel_rfl
noncomputable def Io:SS:=
 (.cons (.ite (.and (.cons (.t (.mth (.v 0) 32 .nil)) (.cons (.not (.t (.at (.v 0) 56))) .nil))) (.cons (.asg 4 (.sub (.sub (.at (.v 0) 53) (.k (.int 0))) (.k (.int 0))))
 (.cons (.ex (.bm .append (.at (.at (.v 0) 55) 41) (.cons (.tup (.cons (.at (.v 0) 49) (.cons (.at (.v 4) 2) .nil))) .nil)))
 (.cons (.ex (.bm .append (.at (.at (.v 0) 55) 42) (.cons (.tup (.cons (.bin .add (.at (.v 0) 49) (.k (.int 1))) (.cons (.v 4) .nil))) .nil)))
 (.cons (.ret (.lst .nil))
 .nil)))) .nil)
 (.cons (.asg 5 (.lst .nil))
 (.cons (.asg 6 (.lst .nil))
 (.cons (.forR 7 (.k (.int 0)) (.k (.int 2)) true (.cons (.for [4] (.sub (.at (.v 0) 53) (.v 7)) (.cons (.asg 5 (.bin .add (.v 5) (.sub (.v 1) (.at (.v 4) 2))))
 (.cons (.ex (.bm .append (.v 6) (.cons (.at (.v 4) 2) .nil)))
 .nil)))
 .nil))
 (.cons (.ex (.mth (.v 0) 35 .nil))
 (.cons (.asg 8 (.mk 13 (.cons (.v 0) (.cons (.v 2) .nil))))
 (.cons (.asg 9 (.lst .nil))
 (.cons (.for [10] (.bi .sorted (.cons (.v 5) .nil)) (.cons (.asg 11 (.bin .mul (.bi .len (.cons (.v 9) .nil)) (.v 3)))
 (.cons (.ite (.t (.cmp .eq (.v 11) (.k (.int 0)))) (.cons (.asg 11 (.bin .sub (.k (.int 0)) (.k (.int 1))))
 .nil) .nil)
 (.cons (.asgT [12,13] (.mth (.v 8) 15 (.cons (.fn 78 (.cons (.v 10) .nil)) (.cons (.v 11) .nil))))
 (.cons (.ite (.t (.v 12)) (.cons (.ex (.fn 80 (.cons (.bin .add (.at (.v 0) 49) (.k (.int 1))) (.cons (.v 9) (.cons (.v 1) (.cons (.at (.v 0) 55) (.cons (.v 3) .nil)))))))
 (.cons (.asg 9 (.lst .nil))
 .nil)) .nil)
 (.cons (.ite (.not (.t (.v 13))) (.cons (.asg 9 (.bin .add (.v 9) (.lst (.cons (.v 10) .nil))))
 .nil) .nil)
 .nil))))))
 (.cons (.ite (.t (.cmp .gt (.bi .len (.cons (.v 9) .nil)) (.k (.int 0)))) (.cons (.ex (.fn 80 (.cons (.bin .add (.at (.v 0) 49) (.k (.int 1))) (.cons (.v 9) (.cons (.v 1) (.cons (.at (.v 0) 55) (.cons (.v 3) .nil)))))))
 .nil) .nil)
 (.cons (.ret (.v 6))
 .nil))))))))))
noncomputable def Ij:Stmt:=top 61
theorem RB:aJ ct (ar (ae Ij)) Io (ao Ij)=true:=by kernel_rfl
noncomputable def IU:SS:=
 (.cons (.asg 4 .dic)
 (.cons (.for [5] (.mth (.v 0) 24 .nil) (.cons (.setI (.v 4) (.v 5) (.k .none))
 (.cons (.asg 6 (.comp 10 (.sub (.v 1) (.v 5)) (.cons (.t (.cmp .ge (.tup (.cons (.sub (.v 10) (.k (.int 0))) (.cons (.sub (.v 10) (.k (.int 1))) .nil))) (.tup (.cons (.v 2) (.cons (.bin .sub (.k (.int 0)) (.v 3)) .nil))))) .nil) (.v 10)))
 (.cons (.ite (.t (.cmp .gt (.bi .len (.cons (.v 6) .nil)) (.k (.int 0)))) (.cons (.setI (.v 4) (.v 5) (.tup (.cons (.fn 78 (.cons (.sub (.v 6) (.k (.int 0))) .nil)) (.cons (.bi .bytes (.cons (.lst (.cons (.bin .sub (.k (.int 0)) (.sub (.sub (.v 6) (.k (.int 0))) (.k (.int 1)))) .nil)) .nil)) .nil))))
 .nil) .nil)
 .nil))))
 (.cons (.asgT [7,8,9] (.mth (.v 0) 20 (.cons (.v 4) (.cons (.fn 77 (.cons (.v 2) .nil)) (.cons (.v 3) .nil)))))
 (.cons (.ite (.and (.cons (.t (.v 7)) (.cons (.t (.cmp .eq (.v 8) (.k (.int 1)))) .nil))) (.cons (.ret (.v 9))
 .nil) .nil)
 (.cons (.ret (.k .none))
 .nil)))))
noncomputable def Jd:Stmt:=top 62
theorem Qg:aJ ct (ar (ae Jd)) IU (ao Jd)=true:=by kernel_rfl
noncomputable def JD:SS:=
 (.cons (.for [3,4,5] (.v 0) (.cons (.for [6] (.v 2) (.cons (.ite (.t (.cmp .ne (.fn 82 (.cons (.v 3) (.cons (.v 1) (.cons (.v 6) (.cons (.v 4) .nil))))) (.sub (.v 5) (.v 6)))) (.cons (.ret (.k (.bool false)))
 .nil) .nil)
 .nil))
 .nil))
 (.cons (.ret (.k (.bool true)))
 .nil))
noncomputable def Ja:Stmt:=top 63
theorem RM:aJ ct (ar (ae Ja)) JD (ao Ja)=true:=by kernel_rfl
noncomputable def JQ:SS:=
 (.cons (.asg 3 (.mth (.v 1) 24 .nil))
 (.cons (.for [4] (.v 2) (.cons (.asg 3 (.bin .add (.v 3) (.sub (.v 4) (.k (.int 3)))))
 .nil))
 (.cons (.forR 5 (.k (.int 1)) (.bi .len (.cons (.v 0) .nil)) true (.cons (.ite (.t (.cmp .notin (.v 5) (.v 3))) (.cons (.setI (.v 0) (.v 5) (.k .none))
 .nil) .nil)
 .nil))
 .nil)))
noncomputable def Ki:Stmt:=top 64
theorem Rx:aJ ct (ar (ae Ki)) JQ (ao Ki)=true:=by kernel_rfl
noncomputable def Jr:SS:=
 (.cons (.tri (.cons (.asg 3 (.mth (.v 0) 7 .nil))
 .nil))
 (.cons (.ite (.and (.cons (.t (.cmp .gt (.bi .len (.cons (.v 1) .nil)) (.k (.int 0)))) (.cons (.t (.cmp .eq (.v 3) (.bi .min1 (.cons (.comp 5 (.v 1) .nil (.sub (.v 5) (.k (.int 1)))) .nil)))) .nil))) (.cons (.ret (.v 3))
 .nil) .nil)
 (.cons (.ret (.bin .sub (.k (.int 0)) (.k (.int 1))))
 .nil)))
noncomputable def Af:Stmt:=top 65
theorem Ro:aJ ct (ar (ae Af)) Jr (ao Af)=true:=by kernel_rfl
noncomputable def Iz:SS:=
 (.cons (.asg 5 (.compR 12 (.k (.int 0)) (.bin .sub (.v 4) (.k (.int 1))) (.cons (.t (.cmp .gt (.bi .len (.cons (.sub (.at (.v 1) 45) (.v 12)) .nil)) (.k (.int 0)))) .nil) (.v 12)))
 (.cons (.ite (.t (.cmp .eq (.bi .len (.cons (.v 5) .nil)) (.k (.int 0)))) (.cons (.ret (.k .none))
 .nil) .nil)
 (.cons (.asg 6 (.sub (.v 5) (.bin .mod (.bin .fdiv (.v 3) (.k (.int 4))) (.bi .len (.cons (.v 5) .nil)))))
 (.cons (.asg 7 (.bin .mod (.bin .fdiv (.v 3) (.k (.int 12))) (.k (.int 4))))
 (.cons (.asg 8 (.k .none))
 (.cons (.asg 9 (.k .none))
 (.cons (.ite (.t (.cmp .gt (.bin .mod (.bin .fdiv (.v 3) (.k (.int 192))) (.k (.int 3))) (.k (.int 0)))) (.cons (.asg 8 (.fn 77 (.cons (.v 7) .nil)))
 .nil) .nil)
 (.cons (.ite (.t (.cmp .eq (.bin .mod (.bin .fdiv (.v 3) (.k (.int 192))) (.k (.int 3))) (.k (.int 2)))) (.cons (.asg 9 (.fn 77 (.cons (.bin .add (.v 7) (.bin .mod (.bin .fdiv (.v 3) (.k (.int 48))) (.bin .sub (.k (.int 4)) (.v 7)))) .nil)))
 .nil) .nil)
 (.cons (.ret (.mth (.v 0) 39 (.cons (.v 1) (.cons (.v 2) (.cons (.v 6) (.cons (.v 8) (.cons (.v 9) .nil)))))))
 .nil)))))))))
noncomputable def Jk:Stmt:=top 66
theorem Q4:aJ ct (ar (ae Jk)) Iz (ao Jk)=true:=by kernel_rfl
noncomputable def JB:SS:=
 (.cons (.asg 2 (.lst .nil))
 (.cons (.forR 3 (.k (.int 0)) (.bin .sub (.k (.int 3)) (.bin .mod (.v 0) (.k (.int 3)))) true (.cons (.asg 4 (.bin .fdiv (.bin .fdiv (.v 0) (.k (.int 3))) (.bin .pow (.k (.int 12)) (.v 3))))
 (.cons (.ex (.bm .append (.v 2) (.cons (.tup (.cons (.bin .mod (.v 4) (.k (.int 4))) (.cons (.bin .sub (.bin .sub (.bin .sub (.k (.int 0)) (.v 1)) (.k (.int 1))) (.v 3)) (.cons (.bi .min2 (.cons (.k (.int 1)) (.cons (.bin .mod (.bin .fdiv (.v 4) (.k (.int 4))) (.k (.int 3))) .nil))) .nil)))) .nil)))
 .nil)))
 (.cons (.ret (.v 2))
 .nil)))
noncomputable def I7:Stmt:=top 67
theorem Qa:aJ ct (ar (ae I7)) JB (ao I7)=true:=by kernel_rfl
noncomputable def Ka:SS:=
 (.cons (.asg 1 (.fn 76 (.cons (.v 0) (.cons (.k (.int 0)) .nil))))
 (.cons (.asg 2 (.mk 12 .nil))
 (.cons (.ite (.t (.cmp .ne (.bin .mod (.v 1) (.k (.int 4))) (.k (.int 3)))) (.cons (.asg 2 (.mth (.mk 12 .nil) 14 .nil))
 .nil) .nil)
 (.cons (.asg 3 (.at (.v 2) 21))
 (.cons (.asg 4 (.bin .mul (.bin .fdiv (.at (.v 2) 20) (.k (.int 8))) (.sub (.lst (.cons (.k (.int 12)) (.cons (.k (.int 6)) (.cons (.k (.int 3)) (.cons (.k (.int 40)) .nil))))) (.bin .mod (.bin .fdiv (.v 1) (.k (.int 4))) (.k (.int 4))))))
 (.cons (.asg 5 (.mk 11 .nil))
 (.cons (.asg 6 (.mk 19 (.cons (.v 2) (.cons (.v 5) .nil))))
 (.cons (.asg 7 (.bin .mul (.lst (.cons (.k (.bytes [])) .nil)) (.v 3)))
 (.cons (.asg 8 (.mk 16 (.cons (.v 3) (.cons (.v 5) .nil))))
 (.cons (.asg 9 (.mk 8 .nil))
 (.cons (.asg 10 (.lst (.cons (.lst .nil) .nil)))
 (.cons (.asg 11 (.lst .nil))
 (.cons (.asg 12 (.lst .nil))
 (.cons (.asg 13 (.lst .nil))
 (.cons (.asg 14 (.lst (.cons (.k .none) (.cons (.k .none) (.cons (.k .none) (.cons (.k .none) .nil))))))
 (.cons (.asg 15 (.k (.int 0)))
 (.cons (.ite (.t (.cmp .ne (.fn 85 (.cons (.v 9) (.cons (.v 12) (.cons (.v 15) .nil)))) (.k (.int 0)))) (.cons (.ret (.k (.bool false)))
 .nil) .nil)
 (.cons (.forR 16 (.k (.int 0)) (.k (.int 3)) true (.cons (.asg 17 (.fn 76 (.cons (.v 0) (.cons (.bin .add (.k (.int 2)) (.bin .mul (.k (.int 5)) (.v 16))) .nil))))
 (.cons (.forR 18 (.k (.int 0)) (.k (.int 2)) true (.cons (.ite (.or (.cons (.and (.cons (.t (.cmp .eq (.v 18) (.k (.int 0)))) (.cons (.or (.cons (.t (.cmp .eq (.v 16) (.k (.int 0)))) (.cons (.t (.cmp .ne (.bin .mod (.bin .fdiv (.v 17) (.k (.int 8))) (.k (.int 4))) (.k (.int 3)))) .nil))) .nil))) (.cons (.and (.cons (.t (.cmp .eq (.v 18) (.k (.int 1)))) (.cons (.t (.cmp .gt (.v 16) (.k (.int 0)))) (.cons (.t (.cmp .eq (.bin .mod (.bin .fdiv (.v 17) (.k (.int 8))) (.k (.int 4))) (.k (.int 3)))) .nil)))) .nil))) (.cons (.asg 19 (.fn 87 (.cons (.fn 76 (.cons (.v 0) (.cons (.bin .add (.k (.int 1)) (.bin .mul (.k (.int 5)) (.v 16))) .nil))) (.cons (.v 15) .nil))))
 (.cons (.asg 15 (.bin .add (.v 15) (.bi .len (.cons (.v 19) .nil))))
 (.cons (.for [20] (.v 19) (.cons (.setI (.v 14) (.sub (.v 20) (.k (.int 0))) (.ite (.t (.cmp .eq (.sub (.v 20) (.k (.int 2))) (.k (.int 1)))) (.bi .bytes (.cons (.lst (.cons (.bin .sub (.k (.int 0)) (.sub (.v 20) (.k (.int 1)))) .nil)) .nil)) (.k .none)))
 .nil))
 (.cons (.asg 21 (.mk 15 .nil))
 (.cons (.ex (.bm .append (.v 11) (.cons (.bi .len (.cons (.v 10) .nil)) .nil)))
 (.cons (.ex (.fn 80 (.cons (.k (.int 0)) (.cons (.bi .sorted (.cons (.v 19) .nil)) (.cons (.v 10) (.cons (.v 21) (.cons (.v 4) .nil)))))))
 (.cons (.asg 8 (.fn 79 (.cons (.v 8) (.cons (.v 21) (.cons (.v 2) .nil)))))
 .nil))))))) (.cons (.forR 22 (.k (.int 0)) (.sub (.lst (.cons (.k (.int 1)) (.cons (.k (.int 1)) (.cons (.k (.int 2)) (.cons (.k (.int 0)) .nil))))) (.bin .mod (.v 17) (.k (.int 4)))) true (.cons (.ex (.bm .append (.v 12) (.cons (.tup (.cons (.mth (.v 9) 2 (.cons (.v 15) .nil)) (.cons (.v 15) (.cons (.bi .list (.cons (.v 14) .nil)) .nil)))) .nil)))
 .nil))
 (.cons (.ite (.t (.cmp .eq (.bin .mod (.bin .fdiv (.v 17) (.k (.int 4))) (.k (.int 2))) (.k (.int 1)))) (.cons (.ex (.bm .append (.v 13) (.cons (.tup (.cons (.v 8) (.cons (.v 15) (.cons (.bi .list (.cons (.v 14) .nil)) (.cons (.mth (.v 8) 24 .nil) .nil))))) .nil)))
 .nil) .nil)
 .nil)))
 .nil))
 (.cons (.asg 23 (.fn 76 (.cons (.v 0) (.cons (.bin .add (.k (.int 3)) (.bin .mul (.k (.int 5)) (.v 16))) .nil))))
 (.cons (.ite (.and (.cons (.t (.cmp .gt (.bi .len (.cons (.v 12) .nil)) (.k (.int 0)))) (.cons (.t (.cmp .eq (.bin .mod (.v 23) (.k (.int 3))) (.k (.int 0)))) .nil))) (.cons (.asg 24 (.bm .pop (.v 12) (.cons (.bin .mod (.bin .fdiv (.v 23) (.k (.int 3))) (.bi .len (.cons (.v 12) .nil))) .nil)))
 (.cons (.ex (.mth (.v 9) 5 (.cons (.sub (.v 24) (.k (.int 0))) .nil)))
 .nil)) .nil)
 (.cons (.ite (.and (.cons (.t (.cmp .gt (.bi .len (.cons (.v 13) .nil)) (.k (.int 0)))) (.cons (.t (.cmp .eq (.bin .mod (.bin .fdiv (.v 23) (.k (.int 24))) (.k (.int 3))) (.k (.int 0)))) .nil))) (.cons (.ex (.bm .pop (.v 13) (.cons (.bin .mod (.bin .fdiv (.v 23) (.k (.int 72))) (.bi .len (.cons (.v 13) .nil))) .nil)))
 .nil) .nil)
 (.cons (.ex (.fn 84 (.cons (.v 10) (.cons (.v 8) (.cons (.v 13) .nil)))))
 (.cons (.asg 25 (.fn 76 (.cons (.v 0) (.cons (.bin .add (.k (.int 4)) (.bin .mul (.k (.int 5)) (.v 16))) .nil))))
 (.cons (.forR 26 (.k (.int 0)) (.bin .add (.k (.int 1)) (.bin .mod (.bin .fdiv (.v 25) (.k (.int 2))) (.k (.int 2)))) true (.cons (.asg 27 (.bin .add (.v 25) (.bin .mul (.k (.int 5)) (.v 26))))
 (.cons (.asg 28 (.fn 85 (.cons (.v 9) (.cons (.v 12) (.cons (.v 15) .nil)))))
 (.cons (.ite (.t (.cmp .lt (.v 28) (.k (.int 0)))) (.cons (.ret (.k (.bool false)))
 .nil) .nil)
 (.cons (.asg 29 (.k .none))
 (.cons (.ite (.t (.cmp .eq (.bin .mod (.v 27) (.k (.int 2))) (.k (.int 0)))) (.cons (.asg 29 (.mth (.v 6) 38 (.cons (.v 8) (.cons (.v 7) .nil))))
 .nil) .nil)
 (.cons (.ite (.and (.cons (.t (.cmp .is (.v 29) (.k .none))) (.cons (.or (.cons (.t (.cmp .gt (.v 16) (.k (.int 0)))) (.cons (.t (.cmp .eq (.bin .mod (.v 27) (.k (.int 2))) (.k (.int 1)))) .nil))) .nil))) (.cons (.asg 29 (.fn 86 (.cons (.v 6) (.cons (.v 8) (.cons (.v 7) (.cons (.v 27) (.cons (.v 3) .nil)))))))
 .nil) .nil)
 (.cons (.ite (.t (.cmp .isnt (.v 29) (.k .none))) (.cons (.asg 30 (.bi .len (.cons (.v 10) .nil)))
 (.cons (.asg 31 (.fn 81 (.cons (.v 29) (.cons (.v 10) (.cons (.v 28) (.cons (.v 4) .nil))))))
 (.cons (.asg 11 (.bin .add (.comp 37 (.v 11) (.cons (.t (.cmp .notin (.v 37) (.v 31))) .nil) (.v 37)) (.compR 37 (.v 30) (.bi .len (.cons (.v 10) .nil)) .nil (.v 37))))
 (.cons (.asg 8 (.fn 79 (.cons (.v 8) (.cons (.at (.v 29) 55) (.cons (.v 2) .nil)))))
 (.cons (.ex (.fn 84 (.cons (.v 10) (.cons (.v 8) (.cons (.v 13) .nil)))))
 (.cons (.ite (.t (.cmp .ne (.mth (.v 8) 24 .nil) (.v 11))) (.cons (.ret (.k (.bool false)))
 .nil) .nil)
 .nil)))))) .nil)
 .nil))))))))
 (.cons (.asg 32 (.bin .add (.lst (.cons (.tup (.cons (.v 8) (.cons (.v 15) (.cons (.v 14) .nil)))) .nil)) (.comp 35 (.v 12) .nil (.tup (.cons (.v 8) (.cons (.sub (.v 35) (.k (.int 1))) (.cons (.sub (.v 35) (.k (.int 2))) .nil)))))))
 (.cons (.asg 32 (.bin .add (.v 32) (.comp 35 (.v 13) .nil (.tup (.cons (.sub (.v 35) (.k (.int 0))) (.cons (.sub (.v 35) (.k (.int 1))) (.cons (.sub (.v 35) (.k (.int 2))) .nil)))))))
 (.cons (.asg 33 (.lst (.cons (.k (.int 0)) (.cons (.k (.int 1)) (.cons (.k (.int 2)) (.cons (.k (.int 3)) .nil))))))
 (.cons (.ite (.t (.cmp .lt (.v 16) (.k (.int 2)))) (.cons (.asg 33 (.lst (.cons (.bin .mod (.bin .fdiv (.v 25) (.k (.int 4))) (.k (.int 4))) (.cons (.bin .mod (.bin .add (.bin .fdiv (.v 25) (.k (.int 4))) (.k (.int 1))) (.k (.int 4))) .nil))))
 .nil) .nil)
 (.cons (.ite (.not (.t (.fn 83 (.cons (.v 32) (.cons (.v 10) (.cons (.v 33) .nil)))))) (.cons (.ret (.k (.bool false)))
 .nil) .nil)
 .nil))))))))))))))
 (.cons (.for [24] (.v 13) (.cons (.ite (.t (.cmp .ne (.mth (.sub (.v 24) (.k (.int 0))) 24 .nil) (.sub (.v 24) (.k (.int 3))))) (.cons (.ret (.k (.bool false)))
 .nil) .nil)
 .nil))
 (.cons (.ret (.cmp .ge (.fn 85 (.cons (.v 9) (.cons (.v 12) (.cons (.v 15) .nil)))) (.k (.int 0))))
 .nil))))))))))))))))))))
noncomputable def Jh:Stmt:=top 68
theorem Rh:aJ ct (ar (ae Jh)) Ka (ao Jh)=true:=by kernel_rfl
noncomputable def Km:SS:=
 (.cons (.asg 1 (.comp 7 (.upto (.v 0) (.k (.int 20))) .nil (.bin .mod (.v 7) (.k (.int 999983)))))
 (.cons (.ite (.t (.cmp .eq (.bi .len (.cons (.v 1) .nil)) (.k (.int 0)))) (.cons (.asg 1 (.lst (.cons (.k (.int 0)) .nil)))
 .nil) .nil)
 (.cons (.asg 2 (.k (.bool false)))
 (.cons (.tri (.cons (.asg 2 (.fn 88 (.cons (.v 1) .nil)))
 .nil))
 (.cons (.ret (.v 2))
 .nil)))))
noncomputable def A7:Stmt:=top 69
theorem Qb:aJ ct (ar (ae A7)) Km (ao A7)=true:=by kernel_rfl
end
section
noncomputable def QZ:List Addr:=[21,120,141,148,155,162,169,176,183,190,204,211,218,225,232,239,246,253,260,274,281,288,295,316,323,330,349,356,363,370,377,384,403,410,417,431,445,452,473,480,501,508,515,529,543,550,557,564,571,578,585,592,599,606,627,634,641,648,655,662,676,683,697,704,711,718,725,732,746,753,767,774,781,788,795,802,816,823,830,837,844,851,856,863,870,875,880,887,892,897]
noncomputable def QF:List Addr:=[31,44,56,68,80,92,104,123,193,298,333,387,420,455,483,518,609,665,735,805]
noncomputable def EY:List Str:=[Str.ofString "score",Str.ofString "score_level",Str.ofString "number",Str.ofString "seq",Str.ofString "live",Str.ofString "marks",Str.ofString "made",Str.ofString "user_order",Str.ofString "check",Str.ofString "log_block",Str.ofString "sync_writes",Str.ofString "create_missing",Str.ofString "paranoid",Str.ofString "write_buffer",Str.ofString "max_height",Str.ofString "heights",Str.ofString "block_size",Str.ofString "restart_interval",Str.ofString "filter_bits",Str.ofString "filter_base_lg",Str.ofString "max_file_size",Str.ofString "num_levels",Str.ofString "l0_trigger",Str.ofString "l0_stop",Str.ofString "base_bytes",Str.ofString "level_factor",Str.ofString "max_mem_level",Str.ofString "grandparent_factor",Str.ofString "expand_factor",Str.ofString "c",Str.ofString "smallest",Str.ofString "current",Str.ofString "newer",Str.ofString "stop",Str.ofString "size",Str.ofString "largest",Str.ofString "comparator",Str.ofString "log_number",Str.ofString "next_file",Str.ofString "last_seq",Str.ofString "compact_pointers",Str.ofString "deleted",Str.ofString "added",Str.ofString "reset",Str.ofString "order",Str.ofString "files",Str.ofString "refs",Str.ofString "base",Str.ofString "dropped",Str.ofString "level",Str.ofString "version",Str.ofString "options",Str.ofString "users",Str.ofString "inputs",Str.ofString "grandparents",Str.ofString "edit",Str.ofString "manual",Str.ofString "grand_at",Str.ofString "grand_octets",Str.ofString "seen_key",Str.ofString "places"]
noncomputable def O7:List (Nat×Nat×Nat):=[(8,2,4),(8,3,5),(8,5,7),(8,7,9),(9,8,19),(10,8,19),(11,8,27),(12,14,34),(13,15,37),(16,18,45),(16,19,46),(16,20,47),(16,23,50),(16,24,51),(16,26,53),(17,3,58),(17,27,55),(17,28,56),(17,29,57),(17,30,59),(18,31,63),(18,32,64),(18,33,65),(18,34,66),(18,35,67),(19,36,71),(19,37,72),(19,38,73),(19,39,74),(19,40,75)]
noncomputable def Rp:List (Nat×Nat):=[(7,1),(8,2),(11,26),(12,32),(13,36),(14,38),(15,40),(16,44),(17,54),(18,62),(19,70)]
noncomputable def PH:List (Nat×List Nat):=[(7,[2,3,4]),(8,[5,6]),(9,[]),(10,[]),(11,[7]),(12,[8,9,10,11,12,13,14,15,16,17,18,19,20,21,22,23,24,25,26,27,28]),(13,[29,30,31,32,33]),(14,[2,34,30,35]),(15,[36,37,38,39,40,41,42,43]),(16,[21,44,45,46,0,1]),(17,[47,48,41,42]),(18,[49,50,51,44,52,53,54,55,56,57,58,59,60]),(19,[51,44])]
noncomputable def T:Tb:=⟨λi=>EY.getD i (Str.ofString ""),61,λi=>QF.getD i 0⟩
noncomputable def IP:List (Nat×Nat×Nat)->Nat->Nat->Option Nat
 |[],_,_=>none
 |(a,b,f)::r,c,g=>if a==c&&b==g then some f else IP r c g
noncomputable def Oa:List (Nat×Nat)->Nat->Option Nat
 |[],_=>none
 |(a,f)::r,c=>if a==c then some f else Oa r c
noncomputable def KH:List (Nat×List Nat)->Nat->Nat->Bool
 |[],_,_=>false
 |(a,fs)::r,c,f=>if a==c then fs.contains f else KH r c f
noncomputable def F:Ft:=⟨λi=>QZ.getD i 0,IP O7,Oa Rp,KH PH⟩
noncomputable def d1:Fd:=⟨3,3,ar (ae s1),b1⟩
noncomputable def d2:Fd:=⟨1,1,ar (ae s2),b2⟩
noncomputable def d4:Fd:=⟨2,3,ar (ae s4),b4⟩
noncomputable def d5:Fd:=⟨2,6,ar (ae s5),b5⟩
noncomputable def d7:Fd:=⟨2,3,ar (ae s7),b7⟩
noncomputable def d9:Fd:=⟨1,1,ar (ae s9),b9⟩
noncomputable def O6:Fd:=⟨1,1,ar (ae Iq),I4⟩
noncomputable def OB:Fd:=⟨1,1,ar (ae JT),Kz⟩
noncomputable def Ol:Fd:=⟨2,2,ar (ae JK),IF⟩
noncomputable def Ph:Fd:=⟨2,2,ar (ae IV),JV⟩
noncomputable def N9:Fd:=⟨2,2,ar (ae IR),KI⟩
noncomputable def Oq:Fd:=⟨3,3,ar (ae I9),Kg⟩
noncomputable def Oh:Fd:=⟨1,4,ar (ae Jl),CJ⟩
noncomputable def Oj:Fd:=⟨1,1,ar (ae Kd),Jo⟩
noncomputable def O3:Fd:=⟨1,1,ar (ae I6),Jg⟩
noncomputable def NW:Fd:=⟨3,3,ar (ae KU),JM⟩
noncomputable def PE:Fd:=⟨1,1,ar (ae Ky),IQ⟩
noncomputable def NO:Fd:=⟨3,6,ar (ae Iy),Cv⟩
noncomputable def PV:Fd:=⟨1,1,ar (ae KK),It⟩
noncomputable def P0:Fd:=⟨1,1,ar (ae JY),KT⟩
noncomputable def Om:Fd:=⟨3,3,ar (ae IO),KD⟩
noncomputable def PG:Fd:=⟨3,8,ar (ae Jb),Ke⟩
noncomputable def NY:Fd:=⟨5,5,ar (ae Kr),JN⟩
noncomputable def OW:Fd:=⟨1,1,ar (ae I0),JP⟩
noncomputable def Of:Fd:=⟨3,6,ar (ae Jp),Kk⟩
noncomputable def Ob:Fd:=⟨3,4,ar (ae Kc),Iw⟩
noncomputable def N1:Fd:=⟨4,11,ar (ae Ji),JS⟩
noncomputable def Oi:Fd:=⟨2,9,ar (ae Jj),Kh⟩
noncomputable def Pt:Fd:=⟨4,11,ar (ae IW),IA⟩
noncomputable def d50:Fd:=⟨2,4,ar (ae Jz),IX⟩
noncomputable def Oo:Fd:=⟨1,4,ar (ae Ko),JA⟩
noncomputable def O0:Fd:=⟨1,7,ar (ae Ik),JH⟩
noncomputable def PI:Fd:=⟨2,3,ar (ae KM),ID⟩
noncomputable def Pk:Fd:=⟨2,2,ar (ae KW),KJ⟩
noncomputable def OE:Fd:=⟨2,5,ar (ae Ku),I5⟩
noncomputable def Px:Fd:=⟨4,5,ar (ae IS),Kx⟩
noncomputable def N8:Fd:=⟨4,7,ar (ae Im),IE⟩
noncomputable def OV:Fd:=⟨1,6,ar (ae IZ),IJ⟩
noncomputable def Pj:Fd:=⟨1,3,ar (ae JC),KL⟩
noncomputable def Ou:Fd:=⟨2,5,ar (ae Iv),KZ⟩
noncomputable def O8:Fd:=⟨4,4,ar (ae JZ),I3⟩
noncomputable def Py:Fd:=⟨1,1,ar (ae Ix),Kq⟩
noncomputable def Og:Fd:=⟨1,1,ar (ae Ir),Je⟩
noncomputable def OS:Fd:=⟨2,3,ar (ae I8),JO⟩
noncomputable def PZ:Fd:=⟨2,5,ar (ae JW),JR⟩
noncomputable def NT:Fd:=⟨1,3,ar (ae JJ),IT⟩
noncomputable def PR:Fd:=⟨2,3,ar (ae Ks),JU⟩
noncomputable def Ot:Fd:=⟨2,8,ar (ae JG),KO⟩
noncomputable def PC:Fd:=⟨3,3,ar (ae Jt),Jq⟩
noncomputable def NR:Fd:=⟨2,2,ar (ae KA),II⟩
noncomputable def NZ:Fd:=⟨2,3,ar (ae KF),K1⟩
noncomputable def PW:Fd:=⟨3,10,ar (ae Jn),KV⟩
noncomputable def OF:Fd:=⟨6,10,ar (ae KN),Ju⟩
noncomputable def Oc:Fd:=⟨3,12,ar (ae IK),JX⟩
noncomputable def OG:Fd:=⟨2,2,ar (ae Jy),JE⟩
noncomputable def NQ:Fd:=⟨1,1,ar (ae JF),IM⟩
noncomputable def PJ:Fd:=⟨1,1,ar (ae I2),Kb⟩
noncomputable def NX:Fd:=⟨3,5,ar (ae K0),KC⟩
noncomputable def OU:Fd:=⟨5,7,ar (ae IC),I1⟩
noncomputable def Pf:Fd:=⟨4,14,ar (ae Ij),Io⟩
noncomputable def Pv:Fd:=⟨4,15,ar (ae Jd),IU⟩
noncomputable def OH:Fd:=⟨3,7,ar (ae Ja),JD⟩
noncomputable def OQ:Fd:=⟨3,6,ar (ae Ki),JQ⟩
noncomputable def oj:Fd:=⟨3,9,ar (ae Af),Jr⟩
noncomputable def PQ:Fd:=⟨5,15,ar (ae Jk),Iz⟩
noncomputable def Pg:Fd:=⟨2,5,ar (ae I7),JB⟩
noncomputable def Ow:Fd:=⟨1,39,ar (ae Jh),Ka⟩
noncomputable def M1:Fd:=⟨1,8,ar (ae A7),Km⟩
noncomputable def jA:List (Addr×Fd×Stmt):=[(120,d1,s1),(141,d2,s2),(155,d4,s4),(162,d5,s5),(176,d7,s7),(190,d9,s9),(204,O6,Iq),(211,OB,JT),(218,Ol,JK),(225,Ph,IV),(232,N9,IR),(239,Oq,I9),(246,Oh,Jl),(253,Oj,Kd),(260,O3,I6),(274,NW,KU),(349,PE,Ky),(356,NO,Iy),(403,PV,KK),(417,P0,JY),(445,Om,IO),(452,PG,Jb),(473,NY,Kr),(501,OW,I0),(529,Of,Jp),(543,Ob,Kc),(550,N1,Ji),(557,Oi,Jj),(564,Pt,IW),(585,d50,Jz),(592,Oo,Ko),(606,O0,Ik),(627,PI,KM),(634,Pk,KW),(641,OE,Ku),(648,Px,IS),(655,N8,Im),(662,OV,IZ),(676,Pj,JC),(683,Ou,Iv),(697,O8,JZ),(704,Py,Ix),(711,Og,Ir),(718,OS,I8),(725,PZ,JW),(732,NT,JJ),(746,PR,Ks),(753,Ot,JG),(767,PC,Jt),(774,NR,KA),(781,NZ,KF),(788,PW,Jn),(795,OF,KN),(802,Oc,IK),(816,OG,Jy),(823,NQ,JF),(830,PJ,I2),(837,NX,K0),(844,OU,IC),(851,Pf,Ij),(856,Pv,Jd),(863,OH,Ja),(870,OQ,Ki),(875,oj,Af),(880,PQ,Jk),(887,Pg,I7),(892,Ow,Jh),(897,M1,A7)]
noncomputable def bD(f:Addr):Option Fd:=(jA.lookup f).map (·.1)
theorem Ru:bD (F.fa 1)=some d1:=by kernel_rfl
theorem Rf:bD (F.fa 2)=some d2:=by kernel_rfl
theorem QY:bD (F.fa 4)=some d4:=by kernel_rfl
theorem Q9:bD (F.fa 5)=some d5:=by kernel_rfl
theorem QS:bD (F.fa 7)=some d7:=by kernel_rfl
theorem Rz:bD (F.fa 9)=some d9:=by kernel_rfl
theorem Nx:bD (F.fa 10)=some O6:=by kernel_rfl
theorem MN:bD (F.fa 11)=some OB:=by kernel_rfl
theorem MR:bD (F.fa 12)=some Ol:=by kernel_rfl
theorem Na:bD (F.fa 13)=some Ph:=by kernel_rfl
theorem Lg:bD (F.fa 14)=some N9:=by kernel_rfl
theorem LQ:bD (F.fa 15)=some Oq:=by kernel_rfl
theorem Nu:bD (F.fa 16)=some Oh:=by kernel_rfl
theorem LN:bD (F.fa 17)=some Oj:=by kernel_rfl
theorem Mu:bD (F.fa 18)=some O3:=by kernel_rfl
theorem Mz:bD (F.fa 19)=some NW:=by kernel_rfl
theorem MZ:bD (F.fa 26)=some PE:=by kernel_rfl
theorem Nv:bD (F.fa 27)=some NO:=by kernel_rfl
theorem ME:bD (F.fa 32)=some PV:=by kernel_rfl
theorem Nz:bD (F.fa 34)=some P0:=by kernel_rfl
theorem MQ:bD (F.fa 36)=some Om:=by kernel_rfl
theorem MO:bD (F.fa 37)=some PG:=by kernel_rfl
theorem Ny:bD (F.fa 38)=some NY:=by kernel_rfl
theorem Lk:bD (F.fa 40)=some OW:=by kernel_rfl
theorem Lc:bD (F.fa 43)=some Of:=by kernel_rfl
theorem Ll:bD (F.fa 44)=some Ob:=by kernel_rfl
theorem MK:bD (F.fa 45)=some N1:=by kernel_rfl
theorem L5:bD (F.fa 46)=some Oi:=by kernel_rfl
theorem Me:bD (F.fa 47)=some Pt:=by kernel_rfl
theorem LA:bD (F.fa 50)=some d50:=by kernel_rfl
theorem L6:bD (F.fa 51)=some Oo:=by kernel_rfl
theorem LM:bD (F.fa 53)=some O0:=by kernel_rfl
theorem MP:bD (F.fa 54)=some PI:=by kernel_rfl
theorem LY:bD (F.fa 55)=some Pk:=by kernel_rfl
theorem Nt:bD (F.fa 56)=some OE:=by kernel_rfl
theorem MY:bD (F.fa 57)=some Px:=by kernel_rfl
theorem Nq:bD (F.fa 58)=some N8:=by kernel_rfl
theorem MB:bD (F.fa 59)=some OV:=by kernel_rfl
theorem MT:bD (F.fa 60)=some Pj:=by kernel_rfl
theorem Ng:bD (F.fa 61)=some Ou:=by kernel_rfl
theorem LR:bD (F.fa 62)=some O8:=by kernel_rfl
theorem Lf:bD (F.fa 63)=some Py:=by kernel_rfl
theorem Mr:bD (F.fa 64)=some Og:=by kernel_rfl
theorem Lm:bD (F.fa 65)=some OS:=by kernel_rfl
theorem M5:bD (F.fa 66)=some PZ:=by kernel_rfl
theorem LU:bD (F.fa 67)=some NT:=by kernel_rfl
theorem NA:bD (F.fa 68)=some PR:=by kernel_rfl
theorem Mm:bD (F.fa 69)=some Ot:=by kernel_rfl
theorem MD:bD (F.fa 70)=some PC:=by kernel_rfl
theorem MI:bD (F.fa 71)=some NR:=by kernel_rfl
theorem NJ:bD (F.fa 72)=some NZ:=by kernel_rfl
theorem Lx:bD (F.fa 73)=some PW:=by kernel_rfl
theorem My:bD (F.fa 74)=some OF:=by kernel_rfl
theorem Ms:bD (F.fa 75)=some Oc:=by kernel_rfl
theorem No:bD (F.fa 76)=some OG:=by kernel_rfl
theorem MC:bD (F.fa 77)=some NQ:=by kernel_rfl
theorem NG:bD (F.fa 78)=some PJ:=by kernel_rfl
theorem Lh:bD (F.fa 79)=some NX:=by kernel_rfl
theorem LB:bD (F.fa 80)=some OU:=by kernel_rfl
theorem Lp:bD (F.fa 81)=some Pf:=by kernel_rfl
theorem MJ:bD (F.fa 82)=some Pv:=by kernel_rfl
theorem Ly:bD (F.fa 83)=some OH:=by kernel_rfl
theorem K4:bD (F.fa 84)=some OQ:=by kernel_rfl
theorem GF:bD (F.fa 85)=some oj:=by kernel_rfl
theorem MX:bD (F.fa 86)=some PQ:=by kernel_rfl
theorem K7:bD (F.fa 87)=some Pg:=by kernel_rfl
theorem Mj:bD (F.fa 88)=some Ow:=by kernel_rfl
theorem FL:bD (F.fa 89)=some M1:=by kernel_rfl
end
section
noncomputable def o4(v:Option (Option Value))(a:Addr):Bool:=match v with
 |some (some (.ref b))=>a==b
 |_=>false
noncomputable def wy(v:Option (Option Value))(i:Int):Bool:=match v with
 |some (some (.int j _))=>i==j
 |_=>false
noncomputable def wV(v:Option (Option Value)):Bool:=match v with
 |some none=>true
 |_=>false
noncomputable def yd(v:Option (Option Value))(s:String):Bool:=match v with
 |some (some (.builtin t))=>s==t
 |_=>false
theorem gZ{v:Option (Option Value)}{a:Addr}(h:o4 v a=true):v=some (some (.ref a)):=by
 cases v with
 |none=>exact fT h
 |some v=>cases v with
  |none=>exact fT h
  |some v=>cases v with
   |ref b=>rw[eq_of_beq (show(a==b)=true from h)]
   |_=>exact fT h
theorem zy{v:Option (Option Value)}{i:Int}(h:wy v i=true):∃t,v=some (some (.int i t)):=by
 cases v with
 |none=>exact fT h
 |some v=>cases v with
  |none=>exact fT h
  |some v=>cases v with
   |int j t=>rw[eq_of_beq (show(i==j)=true from h)];exact⟨_,rfl⟩
   |_=>exact fT h
theorem pT{v:Option (Option Value)}(h:wV v=true):v=some none:=by
 cases v with
 |none=>exact fT h
 |some v=>cases v with
  |none=>rfl
  |some v=>exact fT h
theorem qU{v:Option (Option Value)}{s:String}(h:yd v s=true):v=some (some (.builtin s)):=by
 cases v with
 |none=>exact fT h
 |some v=>cases v with
  |none=>exact fT h
  |some v=>cases v with
   |builtin t=>rw[eq_of_beq (show(s==t)=true from h)]
   |_=>exact fT h
noncomputable def IL(K:Frag)(c:Addr):Bool:=plainGet K c ""&&hasDictIn K c&&yd (findIn K (.ref c) "__setattr__") "object.__setattr__"&&plainOver K c
theorem wE{K:Frag}{c:Addr}(h:IL K c=true):DL K c:=by
 simp only[IL,Bool.and_eq_true]at h
 exact⟨h.1.1.1,h.1.1.2,qU h.1.2,h.2⟩
theorem eG{a:Type}{l:List (Str×a)}{p:Str×a->Bool}(h:l.all p=true){x:Str}{b:a}(e:l.lookup x=some b):p (x,b)=true:=kK h _ (bc e)
theorem gJ{b:Type}:∀{l:List (Addr×b)} {x:Addr} {k:b},l.lookup x=some k->(x,k)∈l
 |[],_,_,h=>by simp at h
 |(n,k)::r,x,q,h=>by
  rw[List.lookup_cons]at h
  cases a:x==n with
  |true=>rw[a]at h;cases h;rw[eq_of_beq a];exact .head _
  |false=>rw[a]at h;exact .tail _ (gJ h)
noncomputable def C2:Arguments->Bool
 |⟨[],_,none,[],_,none,_⟩=>true
 |_=>false
theorem yj{a:Arguments}(h:C2 a=true):a=⟨[],a.args,none,[],a.kw_defaults,none,a.defaults⟩:=by
 obtain⟨p,q,v,k,d,w,e⟩:=a
 cases p with
 |cons _ _=>cases h
 |nil=>cases v with
  |some _=>cases h
  |none=>cases k with
   |cons _ _=>cases h
   |nil=>cases w with
    |some _=>cases h
    |none=>rfl
noncomputable def uj:Value->Bool
 |.none=>true
 |_=>false
theorem tx{v:Value}(h:uj v=true):v=.none:=by cases v<;>first|rfl|cases h
noncomputable def Ia(K:Frag)(f:Addr):Option FuncData:=(K.lookup f).bind λo=>match o.data with
 |.func fd=>some fd
 |_=>none
noncomputable def uK(fd:FuncData):List Stmt:=match fd.body with
 |.stmts b=>b
 |_=>[]
noncomputable def u6:FuncBody->Bool
 |.stmts _=>true
 |_=>false
noncomputable def KB(K:Frag)(fd:FuncData):Bool:=u6 fd.body&&fd.globals==mainGlobals&&fd.closure.isEmpty&&uj fd.defaults&&fd.builtins==builtinsNs&&codeIn K fd.code fd.qualname
noncomputable def CQ(K:Frag)(f:Addr):Option (Arguments×List Stmt×Scope):=(Ia K f).bind λfd=>if KB K fd then some (fd.params,uK fd,fd.scope) else none
noncomputable def NV(K:Frag):Bool:=Oy.all λp=>wy (nsIn K mainGlobals p.1) p.2
noncomputable def Ox(K:Frag):Bool:=N0.all λp=>o4 (nsIn K mainGlobals p.1) (F.fa p.2)&&keepIn K (.ref (F.fa p.2))
noncomputable def Po(K:Frag):Bool:=PA.all λp=>o4 (nsIn K mainGlobals p.1) (T.ca p.2)&&keepIn K (.ref (T.ca p.2))&&makesIn K (T.ca p.2)&&
  (match F.mi p.2 with|some g=>o4 (findIn K (.ref (T.ca p.2)) "__init__") (F.fa g)&&isFn K (.ref (F.fa g))|none=>yd (findIn K (.ref (T.ca p.2)) "__init__") "object.__init__")
noncomputable def Pi(K:Frag):Bool:=PH.all λp=>IL K (T.ca p.1)&&p.2.all λf=>Nat.blt f T.nf&&wV (findIn K (.ref (T.ca p.1)) (T.an f))
noncomputable def OT(K:Frag):Bool:=Pw.all λp=>O7.all λq=>!(q.2.1==p.2)||(IL K (T.ca q.1)&&o4 (findIn K (.ref (T.ca q.1)) p.1) (F.fa q.2.2)&&isFn K (.ref (F.fa q.2.2))&&keepIn K (.ref (F.fa q.2.2)))
noncomputable def Fg(K:Frag)(b:BF):Bool:=wV (nsIn K mainGlobals (nk b))
noncomputable def Nm(K:Frag):Bool:=o4 (nsIn K mainGlobals (Str.ofString "NotFound")) 80&&excIn K 80 [.type "Exception",.type "BaseException",.type "object"] "Exception.__new__"&&ktsIn K 80 "BaseException"
noncomputable def Ml(K:Frag):Bool:=(NV K&&(Ox K&&(Po K&&(Pi K&&(OT K&&(Nm K&&(wV (nsIn K mainGlobals gh)&&(Fg K .len&&(Fg K .sorted&&(Fg K .min1&&(Fg K .bytes&&Fg K .list)))))))))))
structure HK(K:Frag):Prop where
 c:Ml K=true
 v:jA.map (λp=>CQ K p.1)=jA.map λp=>some (gr p.2.2,ao p.2.2,ae p.2.2)
theorem FI:jA.all (λp=>aJ ct p.2.1.cn p.2.1.body (ao p.2.2)&&Dc p.2.1 (gr p.2.2).args&&C2 (gr p.2.2))=true:=by kernel_rfl
theorem Hk:jA.map (λp=>p.2.1.cn.sc)=jA.map λp=>ae p.2.2:=by kernel_rfl
theorem wN{b c:Type}{f g:b->c}:∀{l:List b},l.map f=l.map g->∀a∈l,f a=g a
 |_::_,h,a,m=>by
  rw[List.map_cons,List.map_cons,List.cons.injEq]at h
  rcases au m with rfl|m
  ·exact h.1
  ·exact wN h.2 a m
theorem Ib{fd:FuncData}{c:Arguments}{b:List Stmt}{a:Scope}(b1:u6 fd.body=true)(b2:fd.globals=mainGlobals)(d:fd.closure=[])(b4:fd.defaults=.none)(b5:fd.builtins=builtinsNs)(h:fd.params=c)(i:uK fd=b)(j:fd.scope=a):
  fd=fnX fd.name fd.qualname c b a [] .none fd.kwdefaults fd.doc fd.pyModule fd.annotations fd.code fd.closureTuple:=by
 subst h i j
 cases fd with
 |mk n k c f a l cl r q g p m o e s=>
  cases f with
  |stmts b=>
   dsimp only at b2 d b4 b5
   rw[b2,d,b4,b5]
   rfl
  |_=>exact fT b1
theorem E3{K:Frag}{f:Addr}{fd:FuncData}(h:Ia K f=some fd):∃o,K.lookup f=some o/\o.data=.func fd:=by
 unfold Ia at h
 cases e:K.lookup f with
 |none=>rw[e]at h;exact oW h
 |some o=>
  rw[e]at h
  cases o with
  |mk c b dt d=>cases dt with
   |func a=>exact⟨_,rfl,congrArg _ (Option.some.inj h)⟩
   |_=>exact oW h
theorem lO{K:Frag}(h:HK K){p:Addr×Fd×Stmt}(m:p∈jA):zS K ct p.1 p.2.1 (ao p.2.2):=by
 have a:(Ia K p.1).bind (λfd=>if KB K fd then some (fd.params,uK fd,fd.scope) else none)=_:=wN h.v p m
 have k:=wN Hk p m
 have l:=kK FI p m
 cases e:Ia K p.1 with
 |none=>rw[e]at a;exact oW a
 |some fd=>
  rw[e]at a
  replace a:(if KB K fd=true then some (fd.params,uK fd,fd.scope) else none)=some (gr p.2.2,ao p.2.2,ae p.2.2):=a
  by_cases b:KB K fd=true
  ·rw[if_pos b]at a
   have w:=Option.some.inj a
   exact kZ l λj i d=>Fc b λb1 b2 f b4 b5 g=>(E3 e).elim λo c=>by
    have q:=Ib b1 (eq_of_beq b2) (List.isEmpty_iff.mp f) (tx b4) (eq_of_beq b5) (congrArg Prod.fst w) (congrArg (λx=>x.2.1) w) ((congrArg (λx=>x.2.2) w).trans k.symm)
    refine⟨⟨o,fd.name,fd.qualname,(gr p.2.2).args,(gr p.2.2).kw_defaults,(gr p.2.2).defaults,fd.kwdefaults,fd.doc,fd.pyModule,fd.annotations,fd.code,fd.closureTuple,c.1,?_,g,j,i⟩⟩
    rw[←yj d]
    exact c.2.trans (congrArg _ q)
  ·rw[if_neg b]at a;exact oW a
theorem DH{f:Addr}{d:Fd}(h:bD f=some d):∃s,(f,d,s)∈jA:=by
 unfold bD at h
 cases e:jA.lookup f with
 |none=>rw[e]at h;cases h
 |some q=>rw[e]at h;cases h;exact⟨q.2,gJ e⟩
theorem uG{K:Frag}(h:HK K)(f:Addr)(d:Fd)(e:bD f=some d):∃b,zS K ct f d b:=by
 obtain⟨s,m⟩:=DH e
 exact⟨_,lO h m⟩
structure HC(K:Frag):Prop where
 int:NV K=true
 fn:Ox K=true
 cl:Po K=true
 fo:Pi K=true
 mt:OT K=true
 nf:Nm K=true
 rg:wV (nsIn K mainGlobals gh)=true
 bi:∀b,Fg K b=true
theorem HK.k{K:Frag}(h:HK K):HC K:=by
 have:=h.c
 unfold Ml at this
 simp only[Bool.and_eq_true]at this
 obtain⟨a,b,c,d,e,f,g,i,j,k,l,m⟩:=this
 exact⟨a,b,c,d,e,f,g,λx=>by cases x<;>assumption⟩
noncomputable def IG:List Str->Bool
 |[]=>true
 |x::r=>r.all (λy=>!(x==y))&&IG r
theorem yA:∀{l:List Str},IG l=true->l.Nodup
 |[],_=>.nil
 |x::r,h=>by
  simp only[IG,Bool.and_eq_true,List.all_eq_true,Bool.not_eq_true',beq_eq_false_iff_ne]at h
  exact List.nodup_cons.mpr ⟨λa=>h.1 x a rfl,yA h.2⟩
theorem Nj:IG EY=true:=by kernel_rfl
theorem CB:EY.length=T.nf:=by kernel_rfl
theorem Nc:O1.all (λp=>p.1==T.an p.2)=true:=by kernel_rfl
theorem ui:∀{l:List (Nat×Nat×Nat)} {c g f:Nat},IP l c g=some f->(c,g,f)∈l
 |[],_,_,_,h=>by cases h
 |(a,b,k)::r,c,g,f,h=>by
  unfold IP at h
  split at h
  ·rename_i d
   simp only[Bool.and_eq_true,beq_iff_eq]at d
   cases h
   rw[d.1,d.2];exact .head _
  ·exact .tail _ (ui h)
theorem uz:∀{l:List (Nat×List Nat)} {c f:Nat},KH l c f=true->∃fs,(c,fs)∈l/\f∈fs
 |[],_,_,h=>by cases h
 |(a,fs)::r,c,f,h=>by
  unfold KH at h
  split at h
  ·rename_i e
   obtain rfl:=eq_of_beq e
   exact⟨fs,.head _,by simpa using h⟩
  ·obtain⟨fs,d,b⟩:=uz h
   exact⟨fs,.tail _ d,b⟩
theorem Cp{K:Frag}(H:HK K):CE K T F ct where
 int:=λx n h=>zy (eG H.k.int h)
 fn:=λx i h=>by
  have:=eG H.k.fn h
  simp only[Bool.and_eq_true]at this
  exact⟨gZ this.1,this.2⟩
 cl:=λx i h=>by
  have:=eG H.k.cl h
  simp only[Bool.and_eq_true]at this
  obtain⟨⟨⟨a,m⟩,l⟩,d⟩:=this
  refine⟨gZ a,m,l,?_,?_⟩
  ·cases e:F.mi i with
   |some g=>rw[e]at d;simp only[Bool.and_eq_true]at d;exact gZ d.1
   |none=>rw[e]at d;exact qU d
  ·intro g e
   rw[e]at d;simp only[Bool.and_eq_true]at d;exact d.2
 fld:=λc f h=>by
  obtain⟨u,a,m⟩:=uz h
  have:=kK H.k.fo _ a
  simp only[Bool.and_eq_true,List.all_eq_true]at this
  have l:=this.2 f m
  exact⟨by have:=l.1;unfold Nat.blt at this;exact Nat.le_of_ble_eq_true this,wE this.1,pT l.2⟩
 inj:=λi j t s e=>by
  have o:i<EY.length:=by rw[CB];exact t
  have p:j<EY.length:=by rw[CB];exact s
  have q:EY.getD i (Str.ofString "")=EY.getD j (Str.ofString ""):=e
  rw[List.getD_eq_getElem?_getD,List.getD_eq_getElem?_getD,List.getElem?_eq_getElem o,List.getElem?_eq_getElem p]at q
  exact(List.getElem_inj (yA Nj)).mp q
 atn:=λx i h=>eq_of_beq (eG Nc h)
 mth:=λx g h c f r=>by
  have a:=kK (eG H.k.mt h) _ (ui r)
  simp only[beq_self_eq_true,Bool.not_true,Bool.false_or,Bool.and_eq_true]at a
  exact⟨wE a.1.1.1,gZ a.1.1.2,a.1.2,a.2⟩
 bi:=λb=>pT (H.k.bi b)
 rg:=pT H.k.rg
end
section
noncomputable def iD(p:Program)(w:World)(a:Nat)(b:Option Value):Nat->SharedT->Thread->Option SharedT
 |0,_,_=>none
 |n+1,s,t=>match through t with
  |true=>some s
  |false=>match PySem.W.Fast.tw6613529449190102663 a b t with
   |false=>none
   |true=>match PySem.W.Fast.tw10156331382660048174 (PySem.W.Fast.tw11892475500146522536 PySem.W.Fast.tw14364793385576792824) p w s t with
    |some (s',c)=>iD p w a b n s' c
    |none=>none
noncomputable def Rc(P:Params):BT:=(((((((((((BT.nil.ins 0 (boot_o_0 P)).ins 1 (boot_o_1 P)).ins 2 (boot_o_2 P)).ins 3 (boot_o_3 P)).ins 4 (boot_o_4 P)).ins 5 (boot_o_5 P)).ins 6 (boot_o_6 P)).ins 7 (boot_o_7 P)).ins 8 (boot_o_8 P)).ins 9 (boot_o_9 P)).ins 10 (boot_o_10 P))
noncomputable def Ii(w:World)(os:OsState):SharedT:=⟨Rc w.params,11,{},#[],boot_drawn,boot_toks,os⟩
noncomputable def rS(p:Program):Thread:=
 ⟨(PySem.W.Fast.tw17154629097778926822 p.main).bind λcode=>(PySem.W.Fast.tw12822647523644345616 code mainNs mainNs).bind λframe=>
   (run (.body (behindTheImports p) {scope:=p.main.scope,locals:=mainNs,globals:=mainNs,cells:=[],code,frame:=some frame})).bind λ_=>PySem.W.Fast.tw6905046200447255374 .none,
  .builtin "claim.caller" {},default,[]⟩
noncomputable def jC(p:Program)(w:World)(a:Nat)(b:Option Value):Nat->SharedT->Thread->Option SharedT
 |0,_,_=>none
 |n+1,s,t=>match through t with
  |true=>some s
  |false=>match stepOk a b t with
   |false=>none
   |true=>match stepT (denote treeTable) p w s t with
    |some (s',c)=>jC p w a b n s' c
    |none=>none
theorem nD(p:Program)(w:World)(a:Nat)(b:Option Value):∀(n:Nat) (s:SharedT) (t:Thread),iD p w a b n s t=jC p w a b n s t
 |0,_,_=>rfl
 |n+1,s,t=>by
  unfold iD jC
  rw[←PySem.W.Fast.te6613529449190102663,←PySem.W.Fast.te10156331382660048174,←PySem.W.Fast.te11892475500146522536,←PySem.W.Fast.te14364793385576792824]
  simp only[nD p w a b n]
theorem oI{p:Program}{w:World}{a:Nat}{b:Option Value}:∀{n:Nat} {s s':SharedT} {t:Thread},jC p w a b n s t=some s'->topRun treeTable p w a b n s.abs t=some s'.abs
 |0,_,_,_,h=>by cases h
 |n+1,s,s',t,h=>by
  unfold jC at h
  unfold topRun
  cases d:through t with
  |true=>rw[d]at h;cases h;rfl
  |false=>
   rw[d]at h
   cases e:stepOk a b t with
   |false=>rw[e]at h;cases h
   |true=>
    rw[e]at h
    cases hs:stepT (denote treeTable) p w s t with
    |none=>rw[hs]at h;cases h
    |some r=>obtain⟨f,c⟩:=r;rw[hs]at h;rw[stepT_spec hs];exact oI h
theorem zI(p:Program):rS p=topStub p:=by
 unfold rS topStub
 rw[←PySem.W.Fast.te17154629097778926822,←PySem.W.Fast.te12822647523644345616,←PySem.W.Fast.te6905046200447255374]
 rfl
theorem Bw(w:World)(os:OsState):(Ii w os).abs=⟨boot_heap w.params,#[],boot_drawn,boot_toks,os⟩:=by
 unfold Ii SharedT.abs
 dsimp only
 rfl
noncomputable def Rj:Stmt:=pw.main.body.getLast?.getD (.Pass default)
noncomputable def qH:Program:={pw with main:={pw.main with body:=[Rj]}}
noncomputable def Jf:List PySem.Str:=[PySem.Str.ofString "_wall",PySem.Str.ofString "KeepError",PySem.Str.ofString "StoreError",PySem.Str.ofString "Corrupt",PySem.Str.ofString "ShortOctets",PySem.Str.ofString "NotFound",PySem.Str.ofString "BadOption",PySem.Str.ofString "StaleSnapshot",PySem.Str.ofString "SnapMark",PySem.Str.ofString "MarkList",PySem.Str.ofString "MAX_32",PySem.Str.ofString "MAX_64",PySem.Str.ofString "CHECK_CRC",PySem.Str.ofString "CHECK_SUM",PySem.Str.ofString "put_fixed32",PySem.Str.ofString "put_fixed64",PySem.Str.ofString "read_fixed32",PySem.Str.ofString "read_fixed64",PySem.Str.ofString "KIND_DELETE",PySem.Str.ofString "KIND_VALUE",PySem.Str.ofString "KIND_SEEK",PySem.Str.ofString "MAX_SEQ",PySem.Str.ofString "TAG_LENGTH",PySem.Str.ofString "LEAST_BLOCK",PySem.Str.ofString "MOST_BLOCK",PySem.Str.ofString "MOST_LEVELS",PySem.Str.ofString "pack_tag",PySem.Str.ofString "make_ikey",PySem.Str.ofString "split_ikey",PySem.Str.ofString "user_of",PySem.Str.ofString "tag_of",PySem.Str.ofString "Order",PySem.Str.ofString "BytesOrder",PySem.Str.ofString "InternalOrder",PySem.Str.ofString "Options",PySem.Str.ofString "check_heights",PySem.Str.ofString "Sieve",PySem.Str.ofString "FileMeta",PySem.Str.ofString "VersionEdit",PySem.Str.ofString "find_file",PySem.Str.ofString "Version",PySem.Str.ofString "VersionMaker",PySem.Str.ofString "total_size",PySem.Str.ofString "key_range",PySem.Str.ofString "Compaction",PySem.Str.ofString "max_octets_of",PySem.Str.ofString "score_of",PySem.Str.ofString "Picker",PySem.Str.ofString "_law_draw",PySem.Str.ofString "_law_user",PySem.Str.ofString "_law_ikey",PySem.Str.ofString "_law_made",PySem.Str.ofString "_law_put",PySem.Str.ofString "_law_compact",PySem.Str.ofString "_law_told",PySem.Str.ofString "_law_readers_told",PySem.Str.ofString "_law_forget",PySem.Str.ofString "_law_smallest",PySem.Str.ofString "_law_by_hand",PySem.Str.ofString "_law_writes",PySem.Str.ofString "_law_live"]
end
section
theorem oy{p q:Program}{a:List Str}{Xt:Shared->Bool}{m:Type}{j:Shared->m}{l:World->m}{N M:Nat}{H₀:Params->Heap}{b:Drawn}{c f:Nat}{i:Option Value}
  (g:∀w:World,(fencedOpening treeTable p w N).map (λs=>(s.heap,s.gens,s.drawn,s.toks))=some (H₀ w.params,#[],b,c))
  (z1:∀w:World,(H₀ w.params).isNs mainGlobals=true) (z2:∀w:World,(H₀ w.params).objs.size=f) (z3:∀w:World,(H₀ w.params).nsMap mainGlobals "__annotations__"=i) (le:Nat.ble M N=true)
  (run:∀(w:World) (os:OsState),∃s',topRun treeTable p w f i M ⟨H₀ w.params,#[],b,c,os⟩ (topStub p)=some s'/\
   (staticsOk (importedModules p.main.body) (H₀ w.params) s'.heap&&namesBound p s'.heap&&gensDone s'&&laidKept (H₀ w.params) s'.heap)=true/\
   openSeen q a (importedModules p.main.body) Xt true s' = openGood q a /\ j s' = l w) : LeftO p q a Xt j l N := λw => by
 obtain⟨⟨h,y,d,k,os⟩,e,x⟩:=Option.map_eq_some_iff.mp (g w)
 obtain⟨rfl,rfl,rfl,rfl⟩:h=H₀ w.params/\y=#[]/\d=b/\k=c:=by simpa using x
 obtain⟨s',o,v,n,u⟩:=run w os
 have r:=topRun_mono (N-M) _ _ _ _ o
 rw[show M+(N-M)=N from Nat.add_sub_cancel' (Nat.le_of_ble_eq_true le)]at r
 have t:topFrom treeTable p w N ⟨H₀ w.params,#[],d,k,os⟩=some s':=by
  unfold topFrom
  dsimp only
  rw[z1 w,z2 w,z3 w,r]
  show(match staticsOk (importedModules p.main.body) (H₀ w.params) s'.heap&&namesBound p s'.heap&&gensDone s'&&laidKept (H₀ w.params) s'.heap with|true=>_|false=>_)=_
  rw[v]
 unfold openEnds
 rw[e]
 show(topFrom treeTable p w N _).map _=_
 rw[t]
 exact congrArg some (Prod.ext n u)
theorem Ca{p q:Program}{a:List Str}{i:Type}{e:Shared->i}{g:World->i}{M b:Nat}{w:World}{c:Option Value}{h₀:Heap}{S:SharedT}{Xt:Shared->Bool}
  (h:(iD p w b c M S (rS p)).map (λs=>((staticsOk (importedModules p.main.body) h₀ s.abs.heap&&namesBound p s.abs.heap&&gensDone s.abs&&laidKept h₀ s.abs.heap),
   PySem.W.Fast.tw4187177175401517315 q a (PySem.W.Fast.tw5923862056798008813 p.main.body) Xt true s.abs,e s.abs))=some (true,openGood q a,g w)):
  ∃s',topRun treeTable p w b c M S.abs (topStub p)=some s'/\
   (staticsOk (importedModules p.main.body) h₀ s'.heap&&namesBound p s'.heap&&gensDone s'&&laidKept h₀ s'.heap)=true/\
   openSeen q a (importedModules p.main.body) Xt true s' = openGood q a /\ e s' = g w := by
 obtain⟨s',f,l⟩:=Option.map_eq_some_iff.mp h
 rw[nD,zI]at f
 obtain⟨k,d,j⟩:_/\_/\_:=by simpa only[Prod.mk.injEq]using l
 rw[←PySem.W.Fast.te4187177175401517315,←PySem.W.Fast.te5923862056798008813]at d
 exact⟨s'.abs,oI f,k,d,j⟩
theorem sV:opening pw=plainProg pw.main.scope.names:=by kernel_rfl
theorem xj(s:Shared):fenceModules? pw s=some s:=by kernel_rfl
theorem HL(w:World):(boot_heap w.params).objs.size=11:=by rfl
theorem HA(w:World):(boot_heap w.params).nsMap mainGlobals "__annotations__"=some (.ref 6):=by kernel_rfl
theorem GJ(w:World):(boot_heap w.params).isNs mainGlobals=true:=by
 have e:(boot_heap w.params).get? mainGlobals=some (boot_o_3 w.params):=by rfl
 unfold Heap.isNs
 rw[e]
 unfold boot_o_3
 simp
theorem xw(w:World)(os:OsState):(Ii w os).abs=⟨boot_heap w.params,#[],boot_drawn,boot_toks,os⟩:=Bw w os
theorem A8{b:Type}{c:Shared->b}{d:World->b}{q:Program}{a:List Str}{Xt:Shared->Bool}
  (h:∀w os,(iD pw w 11 (some (.ref 6)) 7400 (Ii w os) (rS pw)).map (λs=>((staticsOk (importedModules pw.main.body) (boot_heap w.params) s.abs.heap&&namesBound pw s.abs.heap&&gensDone s.abs&&laidKept (boot_heap w.params) s.abs.heap),
   PySem.W.Fast.tw4187177175401517315 q a (PySem.W.Fast.tw5923862056798008813 pw.main.body) Xt true s.abs,c s.abs))=some (true,openGood q a,d w)):
  LeftO pw q a Xt c d 8000:=
 oy (H₀:=boot_heap) (boot_open sV (by decide+kernel) xj) GJ HL HA (by decide+kernel) λw os=>xw w os▸Ca (h w os)
end
section
noncomputable def RA:List Addr:=[3,31,30,44,43,80,79,123,122,193,192,298,297,333,332,387,386,420,419,455,454,483,482,518,517,609,608,665,664,735,734,805,804,120,119,141,140,155,154,162,161,176,175,190,189,204,203,211,210,218,217,225,224,232,231,239,238,246,245,253,252,260,259,274,273,349,348,356,355,403,402,417,416,445,444,452,451,473,472,501,500,529,528,543,542,550,549,557,556,564,563,585,584,592,591,606,605,627,626,634,633,641,640,648,647,655,654,662,661,676,675,683,682,697,696,704,703,711,710,718,717,725,724,732,731,746,745,753,752,767,766,774,773,781,780,788,787,795,794,802,801,816,815,823,822,830,829,837,836,844,843,851,850,856,855,863,862,870,869,875,874,880,879,887,886,892,891,897,896]
noncomputable def Kf(h:Heap):Frag:=RA.filterMap λa=>(h.get? a).map λo=>(a,o)
theorem EI{h:Heap}:(Kf h).In h:=λa o e=>by
 obtain⟨b,_,d⟩:=List.mem_filterMap.mp (gJ e)
 obtain⟨g,f,c⟩:=Option.map_eq_some_iff.mp d
 cases c;exact f
noncomputable def xH(s:Shared):Bool:=xlAt qH [] s&&recOk [] s
noncomputable def yH(K:Frag):=(Ml K,jA.map λp=>CQ K p.1)
noncomputable def aH:=(true,jA.map λp=>some (gr p.2.2,ao p.2.2,ae p.2.2))
def YH(_:World)(h:Heap):Prop:=∃K:Frag,K.In h/\HK K
theorem Hv(w:World)(os:OsState):(iD pw w 11 (some (.ref 6)) 7400 (Ii w os) (rS pw)).map (λs=>((staticsOk (importedModules pw.main.body) (boot_heap w.params) s.abs.heap&&namesBound pw s.abs.heap&&gensDone s.abs&&laidKept (boot_heap w.params) s.abs.heap),
   PySem.W.Fast.tw4187177175401517315 qH Jf (PySem.W.Fast.tw5923862056798008813 pw.main.body) xH true s.abs,yH (Kf s.abs.heap)))=some (true,openGood qH Jf,aH):=by kernel_rfl
theorem GI(w:World)(s:Shared)(e:yH (Kf s.heap)=aH):YH w s.heap:=by
 unfold yH aH at e
 exact⟨_,EI,(Prod.mk.inj e).1,(Prod.mk.inj e).2⟩
theorem zN(w:World)(h h':Heap)(x:YH w h)(k:∀b o,h.get? b=some o->h'.get? b=some o):YH w h':=x.elim λK y=>⟨K,y.1.keeps k,y.2⟩
noncomputable def dH:DefRec:=⟨Str.ofString "law",gr A7,ao A7,ae A7,match A7 with|.FunctionDef _ _ _ _ _ _ _ _ _ p=>p|_=>default⟩
theorem Le:defOf qH (Str.ofString "law")=some (dH,[]):=by kernel_rfl
end
section
theorem yZ:PySem.Challenge.rw_xm0840_01.row.prog=pw:=by kernel_rfl
theorem Ig:LeftO PySem.Challenge.rw_xm0840_01.row.prog qH Jf xH (λs=>yH (Kf s.heap)) (λ_=>aH) 8000:=by
 rw[yZ]
 exact A8 Hv
theorem Gk:PySem.Challenge.rw_xm0840_01.wellSaid=true:=by rw[PySem.W.Fast.te9446332074065402090];kernel_rfl
def CK:Prop:=WalkO qH Jf (XL qH []) YH PySem.Challenge.rw_xm0840_01.row.toRowW dH [] (λf a=>PySem.call f a)
theorem RP:PySem.Challenge.rw_xm0840_01.row.prog.theDef PySem.Challenge.rw_xm0840_01.row.name=some (dH.params,dH.body,dH.scope):=by kernel_rfl
theorem Rr:kwWritten? dH.params.kwonlyargs dH.params.kw_defaults=some []:=by kernel_rfl
theorem QP:(chainsOk qH&&opensWell PySem.Challenge.rw_xm0840_01.row.prog&&(frees PySem.Challenge.rw_xm0840_01.row.toRowW&&PySem.Challenge.rw_xm0840_01.row.within.isEmpty))=true:=by kernel_rfl
theorem RO:PySem.Challenge.rw_xm0840_01.row.prog.bare:=by
 rw[yZ]
 exact⟨by kernel_rfl,by kernel_rfl,by kernel_rfl,by kernel_rfl,by kernel_rfl,by kernel_rfl⟩
theorem QT:PySem.Challenge.rw_xm0840_01.row.toRowW.promised:=⟨[.list []],by kernel_rfl,by kernel_rfl⟩
theorem Qp:defOf qH PySem.Challenge.rw_xm0840_01.row.name=some (dH,[]):=Le
end
section
noncomputable abbrev cB(ext:bj)(k:Nat):bj:=gy F bD ext k
@[irreducible] def Go(cal:bj)(U:SS)(l:aG)(σ:Hp)(Q:Fl->aG->Hp->Prop):Prop:=ji F cal U l σ Q
@[irreducible] def Gx(cal:bj)(e:X)(l:aG)(σ:Hp)(K:PX):Prop:=dc F cal e l σ K
@[irreducible] def tv(cal:bj)(es:XS)(l:aG)(σ:Hp)(K:List AV->Hp->Prop):Prop:=kX F cal es l σ K
@[irreducible] def Gc(cal:bj)(c:C)(l:aG)(σ:Hp)(K:Bool->Hp->Prop):Prop:=Ae F cal c l σ K
@[irreducible] def EL(cal:bj)(c:CS)(l:aG)(σ:Hp)(K:Bool->Hp->Prop):Prop:=rj F cal c l σ K
@[irreducible] def KS(cal:bj)(c:CS)(l:aG)(σ:Hp)(K:Bool->Hp->Prop):Prop:=BE F cal c l σ K
section
variable {cal:bj} {l:aG} {σ Z:Hp} {K:PX} {Q:Fl->aG->Hp->Prop} {U:SS}
def Kt(cal:bj)(U:SS)(Q:Fl->aG->Hp->Prop):Fl->aG->Hp->Prop:=λf l σ=>match f with
 |.next=>Go cal U l σ Q
 |f=>Q f l σ
def Kw(cal:bj)(R:aG->Hp->Prop)(U:SS)(Q:Fl->aG->Hp->Prop):Fl->aG->Hp->Prop:=λf l σ=>match f with
 |.next=>R l σ
 |.cont=>R l σ
 |.brk=>Go cal U l σ Q
 |.ret v=>Q (.ret v) l σ
theorem cx(h:Go cal U l σ Q):Kt cal U Q .next l σ:=by with_unfolding_all exact h
theorem Bp(h:Q .brk l σ):Kt cal U Q .brk l σ:=by with_unfolding_all exact h
theorem RN(h:Q .cont l σ):Kt cal U Q .cont l σ:=by with_unfolding_all exact h
theorem wa{v:AV}(h:Q (.ret v) l σ):Kt cal U Q (.ret v) l σ:=by with_unfolding_all exact h
theorem AJ{R:aG->Hp->Prop}(h:Go cal U l σ Q):Kw cal R U Q .brk l σ:=by with_unfolding_all exact h
theorem Hh{R:aG->Hp->Prop}{v:AV}(h:Q (.ret v) l σ):Kw cal R U Q (.ret v) l σ:=by with_unfolding_all exact h
theorem aR{R:aG->Hp->Prop}(h:R l σ):Kw cal R U Q .next l σ:=by with_unfolding_all exact h
theorem yJ{R:aG->Hp->Prop}(h:R l σ):Kw cal R U Q .cont l σ:=by with_unfolding_all exact h
theorem cV{v:AV}(w:Wk Z σ)(h:K v Z):cO K (.ret v) l σ:=⟨Z,w,h⟩
theorem fX(w:Wk Z σ)(h:K .none Z):cO K .next l σ:=⟨Z,w,h⟩
theorem jT{a:Type}{o:Option a}{v:a}{k:a->Prop}(e:o=some v)(h:k v):op o k:=by rw[e];exact h
section
variable {o:Option (Bool×AO)} {fz:Bool} {xs:List AV} {es:List (Int×AV)} {O G:List AV->Prop} {N:List (Int×AV)->Prop} {J:Nat->List (Nat×AV)->Prop}
theorem eT(e:o=some (fz,.list xs))(h:O xs):Bs o O G N:=by rw[e];exact h
theorem xo(e:o=some (fz,.tup xs))(h:G xs):Bs o O G N:=by rw[e];exact h
theorem wQ(e:o=some (fz,.dict es))(h:N es):Bs o O G N:=by rw[e];exact h
theorem C9{c:Nat}{fs:List (Nat×AV)}(e:o=some (fz,.inst c fs))(h:J c fs):cN o J:=by rw[e];exact h
theorem wF(e:o=some (false,.list xs))(h:O xs):CW o O N J:=by rw[e];exact⟨rfl,h⟩
theorem Nr(e:o=some (false,.dict es))(h:N es):CW o O N J:=by rw[e];exact⟨rfl,h⟩
theorem Nb{c:Nat}{fs:List (Nat×AV)}(e:o=some (false,.inst c fs))(h:J c fs):CW o O N J:=by rw[e];exact⟨rfl,h⟩
end
theorem ak(h:Q .next l σ):Go cal .nil l σ Q:=by with_unfolding_all exact h
theorem az{i:Nat}{e:X}(h:Gx cal e l σ λv Z=>Go cal U (l.set i v) Z Q):Go cal (.cons (.asg i e) U) l σ Q:=by with_unfolding_all exact h
theorem dJ{e:X}(h:Gx cal e l σ λ_ Z=>Go cal U l Z Q):Go cal (.cons (.ex e) U) l σ Q:=by with_unfolding_all exact h
theorem e7{e:X}(h:Gx cal e l σ λv Z=>Q (.ret v) l Z):Go cal (.cons (.ret e) U) l σ Q:=by with_unfolding_all exact h
theorem xd{o e:X}{f:Nat}(h:Gx cal e l σ λv Z=>Gx cal o l Z λa c=>setAttr F.fo a f v c λb=>Go cal U l b Q):Go cal (.cons (.setA o f e) U) l σ Q:=by with_unfolding_all exact h
theorem dz{o i e:X}(h:Gx cal e l σ λv Z=>Gx cal o l Z λa d=>Gx cal i l d λj b=>setItem a j v b λc=>Go cal U l c Q):Go cal (.cons (.setI o i e) U) l σ Q:=by with_unfolding_all exact h
theorem sU{is:List Nat}{e:X}(h:Gx cal e l σ λv Z=>eU is v l Z λa=>Go cal U a Z Q):Go cal (.cons (.asgT is e) U) l σ Q:=by with_unfolding_all exact h
def An(o:BO)(x y:AV)(σ:Hp)(K:PX):Prop:=bV x λx=>bV y λy=>bin o (.int x) (.int y) σ K
theorem CF{o:BO}{x y:Int}(h:bin o (.int x) (.int y) σ K):An o (.int x) (.int y) σ K:=by with_unfolding_all exact h
theorem y8{i:Nat}{o:BO}{x:Int}{e:X}(g:get l i=.int x)(h:Gx cal e l σ λy Z=>An o (.int x) y Z λv a=>Go cal U (l.set i v) a Q):Go cal (.cons (.aug i o e) U) l σ Q:=by
 with_unfolding_all show bV (get l i) _
 rw[g];with_unfolding_all exact h
theorem EX{o e:X}{f:Nat}{op:BO}(h:Gx cal o l σ λa Z=>zA F.fo a f Z λx g=>Gx cal e l g λy b=>An op x y b λv c=>setAttr F.fo a f v c λd=>Go cal U l d Q):Go cal (.cons (.augA o f op e) U) l σ Q:=by with_unfolding_all exact h
theorem Ez{o i e:X}{op:BO}(h:Gx cal o l σ λa Z=>Gx cal i l Z λj g=>nY a j g λx b=>Gx cal e l b λy d=>An op x y d λv f=>setItem a j v f λc=>Go cal U l c Q):Go cal (.cons (.augI o i op e) U) l σ Q:=by with_unfolding_all exact h
theorem bJ{c:C}{a b:SS}(h:Gc cal c l σ λt Z=>(t=true->Go cal a l Z (Kt cal U Q))/\(t=false->Go cal b l Z (Kt cal U Q))):Go cal (.cons (.ite c a b) U) l σ Q:=by with_unfolding_all exact h
theorem uL(h:Q .brk l σ):Go cal (.cons .brk U) l σ Q:=by with_unfolding_all exact h
theorem OM(h:Q .cont l σ):Go cal (.cons .cnt U) l σ Q:=by with_unfolding_all exact h
theorem Cy{b:SS}(h:Go cal b l σ (Kt cal U Q)):Go cal (.cons (.tri b) U) l σ Q:=by with_unfolding_all exact h
theorem Ls{o i:X}(h:Gx cal o l σ λa Z=>Gx cal i l Z λj c=>delItem a j c λb=>Go cal U l b Q):Go cal (.cons (.delI o i) U) l σ Q:=by with_unfolding_all exact h
theorem FP{c:C}{b:SS}(I:Nat->aG->Hp->Prop)(n:Nat)(d:I n l σ)(h:∀n l σ,I n l σ->Gc cal c l σ λt Z=>(t=true->Go cal b l Z (Kw cal (λl σ=>∃m,m<n/\I m l σ) U Q))/\(t=false->Go cal U l Z Q)):Go cal (.cons (.whl c b) U) l σ Q:=
 by with_unfolding_all exact⟨I,⟨n,d⟩,λn l σ a=>h n l σ a⟩
def vQ(r:Addr)(xs:List AV)(σ:Hp):Prop:=∃fz,σ r=some (fz,.list xs)
def fQ(cal:bj)(U:SS)(Q:Fl->aG->Hp->Prop):Fl->aG->Hp->Prop:=λf a Z=>match f with|.next=>Go cal U a Z Q|f=>Q f a Z
def sD(cal:bj)(c:List Nat)(b U:SS)(Q:Fl->aG->Hp->Prop)(a:AV)(l:aG)(σ:Hp):Prop:=kh a λr=>cL (σ r) λxs=>xs.length<=line/\iJ (vQ r xs) c (λl σ P=>Go cal b l σ P) (fQ cal U Q) xs l σ
def vz(cal:bj)(t:Nat)(up:Bool)(b U:SS)(Q:Fl->aG->Hp->Prop)(a c:AV)(l:aG)(σ:Hp):Prop:=bV a λlo=>bV c λd=>(-line<=lo/\lo<=line/\ -line<=d/\d<=line/\(up=true∨d= -1))/\iJ (λ_=>True) [t] (λl σ P=>Go cal b l σ P) (fQ cal U Q) ((if up then aM lo d else dN lo).map .int) l σ
theorem mR{c:List Nat}{d:X}{b:SS}(h:Gx cal d l σ λa Z=>sD cal c b U Q a l Z):Go cal (.cons (.for c d b) U) l σ Q:=by with_unfolding_all exact h
theorem gI{t:Nat}{lo hi:X}{up:Bool}{b:SS}(h:Gx cal lo l σ λa Z=>Gx cal hi l Z λc d=>vz cal t up b U Q a c l d):Go cal (.cons (.forR t lo hi up b) U) l σ Q:=by with_unfolding_all exact h
theorem tH{ok:Hp->Prop}{a:List Nat}{b:SS}{P:List AV->aG->Hp->Prop}(c:∀d l σ,P d l σ->ok σ)
  (step:∀v r l σ (R:aG->Hp->Prop),P (v::r) l σ->(∀l σ,P r l σ->R l σ)->eU a v l σ λe=>Go cal b e σ (Kw cal R U Q)) (done:∀l σ,P [] l σ->Go cal U l σ Q):
  ∀d l σ,P d l σ->iJ ok a (λl σ P=>Go cal b l σ P) (fQ cal U Q) d l σ
 |[],l,σ,h=>done l σ h
 |v::r,l,σ,h=>step v r l σ (λl σ=>ok σ/\iJ ok a (λl σ P=>Go cal b l σ P) (fQ cal U Q) r l σ) h λe Z h'=>⟨c _ _ _ h',tH c step done r e Z h'⟩
theorem GD{r:Addr}{fz:Bool}{xs:List AV}{a:List Nat}{b:SS}(P:List AV->aG->Hp->Prop)(h:σ r=some (fz,.list xs))(len:xs.length<=line)(c:∀f l σ,P f l σ->vQ r xs σ)(e:P xs l σ)
  (step:∀v r l σ (R:aG->Hp->Prop),P (v::r) l σ->(∀l σ,P r l σ->R l σ)->eU a v l σ λd=>Go cal b d σ (Kw cal R U Q)) (done:∀l σ,P [] l σ->Go cal U l σ Q):sD cal a b U Q (.ref r) l σ:=eT h ⟨len,tH c step done xs l σ e⟩
theorem rF{lo hi:Int}(h:lo<hi):aM lo hi=lo::aM (lo+1) hi:=by
 unfold aM
 obtain⟨n,e⟩:=t1 (Int.sub_pos_of_lt h)
 rw[←Int.sub_sub,e,Int.add_sub_cancel,te (x:=(n:Int)+1) (n:=n+1) rfl,te (x:=(n:Int)) rfl,List.range_succ_eq_map,List.map_cons,List.map_map]
 refine congr (congrArg _ (by exact Int.le_antisymm (z0 [_] (.le (.a (.v 0) (.n 0)) (.v 0)) rfl) (z0 [_] (.le (.v 0) (.a (.v 0) (.n 0))) rfl))) (List.map_congr_left λk _=>?_)
 show lo+((k+1:Nat):Int)=lo+1+k
 exact Int.le_antisymm (z0 [_,_] Od rfl) (z0 [_,_] PP rfl)
theorem tD{lo hi:Int}(h:¬lo<hi):aM lo hi=[]:=by
 unfold aM;rw[t0 (Int.sub_nonpos_of_le (il h))];rfl
theorem rc{hi:Int}(h:0<=hi):dN hi=hi::dN (hi-1):=by
 unfold dN
 obtain⟨n,e⟩:=Int.eq_ofNat_of_zero_le h
 rw[Int.sub_add_cancel,te (x:=hi+1) (n:=n+1) (by rw[e];rfl),te (x:=hi) e,List.range_succ_eq_map,List.map_cons,List.map_map]
 refine congr (congrArg _ (by exact Int.le_antisymm (z0 [_] (.le (.a (.v 0) (.g (.n 0))) (.v 0)) rfl) (z0 [_] (.le (.v 0) (.a (.v 0) (.g (.n 0)))) rfl))) (List.map_congr_left λk _=>?_)
 show hi-((k+1:Nat):Int)=hi-1-k
 exact Int.le_antisymm (z0 [_,_] (.le (.a (.v 0) (.g (.a (.v 1) (.n 1)))) (.a (.a (.v 0) (.g (.n 1))) (.g (.v 1)))) rfl) (z0 [_,_] (.le (.a (.a (.v 0) (.g (.n 1))) (.g (.v 1))) (.a (.v 0) (.g (.a (.v 1) (.n 1))))) rfl)
theorem sO{hi:Int}(h:¬0<=hi):dN hi=[]:=by
 unfold dN;rw[t0 (ig h)];rfl
theorem FE{t:Nat}{lo hi:Int}{b:SS}(P:Int->aG->Hp->Prop)(c:0<=lo/\lo<=9000/\0<=hi/\hi<=9000)(p:P lo l σ)
  (step:∀i l σ (R:aG->Hp->Prop),lo<=i->i<hi->P i l σ->(∀l σ,P (i+1) l σ->R l σ)->Go cal b (l.set t (.int i)) σ (Kw cal R U Q)) (done:∀i l σ,lo<=i->hi<=i->(i=lo∨i=hi)->P i l σ->Go cal U l σ Q):vz cal t true b U Q (.int lo) (.int hi) l σ:=by
 have e:=bI
 refine⟨⟨by exact y2 [_,_] Gr 0 1 (-1) Mq Md rfl c.1 (ce e),by exact y2 [_,_] J0 0 1 (-1) jJ t7 rfl c.2.1 (ce e),by exact y2 [_,_] Gr 0 1 (-1) Mq Md rfl c.2.2.1 (ce e),by exact y2 [_,_] J0 0 1 (-1) jJ t7 rfl c.2.2.2 (ce e),.inl rfl⟩,?_⟩
 show iJ _ _ _ _ ((aM lo hi).map .int) l σ
 have:∀n i,(hi-i).toNat=n->lo<=i->(i=lo∨i<=hi)->∀l σ,P i l σ->iJ (λ_=>True) [t] (λl σ P=>Go cal b l σ P) (fQ cal U Q) ((aM i hi).map .int) l σ:=by
  intro n
  induction n with
  |zero=>intro i d a h l σ f;have g:=Int.le_of_sub_nonpos (tz d);rw[tD (fZ g)];exact done i l σ a g (h.imp id λk=>Int.le_antisymm k g) f
  |succ n q=>
   intro i d a h l σ f
   have g:=Int.lt_of_sub_pos (tp d)
   rw[rF g]
   exact step i l σ (λl σ=>True/\iJ (λ_=>True) [t] (λl σ P=>Go cal b l σ P) (fQ cal U Q) ((aM (i+1) hi).map .int) l σ) a g f λm Z j=>⟨trivial,q (i+1) (by rw[←Int.sub_sub];exact t2 d) (Int.le_trans a (Int.le_add_one (Int.le_refl i))) (.inr g) m Z j⟩
 exact this _ lo rfl (Int.le_refl _) (.inl rfl) l σ p
theorem HZ{t:Nat}{hi:Int}{b:SS}(P:Int->aG->Hp->Prop)(f: -1<=hi/\hi<=9000)(m:P hi l σ)
  (step:∀i l σ (R:aG->Hp->Prop),0<=i->i<=hi->P i l σ->(∀l σ,P (i-1) l σ->R l σ)->Go cal b (l.set t (.int i)) σ (Kw cal R U Q)) (done:∀l σ,P (-1) l σ->Go cal U l σ Q):vz cal t false b U Q (.int hi) (.int (-1)) l σ:=by
 have e:=bI
 refine⟨⟨by exact y2 [_,_] Gr 0 1 (-1) (.le (.g (.n 1)) (.v 1)) Md rfl f.1 (ce e),by exact y2 [_,_] J0 0 1 (-1) jJ t7 rfl f.2 (ce e),by exact Int.natCast_nonneg 9999,by exact Int.NonNeg.mk (line+Nat.succ 0),.inr rfl⟩,?_⟩
 show iJ _ _ _ _ ((dN hi).map .int) l σ
 have:∀n i,(i+1).toNat=n-> -1<=i->i<=hi->∀l σ,P i l σ->iJ (λ_=>True) [t] (λl σ P=>Go cal b l σ P) (fQ cal U Q) ((dN i).map .int) l σ:=by
  intro n
  induction n with
  |zero=>intro i c a d l σ h;rw[sO (Int.not_le.mpr (tz c))];exact done l σ (by rw[show(-1:Int)=i from Int.le_antisymm a (Int.le_sub_one_of_lt (tz c))];exact h)
  |succ n p=>
   intro i c a d l σ h
   have g:=Int.le_of_lt_add_one (tp c)
   rw[rc g]
   exact step i l σ (λl σ=>True/\iJ (λ_=>True) [t] (λl σ P=>Go cal b l σ P) (fQ cal U Q) ((dN (i-1)).map .int) l σ) g d h λk Z j=>⟨trivial,p (i-1) (by rw[Int.sub_add_cancel];exact Int.add_sub_cancel i 1▸t2 c) (Int.sub_le_sub_right g 1) (Int.le_trans (Int.sub_le_self i (by decide)) d) k Z j⟩
 exact this _ hi rfl (by exact z1 [_] OO OO rfl f.1) (by exact Int.le_refl hi) l σ m
theorem vx{i j:Nat}{r:Addr}{fz:Bool}{a b:AV}{P:aG->Prop}(h:σ r=some (fz,.tup [a,b]))(k:P ((l.set i a).set j b)):eU [i,j] (.ref r) l σ P:=xo h ⟨Nat.le_of_ble_eq_true rfl,k⟩
theorem Cf{i j m:Nat}{r:Addr}{fz:Bool}{a b c:AV}{P:aG->Prop}(h:σ r=some (fz,.tup [a,b,c]))(k:P (((l.set i a).set j b).set m c)):eU [i,j,m] (.ref r) l σ P:=xo h ⟨Nat.le_of_ble_eq_true rfl,k⟩
theorem iQ{v:AV}(h:K v σ):Gx cal (.k v) l σ K:=by with_unfolding_all exact h
theorem rx{i:Nat}{v:AV}(g:get l i=v)(n:v≠.undef)(h:K v σ):Gx cal (.v i) l σ K:=by
 with_unfolding_all show zK (get l i) _
 rw[g];cases v with
 |undef=>exact(n rfl).elim
 |_=>exact h
theorem dg{o:BO}{a b:X}(h:Gx cal a l σ λx Z=>Gx cal b l Z λy c=>bin o x y c K):Gx cal (.bin o a b) l σ K:=by with_unfolding_all exact h
theorem cG{o:CO}{a b:X}(h:Gx cal a l σ λx Z=>Gx cal b l Z λy d=>cmp o x y d λc=>K (.bool c) d):Gx cal (.cmp o a b) l σ K:=by with_unfolding_all exact h
def O5(cal:bj)(b:X)(l:aG)(K:PX)(x:AV)(Z:Hp):Prop:=Mb x λt=>(t=true->K (.bool true) Z)/\(t=false->Gx cal b l Z K)
theorem Nl{a b:X}(h:Gx cal a l σ λx Z=>O5 cal b l K x Z):Gx cal (.orX a b) l σ K:=by with_unfolding_all exact h
theorem K3{b:X}{x:Bool}(a:x=true->K (.bool true) σ)(c:x=false->Gx cal b l σ K):O5 cal b l K (.bool x) σ:=⟨a,c⟩
theorem GX{c:C}{a b:X}(h:Gc cal c l σ λt Z=>(t=true->Gx cal a l Z K)/\(t=false->Gx cal b l Z K)):Gx cal (.ite c a b) l σ K:=by with_unfolding_all exact h
theorem qE{a i:X}(h:Gx cal a l σ λx Z=>Gx cal i l Z λy b=>nY x y b K):Gx cal (.sub a i) l σ K:=by with_unfolding_all exact h
def xk(K:PX)(x y:AV)(a:Hp):Prop:=sel x False (λ_=>False) (λb=>bV y λn=>(b.length<=line/\0<=n/\n<=line)/\K (.bytes (b.take n.toNat)) a)
 λr=>bV y λn=>cL (a r) λxs=>(xs.length<=line/\0<=n/\n<=line)/\∀c,a c=none->K (.ref c) (upd a c (false,.list (xs.take n.toNat)))
theorem yI{a i:X}(h:Gx cal a l σ λx Z=>Gx cal i l Z λy b=>xk K x y b):Gx cal (.upto a i) l σ K:=by with_unfolding_all exact h
theorem DO{b:List UInt8}{n:Int}(h:b.length<=9000/\0<=n/\n<=9000)(k:K (.bytes (b.take n.toNat)) σ):xk K (.bytes b) (.int n) σ:=⟨⟨by have:=bI;exact m2 [_,_] J0 0 1 (-1) jJ t7 rfl h.1 this,h.2.1,by have:=bI;exact y2 [_,_] J0 0 1 (-1) jJ t7 rfl h.2.2 (ce this)⟩,k⟩
theorem yz{r:Addr}{fz:Bool}{xs:List AV}{n:Int}(g:σ r=some (fz,.list xs))(h:xs.length<=9000/\0<=n/\n<=9000)(k:∀c,σ c=none->K (.ref c) (upd σ c (false,.list (xs.take n.toNat)))):xk K (.ref r) (.int n) σ:=eT g ⟨⟨by have:=bI;exact m2 [_,_] J0 0 1 (-1) jJ t7 rfl h.1 this,h.2.1,by have:=bI;exact y2 [_,_] J0 0 1 (-1) jJ t7 rfl h.2.2 (ce this)⟩,k⟩
def Fv(K:PX)(x y:AV)(a:Hp):Prop:=kh x λr=>bV y λn=>cL (a r) λxs=>(xs.length<=line/\0<=n/\n<=line)/\∀c,a c=none->K (.ref c) (upd a c (false,.list (xs.drop n.toNat)))
theorem Ga{a i:X}(h:Gx cal a l σ λx Z=>Gx cal i l Z λy b=>Fv K x y b):Gx cal (.frm a i) l σ K:=by with_unfolding_all exact h
theorem Fs{r:Addr}{fz:Bool}{xs:List AV}{n:Int}(g:σ r=some (fz,.list xs))(h:xs.length<=9000/\0<=n/\n<=9000)(k:∀c,σ c=none->K (.ref c) (upd σ c (false,.list (xs.drop n.toNat)))):Fv K (.ref r) (.int n) σ:=eT g ⟨⟨by have:=bI;exact m2 [_,_] J0 0 1 (-1) jJ t7 rfl h.1 this,h.2.1,by have:=bI;exact y2 [_,_] J0 0 1 (-1) jJ t7 rfl h.2.2 (ce this)⟩,k⟩
def GZ(K:PX)(vs:List AV)(Z:Hp):Prop:=vs.length<=line/\∀r,Z r=none->K (.ref r) (upd Z r (false,.list vs))
def Gh(K:PX)(vs:List AV)(Z:Hp):Prop:=vs.length<=line/\∀r,Z r=none->K (.ref r) (upd Z r (true,.tup vs))
theorem ud{es:XS}(h:tv cal es l σ λvs Z=>GZ K vs Z):Gx cal (.lst es) l σ K:=by with_unfolding_all exact h
theorem oD{es:XS}(h:tv cal es l σ λvs Z=>Gh K vs Z):Gx cal (.tup es) l σ K:=by with_unfolding_all exact h
theorem bN{n:Nat}(h:n<=9000):n<=line:=by have:=bI;exact m2 [_,_] J0 0 1 (-1) jJ t7 rfl h this
theorem uv{vs:List AV}(h:Nat.ble vs.length 9000=true)(k:∀r,σ r=none->K (.ref r) (upd σ r (false,.list vs))):GZ K vs σ:=⟨bN (Nat.le_of_ble_eq_true h),k⟩
theorem o6{vs:List AV}(h:Nat.ble vs.length 9000=true)(k:∀r,σ r=none->K (.ref r) (upd σ r (true,.tup vs))):Gh K vs σ:=⟨bN (Nat.le_of_ble_eq_true h),k⟩
theorem yc(h:∀r,σ r=none->K (.ref r) (upd σ r (false,.dict []))):Gx cal .dic l σ K:=by with_unfolding_all exact h
theorem BB{f:Nat}{es:XS}(h:tv cal es l σ λvs Z=>cal (F.fa f) vs Z K):Gx cal (.fn f es) l σ K:=by with_unfolding_all exact h
noncomputable def Mw(K:PX)(r:Addr):PX:=λv a=>Eu v (K (.ref r) a)
theorem wv{r:Addr}(h:K (.ref r) σ):Mw K r .none σ:=by with_unfolding_all exact h
def M3(cal:bj)(c:Nat)(K:PX)(vs:List AV)(Z:Hp):Prop:=∀r,Z r=none->ei (F.mi c) (λg=>cal (F.fa g) (.ref r::vs) (upd Z r (false,.inst c [])) λv a=>Eu v (K (.ref r) a))
  (vs=[]/\K (.ref r) (upd Z r (false,.inst c [])))
theorem FX{c:Nat}{es:XS}(h:tv cal es l σ λvs Z=>M3 cal c K vs Z):Gx cal (.mk c es) l σ K:=by with_unfolding_all exact h
theorem Mn{c g:Nat}{vs:List AV}(m:F.mi c=some g)(k:∀r,σ r=none->cal (F.fa g) (.ref r::vs) (upd σ r (false,.inst c [])) (Mw K r)):M3 cal c K vs σ:=λr a=>by rw[m];exact k r a
theorem Ma{c:Nat}(m:F.mi c=none)(k:∀r,σ r=none->K (.ref r) (upd σ r (false,.inst c []))):M3 cal c K [] σ:=λr a=>by rw[m];exact⟨rfl,k r a⟩
def FK(cal:bj)(g:Nat)(es:XS)(l:aG)(K:PX)(a:AV)(Z:Hp):Prop:=kh a λr=>cN (Z r) λc d=>op (F.mt c g) λf=>(d.all λp=>F.fo c p.1)=true/\tv cal es l Z λe b=>cal (F.fa f) (.ref r::e) b K
theorem fO{o:X}{g:Nat}{es:XS}(h:Gx cal o l σ λa Z=>FK cal g es l K a Z):Gx cal (.mth o g es) l σ K:=by with_unfolding_all exact h
theorem fJ{g:Nat}{es:XS}{r:Addr}{fz:Bool}{c f:Nat}{fs:List (Nat×AV)}(h:σ r=some (fz,.inst c fs))(m:F.mt c g=some f)(a:(fs.all λp=>F.fo c p.1)=true)
  (k:tv cal es l σ λvs b=>cal (F.fa f) (.ref r::vs) b K):FK cal g es l K (.ref r) σ:=C9 h (jT m ⟨a,k⟩)
theorem mG{b:BF}{es:XS}(h:tv cal es l σ λvs Z=>eO b vs Z K):Gx cal (.bi b es) l σ K:=by with_unfolding_all exact h
def L7(cal:bj)(b:BM)(es:XS)(l:aG)(K:PX)(a:AV)(Z:Hp):Prop:=kh a λr=>OA b (Z r)/\tv cal es l Z λd c=>jD b (.ref r) d c K
theorem iI{b:BM}{o:X}{es:XS}(h:Gx cal o l σ λa Z=>L7 cal b es l K a Z):Gx cal (.bm b o es) l σ K:=by with_unfolding_all exact h
noncomputable def BM.li:BM->Bool
 |.get=>false
 |_=>true
theorem iW{b:BM}{es:XS}{r:Addr}{fz:Bool}{xs:List AV}(h:σ r=some (fz,.list xs))(n:BM.li b=true)(k:tv cal es l σ λvs a=>jD b (.ref r) vs a K):L7 cal b es l K (.ref r) σ:=⟨by cases b<;>first|exact eT h trivial|exact Bool.noConfusion n,k⟩
theorem LP{es:XS}{r:Addr}{fz:Bool}{xs:List (Int×AV)}(h:σ r=some (fz,.dict xs))(k:tv cal es l σ λvs a=>jD .get (.ref r) vs a K):L7 cal .get es l K (.ref r) σ:=⟨wQ h trivial,k⟩
theorem aD{P:List AV->Hp->Prop}(h:P [] σ):tv cal .nil l σ P:=by with_unfolding_all exact h
theorem aj{e:X}{es:XS}{P:List AV->Hp->Prop}(h:Gx cal e l σ λv Z=>tv cal es l Z λvs a=>P (v::vs) a):tv cal (.cons e es) l σ P:=by with_unfolding_all exact h
section
variable {P:Bool->Hp->Prop}
theorem kL{e:X}(h:Gx cal e l σ λa Z=>mx a Z λb=>P b Z):Gc cal (.t e) l σ P:=by with_unfolding_all exact h
theorem CD{c:C}(h:Gc cal c l σ λb Z=>P (!b) Z):Gc cal (.not c) l σ P:=by with_unfolding_all exact h
theorem ko{a:CS}(h:EL cal a l σ P):Gc cal (.and a) l σ P:=by with_unfolding_all exact h
theorem Df{a:CS}(h:KS cal a l σ P):Gc cal (.or a) l σ P:=by with_unfolding_all exact h
theorem da(h:P true σ):EL cal .nil l σ P:=by with_unfolding_all exact h
theorem bx{c:C}{a:CS}(h:Gc cal c l σ λb Z=>(b=true->EL cal a l Z P)/\(b=false->P false Z)):EL cal (.cons c a) l σ P:=by with_unfolding_all exact h
theorem td(h:P false σ):KS cal .nil l σ P:=by with_unfolding_all exact h
theorem jp{c:C}{a:CS}(h:Gc cal c l σ λb Z=>(b=true->P true Z)/\(b=false->KS cal a l Z P)):KS cal (.cons c a) l σ P:=by with_unfolding_all exact h
end
theorem br{p:Prop}[Decidable p]{A B:Prop}(b:p->A)(a:¬p->B):(decide p=true->A)/\(decide p=false->B):=⟨λh=>b (of_decide_eq_true h),λh=>a (of_decide_eq_false h)⟩
theorem LI{p:Prop}[Decidable p]{A B:Prop}(h:p)(a:A):(decide p=true->A)/\(decide p=false->B):=br (λ_=>a) λn=>(n h).elim
theorem GQ{p:Prop}[Decidable p]{A B:Prop}(h:¬p)(a:B):(decide p=true->A)/\(decide p=false->B):=br (λn=>(h n).elim) λ_=>a
theorem jd{b:Bool}{A B:Prop}(c:b=true->A)(a:b=false->B):(b=true->A)/\(b=false->B):=⟨c,a⟩
theorem eF{A B:Prop}(h:A):(true=true->A)/\(true=false->B):=⟨λ_=>h,λn=>nomatch n⟩
theorem de{A B:Prop}(h:B):(false=true->A)/\(false=false->B):=⟨λn=>(nomatch n),λ_=>h⟩
theorem Gb{p:Prop}[Decidable p]{A B:Prop}(b:¬p->A)(a:p->B):((!decide p)=true->A)/\((!decide p)=false->B):=
 ⟨λh=>b (by cases e:decide p with|true=>rw[e]at h;cases h|false=>exact of_decide_eq_false e),λh=>a (by cases e:decide p with|true=>exact of_decide_eq_true e|false=>rw[e]at h;cases h)⟩
theorem xb{x y:Int}(h:K (.int (x+y)) σ):bin .add (.int x) (.int y) σ K:=by with_unfolding_all exact h
theorem Hu{x y:Int}(c: -(2 ^ 62)<x/\x<2 ^ 62)(h:K (.int (x*y)) σ):bin .mul (.int x) (.int y) σ K:=⟨c,h⟩
theorem E2{x y:Int}(c:0<y/\y<2 ^ 30)(h:K (.int (x/y)) σ):bin .fdiv (.int x) (.int y) σ K:=⟨c,h⟩
theorem G7{x y:Int}(h:K (.int (Builtin.bitOr x y)) σ):bin .bor (.int x) (.int y) σ K:=by with_unfolding_all exact h
theorem Hb{x y:Int}(c:0<=y/\y<=100/\x.natAbs<2 ^ 64)(h:K (.int (x*2 ^ y.toNat)) σ):bin .shl (.int x) (.int y) σ K:=⟨c,h⟩
theorem G1{y:Int}(c:0<=y/\y<=2)(h:K (.int (12 ^ y.toNat)) σ):bin .pow (.int 12) (.int y) σ K:=⟨⟨rfl,c⟩,h⟩
theorem sS{x y:List UInt8}(c:x.length<=9000/\y.length<=9000)(h:K (.bytes (x++y)) σ):bin .add (.bytes x) (.bytes y) σ K:=⟨⟨bN c.1,bN c.2⟩,h⟩
theorem iR{a b:Addr}{f g:Bool}{xs ys:List AV}(e:σ a=some (f,.list xs))(d:σ b=some (g,.list ys))(c:xs.length<=9000/\ys.length<=9000)(h:∀r,σ r=none->K (.ref r) (upd σ r (false,.list (xs++ys)))):bin .add (.ref a) (.ref b) σ K:=eT e (eT d ⟨⟨bN c.1,bN c.2⟩,h⟩)
theorem zR{a:Addr}{f:Bool}{x:AV}{n:Int}(b:σ a=some (f,.list [x]))(c:0<=n/\n<=100)(h:∀r,σ r=none->K (.ref r) (upd σ r (false,.list (List.replicate n.toNat x)))):bin .mul (.ref a) (.int n) σ K:=eT b ⟨c,h⟩
section
variable {P:Bool->Prop}
theorem Nd{x y:Int}(h:P (decide (x=y))):cmp .eq (.int x) (.int y) σ P:=by with_unfolding_all exact h
theorem MF{x y:Int}(h:P (decide (x≠y))):cmp .ne (.int x) (.int y) σ P:=by with_unfolding_all exact h
theorem Hw{x y:Int}(h:P (decide (x<y))):cmp .lt (.int x) (.int y) σ P:=by with_unfolding_all exact h
theorem DU{x y:Int}(h:P (decide (x<=y))):cmp .le (.int x) (.int y) σ P:=by with_unfolding_all exact h
theorem xW{x y:Int}(h:P (decide (y<x))):cmp .gt (.int x) (.int y) σ P:=by with_unfolding_all exact h
theorem HW{x y:Int}(h:P (decide (y<=x))):cmp .ge (.int x) (.int y) σ P:=by with_unfolding_all exact h
theorem Hc{x y:List UInt8}(h:P (decide (x≠y))):cmp .ne (.bytes x) (.bytes y) σ P:=by with_unfolding_all exact h
theorem wI{x y:List UInt8}(h:P (!decide (y<x))):cmp .le (.bytes x) (.bytes y) σ P:=by with_unfolding_all exact h
theorem GK{x y:List UInt8}(h:P (!decide (x<y))):cmp .ge (.bytes x) (.bytes y) σ P:=by with_unfolding_all exact h
noncomputable def Pu(x:AV):Bool:=!Ci x
theorem NL{x:AV}(h:P (Ci x)):cmp .is x .none σ P:=h
theorem D3{x:AV}(h:P (Pu x)):cmp .isnt x .none σ P:=h
theorem G9(h:P false):cmp .ne .none .none σ P:=by with_unfolding_all exact h
theorem EB{x:Int}{a:Addr}{f:Bool}{es:List (Int×AV)}(g:σ a=some (f,.dict es))(h:P (bE es x).isSome):cmp .isin (.int x) (.ref a) σ P:=wQ g h
theorem B5{x:Int}{a:Addr}{f:Bool}{ys:List AV}{ns:List Int}(g:σ a=some (f,.list ys))(e:cI ys=some ns)(h:P (!ns.any (·==x))):cmp .notin (.int x) (.ref a) σ P:=eT g (jT e h)
theorem C6{a b:Addr}{f i:Bool}{xs ys:List AV}{ms ns:List Int}(g:σ a=some (f,.list xs))(d:σ b=some (i,.list ys))(e:cI xs=some ms)(c:cI ys=some ns)(h:P (!decide (ms=ns))):cmp .ne (.ref a) (.ref b) σ P:=eT g (eT d (jT e (jT c h)))
theorem HP{a b:Addr}{f d:Bool}{x y u v:Int}(g:σ a=some (f,.tup [.int x,.int y]))(c:σ b=some (d,.tup [.int u,.int v]))(h:P (decide (u<x∨(u=x/\v<=y)))):cmp .ge (.ref a) (.ref b) σ P:=xo g (xo c h)
theorem dG{b:Bool}(h:P b):mx (.bool b) σ P:=by with_unfolding_all exact h
theorem MG{r:Addr}{f:Bool}{xs:List AV}(g:σ r=some (f,.list xs))(c:xs.length<=9000)(h:P (!xs.isEmpty)):mx (.ref r) σ P:=eT g ⟨bN c,h⟩
end
noncomputable def eY:List (Nat×AV)->Nat->Option AV
 |[],_=>none
 |(g,v)::r,f=>match g==f with|true=>some v|false=>eY r f
theorem qy:∀(fs:List (Nat×AV)) (f:Nat),vI fs f=eY fs f
 |[],f=>rfl
 |(g,v)::r,f=>by
  unfold vI eY
  rw[List.find?_cons]
  cases h:g==f with
  |true=>rfl
  |false=>exact qy r f
theorem Pd{r:Addr}{fz:Bool}{c f:Nat}{fs:List (Nat×AV)}{v:AV}(h:σ r=some (fz,.inst c fs))(e:eY fs f=some v)(o:F.fo c f=true)(k:K v σ):zA F.fo (.ref r) f σ K:=C9 h ⟨o,jT (by rw[qy,e]) k⟩
theorem A9{P:Hp->Prop}{r:Addr}{c f:Nat}{fs:List (Nat×AV)}{v:AV}(h:σ r=some (false,.inst c fs))(o:F.fo c f=true)(n:Nat.ble fs.length 100=true)(k:P (upd σ r (false,.inst c (gE f v fs)))):setAttr F.fo (.ref r) f v σ P:=Nb h ⟨o,Nat.le_of_ble_eq_true n,k⟩
theorem xI{r:Addr}{fz:Bool}{xs:List AV}{i:Nat}{v:AV}(h:σ r=some (fz,.list xs))(n:xs.length<=9000)(e:xs[i]?=some v)(k:K v σ):nY (.ref r) (.int i) σ K:=eT h ⟨bN n,by rw[if_pos (Int.natCast_nonneg i)];exact jT e k⟩
theorem Mi{r:Addr}{fz:Bool}{xs:List AV}{v:AV}(h:σ r=some (fz,.list xs))(n:xs.length<=9000)(e:xs.getLast?=some v)(k:K v σ):nY (.ref r) (.int (-1)) σ K:=eT h ⟨bN n,by rw[if_neg (by decide)];exact⟨rfl,jT e k⟩⟩
theorem FW{r:Addr}{fz:Bool}{xs:List AV}{i:Nat}{v:AV}(h:σ r=some (fz,.tup xs))(n:Nat.ble xs.length 9000=true)(e:xs[i]?=some v)(k:K v σ):nY (.ref r) (.int i) σ K:=xo h ⟨bN (Nat.le_of_ble_eq_true n),Int.natCast_nonneg i,jT e k⟩
theorem LS{r:Addr}{fz:Bool}{es:List (Int×AV)}{i:Int}{v:AV}(h:σ r=some (fz,.dict es))(n:es.length<=9000)(e:bE es i=some v)(k:K v σ):nY (.ref r) (.int i) σ K:=wQ h ⟨bN n,jT e k⟩
section
variable {P:Hp->Prop}
theorem tc{r:Addr}{xs:List AV}{i:Nat}{v:AV}(h:σ r=some (false,.list xs))(n:xs.length<=9000)(b:i<xs.length)(k:P (upd σ r (false,.list (xs.set i v)))):setItem (.ref r) (.int i) v σ P:=wF h ⟨bN n,Int.natCast_nonneg i,dF b,k⟩
theorem B9{r:Addr}{es:List (Int×AV)}{i:Int}{v:AV}(h:σ r=some (false,.dict es))(n:es.length<=9000)(k:P (upd σ r (false,.dict (dZ i v es)))):setItem (.ref r) (.int i) v σ P:=Nr h ⟨bN n,k⟩
theorem Mx{r:Addr}{xs:List AV}{i:Nat}(h:σ r=some (false,.list xs))(n:xs.length<=9000)(b:i<xs.length)(k:P (upd σ r (false,.list (xs.eraseIdx i)))):delItem (.ref r) (.int i) σ P:=wF h ⟨bN n,Int.natCast_nonneg i,dF b,k⟩
end
theorem EF{r:Addr}{fz:Bool}{xs:List AV}(h:σ r=some (fz,.list xs))(n:xs.length<=9000)(k:K (.int xs.length) σ):eO .len [.ref r] σ K:=eT h ⟨bN n,k⟩
theorem BP{b:List UInt8}(n:b.length<=9000)(k:K (.int b.length) σ):eO .len [.bytes b] σ K:=⟨bN n,k⟩
theorem El{b:List UInt8}(n:b.length<=9000)(k:K (.bytes b) σ):eO .bytes [.bytes b] σ K:=⟨bN n,k⟩
theorem lu{r:Addr}{fz:Bool}{xs:List AV}{b:List UInt8}(h:σ r=some (fz,.list xs))(n:xs.length<=8)(e:EN xs=some b)(k:K (.bytes b) σ):eO .bytes [.ref r] σ K:=eT h ⟨n,jT e k⟩
theorem uZ{r:Addr}{fz:Bool}{xs:List AV}(h:σ r=some (fz,.list xs))(n:xs.length<=9000)(k:∀c,σ c=none->K (.ref c) (upd σ c (false,.list xs))):eO .list [.ref r] σ K:=eT h ⟨bN n,k⟩
theorem Bm{r:Addr}{fz:Bool}{xs:List AV}{ns:List Int}(h:σ r=some (fz,.list xs))(n:xs.length<=9000)(e:cI xs=some ns)(p:0<ns.length)(k:∀M,M∈ns->(∀a,a∈ns->M<=a)->K (.int M) σ):eO .min1 [.ref r] σ K:=eT h ⟨bN n,jT e ⟨p,k⟩⟩
theorem Ad{r:Addr}{fz:Bool}{xs:List AV}{ns:List Int}(h:σ r=some (fz,.list xs))(n:xs.length<=60)(e:cI xs=some ns)(k:∀c (a:List Int),σ c=none->a.Perm ns->a.Pairwise (·<=·)->K (.ref c) (upd σ c (false,.list (a.map .int)))):eO .sorted [.ref r] σ K:=eT h ⟨n,by rw[e];exact k⟩
theorem yo{r:Addr}{fz:Bool}{es:List (Int×AV)}(h:σ r=some (fz,.dict es))(n:es.length<=60)(k:∀c (a:List Int),σ c=none->a.Perm (es.map (·.1))->a.Pairwise (·<=·)->K (.ref c) (upd σ c (false,.list (a.map .int)))):eO .sorted [.ref r] σ K:=wQ h ⟨n,k⟩
theorem xL{r:Addr}{fz:Bool}{xs:List AV}{rs:List (Int×Int×Int)}(h:σ r=some (fz,.list xs))(n:xs.length<=60)(d:cI xs=none)(e:dI σ xs=some rs)(f:rs.Nodup)
  (k:∀c (ys:List AV) (ts:List (Int×Int×Int)),σ c=none->ys.Perm xs->dI σ ys=some ts->ts.Perm rs->ts.Pairwise (λa b=>jI a b=true)->K (.ref c) (upd σ c (false,.list ys))):eO .sorted [.ref r] σ K:=eT h ⟨n,by rw[d];exact jT e ⟨f,k⟩⟩
theorem dO{r:Addr}{xs:List AV}{v:AV}(h:σ r=some (false,.list xs))(n:xs.length<=9000)(k:K .none (upd σ r (false,.list (xs++[v])))):jD .append (.ref r) [v] σ K:=wF h ⟨bN n,k⟩
theorem C8{r:Addr}{xs:List AV}{v:AV}{i:Nat}(h:σ r=some (false,.list xs))(n:xs.length<=9000)(b:i<=xs.length)(k:K .none (upd σ r (false,.list (xs.take i++v::xs.drop i)))):jD .insert (.ref r) [.int i,v] σ K:=wF h ⟨bN n,Int.natCast_nonneg i,bF b,k⟩
theorem xN{r:Addr}{xs:List AV}{v:AV}{i:Nat}(h:σ r=some (false,.list xs))(n:xs.length<=9000)(b:xs[i]?=some v)(k:K v (upd σ r (false,.list (xs.take i++xs.drop (i+1))))):jD .pop (.ref r) [.int i] σ K:=wF h ⟨bN n,Int.natCast_nonneg i,jT b k⟩
theorem EJ{r:Addr}{fz:Bool}{es:List (Int×AV)}{i:Int}{d:AV}(h:σ r=some (fz,.dict es))(n:es.length<=9000)(k:K ((bE es i).getD d) σ):jD .get (.ref r) [.int i,d] σ K:=wQ h ⟨bN n,k⟩
end
theorem aB{ext:bj}{k:Nat}{i:Nat}{d:Fd}{as l:List AV}{σ:Hp}{Q:PX}(a:bD (F.fa i)=some d)(b:as.length=d.np)(e:as++List.replicate (d.nl-d.np) .undef=l)(h:Go (cB ext k) d.body l σ (cO Q)):cB ext (k+1) (F.fa i) as σ Q:=by
 show gy F bD ext (k+1) (F.fa i) as σ Q
 unfold gy
 rw[a]
 subst e
 with_unfolding_all exact .inl ⟨b,h⟩
theorem lN{σ:Hp}{a:Addr}{x y:Bool×AO}:upd (upd σ a x) a y=upd σ a y:=by
 funext b
 unfold upd
 by_cases h:b=a<;>simp[h]
theorem pa{σ:Hp}{a:Addr}{o:AO}:Wk (upd σ a (true,o)) (upd σ a (false,o)):=λb c e=>by
 by_cases h:b=a
 ·subst h;rw[ab]at e;cases e;exact⟨_,ab,rfl,λ_=>rfl⟩
 ·rw[ac h]at e ⊢;exact⟨c,e,rfl,id⟩
theorem jU{σ:Hp}{r:Addr}{c:Bool×AO}(h:σ r=none):Wk σ (upd σ r c):=λa b e=>by
 have:a≠r:=λx=>by rw[x,h]at e;cases e
 exact⟨b,by rw[ac this];exact e,rfl,id⟩
theorem ag{σ:Hp}{r a:Addr}{c:Bool×AO}{x:Bool×AO}(h:σ r=none)(e:σ a=some x):upd σ r c a=some x:=by
 have:a≠r:=λy=>by rw[y,h]at e;cases e
 rw[ac this];exact e
theorem aq{σ:Hp}{r a:Addr}{c:Bool×AO}{x:Bool×AO}(h:a≠r)(e:σ a=some x):upd σ r c a=some x:=(ac h).trans e
theorem hG{σ:Hp}{r a:Addr}{c:Bool×AO}{x:Bool×AO}(h:r≠a)(e:σ a=some x):upd σ r c a=some x:=(ac (Ne.symm h)).trans e
theorem cP{σ:Hp}{r a:Addr}{c:Bool×AO}{x y:AO}(h:σ r=some (false,y))(e:σ a=some (true,x)):upd σ r c a=some (true,x):=by
 have:a≠r:=λy=>by rw[y,h]at e;cases e
 rw[ac this];exact e
end
section
section
variable {cal:bj} {l:aG} {σ N:Hp} {K:PX} {Q:Fl->aG->Hp->Prop} {Z:SS}
structure Pe(l:aG)(σ:Hp)(e:X)(v:AV):Prop where
 run:∀(cal:bj) (K:PX),K v σ->Gx cal e l σ K
structure Pc(l:aG)(σ:Hp)(c:C)(b:Bool):Prop where
 run:∀(cal:bj) (K:Bool->Hp->Prop),K b σ->Gc cal c l σ K
structure Ps(l:aG)(σ:Hp)(es:XS)(vs:List AV):Prop where
 run:∀(cal:bj) (K:List AV->Hp->Prop),K vs σ->tv cal es l σ K
variable {e U O:X} {v:AV} {r:Addr} {fz:Bool} {x y:Int} {bs J:List UInt8} {xs:List AV}
noncomputable def bQ(l:aG)(i:Nat):Option AV:=match get l i with
 |.undef=>none
 |.none=>some .none
 |.bool b=>some (.bool b)
 |.int n=>some (.int n)
 |.bytes b=>some (.bytes b)
 |.ref r=>some (.ref r)
noncomputable def FT(o:BO)(x y:Int):Option Int:=match o with
 |.add=>some (x+y)
 |.sub=>some (x-y)
 |.band=>some (Builtin.bitAnd x y)
 |.bor=>some (Builtin.bitOr x y)
 |_=>none
noncomputable def DI(o:CO)(x y:Int):Option Bool:=match o with
 |.eq=>some (decide (x=y))
 |.ne=>some (decide (x≠y))
 |.lt=>some (decide (x<y))
 |.le=>some (decide (x<=y))
 |.gt=>some (decide (y<x))
 |.ge=>some (decide (y<=x))
 |_=>none
noncomputable def ED(o:CO)(x y:List UInt8):Option Bool:=match o with
 |.eq=>some (decide (x=y))
 |.ne=>some (decide (x≠y))
 |.lt=>some (decide (x<y))
 |.le=>some (!decide (y<x))
 |.gt=>some (decide (y<x))
 |.ge=>some (!decide (x<y))
 |_=>none
theorem Ar{o:BO}{z:Int}(w:FT o x y=some z)(k:K (.int z) σ):bin o (.int x) (.int y) σ K:=by
 cases o<;>first|(cases w;done)|(cases w;exact k)
theorem BJ{o:CO}{t:Bool}{P:Bool->Prop}(w:DI o x y=some t)(k:P t):cmp o (.int x) (.int y) σ P:=by
 cases o<;>first|(cases w;done)|(cases w;exact k)
theorem AR{o:CO}{t:Bool}{P:Bool->Prop}(w:ED o bs J=some t)(k:P t):cmp o (.bytes bs) (.bytes J) σ P:=by
 cases o<;>first|(cases w;done)|(cases w;exact k)
noncomputable def oB(xs:List AV)(n:Int):Option AV:=match n with
 |.ofNat i=>xs[i]?
 |.negSucc _=>none
theorem aT:Pe l σ (.k v) v:=⟨λ_ _ h=>by with_unfolding_all exact h⟩
theorem bp{i:Nat}(g:bQ l i=some v):Pe l σ (.v i) v:=⟨λ_ K h=>by
 refine rx (v:=v) ?_ ?_ h
 ·unfold bQ at g;cases e:get l i<;>rw[e]at g<;>first|(exact Option.some.inj g)|cases g
 ·rintro rfl;unfold bQ at g;cases e:get l i<;>rw[e]at g<;>cases g⟩
theorem uM{f c:Nat}{fs:List (Nat×AV)}(h:Pe l σ e (.ref r))(g:σ r=some (fz,.inst c fs))(o:F.fo c f=true)(w:eY fs f=some v):Pe l σ (.at e f) v:=⟨λ_ _ k=>by with_unfolding_all exact h.run _ _ (Pd g w o k)⟩
theorem cJ{o:BO}{z:Int}(b:Pe l σ U (.int x))(a:Pe l σ O (.int y))(w:FT o x y=some z):Pe l σ (.bin o U O) (.int z):=⟨λ_ _ k=>by with_unfolding_all exact b.run _ _ (a.run _ _ (Ar w k))⟩
theorem zF{o:CO}{t:Bool}(a:Pe l σ U (.int x))(b:Pe l σ O (.int y))(w:DI o x y=some t):Pe l σ (.cmp o U O) (.bool t):=⟨λ_ K k=>by with_unfolding_all exact a.run _ _ (b.run _ _ (BJ (P:=λc=>K (.bool c) σ) w k))⟩
theorem lJ{o:CO}{t:Bool}(a:Pe l σ U (.bytes bs))(b:Pe l σ O (.bytes J))(w:ED o bs J=some t):Pe l σ (.cmp o U O) (.bool t):=⟨λ_ K k=>by with_unfolding_all exact a.run _ _ (b.run _ _ (AR (P:=λc=>K (.bool c) σ) w k))⟩
noncomputable abbrev Mp(o:CO)(a b:AV):Option Bool:=match a with
 |.int x=>(match b with|.int y=>DI o x y|_=>none)
 |.bytes x=>(match b with|.bytes y=>ED o x y|_=>none)
 |_=>none
theorem eX{o:CO}{t:Bool}{a b:AV}(d:Pe l σ U a)(c:Pe l σ O b)(w:Mp o a b=some t):Pe l σ (.cmp o U O) (.bool t):=by
 cases a with
 |int x=>cases b with
  |int y=>exact zF d c w
  |_=>cases w
 |bytes x=>cases b with
  |bytes y=>exact lJ d c w
  |_=>cases w
 |_=>cases w
theorem vg{t:Bool}(a:Pe l σ U v)(w:Ci v=t):Pe l σ (.cmp .is U (.k .none)) (.bool t):=w▸⟨λ_ K k=>by with_unfolding_all exact a.run _ _ (iQ (NL (P:=λc=>K (.bool c) σ) k))⟩
theorem hU{t:Bool}(a:Pe l σ U v)(w:Pu v=t):Pe l σ (.cmp .isnt U (.k .none)) (.bool t):=w▸⟨λ_ K k=>by with_unfolding_all exact a.run _ _ (iQ (D3 (P:=λc=>K (.bool c) σ) k))⟩
theorem ft(b:Pe l σ U (.int x))(a:Pe l σ O (.int y))(c: -(2 ^ 62)<x/\x<2 ^ 62):Pe l σ (.bin .mul U O) (.int (x*y)):=⟨λ_ _ k=>by with_unfolding_all exact b.run _ _ (a.run _ _ ⟨c,k⟩)⟩
theorem dX(b:Pe l σ U (.int x))(a:Pe l σ O (.int y))(c:0<y/\y<2 ^ 30):Pe l σ (.bin .fdiv U O) (.int (x/y)):=⟨λ_ _ k=>by with_unfolding_all exact b.run _ _ (a.run _ _ ⟨c,k⟩)⟩
theorem cH(b:Pe l σ U (.int x))(a:Pe l σ O (.int y))(c:0<y):Pe l σ (.bin .mod U O) (.int (x%y)):=⟨λ_ _ k=>by with_unfolding_all exact b.run _ _ (a.run _ _ ⟨c,k⟩)⟩
theorem pB(b:Pe l σ U (.int x))(a:Pe l σ O (.int y))(c:0<=y/\y<=100/\x.natAbs<2 ^ 64):Pe l σ (.bin .shl U O) (.int (x*2 ^ y.toNat)):=⟨λ_ _ k=>by with_unfolding_all exact b.run _ _ (a.run _ _ ⟨c,k⟩)⟩
theorem mP(b:Pe l σ U (.int x))(a:Pe l σ O (.int y))(c:0<=y):Pe l σ (.bin .shr U O) (.int (x.fdiv (2 ^ y.toNat))):=⟨λ_ _ k=>by with_unfolding_all exact b.run _ _ (a.run _ _ ⟨c,k⟩)⟩
theorem js{es:List (Int×AV)}(b:Pe l σ U (.int x))(a:Pe l σ O (.ref r))(g:σ r=some (fz,.dict es)):Pe l σ (.cmp .isin U O) (.bool (bE es x).isSome):=⟨λ_ _ k=>by with_unfolding_all exact b.run _ _ (a.run _ _ (EB g k))⟩
theorem qw{ns:List Int}(a:Pe l σ U (.int x))(b:Pe l σ O (.ref r))(g:σ r=some (fz,.list xs))(w:cI xs=some ns):Pe l σ (.cmp .notin U O) (.bool (!ns.any (·==x))):=⟨λ_ _ k=>by with_unfolding_all exact a.run _ _ (b.run _ _ (B5 g w k))⟩
theorem ND(h:Pe l σ e (.ref r))(g:σ r=some (fz,.list xs))(n:xs.length<=9000):Pe l σ (.bi .len (.cons e .nil)) (.int xs.length):=⟨λ_ _ k=>by with_unfolding_all exact h.run _ _ (EF g n k)⟩
theorem Iu(h:Pe l σ e (.bytes bs))(n:bs.length<=9000):Pe l σ (.bi .len (.cons e .nil)) (.int bs.length):=⟨λ_ _ k=>by with_unfolding_all exact h.run _ _ (BP n k)⟩
theorem zM(h:Pe l σ e (.bytes bs))(n:bs.length<=9000):Pe l σ (.bi .bytes (.cons e .nil)) (.bytes bs):=⟨λ_ _ k=>by with_unfolding_all exact h.run _ _ (El n k)⟩
theorem FO{n:Nat}(b:Pe l σ U (.bytes bs))(a:Pe l σ O (.int n))(c:bs.length<=9000)(d:n<=9000):Pe l σ (.upto U O) (.bytes (bs.take n)):=⟨λ_ _ k=>by with_unfolding_all exact b.run _ _ (a.run _ _ (DO ⟨c,Int.natCast_nonneg _,bF d⟩ k))⟩
theorem aU{x':AV}(h:Pe l σ e v)(w:v=x'):Pe l σ e x':=w▸h
theorem Jx(b:Pe l σ U (.int x))(a:Pe l σ O (.int y)):Pe l σ (.bi .min2 (.cons U (.cons O .nil))) (.int (if y<x then y else x)):=⟨λ_ _ k=>by with_unfolding_all exact b.run _ _ (a.run _ _ k)⟩
theorem F7{n:Int}(b:Pe l σ U (.ref r))(a:Pe l σ O (.int n))(g:σ r=some (fz,.list xs))(c:xs.length<=9000)(w:oB xs n=some v):Pe l σ (.sub U O) v:=⟨λ_ _ k=>by with_unfolding_all exact b.run _ _ (a.run _ _ (by
  cases n with
  |ofNat i=>exact xI g c w k
  |negSucc i=>cases w))⟩
theorem Fq{n:Int}(b:Pe l σ U (.ref r))(a:Pe l σ O (.int n))(g:σ r=some (fz,.tup xs))(c:Nat.ble xs.length 9000=true)(w:oB xs n=some v):Pe l σ (.sub U O) v:=⟨λ_ _ k=>by with_unfolding_all exact b.run _ _ (a.run _ _ (by
  cases n with
  |ofNat i=>exact FW g c w k
  |negSucc i=>cases w))⟩
noncomputable abbrev GT:AO->Nat
 |.list xs=>xs.length
 |.tup xs=>xs.length
 |_=>0
noncomputable abbrev MA(o:AO)(n:Int):Option AV:=match o with
 |.list xs=>oB xs n
 |.tup xs=>oB xs n
 |_=>none
theorem kF{n:Int}{o:AO}(b:Pe l σ U (.ref r))(a:Pe l σ O (.int n))(g:σ r=some (fz,o))(c:GT o<=9000)(w:MA o n=some v):Pe l σ (.sub U O) v:=by
 cases o with
 |list xs=>exact F7 b a g c w
 |tup xs=>exact Fq b a g (Nat.ble_eq_true_of_le c) w
 |_=>cases w
noncomputable def La(bs:List UInt8)(n:Int):Option Int:=match n with
 |.ofNat i=>(match bs[i]? with|some u=>some (u.toNat:Int)|none=>none)
 |.negSucc _=>none
theorem tX{n z:Int}(b:Pe l σ U (.bytes bs))(a:Pe l σ O (.int n))(c:bs.length<=9000)(w:La bs n=some z):Pe l σ (.sub U O) (.int z):=⟨λ_ _ k=>by with_unfolding_all exact b.run _ _ (a.run _ _ (by
  cases n with
  |ofNat i=>
   refine⟨bN c,Int.natCast_nonneg i,?_⟩
   rw[show(Int.ofNat i).toNat=i from rfl]
   dsimp only[La]at w
   cases e:bs[i]? with
   |none=>rw[e]at w;cases w
   |some u=>rw[e]at w;cases w;exact k
  |negSucc i=>cases w))⟩
theorem kx{p q:Prop}[Decidable p][Decidable q](b:¬p)(a:¬q):(decide p||decide q)=false:=by rw[decide_eq_false b,decide_eq_false a];rfl
theorem EZ{es:List (Int×AV)}(b:Pe l σ U (.ref r))(a:Pe l σ O (.int x))(g:σ r=some (fz,.dict es))(n:es.length<=9000)(w:bE es x=some v):Pe l σ (.sub U O) v:=⟨λ_ _ k=>by with_unfolding_all exact b.run _ _ (a.run _ _ (LS g n w k))⟩
theorem za{es:List (Int×AV)}{v d:AV}(c:Pe l σ U (.ref r))(a:Pe l σ e (.int x))(b:Pe l σ O d)(g:σ r=some (fz,.dict es))(n:es.length<=9000)(w:(bE es x).getD d=v):Pe l σ (.bm .get U (.cons e (.cons O .nil))) v:=
 ⟨λ_ _ k=>iI (c.run _ _ (LP g (aj (a.run _ _ (aj (b.run _ _ (aD (EJ g n (by rw[w];exact k)))))))))⟩
theorem aQ:Ps l σ .nil []:=⟨λ_ _ h=>by with_unfolding_all exact h⟩
theorem ax{es:XS}{vs:List AV}(b:Pe l σ e v)(a:Ps l σ es vs):Ps l σ (.cons e es) (v::vs):=⟨λ_ _ k=>by with_unfolding_all exact b.run _ _ (a.run _ _ k)⟩
theorem bR{b:Bool}(h:Pe l σ e (.bool b)):Pc l σ (.t e) b:=⟨λ_ _ k=>by with_unfolding_all exact h.run _ _ k⟩
theorem xp(h:Pe l σ e (.ref r))(g:σ r=some (fz,.list xs))(n:xs.length<=9000):Pc l σ (.t e) (!xs.isEmpty):=⟨λ_ _ k=>by with_unfolding_all exact h.run _ _ (MG g n k)⟩
theorem xG{c:C}{b:Bool}(h:Pc l σ c b):Pc l σ (.not c) (!b):=⟨λ_ _ k=>by with_unfolding_all exact h.run _ _ k⟩
theorem y7{a b:C}{b1 b2:Bool}(d:Pc l σ a b1)(c:b1=true->Pc l σ b b2):Pc l σ (.and (.cons a (.cons b .nil))) (b1&&b2):=⟨λ_ K k=>ko (bx (d.run _ _ (by
 cases b1 with
 |true=>exact eF (bx ((c rfl).run _ _ (by cases b2 with|true=>exact eF (da k)|false=>exact de k)))
 |false=>exact de k)))⟩
theorem rT{a b:C}{b1 b2:Bool}(d:Pc l σ a b1)(c:b1=false->Pc l σ b b2):Pc l σ (.or (.cons a (.cons b .nil))) (b1||b2):=⟨λ_ K k=>Df (jp (d.run _ _ (by
 cases b1 with
 |true=>exact eF k
 |false=>exact de (jp ((c rfl).run _ _ (by cases b2 with|true=>exact eF k|false=>exact de (td k)))))))⟩
theorem hZ{a:C}{b:CS}(c:Pc l σ a false):Pc l σ (.and (.cons a b)) false:=⟨λ_ K k=>by with_unfolding_all exact c.run _ _ (de k)⟩
theorem iA{a:C}{c:CS}{b:Bool}(f:Pc l σ a true)(d:Pc l σ (.and c) b):Pc l σ (.and (.cons a c)) b:=⟨λ_ K k=>by with_unfolding_all exact f.run _ _ (eF (d.run _ _ k))⟩
theorem Ey{a:C}{b:CS}(c:Pc l σ a true):Pc l σ (.or (.cons a b)) true:=⟨λ_ K k=>by with_unfolding_all exact c.run _ _ (eF k)⟩
theorem E1{a:C}{c:CS}{b:Bool}(f:Pc l σ a false)(d:Pc l σ (.or c) b):Pc l σ (.or (.cons a c)) b:=⟨λ_ K k=>by with_unfolding_all exact f.run _ _ (de (d.run _ _ k))⟩
theorem aS(h:Pe l σ e v)(k:K v σ):Gx cal e l σ K:=h.run _ _ k
theorem Bt{es:XS}{vs:List AV}{P:List AV->Hp->Prop}(h:Ps l σ es vs)(k:P vs σ):tv cal es l σ P:=h.run _ _ k
theorem g8{c:C}{b:Bool}{P:Bool->Hp->Prop}(h:Pc l σ c b)(k:P b σ):Gc cal c l σ P:=h.run _ _ k
theorem bG{i:Nat}(h:Pe l σ e v)(k:Go cal Z (l.set i v) σ Q):Go cal (.cons (.asg i e) Z) l σ Q:=az (h.run _ _ k)
theorem fK(h:Pe l σ e v)(k:Q (.ret v) l σ):Go cal (.cons (.ret e) Z) l σ Q:=e7 (h.run _ _ k)
theorem jw{c:C}{a b:SS}{t:Bool}(h:Pc l σ c t)(k1:t=true->Go cal a l σ (Kt cal Z Q))(k2:t=false->Go cal b l σ (Kt cal Z Q)):Go cal (.cons (.ite c a b) Z) l σ Q:=bJ (h.run _ _ ⟨k1,k2⟩)
theorem d6{c:C}{a b:SS}{p:Prop}[Decidable p](h:Pc l σ c (decide p))(k1:p->Go cal a l σ (Kt cal Z Q))(k2:¬p->Go cal b l σ (Kt cal Z Q)):Go cal (.cons (.ite c a b) Z) l σ Q:=bJ (h.run _ _ (br k1 k2))
theorem EM{c:C}{a b:SS}(h:Pc l σ c true)(k1:Go cal a l σ (Kt cal Z Q)):Go cal (.cons (.ite c a b) Z) l σ Q:=bJ (h.run _ _ (eF k1))
theorem AX{c:C}{a b:SS}(h:Pc l σ c false)(k1:Go cal b l σ (Kt cal Z Q)):Go cal (.cons (.ite c a b) Z) l σ Q:=bJ (h.run _ _ (de k1))
theorem gG{c:C}{a:SS}{t:Bool}(h:Pc l σ c t)(n:t=false)(k1:Go cal Z l σ Q):Go cal (.cons (.ite c a .nil) Z) l σ Q:=bJ (h.run _ _ (by rw[n];exact de (ak (cx k1))))
theorem rY{c:C}{a:SS}{p:Prop}[Decidable p](h:Pc l σ c (decide p))(n:¬p)(k1:Go cal Z l σ Q):Go cal (.cons (.ite c a .nil) Z) l σ Q:=gG h (decide_eq_false n) k1
theorem ja{o:X}{f c:Nat}{fs:List (Nat×AV)}(h:Pe l σ e v)(a:Pe l σ o (.ref r))(g:σ r=some (false,.inst c fs))(w:F.fo c f=true)(n:Nat.ble fs.length 100=true)(k:Go cal Z l (upd σ r (false,.inst c (gE f v fs))) Q):Go cal (.cons (.setA o f e) Z) l σ Q:=xd (h.run _ _ (a.run _ _ (A9 g w n k)))
theorem Mv{i:Nat}(g:get l i=.int x)(h:Pe l σ e (.int y))(k:Go cal Z (l.set i (.int (x+y))) σ Q):Go cal (.cons (.aug i .add e) Z) l σ Q:=y8 g (h.run _ _ k)
theorem L9{i:Nat}(g:get l i=.int x)(h:Pe l σ e (.int y))(k:Go cal Z (l.set i (.int (x-y))) σ Q):Go cal (.cons (.aug i .sub e) Z) l σ Q:=y8 g (h.run _ _ k)
theorem E7{i:Nat}(g:get l i=.int x)(h:Pe l σ e (.int y))(c: -(2 ^ 62)<x/\x<2 ^ 62)(k:Go cal Z (l.set i (.int (x*y))) σ Q):Go cal (.cons (.aug i .mul e) Z) l σ Q:=y8 g (h.run _ _ ⟨c,k⟩)
theorem u7{o:X}(a:Pe l σ o (.ref r))(h:Pe l σ e v)(g:σ r=some (false,.list xs))(n:xs.length<=9000)(k:Go cal Z l (upd σ r (false,.list (xs++[v]))) Q):Go cal (.cons (.ex (.bm .append o (.cons e .nil))) Z) l σ Q:=
 dJ (iI (a.run _ _ (iW g rfl (aj (h.run _ _ (aD (dO g n k)))))))
theorem LO{o:X}(a:Pe l (upd σ r (false,.list xs)) o (.ref r))(h:Pe l (upd σ r (false,.list xs)) e v)(n:xs.length<=9000)(k:Go cal Z l (upd σ r (false,.list (xs++[v]))) Q):Go cal (.cons (.ex (.bm .append o (.cons e .nil))) Z) l (upd σ r (false,.list xs)) Q:=
 u7 a h ab n (by rw[lN];exact k)
theorem LL{o:X}{f c:Nat}{fs:List (Nat×AV)}(h:Pe l (upd σ r (false,.inst c fs)) e v)(a:Pe l (upd σ r (false,.inst c fs)) o (.ref r))(w:F.fo c f=true)(n:Nat.ble fs.length 100=true)(k:Go cal Z l (upd σ r (false,.inst c (gE f v fs))) Q):Go cal (.cons (.setA o f e) Z) l (upd σ r (false,.inst c fs)) Q:=
 ja h a ab w n (by rw[lN];exact k)
theorem Dl{o:X}{f c:Nat}{fs:List (Nat×AV)}(a:Pe l σ o (.ref r))(h:Pe l σ e (.int y))(g:σ r=some (false,.inst c fs))(w:eY fs f=some (.int x))(q:F.fo c f=true)(n:Nat.ble fs.length 100=true)(k:Go cal Z l (upd σ r (false,.inst c (gE f (.int (x+y)) fs))) Q):Go cal (.cons (.augA o f .add e) Z) l σ Q:=
 EX (a.run _ _ (Pd g w q (h.run _ _ (CF (xb (A9 g q n k))))))
theorem Il{o:X}{f c:Nat}{fs:List (Nat×AV)}(a:Pe l (upd σ r (false,.inst c fs)) o (.ref r))(h:Pe l (upd σ r (false,.inst c fs)) e (.int y))(w:eY fs f=some (.int x))(q:F.fo c f=true)(n:Nat.ble fs.length 100=true)(k:Go cal Z l (upd σ r (false,.inst c (gE f (.int (x+y)) fs))) Q):Go cal (.cons (.augA o f .add e) Z) l (upd σ r (false,.inst c fs)) Q:=
 Dl a h ab w q n (by rw[lN];exact k)
theorem aV{f:Nat}{es:XS}{vs:List AV}(h:Ps l σ es vs)(k:cal (F.fa f) vs σ K):Gx cal (.fn f es) l σ K:=BB (h.run _ _ k)
theorem aW{o:X}{g c f:Nat}{es:XS}{vs:List AV}{fs:List (Nat×AV)}(b:Pe l σ o (.ref r))(h:σ r=some (fz,.inst c fs))(m:F.mt c g=some f)(a:(fs.all λp=>F.fo c p.1)=true)(hs:Ps l σ es vs)(k:cal (F.fa f) (.ref r::vs) σ K):Gx cal (.mth o g es) l σ K:=
 fO (b.run _ _ (fJ h m a (hs.run _ _ k)))
theorem fV{c g:Nat}{es:XS}{vs:List AV}(hs:Ps l σ es vs)(m:F.mi c=some g)(k:∀r,σ r=none->cal (F.fa g) (.ref r::vs) (upd σ r (false,.inst c [])) (Mw K r)):Gx cal (.mk c es) l σ K:=FX (hs.run _ _ (Mn m k))
theorem O9{c:Nat}(m:F.mi c=none)(k:∀r,σ r=none->K (.ref r) (upd σ r (false,.inst c []))):Gx cal (.mk c .nil) l σ K:=FX (aD (Ma m k))
theorem a8{es:XS}{vs:List AV}(hs:Ps l σ es vs)(n:Nat.ble vs.length 9000=true)(k:∀r,σ r=none->K (.ref r) (upd σ r (false,.list vs))):Gx cal (.lst es) l σ K:=ud (hs.run _ _ (uv n k))
theorem fv{es:XS}{vs:List AV}(hs:Ps l σ es vs)(n:Nat.ble vs.length 9000=true)(k:∀r,σ r=none->K (.ref r) (upd σ r (true,.tup vs))):Gx cal (.tup es) l σ K:=oD (hs.run _ _ (o6 n k))
theorem mF{i:Nat}{P:aG->Prop}(k:P (l.set i v)):eU [i] v l σ P:=k
theorem ay{v:AV}{Q:PX}(h:Q v σ):cO Q (.ret v) l σ:=cV (Wk.refl σ) h
theorem pO{v:AV}{c:Bool×AO}{Q:PX}(a:σ r=none)(h:Q v σ):cO Q (.ret v) l (upd σ r c):=cV (jU a) h
section
variable {A:Type}
theorem G3{r:Addr}{fz:Bool}{xs:List AV}{d:List Nat}{b:SS}(L:A->aG)(H:A->Hp)(P:List AV->A->Prop)(a:A)(o:L a=l)(j:H a=σ)(h:σ r=some (fz,.list xs))(len:xs.length<=9000)(g:∀c a,P c a->vQ r xs (H a))(m:P xs a)
  (step:∀v r a (R:aG->Hp->Prop),P (v::r) a->(∀f,P r f->R (L f) (H f))->eU d v (L a) (H a) λi=>Go cal b i (H a) (Kw cal R Z Q)) (done:∀a,P [] a->Go cal Z (L a) (H a) Q):sD cal d b Z Q (.ref r) l σ:=by
 refine GD (λc l σ=>∃a,l=L a/\σ=H a/\P c a) h (bN len) ?_ ⟨a,o.symm,j.symm,m⟩ ?_ ?_
 ·rintro c l σ ⟨a,rfl,rfl,p⟩;exact g c a p
 ·rintro v r l σ R ⟨a,rfl,rfl,p⟩ n;exact step v r a R p λf k=>n _ _ ⟨f,rfl,rfl,k⟩
 ·rintro l σ ⟨a,rfl,rfl,p⟩;exact done a p
theorem gB{B:Type}{r:Addr}{fz:Bool}{i:List Nat}{b:SS}(bs:List B)(g:B->AV)(L:A->aG)(H:A->Hp)(P:List B->A->Prop)(a:A)(u:L a=l)(o:H a=σ)(h:σ r=some (fz,.list (bs.map g)))(len:bs.length<=9000)(m:∀d a,P d a->vQ r (bs.map g) (H a))(s:P [] a)
  (step:∀c f d a (R:aG->Hp->Prop),bs=c++f::d->P c a->(∀j,P (c++[f]) j->R (L j) (H j))->eU i (g f) (L a) (H a) λn=>Go cal b n (H a) (Kw cal R Z Q)) (done:∀a,P bs a->Go cal Z (L a) (H a) Q):sD cal i b Z Q (.ref r) l σ:=by
 refine G3 L H (λk a=>∃c d,k=d.map g/\bs=c++d/\P c a) a u o h (by rw[List.length_map];exact len) ?_ ⟨[],bs,rfl,rfl,s⟩ ?_ ?_
 ·rintro d a ⟨c,k,_,_,p⟩;exact m c a p
 ·rintro v k a R ⟨c,d,U,O,p⟩ t
  cases d with
  |nil=>cases U
  |cons f d=>
   obtain⟨rfl,rfl⟩:=List.cons.inj U
   exact step c f d a R O p λj q=>t j ⟨c++[f],d,rfl,by rw[O,List.append_assoc];rfl,q⟩
 ·rintro a ⟨c,d,U,O,p⟩
  cases d with
  |nil=>rw[List.append_nil]at O;subst O;exact done a p
  |cons f d=>cases U
theorem jL{t:Nat}{lo hi:Int}{b:SS}(L:A->aG)(H:A->Hp)(P:Int->A->Prop)(a:A)(k:L a=l)(f:H a=σ)(d:0<=lo/\lo<=9000/\0<=hi/\hi<=9000)(h:P lo a)
  (step:∀i a (R:aG->Hp->Prop),lo<=i->i<hi->P i a->(∀c,P (i+1) c->R (L c) (H c))->Go cal b ((L a).set t (.int i)) (H a) (Kw cal R Z Q)) (done:∀i a,lo<=i->hi<=i->(i=lo∨i=hi)->P i a->Go cal Z (L a) (H a) Q):vz cal t true b Z Q (.int lo) (.int hi) l σ:=by
 refine FE (λi l σ=>∃a,l=L a/\σ=H a/\P i a) d ⟨a,k.symm,f.symm,h⟩ ?_ ?_
 ·rintro i l σ R g1 g2 ⟨a,rfl,rfl,p⟩ j;exact step i a R g1 g2 p λc g=>j _ _ ⟨c,rfl,rfl,g⟩
 ·rintro i l σ g1 g2 g3 ⟨a,rfl,rfl,p⟩;exact done i a g1 g2 g3 p
theorem DV{t:Nat}{hi:Int}{b:SS}(L:A->aG)(H:A->Hp)(P:Int->A->Prop)(a:A)(k:L a=l)(f:H a=σ)(d: -1<=hi/\hi<=9000)(h:P hi a)
  (step:∀i a (R:aG->Hp->Prop),0<=i->i<=hi->P i a->(∀c,P (i-1) c->R (L c) (H c))->Go cal b ((L a).set t (.int i)) (H a) (Kw cal R Z Q)) (done:∀a,P (-1) a->Go cal Z (L a) (H a) Q):vz cal t false b Z Q (.int hi) (.int (-1)) l σ:=by
 refine HZ (λi l σ=>∃a,l=L a/\σ=H a/\P i a) d ⟨a,k.symm,f.symm,h⟩ ?_ ?_
 ·rintro i l σ R g1 g2 ⟨a,rfl,rfl,p⟩ j;exact step i a R g1 g2 p λc g=>j _ _ ⟨c,rfl,rfl,g⟩
 ·rintro l σ ⟨a,rfl,rfl,p⟩;exact done a p
theorem lU{c:C}{b:SS}(L:A->aG)(H:A->Hp)(P:A->Prop)(m:A->Nat)(a:A)(i:L a=l)(f:H a=σ)(h:P a)
  (step:∀a (R:aG->Hp->Prop),P a->(∀d,P d->m d<m a->R (L d) (H d))->Gc cal c (L a) (H a) λt N=>(t=true->Go cal b (L a) N (Kw cal R Z Q))/\(t=false->Go cal Z (L a) N Q)):Go cal (.cons (.whl c b) Z) l σ Q:=by
 refine FP (λn l σ=>∃a,l=L a/\σ=H a/\P a/\n=m a) (m a) ⟨a,i.symm,f.symm,h,rfl⟩ ?_
 rintro n l σ ⟨a,rfl,rfl,p,rfl⟩
 exact step a _ p λd g lt=>⟨m d,lt,d,rfl,rfl,g,rfl⟩
theorem eC{B:Type}{r:Addr}{fz:Bool}{k:List Nat}{b:SS}(bs:List B)(g:B->AV)(L:A->aG)(P:List B->A->Hp->Prop)(a:A)(u:L a=l)(h:σ r=some (fz,.list (bs.map g)))(len:bs.length<=9000)(n:∀d a i,P d a i->vQ r (bs.map g) i)(s:P [] a σ)
  (step:∀c f d a i (R:aG->Hp->Prop),bs=c++f::d->P c a i->(∀m j,P (c++[f]) m j->R (L m) j)->eU k (g f) (L a) i λo=>Go cal b o i (Kw cal R Z Q)) (done:∀a i,P bs a i->Go cal Z (L a) i Q):sD cal k b Z Q (.ref r) l σ:=
 gB bs g (λa:A×Hp=>L a.1) Prod.snd (λd a=>P d a.1 a.2) (a,σ) u rfl h len (λd a=>n d a.1 a.2) s (λc f d a R e p t=>step c f d a.1 a.2 R e p λm j q=>t (m,j) q) λa=>done a.1 a.2
theorem dR{t:Nat}{lo hi:Int}{b:SS}(L:A->aG)(P:Int->A->Hp->Prop)(a:A)(m:L a=l)(g:0<=lo/\lo<=9000/\0<=hi/\hi<=9000)(j:P lo a σ)
  (step:∀i a d (R:aG->Hp->Prop),lo<=i->i<hi->P i a d->(∀f c,P (i+1) f c->R (L f) c)->Go cal b ((L a).set t (.int i)) d (Kw cal R Z Q)) (done:∀i a d,lo<=i->hi<=i->(i=lo∨i=hi)->P i a d->Go cal Z (L a) d Q):vz cal t true b Z Q (.int lo) (.int hi) l σ:=
 jL (λa:A×Hp=>L a.1) Prod.snd (λi a=>P i a.1 a.2) (a,σ) m rfl g j (λi a R g1 g2 p k=>step i a.1 a.2 R g1 g2 p λf c h=>k (f,c) h) λi a=>done i a.1 a.2
theorem CG{c:C}{b:SS}(L:A->aG)(P:A->Hp->Prop)(m:A->Nat)(a:A)(g:L a=l)(h:P a σ)
  (step:∀a τ (R:aG->Hp->Prop),P a τ->(∀f d,P f d->m f<m a->R (L f) d)->Gc cal c (L a) τ λt N=>(t=true->Go cal b (L a) N (Kw cal R Z Q))/\(t=false->Go cal Z (L a) N Q)):Go cal (.cons (.whl c b) Z) l σ Q:=
 lU (λa:A×Hp=>L a.1) Prod.snd (λa=>P a.1 a.2) (λa=>m a.1) (a,σ) g rfl h λa R p i=>step a.1 a.2 R p λf d j lt=>i (f,d) j lt
end
def Kj(R:aG->Hp->Prop)(Q:Fl->aG->Hp->Prop):Fl->aG->Hp->Prop:=λf l σ=>match f with
 |.next=>R l σ
 |f=>Q f l σ
theorem bk{R:aG->Hp->Prop}(h:R l σ):Kj R Q .next l σ:=h
theorem Mg{R:aG->Hp->Prop}{v:AV}(h:Q (.ret v) l σ):Kj R Q (.ret v) l σ:=h
theorem bC{A:Type}{c:C}{a b:SS}(L:A->aG)(P:A->Hp->Prop)(h:∀R:aG->Hp->Prop,(∀a d,P a d->R (L a) d)->Gc cal c l σ λt N=>(t=true->Go cal a l N (Kj R Q))/\(t=false->Go cal b l N (Kj R Q)))(rest:∀a d,P a d->Go cal Z (L a) d Q):Go cal (.cons (.ite c a b) Z) l σ Q:=
 bJ (h (λl σ=>Go cal Z l σ Q) rest)
theorem xt{r:Addr}{c:Bool×AO}(w:Wk N σ):Wk (upd N r c) (upd σ r c):=λa d e=>by
 by_cases h:a=r
 ·subst h;rw[ab]at e ⊢;exact⟨_,rfl,congrArg Prod.snd (Option.some.inj e),λh=>by rw[←Option.some.inj e];exact h⟩
 ·rw[ac h]at e ⊢;exact w a d e
end
theorem OX{l:aG}{σ:Hp}{a b:C}{b1 b2:Bool}(d:Pc l σ a b1)(c:Pc l σ b b2):Pc l σ (.and (.cons a (.cons b .nil))) (b1&&b2):=y7 d λ_=>c
theorem NU{l:aG}{σ:Hp}{a b:C}{b1 b2:Bool}(d:Pc l σ a b1)(c:Pc l σ b b2):Pc l σ (.or (.cons a (.cons b .nil))) (b1||b2):=rT d λ_=>c
theorem PM{l:aG}{σ:Hp}{U O:X}{x y:Int}(a:Pe l σ U (.int x))(b:Pe l σ O (.int y))(c:decide (0<y/\y<2 ^ 30)=true):Pe l σ (.bin .fdiv U O) (.int (x/y)):=dX a b (of_decide_eq_true c)
theorem Pp{l:aG}{σ:Hp}{U O:X}{x y:Int}(a:Pe l σ U (.int x))(b:Pe l σ O (.int y))(c:decide (0<y)=true):Pe l σ (.bin .mod U O) (.int (x%y)):=cH a b (of_decide_eq_true c)
set_option compiler.extract_closed false
section
open Lean
def wr(k:Name)(a:List Syntax):Syntax:=.node .none k a.toArray
def JI(a:List Syntax):Syntax:=wr `Lean.Parser.Tactic.tacticSeq [wr `Lean.Parser.Tactic.tacticSeq1Indented [wr `null (a.intersperse .missing)]]
def OP(c:Char):Syntax:=if c=='u' then wr `Lean.Parser.Tactic.withUnfoldingAll [.missing,JI [wr `Lean.Parser.Tactic.exact [.missing,mkIdent `rfl]]] else wr (if c=='e' then `Lean.Parser.Tactic.left else if c=='l' then `Lean.Parser.Tactic.tacticInfer_instance else if c=='s' then `Lean.Parser.Tactic.tacticNofun else if c=='a' then `Lean.Parser.Tactic.assumption else `tacticKernel_rfl) []
def RJ(s:String):Syntax:=wr `group [.missing,JI ((λw=>if w.headD ""=="" then w.tail.flatMap λb=>b.toList.map OP else wr `Lean.Parser.Tactic.apply [.missing,mkIdent (w.headD "").toName]::w.tail.flatMap λb=>b.toList.map OP) (s.splitOn " "))]
def Js(s:String):Syntax:=wr `Lean.Parser.Tactic.withReducible [.missing,JI [wr `Lean.Parser.Tactic.first [.missing,wr `null ((s.splitOn "|").map RJ)]]]
end
end
local macro_rules |`(tactic|infer_instance)=>pure (Js " a| u|Nat.le_of_ble_eq_true u")
local macro_rules |`(tactic|nofun)=>pure (Js "ab| a|ag as|aq as|hG as|cP ss")
local macro_rules |`(tactic|left)=>pure (Js "aT|bp l|uM eskl|vg el|hU el|js ees|cJ eel|eX eel|kF eesll|ND esl|Iu el|tX eell|PM eek|Pp eek|zM el|Jx ee|aQ|ax ee|bR e|xG e|OX ee|NU ee|xp esl")
local macro_rules |`(tactic|right)=>pure (wr `Lean.Parser.Tactic.tacticRepeat_ [.missing,JI [Js "bG e|fK e|LL eekl|ja eeskl|LO eel|u7 eesl|Mv le|L9 le|Il eelkl|Dl eeslkl|mF|eF|de|uL|OM|Cy|ak|cx|Bp|RN|wa|AJ|Hh|kj_b|kj_c|Mg|wv|az|dJ|e7|xd|dz|sU|EX|Ez|Ls|mR|gI|aV e|aW eslke|O9 l|fV el|a8 el|fv el|A9 skl|aS e"]])
section
variable {ext:bj}
noncomputable def bv:Nat->List UInt8
 |0=>[]
 |1=>[97]
 |2=>[97,0]
 |_=>[98]
noncomputable def kW(u s k:Nat):List UInt8:=bv u++[UInt8.ofNat k,UInt8.ofNat s,0,0,0,0,0,0]
theorem uJ:∀{u:Nat},(bv u).length<=2
 |0=>Nat.le_of_ble_eq_true rfl
 |1=>Nat.le_of_ble_eq_true rfl
 |2=>Nat.le_of_ble_eq_true rfl
 |_+3=>Nat.le_of_ble_eq_true rfl
theorem nB{u:Nat}:(bv u).length<=9000:=Nat.le_trans uJ (Nat.le_of_ble_eq_true rfl)
theorem pv{u s k:Nat}:(kW u s k).length=(bv u).length+8:=by unfold kW;rw[List.length_append];rfl
theorem zU{u s k:Nat}:(kW u s k).length<=9000:=by rw[pv];exact Nat.le_trans (Nat.add_le_add_right uJ 8) (Nat.le_of_ble_eq_true rfl)
theorem CY{u s k:Nat}:¬(((kW u s k).length:Int)<8):=by rw[pv];exact fZ (z1 [_] M9 Jm rfl (cz _))
theorem tO{u s k:Nat}:((kW u s k).length:Int)-8=((bv u).length:Nat):=by rw[pv];exact Int.add_sub_cancel (bv u).length 8
theorem gO{u s k j:Nat}:(kW u s k)[(bv u).length+j]?=[UInt8.ofNat k,UInt8.ofNat s,0,0,0,0,0,0][j]?:=by
 unfold kW;rw[List.getElem?_append_right (Nat.le_add_right _ _),Nat.add_sub_cancel_left]
theorem bP{n u s k:Nat}{σ:Hp}{Q:PX}(h:Q (.bytes (bv u)) σ):cB ext (n+1) (F.fa 17) [.bytes (kW u s k)] σ Q:=by
 refine aB (l:=[.bytes (kW u s k)]) LN rfl rfl ?_;show Go _ Jo _ _ _;delta Jo
 have a:=zU (u:=u) (s:=s) (k:=k)
 refine rY (by left) CY ?_
 right
 exact aS (zM (aU (FO (by left) (aU (by left) (congrArg AV.int tO)) a nB) (congrArg AV.bytes List.take_left)) nB) (ay h)
structure Rk(u s k:Nat):Prop where
 u:u<4
 s:s<10
 k:k<2
noncomputable def cu(s k:Nat):Int:=s*256+k
theorem M4:∀k,k<2->∀s,s<10->Builtin.bitOr (Builtin.bitOr (Builtin.bitOr ((UInt8.ofNat k).toNat:Int) (((UInt8.ofNat s).toNat:Int)*2 ^ (8:Int).toNat)) (((0:UInt8).toNat:Int)*2 ^ (16:Int).toNat)) (((0:UInt8).toNat:Int)*2 ^ (24:Int).toNat)=cu s k:=by decide+kernel
theorem LJ:∀k,k<2->∀s,s<10->Builtin.bitOr (cu s k) (cu 0 0*2 ^ (32:Int).toNat)=cu s k:=by decide+kernel
theorem K2(u:UInt8)(n:Int)(h:0<=n/\n<=100):0<=n/\n<=100/\((u.toNat:Int)).natAbs<2 ^ 64:=⟨h.1,h.2,by rw[Int.natAbs_natCast];exact Nat.lt_of_lt_of_le (UInt8.toNat_lt u) (Nat.le_of_ble_eq_true rfl)⟩
theorem pG{b:List UInt8}{i:Nat}{u:UInt8}(h:b[i]?=some u):La b i=some (u.toNat:Int):=by show(match b[i]? with|some u=>some (u.toNat:Int)|none=>none)=_;rw[h]
theorem wP{b:List UInt8}{i:Nat}{u:UInt8}(h:b[i]?=some u):i<b.length:=(be h).1
theorem qS{i:Nat}:¬((i:Int)<0):=fZ (Int.natCast_nonneg i)
theorem oY{n k s i:Nat}{b:List UInt8}{σ:Hp}{Q:PX}(d:k<2)(hs:s<10)(a:b.length<=9000)(g:b[i]?=some (UInt8.ofNat k))(f:b[i+1]?=some (UInt8.ofNat s))(e:b[i+2]?=some 0)(c:b[i+3]?=some 0)
  (h:Q (.int (cu s k)) σ):cB ext (n+1) (F.fa 12) [.bytes b,.int i] σ Q:=by
 refine aB (l:=[.bytes b,.int i]) MR rfl rfl ?_;show Go _ IF _ _ _;delta IF
 have f2:¬((b.length:Int)<(i:Int)+4):=fZ (bF (wP c))
 refine gG (by left) (kx qS f2) ?_
 exact fK (aU (cJ (cJ (cJ (tX (by left) (by left) a (pG g)) (pB (tX (by left) (by left) a (pG f)) aT (K2 _ _ (by decide))) rfl) (pB (tX (by left) (by left) a (pG e)) aT (K2 _ _ (by decide))) rfl)
  (pB (tX (by left) (by left) a (pG c)) aT (K2 _ _ (by decide))) rfl) (congrArg AV.int (M4 k d s hs))) (ay h)
theorem vA{n k s i:Nat}{b:List UInt8}{σ:Hp}{Q:PX}(c:k<2)(hs:s<10)(a:b.length<=9000)(o:b[i]?=some (UInt8.ofNat k))(g:b[i+1]?=some (UInt8.ofNat s))(j:b[i+2]?=some 0)(f:b[i+3]?=some 0)
  (e:b[i+4]?=some 0) (p:b[i+5]?=some 0) (m:b[i+6]?=some 0) (d:b[i+7]?=some 0) (h:Q (.int (cu s k)) σ):cB ext (n+2) (F.fa 13) [.bytes b,.int i] σ Q:=by
 refine aB (l:=[.bytes b,.int i]) Na rfl rfl ?_;show Go _ JV _ _ _;delta JV
 have f2:¬((b.length:Int)<(i:Int)+8):=fZ (bF (wP d))
 refine gG (by left) (kx qS f2) (e7 (dg (aV (by left) (oY c hs a o g j f (dg (aV (by left) (oY (i:=i+4) (s:=0) (k:=0) (by decide) (by decide) a e p m d ?_)))))))
 refine iQ (Hb (by decide) (G7 ?_))
 rw[LJ k c s hs];exact ay h
theorem th{n u s k:Nat}{σ:Hp}{Q:PX}(hs:s<10)(a:k<2)(h:Q (.int (cu s k)) σ):cB ext (n+3) (F.fa 18) [.bytes (kW u s k)] σ Q:=by
 refine aB (l:=[.bytes (kW u s k)]) Mu rfl rfl ?_;show Go _ Jg _ _ _;delta Jg
 have b:=zU (u:=u) (s:=s) (k:=k)
 refine rY (by left) CY ?_
 refine e7 (aV (by left) ?_)
 rw[tO]
 exact vA a hs b (gO (j:=0)) gO gO gO gO gO gO gO (ay h)
noncomputable def CC(u v:Nat):Int:=if u<v then -1 else if v<u then 1 else 0
theorem hF:∀u,u<4->∀v,v<4->(bv u<bv v↔u<v):=by decide+kernel
theorem pQ{n u v:Nat}{a:Addr}{σ:Hp}{Q:PX}(b:u<4)(c:v<4)(h:Q (.int (CC u v)) σ):cB ext (n+1) (F.fa 19) [.ref a,.bytes (bv u),.bytes (bv v)] σ Q:=by
 refine aB (l:=[.ref a,.bytes (bv u),.bytes (bv v)]) Mz rfl rfl ?_;show Go _ JM _ _ _;delta JM
 unfold CC at h
 refine d6 (by left) (λe=>?_) λe=>?_
 ·right;rw[if_pos ((hF u b v c).mp e)]at h;exact ay h
 ·rw[if_neg λx=>e ((hF u b v c).mpr x)]at h
  right
  refine d6 (by left) (λe=>?_) λe=>?_
  ·right;rw[if_pos ((hF v c u b).mp e)]at h;exact ay h
  ·right;rw[if_neg λx=>e ((hF v c u b).mpr x)]at h;exact ay h
noncomputable def jY(u s k v t j:Nat):Int:=if u<v then -1 else if v<u then 1 else if cu t j<cu s k then -1 else if cu s k<cu t j then 1 else 0
def qG(σ:Hp)(a:Addr):Prop:=∃b,σ a=some (true,.inst 11 [(7,.ref b)])/\σ b=some (true,.inst 10 [])
theorem ff{n u s k v t j:Nat}{a:Addr}{σ:Hp}{Q:PX}(i:qG σ a)(d:Rk u s k)(f:Rk v t j)(h:Q (.int (jY u s k v t j)) σ):cB ext (n+4) (F.fa 27) [.ref a,.bytes (kW u s k),.bytes (kW v t j)] σ Q:=by
 obtain⟨m,o,g⟩:=i
 refine aB (l:=[.ref a,.bytes (kW u s k),.bytes (kW v t j),.undef,.undef,.undef]) Nv rfl rfl ?_;show Go _ Cv _ _ _;delta Cv
 refine az (fO (aS (by left) (fJ g rfl (by kernel_rfl) (aj (aV (by left) (bP (aj (aV (by left) (bP (aD ?_))))))))))
 refine pQ d.u f.u ?_
 unfold jY at h
 refine d6 (by left) (λe=>?_) λe=>?_
 ·right
  refine ay ?_
  unfold CC at e ⊢
  by_cases b:u<v
  ·rw[if_pos b]at h ⊢;exact h
  ·rw[if_neg b]at h e ⊢
   by_cases c:v<u
   ·rw[if_pos c]at h ⊢;exact h
   ·rw[if_neg c]at e;exact(e rfl).elim
 ·right
  refine th d.s d.k ?_
  right
  refine th f.s f.k ?_
  unfold CC at e
  by_cases b:u<v
  ·rw[if_pos b]at e;exact(e (by decide)).elim
  ·rw[if_neg b]at h e
   by_cases c:v<u
   ·rw[if_pos c]at e;exact(e (by decide)).elim
   ·rw[if_neg c]at h
    refine d6 (by left) (λe=>?_) λe=>?_
    ·right;rw[if_pos e]at h;exact ay h
    ·rw[if_neg e]at h
     right
     refine d6 (by left) (λe=>?_) λe=>?_
     ·right;rw[if_pos e]at h;exact ay h
     ·right;rw[if_neg e]at h;exact ay h
end
section
variable {ext:bj}
theorem FN:∀k,k<2->∀s,s<10->EN [.int (Builtin.bitAnd (cu s k) 255),.int (Builtin.bitAnd ((cu s k).fdiv (2 ^ (8:Int).toNat)) 255),.int (Builtin.bitAnd ((cu s k).fdiv (2 ^ (16:Int).toNat)) 255),.int ((cu s k).fdiv (2 ^ (24:Int).toNat))]=some [UInt8.ofNat k,UInt8.ofNat s,0,0]:=by decide+kernel
theorem DZ:∀k,k<2->∀s,s<10->Builtin.bitAnd (cu s k) 4294967295=cu s k:=by decide+kernel
theorem Eh:∀k,k<2->∀s,s<10->(cu s k).fdiv (2 ^ (32:Int).toNat)=cu 0 0:=by decide+kernel
theorem CP:∀k,k<2->∀s,s<10->¬cu s k<0/\¬4294967295<cu s k/\¬18446744073709551615<cu s k:=by decide+kernel
theorem qk{n s k:Nat}{σ:Hp}{Q:PX}(hs:s<10)(a:k<2)(h:Q (.bytes [UInt8.ofNat k,UInt8.ofNat s,0,0]) σ):cB ext (n+1) (F.fa 10) [.int (cu s k)] σ Q:=by
 refine aB (l:=[.int (cu s k)]) Nx rfl rfl ?_;show Go _ I4 _ _ _;delta I4
 obtain⟨g1,g2,_⟩:=CP k a s hs
 refine gG (by left) (kx g1 g2) (e7 (mG (aj (a8 (ax (cJ (by left) aT rfl) (ax (cJ (mP (by left) aT (by decide)) aT rfl) (ax (cJ (mP (by left) aT (by decide)) aT rfl) (ax (mP (by left) aT (by decide)) aQ)))) rfl λr b=>aD ?_))))
 exact lu ab (Nat.le_of_ble_eq_true rfl) (FN k a s hs) (pO b h)
theorem zt{n s k:Nat}{σ:Hp}{Q:PX}(hs:s<10)(a:k<2)(h:Q (.bytes [UInt8.ofNat k,UInt8.ofNat s,0,0,0,0,0,0]) σ):cB ext (n+2) (F.fa 11) [.int (cu s k)] σ Q:=by
 refine aB (l:=[.int (cu s k)]) MN rfl rfl ?_;show Go _ Kz _ _ _;delta Kz
 obtain⟨g1,_,g2⟩:=CP k a s hs
 refine gG (by left) (kx g1 g2) (e7 (dg (aV (ax (aU (cJ (by left) aT rfl) (congrArg AV.int (DZ k a s hs))) aQ) (qk hs a
  (aV (ax (aU (mP (by left) aT (by decide)) (congrArg AV.int (Eh k a s hs))) aQ) (qk (s:=0) (k:=0) (by decide) (by decide) ?_))))))
 exact sS ⟨Nat.le_of_ble_eq_true rfl,Nat.le_of_ble_eq_true rfl⟩ (ay h)
theorem Gp:∀k:Nat,k<2->∀s:Nat,s<10->Builtin.bitOr ((s:Int)*2 ^ (8:Int).toNat) (k:Int)=cu s k:=by decide+kernel
theorem AC{n s:Nat}{σ:Hp}{Q:PX}(hs:s<10)(h:Q (.int (cu s 1)) σ):cB ext (n+1) (F.fa 14) [.int s,.int 1] σ Q:=by
 refine aB (l:=[.int s,.int 1]) Lg rfl rfl ?_;show Go _ KI _ _ _;delta KI
 have f2:¬((72057594037927935:Int)<(s:Int)):=by exact fZ (Int.le_trans (bF (Nat.le_of_lt hs)) (by decide))
 refine gG (by left) (kx qS f2) (gG (by left) (by decide) (fK (aU (cJ (pB (by left) aT ⟨by decide,by decide,?_⟩) (by left) rfl) (congrArg AV.int (Gp 1 (by decide) s hs))) (ay h)))
 rw[Int.natAbs_natCast];exact Nat.lt_trans hs (by decide)
theorem AE{n u s:Nat}{σ:Hp}{Q:PX}(hs:s<10)(h:Q (.bytes (kW u s 1)) σ):cB ext (n+3) (F.fa 15) [.bytes (bv u),.int s,.int 1] σ Q:=by
 refine aB (l:=[.bytes (bv u),.int s,.int 1]) LQ rfl rfl ?_;show Go _ Kg _ _ _;delta Kg
 refine e7 (dg (aS (zM (by left) nB) (BB (aj (aV (by left) (AC hs (aD (zt (k:=1) hs (by decide) ?_))))))))
 exact sS ⟨nB,Nat.le_of_ble_eq_true rfl⟩ (ay h)
theorem Dp:∀k:Nat,k<2->∀s:Nat,s<10->Builtin.bitAnd (cu s k) 255=(k:Int):=by decide+kernel
theorem Es:∀k:Nat,k<2->∀s:Nat,s<10->(cu s k).fdiv (2 ^ (8:Int).toNat)=(s:Int):=by decide+kernel
theorem qq{n u s k:Nat}{σ:Hp}{Q:PX}(hs:s<10)(a:k<2)(h:∀r,σ r=none->Q (.ref r) (upd σ r (true,.tup [.bytes (bv u),.int s,.int k]))):cB ext (n+4) (F.fa 16) [.bytes (kW u s k)] σ Q:=by
 refine aB (l:=[.bytes (kW u s k),.undef,.undef,.undef]) Nu rfl rfl ?_;show Go _ CJ _ _ _;delta CJ
 refine az (aV (by left) (bP (az (aV (by left) (th hs a (bG (aU (cJ (by left) aT rfl) (congrArg AV.int (Dp k a s hs))) ?_))))))
 have f:¬((1:Int)<(k:Int)):=fZ (bF (Nat.le_of_lt_succ a))
 refine rY (by left) f (e7 (fv (ax (by left) (ax (aU (mP (by left) aT (by decide)) (congrArg AV.int (Es k a s hs))) (ax (by left) aQ))) rfl λr b=>ay (h r b)))
structure Rw where
 u:Nat
 s:Nat
 k:Nat
 adr:Addr
def Rw.ok(r:Rw):Prop:=Rk r.u r.s r.k
noncomputable def Rw.b(r:Rw):List UInt8:=kW r.u r.s r.k
noncomputable def dw(a b:Rw):Int:=jY a.u a.s a.k b.u b.s b.k
structure FM where
 adr:Addr
 num:Nat
 size:Int
 lo:Rw
 hi:Rw
 rows:List Rw
noncomputable abbrev FM.v(f:FM):AV:=.ref f.adr
def FM.ok(f:FM):Prop:=f.lo.ok/\f.hi.ok
def Fz(σ b:Hp):Prop:=∀a o,σ a=some (true,o)->b a=some (true,o)
theorem Fz.refl(σ:Hp):Fz σ σ:=λ_ _ h=>h
theorem Fz.trans{σ c b:Hp}(h:Fz σ c)(k:Fz c b):Fz σ b:=λa o e=>k a o (h a o e)
theorem Fz.new{σ:Hp}{r:Addr}{c:Bool×AO}(h:σ r=none):Fz σ (upd σ r c):=λ_ _ e=>ag h e
theorem Fz.mut{σ:Hp}{r:Addr}{y:AO}{c:Bool×AO}(h:σ r=some (false,y)):Fz σ (upd σ r c):=λ_ _ e=>cP h e
def aK(σ b:Hp):Prop:=∀a c,σ a=some c->b a=some c
theorem aK.refl(σ:Hp):aK σ σ:=λ_ _ h=>h
theorem aK.trans{σ c b:Hp}(h:aK σ c)(k:aK c b):aK σ b:=λa o e=>k a o (h a o e)
theorem aK.new{σ:Hp}{r:Addr}{c:Bool×AO}(h:σ r=none):aK σ (upd σ r c):=λ_ _ e=>ag h e
theorem aK.fz{σ b:Hp}(h:aK σ b):Fz σ b:=λa o e=>h a _ e
theorem aK.nn{σ b:Hp}(h:aK σ b){a:Addr}(e:b a=none):σ a=none:=by
 cases g:σ a with
 |none=>rfl
 |some c=>rw[h a c g]at e;cases e
theorem aK.wk{σ b:Hp}(h:aK σ b):Wk σ b:=λa c e=>⟨c,h a c e,rfl,id⟩
def mO(σ:Hp)(f:FM):Prop:=σ f.adr=some (true,.inst 14 [(2,.int f.num),(34,.int f.size),(30,.bytes f.lo.b),(35,.bytes f.hi.b)])
def cM(σ:Hp)(fs:List FM):Prop:=∀f∈fs,mO σ f
theorem qG.fz{σ b:Hp}{a:Addr}(h:qG σ a)(k:Fz σ b):qG b a:=by obtain⟨u,d,c⟩:=h;exact⟨u,k _ _ d,k _ _ c⟩
theorem cM.fz{σ a:Hp}{fs:List FM}(h:cM σ fs)(k:Fz σ a):cM a fs:=λf b=>k _ _ (h f b)
def pI(fs:List FM):Prop:=∀f∈fs,f.ok
theorem AB{n:Nat}{a:Addr}{b c:Int}{lo hi:List UInt8}{σ:Hp}{Q:PX}(h:Q .none (upd σ a (true,.inst 14 [(2,.int b),(34,.int c),(30,.bytes lo),(35,.bytes hi)]))):
  cB ext (n+1) (F.fa 38) [.ref a,.int b,.int c,.bytes lo,.bytes hi] (upd σ a (false,.inst 14 [])) Q:=by
 refine aB (l:=[.ref a,.int b,.int c,.bytes lo,.bytes hi]) Ny rfl rfl ?_;show Go _ JN _ _ _;delta JN
 right
 exact fX pa h
noncomputable def gM:List FM->Int
 |[]=>0
 |f::r=>f.size+gM r
theorem j3{f:FM}:∀{fs:List FM},gM (fs++[f])=gM fs+f.size
 |[]=>Int.add_comm _ _
 |g::r=>by show g.size+gM (r++[f])=g.size+gM r+f.size;rw[j3,Int.add_assoc]
theorem aP{B:Type}{bs a b:List B}{f:B}(e:bs=a++f::b):f∈bs:=e▸List.mem_append_right _ (.head _)
theorem nT{n:Nat}{b:Addr}{fz:Bool}{fs:List FM}{σ:Hp}{Q:PX}(d:σ b=some (fz,.list (fs.map FM.v)))(j:cM σ fs)(i:fs.length<=9000)(h:Q (.int (gM fs)) σ):cB ext (n+1) (F.fa 60) [.ref b] σ Q:=by
 refine aB (l:=[.ref b,.undef,.undef]) MT rfl rfl ?_;show Go _ KL _ _ _;delta KL
 right
 refine gB fs FM.v (λa:Int×AV=>[.ref b,.int a.1,a.2]) (λ_=>σ) (λg a=>a.1=gM g) (0,.undef) rfl rfl d i (λ_ _ _=>⟨_,d⟩) rfl ?_ ?_
 ·intro k f g a R e c m
  have o:σ f.adr=_:=j f (aP e)
  right
  exact aR (m (a.1+f.size,_) (by rw[j3,←c]))
 ·intro a c
  right
  rw[c]
  exact ay h
end
section
variable {ext:bj}
theorem qe{a b:Rw}(h:dw a b<0):a.u<=b.u:=by
 unfold dw jY at h
 by_cases e:a.u<b.u
 ·exact Nat.le_of_lt e
 ·rw[if_neg e]at h
  by_cases c:b.u<a.u
  ·rw[if_pos c]at h;exact absurd h (by decide)
  ·exact Nat.le_of_not_lt c
theorem pV{a b:Rw}(h:¬dw a b<0):b.u<=a.u:=by
 unfold dw jY at h
 by_cases e:a.u<b.u
 ·rw[if_pos e]at h;exact absurd (by decide) h
 ·exact Nat.le_of_not_lt e
theorem tQ{a b:Rw}(h:0<dw a b):b.u<=a.u:=pV λx=>absurd (Int.lt_trans h x) (by decide)
theorem tN{a b:Rw}(h:¬0<dw a b):a.u<=b.u:=by
 unfold dw jY at h
 by_cases e:a.u<b.u
 ·exact Nat.le_of_lt e
 ·rw[if_neg e]at h
  by_cases c:b.u<a.u
  ·rw[if_pos c]at h;exact absurd (by decide) h
  ·exact Nat.le_of_not_lt c
theorem rG{n:Nat}{q o:Addr}{fz:Bool}{fs:List FM}{σ:Hp}{Q:PX}(J:σ q=some (fz,.list (fs.map FM.v)))(E:cM σ fs)(U:fs≠[])(ok:pI fs)(V:qG σ o)(w:fs.length<=9000)
  (h:∀(lo hi:Rw) (r:Addr),lo.ok->hi.ok->(∀f∈fs,lo.u<=f.lo.u/\f.hi.u<=hi.u)->σ r=none->Q (.ref r) (upd σ r (true,.tup [.bytes lo.b,.bytes hi.b]))):cB ext (n+5) (F.fa 61) [.ref q,.ref o] σ Q:=by
 have Y:(fs.map FM.v).length<=9000:=by rw[List.length_map];exact w
 cases fs with
 |nil=>exact(U rfl).elim
 |cons m fs=>
 have h5:σ m.adr=_:=E m (.head _)
 refine aB (l:=[.ref q,.ref o,.undef,.undef,.undef]) Ng rfl rfl ?_;show Go _ KZ _ _ _;delta KZ
 right
 refine Ga (aS (by left) (aS (by left) (Fs J ⟨Y,by decide,by decide⟩ λt s=>?_)))
 have z:=Fz.new (c:=(false,.list (fs.map FM.v))) s
 have k:=V.fz z
 obtain⟨uo,o1,o2⟩:=id k
 refine gB fs FM.v (λa:Rw×Rw×AV=>[.ref q,.ref o,.bytes a.1.b,.bytes a.2.1.b,a.2.2]) (λ_=>upd σ t (false,.list (fs.map FM.v))) (λB a=>a.1.ok/\a.2.1.ok/\(∀f,f=m∨f∈B->a.1.u<=f.lo.u/\f.hi.u<=a.2.1.u)) (m.lo,m.hi,.undef) rfl rfl ab (Nat.le_of_succ_le w) (λ_ _ _=>⟨_,ab⟩)
  ⟨(ok m (.head _)).1,(ok m (.head _)).2,λf d=>d.elim (λe=>e▸⟨Nat.le_refl _,Nat.le_refl _⟩) nM⟩ ?_ ?_
 ·intro W g B a R e ⟨k1,k2,k3⟩ Z
  have A:=List.mem_cons_of_mem m (aP e)
  have h6:=z _ _ (E g A)
  have p:=ok g A
  have fin:∀i j:Rw,i.ok->j.ok->i.u<=a.1.u->i.u<=g.lo.u->a.2.1.u<=j.u->g.hi.u<=j.u->R _ _:=λi j I N D O G w6=>Z (i,j,.ref g.adr) ⟨I,N,λf d=>by
   rcases d with d|d
   ·exact⟨Nat.le_trans D (k3 f (.inl d)).1,Nat.le_trans (k3 f (.inl d)).2 G⟩
   ·rcases aE d with d|d
    ·exact⟨Nat.le_trans D (k3 f (.inr d)).1,Nat.le_trans (k3 f (.inr d)).2 G⟩
    ·rw[aw d];exact⟨O,w6⟩⟩
  right
  refine bJ (kL (cG ?_))
  right
  refine ff k p.1 k1 (iQ (Hw (dG (br (λx=>?_) λx=>?_))))
  ·right
   refine bJ (kL (cG ?_))
   right
   refine ff k p.2 k2 (iQ (xW (dG (br (λy=>?_) λy=>?_))))
   ·right;exact aR (fin g.lo g.hi p.1 p.2 (qe x) (Nat.le_refl _) (tQ y) (Nat.le_refl _))
   ·right;exact aR (fin g.lo a.2.1 p.1 k2 (qe x) (Nat.le_refl _) (Nat.le_refl _) (tN y))
  ·right
   refine bJ (kL (cG ?_))
   right
   refine ff k p.2 k2 (iQ (xW (dG (br (λy=>?_) λy=>?_))))
   ·right;exact aR (fin a.1 g.hi k1 p.2 (Nat.le_refl _) (pV x) (tQ y) (Nat.le_refl _))
   ·right;exact aR (fin a.1 a.2.1 k1 k2 (Nat.le_refl _) (pV x) (Nat.le_refl _) (tN y))
 ·intro a ⟨k1,k2,k3⟩
  right
  intro r K
  exact cV (xt (jU s)) (h a.1 a.2.1 r k1 k2 (λf d=>k3 f (au d)) (aK.nn (aK.new s) K))
def ye(σ:Hp)(p op o:Addr):Prop:=σ p=some (true,.inst 19 [(51,.ref op),(44,.ref o)])
theorem iq{n:Nat}{p op a o:Addr}{fz:Bool}{fs:List FM}{σ:Hp}{Q:PX}(k:ye σ p op o)(d:σ a=some (fz,.list (fs.map FM.v)))(g:cM σ fs)(i:fs≠[])(ok:pI fs)(j:qG σ o)(c:fs.length<=9000)
  (h:∀(lo hi:Nat) (r:Addr),lo<4->hi<4->(∀f∈fs,lo<=f.lo.u/\f.hi.u<=hi)->σ r=none->Q (.ref r) (upd σ r (true,.tup [.bytes (bv lo),.bytes (bv hi)]))):cB ext (n+6) (F.fa 72) [.ref p,.ref a] σ Q:=by
 unfold ye at k
 refine aB (l:=[.ref p,.ref a,.undef]) NJ rfl rfl ?_;show Go _ K1 _ _ _;delta K1
 right
 refine rG d g i ok j c λlo hi t k1 k2 k3 b=>?_
 refine e7 (oD (aj ?_))
 right
 refine bP (aj ?_)
 right
 refine bP (aD (o6 rfl λr e=>?_))
 exact cV (xt (jU b)) (h lo.u hi.u r k1.u k2.u k3 (aK.nn (aK.new b) e))
end
section
variable {ext:bj}
structure bM where
 adr:Addr
 fs:List FM
noncomputable abbrev bM.v(L:bM):AV:=.ref L.adr
structure bo where
 adr:Addr
 fl:Addr
 o:Addr
 sc:Addr
 lv:List bM
 top:Int
 bot:Int
 bl:Int
structure dP(b:Bool)(σ:Hp)(V:bo):Prop where
 v:σ V.adr=some (b,.inst 16 [(21,.int V.lv.length),(44,.ref V.o),(45,.ref V.fl),(46,.int 0),(0,.ref V.sc),(1,.int V.bl)])
 o:qG σ V.o
 fl:σ V.fl=some (b,.list (V.lv.map bM.v))
 lv:∀L∈V.lv,σ L.adr=some (b,.list (L.fs.map FM.v))
 fs:∀L∈V.lv,cM σ L.fs
 sc:σ V.sc=some (true,.tup [.int V.top,.int V.bot])
theorem dP.fz{σ b:Hp}{V:bo}(h:dP true σ V)(k:Fz σ b):dP true b V:=⟨k _ _ h.v,h.o.fz k,k _ _ h.fl,λL a=>k _ _ (h.lv L a),λL a=>(h.fs L a).fz k,k _ _ h.sc⟩
theorem dP.up{b:Bool}{σ c:Hp}{V:bo}(h:dP b σ V)(k:aK σ c):dP b c V:=⟨k _ _ h.v,h.o.fz k.fz,k _ _ h.fl,λL a=>k _ _ (h.lv L a),λL a=>(h.fs L a).fz k.fz,k _ _ h.sc⟩
structure rB(V:bo):Prop where
 n:V.lv.length<=7
 f:(V.lv.flatMap bM.fs).length<=60
theorem rB.len{V:bo}(h:rB V){L:bM}(a:L∈V.lv):L.fs.length<=60:=by
 refine Nat.le_trans ?_ h.f
 obtain⟨s,t,e⟩:=List.append_of_mem a
 rw[e,List.flatMap_append,List.flatMap_cons,List.length_append,List.length_append]
 exact Nat.le_trans (Nat.le_add_right _ _) (Nat.le_add_left _ _)
theorem bh{a b:Nat}(h:a<=b)(k:Nat.ble b 9000=true):a<=9000:=Nat.le_trans h (Nat.le_of_ble_eq_true k)
theorem bS{B:Type}{bs:List B}{g:B->AV}{i:Nat}{f:B}(h:bs[i]?=some f):oB (bs.map g) i=some (g f):=by
 show(bs.map g)[i]?=_
 rw[List.getElem?_map,h];rfl
theorem aO{B:Type}{bs:List B}{g:B->AV}(h:bs.length<=9000):(bs.map g).length<=9000:=by rw[List.length_map];exact h
structure Gs where
 n1:Nat:=0
 n2:Nat:=0
 z1:Int:=0
 z2:Int:=0
 a1:Addr:=0
 a2:Addr:=0
 v1:AV:=.undef
 v2:AV:=.undef
 v3:AV:=.undef
 v4:AV:=.undef
 o1:Option Nat:=none
 o2:Option Nat:=none
 h:Hp:=λ_=>none
noncomputable def ov:Option Nat->AV
 |none=>.none
 |some n=>.bytes (bv n)
theorem xK{o:Option Nat}:ov o≠.undef:=by
 cases o with
 |none=>exact uN
 |some n=>exact uY
theorem fp{l:aG}{i:Nat}{v:AV}(g:get l i=v)(n:v≠.undef):bQ l i=some v:=by
 unfold bQ;rw[g];cases v<;>first|rfl|exact(n rfl).elim
theorem jo{l:aG}{σ:Hp}{c:C}{b:Bool}(h:Pc l σ c b):Pc l σ (.and (.cons c .nil)) b:=⟨λ_ K k=>ko (bx (h.run _ _ (by cases b with|true=>exact eF (da k)|false=>exact de k)))⟩
theorem Ck{l:aG}{σ:Hp}{i j x:Nat}{lo:Option Nat}(g:get l i=ov lo)(c:bQ l j=some (.bytes (bv x)))(a:x<4)(b:∀n,lo=some n->n<4):Pc l σ (.and (.cons (.t (.cmp .isnt (.v i) (.k .none))) (.cons (.t (.cmp .lt (.v j) (.v i))) .nil))) (decide (x<lo.getD 0)):=by
 cases lo with
 |none=>rw[show decide (x<Option.getD none 0)=false from decide_eq_false (Nat.not_lt_zero x)];exact hZ (bR (hU (bp (fp g uN)) rfl))
 |some n=>
  have e:=bp (σ:=σ) (fp g uY)
  rw[show decide (x<(some n).getD 0)=decide (bv x<bv n)from decide_eq_decide.mpr (hF x a n (b n rfl)).symm]
  exact iA (bR (hU e rfl)) (jo (bR (lJ (bp c) e rfl)))
theorem Cq{l:aG}{σ:Hp}{i j x:Nat}{hi:Option Nat}(g:get l i=ov hi)(c:bQ l j=some (.bytes (bv x)))(a:x<4)(b:∀n,hi=some n->n<4):Pc l σ (.and (.cons (.t (.cmp .isnt (.v i) (.k .none))) (.cons (.t (.cmp .gt (.v j) (.v i))) .nil))) (decide (hi.getD 3<x)):=by
 cases hi with
 |none=>rw[show decide (Option.getD none 3<x)=false from decide_eq_false (iG (Nat.le_of_lt_succ a))];exact hZ (bR (hU (bp (fp g uN)) rfl))
 |some n=>
  have e:=bp (σ:=σ) (fp g uY)
  rw[show decide ((some n).getD 3<x)=decide (bv n<bv x)from decide_eq_decide.mpr (hF n (b n rfl) x a).symm]
  exact iA (bR (hU e rfl)) (jo (bR (lJ (bp c) e rfl)))
noncomputable def cK(lo hi:Nat)(f:FM):Bool:=decide (lo<=f.hi.u)&&decide (f.lo.u<=hi)
theorem sW{B:Type}{bs:List B}{i:Nat}{f:B}(h:bs[i]?=some f):bs.take (i+1)=bs.take i++[f]:=by rw[List.take_succ,h];rfl
theorem H9{B:Type}{bs:List B}{i:Nat}{f:B}{p:B->Bool}(h:bs[i]?=some f)(y:p f=true):(bs.take (i+1)).filter p=(bs.take i).filter p++[f]:=by
 rw[sW h,List.filter_append,List.filter_cons,if_pos y];rfl
theorem uW{B:Type}{bs:List B}{i:Nat}{f:B}{p:B->Bool}(h:bs[i]?=some f)(y:p f=false):(bs.take (i+1)).filter p=(bs.take i).filter p:=by
 rw[sW h,List.filter_append,List.filter_cons,if_neg (by rw[y];exact fT)];exact List.append_nil _
theorem aK.upd{σ b:Hp}{r:Addr}{c:Bool×AO}(h:aK σ b)(n:σ r=none):aK σ (upd b r c):=λa d e=>by
 have:a≠r:=λx=>by rw[x,n]at e;cases e
 rw[ac this];exact h a d e
theorem sY{σ b:Hp}{r:Addr}{fz:Bool}{o:AO}(h:aK σ b)(e:b r=some (fz,o)):Wk (upd σ r (true,o)) b:=λa c g=>by
 by_cases x:a=r
 ·subst x;rw[ab]at g;cases g;exact⟨_,e,rfl,λ_=>rfl⟩
 ·rw[ac x]at g;exact⟨c,h a c g,rfl,id⟩
theorem xC{lo hi:Nat}{f:FM}(h:f.hi.u<lo):cK lo hi f=false:=by unfold cK;rw[decide_eq_false (eK h)];rfl
theorem y0{lo hi:Nat}{f:FM}(h:hi<f.lo.u):cK lo hi f=false:=by unfold cK;rw[decide_eq_false (eK h)];exact Bool.and_false _
theorem DC{lo hi:Nat}{f:FM}(h:¬f.hi.u<lo)(k:¬hi<f.lo.u):cK lo hi f=true:=by unfold cK;rw[decide_eq_true (Nat.not_lt.mp h),decide_eq_true (Nat.not_lt.mp k)];rfl
theorem GH{d b n i m j:Nat}(h:d<b)(c:j<=n):d*(n+1)+(n-j)<b*(n+1)+(m-i):=by
 have:(d+1)*(n+1)<=b*(n+1):=Nat.mul_le_mul_right _ h
 rw[Nat.succ_mul]at this
 exact n2 [_,_,_,_,_] (.le (.a (.a (.v 0) (.v 1)) (.n 1)) (.a (.v 2) (.v 3))) (.le (.a (.v 0) (.a (.v 4) (.n 1))) (.v 2)) (.le (.v 1) (.v 4)) rfl this (Nat.sub_le (n) (j))
theorem Lj{B:Type}{bs:List B}{i:Nat}{p:B->Bool}{g:B->AV}(h:bs.length<=9000):(((bs.take i).filter p).map g).length<=9000:=by
 rw[List.length_map]
 exact Nat.le_trans (List.length_filter_le _ _) (Nat.le_trans (List.length_take_le' _ _) h)
theorem iu{n k:Nat}{b:Bool}{lo hi:Option Nat}{V:bo}{L:bM}{σ:Hp}{Q:PX}(hV:dP b σ V)(sm:rB V)(hk:V.lv[k]?=some L)(ok:pI L.fs)(γ:∀n,lo=some n->n<4)(β:∀n,hi=some n->n<4)
  (h:∀j o:Nat,j<=lo.getD 0->hi.getD 3<=o->(k≠0->j=lo.getD 0/\o=hi.getD 3)->(k=0->∀f∈L.fs.filter (cK j o),j<=f.lo.u/\f.hi.u<=o)->∀r,σ r=none->Q (.ref r) (upd σ r (true,.list ((L.fs.filter (cK j o)).map FM.v)))):
  cB ext (n+2) (F.fa 45) [.ref V.adr,.int k,ov lo,ov hi] σ Q:=by
 have hL:L∈V.lv:=List.mem_of_getElem? hk
 have ll:=bh (sm.len hL) rfl
 have lm:=aO (g:=FM.v) ll
 have e1:=aO (g:=bM.v) (bh sm.n rfl)
 have e2:=bS (g:=bM.v) hk
 refine aB (l:=[.ref V.adr,.int k,ov lo,ov hi,.undef,.undef,.undef,.undef,.undef,.undef,.undef]) MK rfl rfl ?_;show Go _ JS _ _ _;delta JS
 refine az (rx rfl xK (az (rx rfl xK ?_)))
 right
 intro f0 J
 right
 refine lU (λa:Gs=>[.ref V.adr,.int k,ov lo,ov hi,ov a.o1,ov a.o2,.ref a.a1,.int a.n1,a.v1,a.v2,a.v3]) Gs.h
  (λa=>aK σ a.h/\σ a.a1=none/\a.h a.a1=some (false,.list (((L.fs.take a.n1).filter (cK (a.o1.getD 0) (a.o2.getD 3))).map FM.v))/\a.n1<=L.fs.length/\(∀n,a.o1=some n->n<4)/\(∀n,a.o2=some n->n<4)/\
   a.o1.getD 0<=lo.getD 0/\hi.getD 3<=a.o2.getD 3/\(k≠0->a.o1=lo/\a.o2=hi)/\(k=0->∀f∈(L.fs.take a.n1).filter (cK (a.o1.getD 0) (a.o2.getD 3)),a.o1.getD 0<=f.lo.u/\f.hi.u<=a.o2.getD 3))
  (λa=>(a.o1.getD 0+(3-a.o2.getD 3))*(L.fs.length+1)+(L.fs.length-a.n1)) {o1:=lo,o2:=hi,a1:=f0,h:=_} rfl rfl
  ⟨aK.new J,J,ab,Nat.zero_le _,γ,β,Nat.le_refl _,Nat.le_refl _,λ_=>⟨rfl,rfl⟩,λ_ f c=>nM c⟩ ?_
 intro a R ⟨I,D,N,p4,y,B,E,A,G,q⟩ K
 have Y:=hV.up I
 have v1:=Y.v
 have v2:=Y.fl
 have v3:=Y.lv L hL
 refine g8 (by left) (br (λx=>?_) λx=>?_)
 ·obtain⟨f,c⟩:∃f,L.fs[a.n1]?=some f:=⟨_,List.getElem?_eq_getElem (by rw[List.length_map]at x;exact cq x)⟩
  have fm:=List.mem_of_getElem? c
  have e3:=bS (g:=FM.v) c
  have hm:=Y.fs L hL f fm
  have t:=ok f fm
  unfold mO at hm
  right
  refine bP ?_
  right
  refine bP ?_
  right
  have ww:a.n1<L.fs.length:=(be c).1
  refine d6 (Ck rfl rfl t.2.u y) (λW=>?_) λW=>?_
  ·right
   exact yJ (K {a with n1:=a.n1+1,v1:=_,v2:=_,v3:=_} ⟨I,D,by rw[uW c (xC W)];exact N,ww,y,B,E,A,G,by rw[uW c (xC W)];exact q⟩ (Nat.add_lt_add_left (by show _-(a.n1+1)<_-a.n1;exact n2 [_,_,_,_] J2 zr zG rfl (Nat.sub_add_cancel (n:=L.fs.length) (m:=a.n1+1) (n1 [_,_] (.le (.a (.v 0) (.n 1)) (.v 1)) (.le (.a (.v 0) (.n 1)) (.v 1)) rfl ww)) (sb (L.fs.length) (a.n1))) _))
  right
  refine d6 (Cq rfl rfl t.1.u B) (λU=>?_) λU=>?_
  ·right
   exact yJ (K {a with n1:=a.n1+1,v1:=_,v2:=_,v3:=_} ⟨I,D,by rw[uW c (y0 U)];exact N,ww,y,B,E,A,G,by rw[uW c (y0 U)];exact q⟩ (Nat.add_lt_add_left (by show _-(a.n1+1)<_-a.n1;exact n2 [_,_,_,_] J2 zr zG rfl (Nat.sub_add_cancel (n:=L.fs.length) (m:=a.n1+1) (n1 [_,_] (.le (.a (.v 0) (.n 1)) (.v 1)) (.le (.a (.v 0) (.n 1)) (.v 1)) rfl ww)) (sb (L.fs.length) (a.n1))) _))
  have pl:=Lj (i:=a.n1) (p:=cK (a.o1.getD 0) (a.o2.getD 3)) (g:=FM.v) ll
  have fy:=H9 (p:=cK (a.o1.getD 0) (a.o2.getD 3)) c (DC W U)
  right
  have w:aK σ (upd a.h a.a1 (false,.list (((L.fs.take a.n1).filter (cK (a.o1.getD 0) (a.o2.getD 3))).map FM.v++[f.v]))):=I.upd D
  have s:(k=0->a.o1.getD 0<=f.lo.u/\f.hi.u<=a.o2.getD 3)->R [.ref V.adr,.int k,ov lo,ov hi,ov a.o1,ov a.o2,.ref a.a1,.int (a.n1+1:Nat),f.v,.bytes (bv f.lo.u),.bytes (bv f.hi.u)] (upd a.h a.a1 (false,.list (((L.fs.take a.n1).filter (cK (a.o1.getD 0) (a.o2.getD 3))).map FM.v++[f.v]))):=λhc=>
   K {a with n1:=a.n1+1,v1:=_,v2:=_,v3:=_,h:=_} ⟨w,D,by rw[fy,List.map_append];exact ab,ww,y,B,E,A,G,λe g d=>by
    rw[fy]at d
    rcases aE d with d|d
    ·exact q e g d
    ·rw[aw d];exact hc e⟩ (Nat.add_lt_add_left (by show _-(a.n1+1)<_-a.n1;exact n2 [_,_,_,_] J2 zr zG rfl (Nat.sub_add_cancel (n:=L.fs.length) (m:=a.n1+1) (n1 [_,_] (.le (.a (.v 0) (.n 1)) (.v 1)) (.le (.a (.v 0) (.n 1)) (.v 1)) rfl ww)) (sb (L.fs.length) (a.n1))) _)
  refine d6 (by left) (λz=>?_) λz=>?_
  ·have z:k=0:=cY z
   refine d6 (Ck rfl rfl t.1.u y) (λO=>?_) λO=>?_
   ·right
    intro g d
    right
    exact aR (K {a with o1:=some f.lo.u,a1:=g,n1:=0,v1:=_,v2:=_,v3:=_,h:=_} ⟨w.upd (w.nn d),w.nn d,ab,Nat.zero_le _,λn e=>Option.some.inj e▸t.1.u,B,Nat.le_trans (Nat.le_of_lt O) E,A,λn=>(n z).elim,λ_ f c=>nM c⟩ (GH (Nat.add_lt_add_right O _) (Nat.zero_le _)))
   ·refine d6 (Cq rfl rfl t.2.u B) (λZ=>?_) λZ=>?_
    ·right
     intro g d
     right
     exact aR (K {a with o2:=some f.hi.u,a1:=g,n1:=0,v1:=_,v2:=_,v3:=_,h:=_} ⟨w.upd (w.nn d),w.nn d,ab,Nat.zero_le _,y,λn e=>Option.some.inj e▸t.2.u,E,Nat.le_trans A (Nat.le_of_lt Z),λn=>(n z).elim,λ_ f c=>nM c⟩ (GH (Nat.add_lt_add_left (by have:=t.2.u;show 3-f.hi.u<_;exact n3 [_,_,_,_] J2 EE (.eq (.a (.v 0) (.v 3)) (.n 3)) (.le (.n 3) (.a (.v 1) (.v 2))) rfl Z (Nat.sub_add_cancel (n:=3) (m:=f.hi.u) (n1 [_] (.le (.v 0) (.n 3)) (.le (.a (.v 0) (.n 1)) (.n 4)) rfl this)) (sb (3) (a.o2.getD 3))) _) (Nat.zero_le _)))
    ·right
     exact aR (s λ_=>⟨Nat.not_lt.mp O,Nat.not_lt.mp Z⟩)
  ·right
   exact aR (s λe=>(z (e▸rfl)).elim)
 ·have e:L.fs.length<=a.n1:=by rw[List.length_map]at x;exact Int.ofNat_le.mp (Int.not_lt.mp x)
  rw[List.take_of_length_le e]at N q
  right
  have hn:=D
  exact cV (sY I N) (h _ _ E A (λkn=>by rw[(G kn).1,(G kn).2];exact⟨rfl,rfl⟩) q _ D)
end
section
variable {ext:bj}
theorem BD{n k:Nat}{b:Bool}{V:bo}{L:bM}{σ:Hp}{Q:PX}(c:dP b σ V)(m:rB V)(p:V.lv[k]?=some L)(h:Q (.int (gM L.fs)) σ):cB ext (n+1) (F.fa 50) [.ref V.adr,.int k] σ Q:=by
 have i:L∈V.lv:=List.mem_of_getElem? p
 have q:=bh (m.len i) rfl
 have t:=aO (g:=bM.v) (bh m.n rfl)
 have u:=bS (g:=bM.v) p
 have w:=c.v
 have x:=c.fl
 have o:=c.lv L i
 refine aB (l:=[.ref V.adr,.int k,.undef,.undef]) LA rfl rfl ?_;show Go _ IX _ _ _;delta IX
 right
 refine gB L.fs FM.v (λa:Int×AV=>[.ref V.adr,.int k,.int a.1,a.2]) (λ_=>σ) (λj a=>a.1=gM j) (0,.undef) rfl rfl o q (λ_ _ _=>⟨_,o⟩) rfl ?_ ?_
 ·intro r f j a R e d s
  have y:σ f.adr=_:=c.fs L i f (aP e)
  right
  exact aR (s (a.1+f.size,_) (by rw[j3,←d]))
 ·intro a d
  right
  rw[d]
  exact ay h
theorem bT:∀{ns:List Int},cI (ns.map .int)=some ns
 |[]=>rfl
 |n::r=>by show(cI (r.map .int)).map (n::·)=_;rw[bT];rfl
noncomputable def vt(L:bM):List Int:=L.fs.map λf=>(f.num:Int)
noncomputable def nums(V:bo):List Int:=V.lv.flatMap vt
theorem eP{V:bo}:(nums V).length=(V.lv.flatMap bM.fs).length:=by
 unfold nums
 generalize V.lv=b
 induction b with
 |nil=>rfl
 |cons L r a=>rw[List.flatMap_cons,List.flatMap_cons,List.length_append,List.length_append,a];unfold vt;rw[List.length_map]
theorem ir{B C:Type}{f:B->List C}{a:List B}{x:B}:(a++[x]).flatMap f=a.flatMap f++f x:=by rw[List.flatMap_append,List.flatMap_cons,List.flatMap_nil,List.append_nil]
theorem Ds{B C:Type}{f:B->List C}{bs b g:List B}{x:B}{q r:List C}{c:C}(e:bs=b++x::g)(d:f x=q++c::r):(b.flatMap f++q).length<=(bs.flatMap f).length:=by
 rw[e,List.flatMap_append,List.flatMap_cons,d,List.length_append,List.length_append,List.length_append,List.length_append]
 exact n0 [_,_,_,_] (.le (.a (.v 0) (.v 1)) (.a (.v 0) (.a (.a (.v 1) (.v 2)) (.v 3)))) rfl
theorem iF{n:Nat}{b:Bool}{V:bo}{σ:Hp}{Q:PX}(j:dP b σ V)(m:rB V)(h:∀(ns:List Int) (r:Addr),ns.Perm (nums V)->ns.Pairwise (·<=·)->σ r=none->Q (.ref r) (upd σ r (true,.list (ns.map .int)))):cB ext (n+1) (F.fa 51) [.ref V.adr] σ Q:=by
 have I:=j.v
 have w:=j.fl
 have nl:(nums V).length<=60:=eP (V:=V)▸m.f
 refine aB (l:=[.ref V.adr,.undef,.undef,.undef]) L6 rfl rfl ?_;show Go _ JA _ _ _;delta JA
 right
 intro t d
 right
 refine gB V.lv bM.v (λa:List Int×AV×AV=>[.ref V.adr,.ref t,a.2.1,a.2.2]) (λa=>upd σ t (false,.list (a.1.map .int))) (λu a=>a.1=u.flatMap vt) ([],.undef,.undef) rfl rfl (ag d w) (bh m.n rfl) (λ_ _ _=>⟨_,ag d w⟩) rfl ?_ ?_
 ·intro p L u a R e q D
  have s:=aP e
  have x:=j.lv L s
  right
  refine gB L.fs FM.v (λa:List Int×AV×AV=>[.ref V.adr,.ref t,L.v,a.2.2]) (λa=>upd σ t (false,.list (a.1.map .int))) (λA b=>b.1=p.flatMap vt++A.map λf=>(f.num:Int)) (a.1,.undef,a.2.2) rfl rfl (ag d x) (bh (m.len s) rfl) (λ_ _ _=>⟨_,ag d x⟩) (q.trans (List.append_nil _).symm) ?_ ?_
  ·intro g f k b G z i o
   have K:σ f.adr=_:=j.fs L s f (aP z)
   have J:(b.1.map AV.int).length<=9000:=by
    rw[List.length_map,i]
    exact Nat.le_trans (Ds e (show vt L=g.map (λf=>(f.num:Int))++(f.num:Int)::k.map (λf=>(f.num:Int))by unfold vt;rw[z,List.map_append];rfl)) (bh nl rfl)
   right
   refine aR ?_
   have:=o (b.1++[(f.num:Int)],.undef,f.v) (by rw[i,List.map_append,List.append_assoc];rfl)
   rw[List.map_append]at this;exact this
  ·intro b i
   right
   exact aR (D (b.1,_,_) (by rw[ir];exact i))
 ·intro a q
  have e:a.1=nums V:=q
  refine e7 (mG (aj (aS (by left) (aD (Ad ab (by rw[List.length_map,e];exact nl) bT λc ns y B E=>?_)))))
  exact cV (sY ((aK.new d).upd ((aK.new d).nn y)) ab) (h ns c (e▸B) E ((aK.new d).nn y))
end
section
variable {ext:bj}
theorem Bi{n:Nat}{w o:Addr}{fz:Bool}{fs:List FM}{ik:Rw}{σ:Hp}{Q:PX}(U:σ w=some (fz,.list (fs.map FM.v)))(J:cM σ fs)(ok:pI fs)(D:qG σ o)(K:ik.ok)(I:fs.length<=9000)
  (t:∀(i j:Nat) (f g:FM),i<j->fs[i]?=some f->fs[j]?=some g->dw g.hi ik<0->dw f.hi ik<0)
  (h:∀r:Nat,r<=fs.length->(∀(j:Nat) (f:FM),fs[j]?=some f->(j<r↔dw f.hi ik<0))->Q (.int r) σ):cB ext (n+5) (F.fa 43) [.ref w,.bytes ik.b,.ref o] σ Q:=by
 have lm:=aO (g:=FM.v) I
 obtain⟨W,Y,Z⟩:=id D
 refine aB (l:=[.ref w,.bytes ik.b,.ref o,.undef,.undef,.undef]) Lc rfl rfl ?_;show Go _ Kk _ _ _;delta Kk
 right
 refine lU (λa:Nat×Nat×AV=>[.ref w,.bytes ik.b,.ref o,.int a.1,.int a.2.1,a.2.2]) (λ_=>σ) (λa=>a.1<=a.2.1/\a.2.1<=fs.length/\(∀(j:Nat) (f:FM),fs[j]?=some f->j<a.1->dw f.hi ik<0)/\(∀(j:Nat) (f:FM),fs[j]?=some f->a.2.1<=j->¬dw f.hi ik<0))
  (λa=>a.2.1-a.1) (0,fs.length,.undef) (by rw[List.length_map];rfl) rfl ⟨Nat.zero_le _,Nat.le_refl _,λj f _ p=>absurd p (Nat.not_lt_zero _),λj f p B=>absurd (be p).1 (iG B)⟩ ?_
 rintro⟨lo,hi,m⟩ R ⟨g1,g2,g3,y⟩ E
 dsimp only at g1 g2 g3 y
 refine g8 (by left) (br (λx=>?_) λx=>?_)
 ·have A:lo<hi:=cq x
  refine bG (aU (by left) (show AV.int (((lo:Int)+hi)/2)=AV.int ((lo+hi)/2:Nat)from congrArg AV.int (by exact rfl))) ?_
  have q:(lo+hi)/2<hi:=by exact m2 [_,_,_] J2 1 1 1 E8 LT rfl A (Nat.mul_div_le (lo+hi) 2)
  have s:lo<=(lo+hi)/2:=by exact m2 [_,_,_] J0 1 1 1 J4 K6 rfl g1 (Nat.lt_mul_div_succ (lo+hi) (show 0<2 by decide))
  generalize (lo+hi)/2=d at q s
  obtain⟨f,u⟩:∃f,fs[d]?=some f:=⟨_,List.getElem?_eq_getElem (Nat.lt_of_lt_of_le q g2)⟩
  have V:=bS (g:=FM.v) u
  have G:=List.mem_of_getElem? u
  have O:=J f G
  unfold mO at O
  refine bJ (kL (cG ?_))
  right
  refine ff D (ok f G).2 K (iQ (Hw (dG (br (λc=>?_) λc=>?_))))
  ·right
   exact aR (E (d+1,hi,.int d) ⟨q,g2,λj g p k=>by
    by_cases e:j=d
    ·subst e;rw[u]at p;cases p;exact c
    ·exact t j d g f (Nat.lt_of_le_of_ne (Nat.le_of_lt_succ k) e) p u c,y⟩ (by show hi-(d+1)<hi-lo;exact n3 [_,_,_,_,_] J2 (.le (.v 2) (.v 3)) (.eq (.a (.v 0) (.a (.v 3) (.n 1))) (.v 4)) (.le (.v 4) (.a (.v 1) (.v 2))) rfl s (Nat.sub_add_cancel (n:=hi) (m:=d+1) (n1 [_,_] (.le (.a (.v 0) (.n 1)) (.v 1)) (.le (.a (.v 0) (.n 1)) (.v 1)) rfl q)) (sb (hi) (lo))))
  ·right
   exact aR (E (lo,d,.int d) ⟨s,Nat.le_trans (Nat.le_of_lt q) g2,g3,λj g p z k=>by
    by_cases e:j=d
    ·subst e;rw[u]at p;cases p;exact c k
    ·exact c (t d j f g (Nat.lt_of_le_of_ne z (Ne.symm e)) u p k)⟩ (by show d-lo<hi-lo;exact n3 [_,_,_,_,_] J2 EE (.eq (.a (.v 0) (.v 4)) (.v 2)) (.le (.v 3) (.a (.v 1) (.v 4))) rfl q (Nat.sub_add_cancel (n:=d) (m:=lo) (n1 [_,_] (.le (.v 0) (.v 1)) (.le (.v 0) (.v 1)) rfl s)) (sb (hi) (lo))))
 ·obtain rfl:lo=hi:=Nat.le_antisymm g1 (Int.ofNat_le.mp (Int.not_lt.mp x))
  right
  exact ay (h lo g2 λj f p=>⟨g3 j f p,λN=>Nat.lt_of_not_le λB=>y j f p B N⟩)
noncomputable def ue(u:Nat)(f:FM):Bool:=decide (f.lo.u<=u)&&decide (u<=f.hi.u)
noncomputable def cX(u s:Nat)(fs:List FM):List FM:=match fs.find? (λf=>decide (¬dw f.hi ⟨u,s,1,0⟩<0))with
 |some f=>if f.lo.u<=u then[f] else[]
 |none=>[]
noncomputable def fF(u s:Nat):List bM->List FM
 |[]=>[]
 |L::r=>L.fs.reverse.filter (ue u)++r.flatMap λL=>cX u s L.fs
theorem tS{B:Type}{p:B->Bool}:∀{bs:List B} {r:Nat},(∀(j:Nat) (f:B),bs[j]?=some f->(j<r↔p f=false))->bs.find? p=bs[r]?
 |[],r,_=>by rw[List.find?_nil,List.getElem?_nil]
 |f::bs,0,h=>by
  have:p f≠false:=λe=>absurd ((h 0 f rfl).mpr e) (Nat.lt_irrefl 0)
  rw[List.find?_cons,Bool.not_eq_false _ |>.mp this];rfl
 |f::bs,r+1,h=>by
  rw[List.find?_cons,(h 0 f rfl).mp (Nat.succ_pos r)]
  exact tS λj g a=>⟨λx=>(h (j+1) g a).mp (Nat.succ_lt_succ x),λx=>Nat.lt_of_succ_lt_succ ((h (j+1) g a).mpr x)⟩
def zh(fs:List FM):Prop:=fs.Pairwise λf g=>f.hi.u<g.lo.u
theorem sP{fs:List FM}{ik:Rw}(h:zh fs)(ord:∀f∈fs,f.lo.u<=f.hi.u)(i j:Nat)(f g:FM)(lt:i<j)(hi:fs[i]?=some f)(d:fs[j]?=some g)(c:dw g.hi ik<0):dw f.hi ik<0:=by
 obtain⟨b,rfl⟩:=be hi
 obtain⟨a,rfl⟩:=be d
 have:=List.pairwise_iff_getElem.mp h i j b a lt
 have e:fs[i].hi.u<ik.u:=Nat.lt_of_lt_of_le (Nat.lt_of_lt_of_le this (ord _ (List.getElem_mem a))) (qe c)
 unfold dw jY;rw[if_pos e];decide
end
section
variable {ext:bj}
structure Ag(V:bo):Prop where
 sm:rB V
 ok:∀L∈V.lv,pI L.fs
 ord:∀L∈V.lv,∀f∈L.fs,f.lo.u<=f.hi.u
 ap:∀k L,0<k->V.lv[k]?=some L->zh L.fs
 ne:0<V.lv.length
def BU(b:Hp)(a:List (Addr×FM)):Prop:=∀p∈a,∃k:Int,b p.1=some (true,.tup [.int k,p.2.v])
noncomputable abbrev fG(p:Addr×FM):AV:=.ref p.1
theorem BU.fz{σ b:Hp}{a:List (Addr×FM)}(h:BU σ a)(k:Fz σ b):BU b a:=λp c=>by obtain⟨i,e⟩:=h p c;exact⟨i,k _ _ e⟩
structure Cd(σ τ:Hp)(t:Addr)(ps:List (Addr×FM)):Prop where
 e:aK σ τ
 n:σ t=none
 t:τ t=some (false,.list (ps.map fG))
 k:BU τ ps
theorem Cd.more{σ a:Hp}{t c:Addr}{b:List (Addr×FM)}{k:Int}{f:FM}(h:Cd σ a t b)(g:a c=none):Cd σ (upd (upd a c (true,.tup [.int k,f.v])) t (false,.list (b.map fG++[.ref c]))) t (b++[(c,f)]):=by
 have i:upd a c (true,.tup [.int k,f.v]) t=some (false,.list (b.map fG)):=ag g h.t
 have z:Fz a (upd (upd a c (true,.tup [.int k,f.v])) t (false,.list (b.map fG++[.ref c]))):=(Fz.new g).trans (Fz.mut i)
 refine⟨(h.e.upd (h.e.nn g)).upd h.n,h.n,by rw[List.map_append];exact ab,λp d=>?_⟩
 rcases aE d with d|d
 ·exact h.k.fz z p d
 ·rw[aw d];exact⟨k,cP i ab⟩
theorem qc{u v:Nat}(a:u<4)(b:v<4):(!decide (bv v<bv u))=decide (u<=v):=by
 rw[show decide (bv v<bv u)=decide (v<u)from decide_eq_decide.mpr (hF v b u a)]
 by_cases e:v<u
 ·rw[decide_eq_true e,decide_eq_false (eK e)];rfl
 ·rw[decide_eq_false e,decide_eq_true (Nat.not_lt.mp e)];rfl
theorem Bh{B:Type}{bs:List B}{i:Nat}{f:B}(h:bs[i]?=some f):bs.drop i=f::bs.drop (i+1):=by
 obtain⟨l,e⟩:=be h
 rw[←e];exact List.drop_eq_getElem_cons l
theorem NH{u:Nat}{fs:List FM}{i:Nat}{a:List (Addr×FM)}(e:a.map (·.2)=(fs.drop i).reverse.filter (ue u)):a.length<=fs.length:=by
 have:=congrArg List.length e
 rw[List.length_map]at this
 rw[this]
 exact Nat.le_trans (List.length_filter_le _ _) (by rw[List.length_reverse,List.length_drop];exact Nat.sub_le _ _)
theorem zv{u s:Nat}{fs:List FM}:(cX u s fs).length<=1:=by
 unfold cX
 cases fs.find? _ with
 |none=>exact Nat.zero_le _
 |some f=>show(if _ then _ else _:List FM).length<=1;by_cases e:f.lo.u<=u<;>simp only[e,if_true,if_false]<;>first|exact Nat.le_refl _|exact Nat.zero_le _
theorem pY{u s:Nat}:∀{ls:List bM},(ls.flatMap λL=>cX u s L.fs).length<=ls.length
 |[]=>Nat.le_refl _
 |L::r=>by rw[List.flatMap_cons,List.length_append,Nat.add_comm];exact Nat.add_le_add pY zv
theorem yM{n u s:Nat}{V:bo}{σ:Hp}{Q:PX}(E:dP true σ V)(p:Ag V)(O:u<4)(hs:s<10)
  (h:∀(t:Addr) (z:List (Addr×FM)) (B:Hp),Cd σ B t z->z.map (·.2)=fF u s V.lv->Q (.ref t) B):cB ext (n+6) (F.fa 46) [.ref V.adr,.bytes (kW u s 1)] σ Q:=by
 obtain⟨k,J⟩:∃L,V.lv[0]?=some L:=⟨_,List.getElem?_eq_getElem p.ne⟩
 have q:k∈V.lv:=List.mem_of_getElem? J
 have l7:=bh p.sm.n rfl
 have e1:=aO (g:=bM.v) l7
 have e2:oB (V.lv.map bM.v) 0=some k.v:=bS J
 have v1:=E.v
 have v2:=E.fl
 have v3:=E.lv k q
 have ll:=aO (g:=FM.v) (bh (p.sm.len q) rfl)
 refine aB (l:=[.ref V.adr,.bytes (kW u s 1),.undef,.undef,.undef,.undef,.undef,.undef,.undef]) L5 rfl rfl ?_;show Go _ Kh _ _ _;delta Kh
 right
 refine bP ?_
 right
 intro t ht
 right
 refine DV (λa:(AV×AV)×List (Addr×FM)×Hp=>[.ref V.adr,.bytes (kW u s 1),.bytes (bv u),.ref t,k.v,a.1.1,a.1.2,.undef,.undef]) (λa=>a.2.2)
  (λi a=>Cd σ a.2.2 t a.2.1/\a.2.1.map (·.2)=(k.fs.drop (i+1).toNat).reverse.filter (ue u)) ((.undef,.undef),[],_) rfl rfl ?_ ⟨⟨aK.new ht,ht,ab,λ_=>nM⟩,?_⟩ ?_ ?_
 ·have:=p.sm.len q;rw[List.length_map];exact⟨z1 [_] (.le (.g (.n 1)) (.a (.v 0) (.g (.n 1)))) Jm rfl (cz _),z1 [_] DE nQ rfl (cl this)⟩
 ·rw[List.length_map,show((k.fs.length:Int)-1+1).toNat=k.fs.length by exact te (Int.sub_add_cancel _ _),List.drop_length];rfl
 ·rintro i ⟨⟨m1,m2⟩,z,B⟩ R g1 g2 ⟨d,m⟩ G
  dsimp only at d m
  obtain⟨j,rfl⟩:∃j:Nat,i=j:=⟨i.toNat,(Int.toNat_of_nonneg g1).symm⟩
  have b:=E.fz d.e.fz
  have w3:=b.lv k q
  obtain⟨f,w⟩:∃f,k.fs[j]?=some f:=⟨_,List.getElem?_eq_getElem (by rw[List.length_map]at g2;exact cq (Int.lt_of_le_sub_one g2))⟩
  have e3:=bS (g:=FM.v) w
  have K:=List.mem_of_getElem? w
  have Y:=b.fs k q f K
  have U:=p.ok k q f K
  unfold mO at Y
  have dr:(k.fs.drop ((j:Int)-1+1).toNat).reverse.filter (ue u)=z.map (·.2)++[f].filter (ue u):=by
   rw[show((j:Int)-1+1).toNat=j by exact te (Int.sub_add_cancel _ _),Bh w,List.reverse_cons,List.filter_append];rw[m];rfl
  have Z:=aO (g:=fG) (bh (Nat.le_trans (NH m) (p.sm.len q)) rfl)
  have no:ue u f=false->R [.ref V.adr,.bytes (kW u s 1),.bytes (bv u),.ref t,k.v,.int j,f.v,.undef,.undef] B:=λx=>G ((.int j,f.v),z,B) ⟨d,by rw[dr,List.filter_cons,if_neg (by rw[x];exact fT)];exact(List.append_nil _).symm⟩
  right
  refine bJ (ko (bx (kL (cG (aV (by left) (bP (aS (by left) (wI (dG ?_)))))))))
  rw[qc U.1.u O]
  refine br (λx=>bx (kL (cG (aS (by left) (aV (by left) (bP (wI (dG ?_)))))))) (λx=>de ?_)
  ·rw[qc O U.2.u]
   refine br (λy=>da (eF ?_)) (λy=>de ?_)
   ·refine dJ (iI (aS (by left) (iW d.t rfl (aj (fv (by left) rfl λc D=>aD (dO (ag D d.t) Z ?_))))))
    right
    exact aR (G ((.int j,f.v),z++[(c,f)],_) ⟨d.more D,by rw[dr,List.map_append,List.filter_cons,if_pos (by unfold ue;rw[decide_eq_true x,decide_eq_true y];rfl)];rfl⟩)
   ·right
    exact aR (no (by unfold ue;rw[decide_eq_false y];exact Bool.and_false _))
  ·right
   exact aR (no (by unfold ue;rw[decide_eq_false x];rfl))
 ·rintro⟨⟨m1,m2⟩,z,B⟩ ⟨d,m⟩
  dsimp only at d m
  have b:=E.fz d.e.fz
  have w1:=b.v
  right
  refine jL (λa:(AV×AV×AV)×List (Addr×FM)×Hp=>[.ref V.adr,.bytes (kW u s 1),.bytes (bv u),.ref t,k.v,a.1.1,m2,a.1.2.1,a.1.2.2]) (λa=>a.2.2)
   (λi a=>Cd σ a.2.2 t a.2.1/\a.2.1.map (·.2)=k.fs.reverse.filter (ue u)++((V.lv.drop 1).take (i-1).toNat).flatMap λL=>cX u s L.fs) ((m1,.undef,.undef),z,B) rfl rfl
   ⟨by decide,by decide,Int.natCast_nonneg _,bF l7⟩ ⟨d,by rw[m];exact(List.append_nil _).symm⟩ ?_ ?_
  ·rintro i ⟨⟨m5,m7,m8⟩,I,υ⟩ R g1 g2 ⟨d,m⟩ G
   dsimp only at d m
   obtain⟨j,rfl⟩:∃j:Nat,i=(j:Int)+1:=⟨(i-1).toNat,by exact OJ g1⟩
   have b:=E.fz d.e.fz
   have w1:=b.v
   have w2:=b.fl
   obtain⟨L,N⟩:∃L,V.lv[j+1]?=some L:=⟨_,List.getElem?_eq_getElem (by exact cq g2)⟩
   have e3:oB (V.lv.map bM.v) ((j:Int)+1)=some L.v:=bS N
   have A:=List.mem_of_getElem? N
   have w3:=b.lv L A
   have lm:=aO (g:=FM.v) (bh (p.sm.len A) rfl)
   have W:((V.lv.drop 1).take ((j:Int)+1+1-1).toNat).flatMap (λL=>cX u s L.fs)=((V.lv.drop 1).take ((j:Int)+1-1).toNat).flatMap (λL=>cX u s L.fs)++cX u s L.fs:=by
    rw[show((j:Int)+1+1-1).toNat=j+1 by exact te (Int.add_sub_cancel _ _),show((j:Int)+1-1).toNat=j by exact te (Int.add_sub_cancel _ _),sW (f:=L) (by rw[List.getElem?_drop,Nat.add_comm];exact N),ir]
   have Z:=aO (g:=fG) (bs:=I) (by
    have:=congrArg List.length m
    rw[List.length_map,List.length_append]at this
    have h1:=Nat.le_trans (List.length_filter_le (ue u) _) (Nat.le_of_eq (List.length_reverse (as:=k.fs)))
    have h2:=pY (u:=u) (s:=s) (ls:=(V.lv.drop 1).take ((j:Int)+1-1).toNat)
    have h3:=p.sm.len q
    have h4:=List.length_take_le' ((j:Int)+1-1).toNat (V.lv.drop 1)
    rw[List.length_drop]at h4
    rw[this];exact Nat.le_trans (Nat.add_le_add (Nat.le_trans h1 h3) (Nat.le_trans h2 (Nat.le_trans h4 (Nat.le_trans (Nat.sub_le _ _) p.sm.n)))) (Nat.le_of_ble_eq_true rfl))
   right
   refine Bi (ik:=⟨u,s,1,0⟩) w3 (b.fs L A) (p.ok L A) b.o ⟨O,hs,Nat.lt_succ_self 1⟩ (bh (p.sm.len A) rfl) (sP (p.ap _ L (Nat.succ_pos j) N) (p.ord L A)) λr hr D=>?_
   have fd:L.fs.find? (λf=>decide (¬dw f.hi ⟨u,s,1,0⟩<0))=L.fs[r]?:=tS λj f hj=>by rw[D j f hj,decide_eq_false_iff_not,Decidable.not_not]
   refine bJ (ko (bx (g8 (by left) (br (λx=>?_) λx=>de ?_))))
   ·obtain⟨f,w⟩:∃f,L.fs[r]?=some f:=⟨_,List.getElem?_eq_getElem (by rw[List.length_map]at x;exact cq x)⟩
    have e4:=bS (g:=FM.v) w
    have K:=List.mem_of_getElem? w
    have Y:=b.fs L A f K
    have U:=p.ok L A f K
    unfold mO at Y
    refine bx (kL (cG (aV (by left) (bP (aS (by left) (wI (dG ?_)))))))
    rw[qc U.1.u O]
    refine br (λy=>da (eF ?_)) (λy=>de ?_)
    ·refine dJ (iI (aS (by left) (iW d.t rfl (aj (fv (by left) rfl λc D=>aD (dO (ag D d.t) Z ?_))))))
     right
     refine aR (G ((.int r,.int ((j:Int)+1),L.v),I++[(c,f)],_) ⟨d.more D,?_⟩)
     rw[W,List.map_append,←List.append_assoc,←m]
     unfold cX;rw[fd,w];dsimp only;rw[if_pos y];rfl
    ·right
     refine aR (G ((.int r,.int ((j:Int)+1),L.v),I,_) ⟨d,?_⟩)
     rw[W,←List.append_assoc,←m]
     unfold cX;rw[fd,w];dsimp only;rw[if_neg y];exact(List.append_nil _).symm
   ·right
    refine aR (G ((.int r,.int ((j:Int)+1),L.v),I,_) ⟨d,?_⟩)
    rw[W,←List.append_assoc,←m]
    unfold cX;rw[fd,List.getElem?_eq_none (by rw[List.length_map]at x;exact Int.ofNat_le.mp (il x))];exact(List.append_nil _).symm
  ·rintro i ⟨⟨m5,m7,m8⟩,I,υ⟩ g1 g2 g3 ⟨d,m⟩
   dsimp only at d m
   right
   refine ay (h t I υ d ?_)
   rw[m,List.take_of_length_le (by rw[List.length_drop];exact Nat.le_trans (Nat.le_of_eq (Int.toNat_sub _ 1).symm) (Int.toNat_le_toNat (Int.sub_le_sub_right g2 1)))]
   cases hl:V.lv with
   |nil=>rw[hl]at J;cases J
   |cons L r=>rw[hl]at J;cases J;rfl
end
section
variable {ext:bj}
noncomputable def ah(u s:Nat)(f:FM):Option Rw:=f.rows.find? λr=>decide (u<r.u∨(u=r.u/\r.s<=s))
noncomputable def Ai(u s:Nat)(f:FM):Option Rw:=match ah u s f with
 |some r=>if r.u=u then some r else none
 |none=>none
noncomputable def look(u s:Nat)(fs:List FM):Option Rw:=fs.findSome? (Ai u s)
structure Gl(τ:Hp)(es:List (Int×AV))(V:bo)(u s:Nat):Prop where
 no:∀L∈V.lv,∀f∈L.fs,ah u s f=none->bE es f.num=some .none
 yes:∀L∈V.lv,∀f∈L.fs,∀r,ah u s f=some r->r.ok/\∃e,bE es f.num=some (.ref e)/\τ e=some (true,.tup [.bytes r.b,.bytes [UInt8.ofNat r.s]])
noncomputable def DN:Option Rw->List AV
 |some r=>if r.k=0 then[.bool true,.int 0,.bytes []] else[.bool true,.int 1,.bytes [UInt8.ofNat r.s]]
 |none=>[.bool false,.int 0,.bytes []]
theorem zH{u s:Nat}{ls:List bM}{f:FM}(h:f∈fF u s ls):∃L∈ls,f∈L.fs:=by
 cases ls with
 |nil=>cases h
 |cons L r=>
  rcases aE h with h|h
  ·exact⟨L,.head _,List.mem_reverse.mp (fN h).1⟩
  ·obtain⟨M,a,h⟩:=jc h
   refine⟨M,.tail _ a,?_⟩
   unfold cX at h
   cases e:M.fs.find? (λf=>decide (¬dw f.hi ⟨u,s,1,0⟩<0))with
   |none=>rw[e]at h;cases h
   |some g=>
    rw[e]at h;dsimp only at h
    by_cases x:g.lo.u<=u
    ·rw[if_pos x]at h;rw[aw h];exact List.mem_of_find?_eq_some e
    ·rw[if_neg x]at h;cases h
theorem kH{u s:Nat}{a:List FM}{f:FM}(h:look u s a=none)(k:Ai u s f=none):look u s (a++[f])=none:=by
 unfold look at h ⊢;rw[List.findSome?_append,h,List.findSome?_cons,k];rfl
theorem yB{u s:Nat}{a b:List FM}{f:FM}{r:Rw}(h:look u s a=none)(k:Ai u s f=some r):look u s (a++f::b)=some r:=by
 unfold look at h ⊢;rw[List.findSome?_append,h,List.findSome?_cons,k];rfl
theorem tK:∀u,u<4->∀v,v<4->(bv u=bv v↔u=v):=by decide+kernel
theorem EW{n u s:Nat}{V:bo}{σ:Hp}{d:Addr}{fz:Bool}{es:List (Int×AV)}{Q:PX}(G:dP true σ V)(I:Ag V)(hu:u<4)(hs:s<10)(hd:σ d=some (fz,.dict es))(el:es.length<=9000)(ca:Gl σ es V u s)
  (h:∀(t:Addr) (i:Hp),aK σ i->i t=some (true,.tup (DN (look u s (fF u s V.lv))))->Q (.ref t) i):cB ext (n+7) (F.fa 47) [.ref V.adr,.ref d,.bytes (bv u),.int s] σ Q:=by
 have v1:=G.v
 refine aB (l:=[.ref V.adr,.ref d,.bytes (bv u),.int s,.undef,.undef,.undef,.undef,.undef,.undef,.undef]) Me rfl rfl ?_;show Go _ IA _ _ _;delta IA
 right
 refine AE hs ?_
 right
 refine yM G I hu hs λt E i g D=>?_
 have pl:E.length<=9000:=by
  have:=congrArg List.length D
  rw[List.length_map]at this
  cases A:V.lv with
  |nil=>rw[A]at this;rw[this];exact Nat.zero_le _
  |cons L r=>
   rw[A]at this
   have K:=I.sm.n
   rw[A]at K
   have h2:=I.sm.len (L:=L) (A▸.head _)
   have h3:=pY (u:=u) (s:=s) (ls:=r)
   have h4:=Nat.le_trans (List.length_filter_le (ue u) _) (Nat.le_of_eq (List.length_reverse (as:=L.fs)))
   have U:E.length=_:=this.trans List.length_append
   rw[List.length_cons]at K
   exact m5 [_,_,_,_,_] jJ 0 1 1 1 1 1 (.le (.a (.v 1) (.n 1)) (.n 7)) Fo NB (.le (.v 4) (.v 2)) (.eq (.v 0) (.a (.v 4) (.v 3))) rfl K h2 h3 h4 U
 refine gB E fG (λa:(AV×AV×AV)×(AV×AV×AV)×Hp=>[.ref V.adr,.ref d,.bytes (bv u),.int s,.bytes (kW u s 1),a.1.1,a.1.2.1,a.1.2.2,a.2.1.1,a.2.1.2.1,a.2.1.2.2]) (λa=>a.2.2) (λZ a=>aK i a.2.2/\look u s (Z.map (·.2))=none) ((.undef,.undef,.undef),(.undef,.undef,.undef),i) rfl rfl g.t pl (λ_ a p=>⟨_,p.1 _ _ g.t⟩) ⟨aK.refl _,rfl⟩ ?_ ?_
 ·intro β p Z a R e ⟨b,q⟩ ih
  have hp:=aP e
  obtain⟨k,hk⟩:=g.k p hp
  obtain⟨L,Y,J⟩:=zH (D▸List.mem_map_of_mem (f:=(·.2)) hp:p.2∈fF u s V.lv)
  have N:=G.fz (g.e.trans b).fz
  have U:=N.fs L Y p.2 J
  unfold mO at U
  have o:=b _ _ (g.e _ _ hd)
  refine vx (b _ _ hk) ?_
  cases m:ah u s p.2 with
  |none=>
   refine bG (za (v:=.none) (by left) (by left) (by left) o el (by rw[ca.no L Y _ J m];rfl)) ?_
   refine EM (bR (by left)) ?_
   right
   exact yJ (ih ((.int k,p.2.v,.none),a.2.1,a.2.2) ⟨b,by rw[List.map_append];exact kH q (by unfold Ai;rw[m])⟩)
  |some r=>
   obtain⟨O,e,e1,e2⟩:=ca.yes L Y _ J r m
   have W:=b _ _ (g.e _ _ e2)
   refine bG (za (v:=.ref e) (by left) (by left) (by left) o el (by rw[e1];rfl)) ?_
   refine AX (bR (by left)) ?_
   right
   refine qq O.s O.k λc B=>Cf ab ?_
   have e3:upd a.2.2 c (true,.tup [.bytes (bv r.u),.int r.s,.int r.k]) e=_:=ag B W
   refine d6 (by left) (λx=>?_) λx=>?_
   ·have hh:Ai u s p.2=some r:=by unfold Ai;rw[m];dsimp only;rw[if_pos ((tK _ O.u _ hu).mp x)]
    have lk:look u s (fF u s V.lv)=some r:=by rw[←D,‹E=_›,List.map_append];exact yB q hh
    refine d6 (by left) (λy=>?_) λy=>?_
    ·right
     intro w j
     refine wa (wa (Hh (cV (Wk.refl _) (h w _ (((g.e.trans b).trans (aK.new B)).trans (aK.new j)) ?_))))
     rw[lk];show _=some (true,AO.tup (if r.k=0 then _ else _));rw[if_pos (cY y)];exact ab
    ·right
     intro w j
     refine wa (Hh (cV (Wk.refl _) (h w _ (((g.e.trans b).trans (aK.new B)).trans (aK.new j)) ?_)))
     rw[lk];show _=some (true,AO.tup (if r.k=0 then _ else _));rw[if_neg λz=>y (congrArg Int.ofNat z)];exact ab
   ·right
    exact aR (ih ((.int k,p.2.v,.ref e),(.bytes (bv r.u),.int r.s,.int r.k),_) ⟨b.trans (aK.new B),by rw[List.map_append];exact kH q (by unfold Ai;rw[m];dsimp only;rw[if_neg λz=>x (by rw[z])])⟩)
 ·intro a ⟨b,q⟩
  right
  intro w j
  refine cV (Wk.refl _) (h w _ ((g.e.trans b).trans (aK.new j)) ?_)
  rw[←D,q];exact ab
end
section
variable {ext:bj}
structure Op where
 adr:Addr
 fs:List (Nat×AV)
 mfs:Int
 nl:Nat
 l0:Int
 bb:Int
 lf:Int
 gf:Int
 ef:Int
structure iX(o:Op):Prop where
 f20:eY o.fs 20=some (.int o.mfs)
 f21:eY o.fs 21=some (.int o.nl)
 f22:eY o.fs 22=some (.int o.l0)
 f24:eY o.fs 24=some (.int o.bb)
 f25:eY o.fs 25=some (.int o.lf)
 f27:eY o.fs 27=some (.int o.gf)
 f28:eY o.fs 28=some (.int o.ef)
 mfs:0<o.mfs/\o.mfs<2 ^ 24
 nl:2<=o.nl/\o.nl<=7
 l0:0<o.l0/\o.l0<100
 bb:0<o.bb/\o.bb<=2 ^ 24
 lf:0<o.lf/\o.lf<=16
 gf:0<o.gf/\o.gf<=100
 ef:0<o.ef/\o.ef<=100
def fu(σ:Hp)(o:Op):Prop:=σ o.adr=some (true,.inst 12 o.fs)
theorem B1{n k:Nat}{o:Op}{σ:Hp}{Q:PX}(u:fu σ o)(ok:iX o)(q:k<=6)(h:∀r:Int,0<r->r<2 ^ 62->Q (.int r) σ):cB ext (n+1) (F.fa 68) [.ref o.adr,.int k] σ Q:=by
 have m:=ok.f24
 have g:=ok.f25
 unfold fu at u
 refine aB (l:=[.ref o.adr,.int k,.undef]) NA rfl rfl ?_;show Go _ JU _ _ _;delta JU
 right
 have b:∀j:Nat,j<=6->(16:Int) ^ j<=2 ^ 24:=λj s=>by
  have:(16:Nat) ^ j<=16 ^ 6:=Nat.pow_le_pow_right (by decide) s
  have e:=bF this
  rw[Int.natCast_pow]at e
  exact e
 refine lU (λa:Nat×Int=>[.ref o.adr,.int ((k:Int)-a.1),.int a.2]) (λ_=>σ) (λa=>a.1<=k/\0<a.2/\a.2<=16777216*16 ^ a.1) (λa=>k-a.1) (0,o.bb) (by rw[show((k:Int)-(0:Nat))=k from Int.sub_zero _];rfl) rfl ⟨Nat.zero_le _,ok.bb.1,by rw[Int.pow_zero,Int.mul_one];exact ok.bb.2⟩ ?_
 intro a R ⟨i,c,d⟩ t
 have p:=b a.1 (Nat.le_trans i q)
 have f:a.2<=16777216*2 ^ 24:=Int.le_trans d (Int.mul_le_mul_of_nonneg_left p (by decide))
 refine g8 (by left) (br (λx=>?_) λx=>?_)
 ·refine E7 rfl (by left) ⟨by exact Int.lt_trans (by decide) c,by exact Int.lt_of_le_of_lt f (by decide)⟩ ?_
  right
  refine aR ?_
  have:=t (a.1+1,a.2*o.lf) ⟨by exact Nat.le_of_lt (cq (Int.add_lt_of_lt_sub_left x)),Int.mul_pos c ok.lf.1,by
   show a.2*o.lf<=16777216*16 ^ (a.1+1)
   rw[Int.pow_succ,←Int.mul_assoc]
   exact Int.mul_le_mul d ok.lf.2 (Int.le_of_lt ok.lf.1) (Int.mul_nonneg (by decide) (Int.pow_nonneg (by decide)))⟩ (by show k-(a.1+1)<k-a.1;exact Nat.sub_lt_sub_left (Nat.lt_of_succ_lt (cq (Int.add_lt_of_lt_sub_left x))) (Nat.lt_succ_self _))
  rw[show((k:Int)-((a.1,a.2).1+1:Nat))=(k:Int)-a.1-1 by show(k:Int)-((a.1+1:Nat):Int)=_;exact Int.le_antisymm (z0 [_,_] O2 rfl) (z0 [_,_] Pb rfl)]at this
  exact this
 ·right
  exact ay (h a.2 c (by exact Int.lt_of_le_of_lt f (by decide)))
def Fm(fs:List FM):Prop:=∀f∈fs,0<=f.size/\f.size<2 ^ 40
theorem zX:∀{fs:List FM},Fm fs->0<=gM fs/\gM fs<=fs.length*2 ^ 40
 |[],_=>⟨Int.le_refl _,by decide⟩
 |f::r,h=>by
  have b:=h f (.head _)
  have a:=zX (fs:=r) λg c=>h g (.tail _ c)
  have e:((f::r).length:Int)=r.length+1:=rfl
  rw[e];unfold gM
  exact⟨Int.add_nonneg b.1 a.1,by rw[Int.add_mul,Int.one_mul,Int.add_comm f.size];exact Int.add_le_add a.2 (Int.le_of_lt b.2)⟩
noncomputable def LZ(V:bo)(top bot bl:Int)(sc:Addr):bo:={V with top:=top,bot:=bot,bl:=bl,sc:=sc}
def zm(V:bo):Prop:=V.bot<=V.top->∃(k:Nat) (L:bM),V.bl=k/\k+1<V.lv.length/\V.lv[k]?=some L/\L.fs≠[]
structure Bj(V:bo):Prop where
 a:V.adr≠V.fl
 b:∀L∈V.lv,L.adr≠V.adr/\L.adr≠V.fl
 c:(V.lv.map bM.adr).Nodup
theorem yR{n:Nat}{V:bo}{o:Op}{σ:Hp}{Q:PX}(p:dP false σ V)(nd:Bj V)(m:rB V)(W:∀L∈V.lv,Fm L.fs)(N:fu σ o)(ok:iX o)(nl:o.nl=V.lv.length)
  (h:∀(top bot I:Int) (f:Addr),σ f=none->zm (LZ V top bot I f)->Q (.ref f) (upd (upd σ f (true,.tup [.int top,.int bot])) V.adr (false,.inst 16 [(21,.int V.lv.length),(44,.ref V.o),(45,.ref V.fl),(46,.int 0),(0,.ref f),(1,.int I)]))):cB ext (n+2) (F.fa 69) [.ref V.adr,.ref o.adr] σ Q:=by
 have U:=ok.f21
 have Y:=ok.f22
 have v1:=p.v
 have v2:=p.fl
 have O:=bh m.n rfl
 have e1:=aO (g:=bM.v) O
 have ne:0<V.lv.length:=by have:=ok.nl;exact n2 [_,_] CL DR LK rfl nl this.1
 obtain⟨b,y⟩:∃L,V.lv[0]?=some L:=⟨_,List.getElem?_eq_getElem ne⟩
 have z:b∈V.lv:=List.mem_of_getElem? y
 have e2:oB (V.lv.map bM.v) 0=some b.v:=bS y
 have v3:=p.lv b z
 have ll:=aO (g:=FM.v) (bh (m.len z) rfl)
 unfold fu at N
 refine aB (l:=[.ref V.adr,.ref o.adr,.undef,.undef,.undef,.undef,.undef,.undef]) Mm rfl rfl ?_;show Go _ KO _ _ _;delta KO
 refine rY (by left) (by rw[List.length_map];exact Int.ne_of_gt (z1 [_] CL CL rfl (cl ne))) ?_
 right
 refine jL (λa:(Int×Int×Int)×(AV×AV×AV)=>[.ref V.adr,.ref o.adr,.int a.1.1,.int a.1.2.1,.int a.1.2.2,a.2.1,a.2.2.1,a.2.2.2]) (λ_=>σ)
  (λ_ a=>0<=a.1.1/\a.1.1<2 ^ 50/\0<a.1.2.1/\∃(k:Nat) (L:bM),a.1.2.2=k/\k+1<V.lv.length/\V.lv[k]?=some L/\(0<a.1.1->L.fs≠[])) (((b.fs.map FM.v).length,o.l0,0),(.undef,.undef,.undef)) rfl rfl
  ⟨by decide,by decide,by have:=ok.nl;exact z1 [_] HM (.le (.n 2) (.v 0)) rfl (cl this.1),by have:=ok.nl;exact z1 [_] DE zk rfl (cl this.2)⟩ ?_ ?_ ?_
 ·refine⟨Int.natCast_nonneg _,?_,ok.l0.1,0,b,rfl,by have:=ok.nl;exact n2 [_,_] (.le (.a (.a (.n 0) (.n 1)) (.n 1)) (.v 0)) DR LK rfl nl this.1,y,λx e=>?_⟩
  ·have:=m.len z;rw[List.length_map];show(b.fs.length:Int)<_;exact Int.lt_of_le_of_lt (bF this) (by decide)
  ·rw[e]at x;exact absurd x (Int.lt_irrefl 0)
 ·intro i a R g1 g2 ⟨q,B,s,k,L,w,t,A,E⟩ K
  obtain⟨j,rfl⟩:∃j:Nat,i=j:=⟨i.toNat,(Int.toNat_of_nonneg (by exact Int.le_of_lt g1)).symm⟩
  obtain⟨d,D⟩:∃L,V.lv[j]?=some L:=⟨_,List.getElem?_eq_getElem (by exact Nat.lt_of_lt_of_eq (Nat.lt_of_succ_lt (ww g2)) nl)⟩
  have J:=List.mem_of_getElem? D
  have sb:=zX (W d J)
  have G:=m.len J
  right
  refine BD p m D ?_
  right
  refine B1 N ok (by have:=ok.nl;exact Nat.le_of_lt_succ (Nat.lt_of_lt_of_le (Nat.lt_of_succ_lt (ww g2)) this.2)) λr u r2=>?_
  refine d6 (bR (eX (ft (by left) (by left) ⟨by exact z3 [_,_,_] (.le (.a (.g (.v 0)) (.n 1)) (.v 1)) Mq (.le (.a (.n 0) (.n 1)) (.v 2)) (.le (.a (.v 2) (.n 1)) (.v 0)) rfl sb.1 u r2,by exact Int.lt_trans (GP sb.2 G) (by decide)⟩) (ft (by left) (by left) ⟨by exact Int.lt_of_lt_of_le (by decide) q,by exact Int.lt_trans B (by decide)⟩) rfl)) (λx=>?_) λx=>?_
  ·right
   refine aR (K ((gM d.fs,r,j),(.int j,.int (gM d.fs),.int r)) ⟨sb.1,by show gM d.fs<_;exact GP sb.2 G,u,j,d,rfl,by exact Nat.lt_of_lt_of_eq (ww g2) nl,D,λ_ e=>?_⟩)
   rw[e]at x
   exact absurd x (fZ (by rw[show gM []*a.1.2.1=0 from Int.zero_mul _];exact Int.mul_nonneg q (Int.le_of_lt u)))
  ·right
   exact aR (K ((a.1.1,a.1.2.1,a.1.2.2),(.int j,.int (gM d.fs),.int r)) ⟨q,B,s,k,L,w,t,A,E⟩)
 ·intro i a _ _ _ ⟨q,B,s,k,L,w,t,A,E⟩
  right
  intro c Z
  right
  exact cV (Wk.refl _) (h a.1.1 a.1.2.1 a.1.2.2 c Z λx=>⟨k,L,w,t,A,E (Int.lt_of_lt_of_le s x)⟩)
end
section
variable {ext:bj}
noncomputable abbrev rf(a:Addr):AV:=.ref a
theorem af{σ:Hp}{a r:Addr}{c:Bool×AO}(h:σ a=some c)(n:σ r=none):a≠r:=λe=>by rw[e,n]at h;cases h
theorem Nf{K:PX}{l:aG}{σ:Hp}(h:∃a,Wk a σ/\K .none a):cO K .next l σ:=h
theorem rR{n m:Nat}{v o:Addr}{σ:Hp}{Q:PX}(K:σ v=none)(ho:qG σ o)(Y:m<=7)
  (h:∀(V:bo) (j:Hp),V.adr=v->V.o=o->V.lv.length=m->(∀L∈V.lv,L.fs=[])->V.top=0->V.bot=1->V.bl= -1->aK σ j->dP false j V->Bj V->σ V.fl=none->(∀L∈V.lv,σ L.adr=none)->∃G,Wk G j/\Q .none G):
  cB ext (n+1) (F.fa 44) [.ref v,.int m,.ref o] (upd σ v (false,.inst 16 [])) Q:=by
 refine aB (l:=[.ref v,.int m,.ref o,.undef]) Ll rfl rfl ?_;show Go _ Iw _ _ _;delta Iw
 right
 intro g k
 have n1:v≠g:=af ab k
 have n2:σ g=none:=by rw[ac (Ne.symm n1)]at k;exact k
 have v1:=ag (c:=(false,.list [])) k (ab (σ:=σ) (a:=v) (c:=(false,.inst 16 (gE 44 (.ref o) (gE 21 (.int m) [])))))
 right
 refine dR (λa:List Addr×AV=>[.ref v,.int m,.ref o,a.2])
  (λi a j=>(a.1.length:Int)=i/\aK σ j/\j v=some (false,.inst 16 [(21,.int m),(44,.ref o),(45,.ref g)])/\j g=some (false,.list (a.1.map rf))/\(∀x∈a.1,j x=some (false,.list [])/\σ x=none/\x≠v/\x≠g)/\a.1.Nodup) ([],.undef) rfl ⟨by decide,by decide,Int.natCast_nonneg _,by exact z1 [_] jJ zk rfl (cl Y)⟩ ⟨rfl,?_,ab,?_,λ_=>nM,.nil⟩ ?_ ?_
 ·exact(((aK.refl σ).upd K).upd n2).upd K
 ·rw[ac (Ne.symm n1)];exact ab
 ·intro i a j R g1 g2 ⟨J,B,I,A,z,O⟩ ih
  have al:(a.1.map rf).length<=9000:=by rw[List.length_map];exact l9 J g2 Y
  refine dJ (iI (aS (by left) (iW A rfl (aj (a8 aQ rfl λr u=>aD (dO (ag u A) al ?_))))))
  have W:v≠r:=af I u
  have Z:g≠r:=af A u
  right
  refine aR (ih (a.1++[r],.int i) _ ⟨?_,(B.upd (B.nn u)).upd n2,?_,?_,λx d=>?_,?_⟩)
  ·show((a.1++[r]).length:Int)=i+1
   rw[List.length_append,←J];rfl
  ·show upd (upd _ _ _) _ _ v=_
   rw[ac n1,ac W];exact I
  ·show upd (upd _ _ _) _ _ g=some (false,.list ((a.1++[r]).map rf))
   rw[List.map_append];exact ab
  ·rcases aE d with d|d
   ·obtain⟨D,N,w,E⟩:=z x d
    exact⟨by show upd (upd _ _ _) _ _ x=_;rw[ac E,ac (af D u)];exact D,N,w,E⟩
   ·obtain rfl:=aw d
    exact⟨by show upd (upd _ _ _) _ _ x=_;rw[ac (Ne.symm Z)];exact ab,B.nn u,Ne.symm W,Ne.symm Z⟩
  ·exact List.nodup_append.mpr ⟨O,List.Pairwise.cons (λ_ h=>nM h) .nil,λx d y hy=>by rw[aw hy];exact af (z x d).1 u⟩
 ·intro i a j g1 g2 g3 ⟨J,B,I,A,z,O⟩
  have s:a.1.length=m:=by exact lE J g2 g3
  right
  intro t p
  right
  have b:j t=none:=by
   have:t≠v:=λe=>by rw[e,ab]at p;cases p
   rw[ac this]at p;exact p
  have s1:v≠t:=af I b
  have s2:g≠t:=af A b
  have U:aK σ _:=(((B.upd K (c:=(false,.inst 16 (gE 46 (.int 0) [(21,.int m),(44,.ref o),(45,.ref g)])))).upd (B.nn b) (c:=(true,.tup [.int 0,.int 1]))).upd K (c:=(false,.inst 16 (gE 1 (.int (-1)) (gE 0 (.ref t) (gE 46 (.int 0) [(21,.int m),(44,.ref o),(45,.ref g)]))))))
  refine Nf (h ⟨v,g,o,t,a.1.map λx=>⟨x,[]⟩,0,1, -1⟩ _ rfl rfl (by rw[List.length_map];exact s) (λL q=>by obtain⟨x,_,rfl⟩:=bz q;rfl) rfl rfl rfl U ⟨?_,ho.fz U.fz,?_,λL q=>?_,λL q f hf=>?_,?_⟩ ⟨n1,λL q=>?_,?_⟩ n2 λL q=>?_)
  ·rw[ab,List.length_map,s];rfl
  ·show upd (upd (upd _ _ _) _ _) _ _ g=_
   rw[ac (Ne.symm n1),ac s2,ac (Ne.symm n1),List.map_map];exact A
  ·obtain⟨x,d,rfl⟩:=bz q
   obtain⟨D,N,w,E⟩:=z x d
   show upd (upd (upd _ _ _) _ _) _ _ x=_
   rw[ac w,ac (af D b),ac w];exact D
  ·obtain⟨x,d,rfl⟩:=bz q;cases hf
  ·show upd (upd (upd _ _ _) _ _) _ _ t=_
   rw[ac (Ne.symm s1)];exact ab
  ·obtain⟨x,d,rfl⟩:=bz q
   obtain⟨D,N,w,E⟩:=z x d
   exact⟨w,E⟩
  ·show((a.1.map λx=>(⟨x,[]⟩:bM)).map bM.adr).Nodup
   rw[List.map_map];exact(List.map_id' a.1).symm▸O
  ·obtain⟨x,d,rfl⟩:=bz q
   exact(z x d).2.1
end
section
variable {ext:bj}
structure Mk(σ Z:Hp)(m b D A:Addr)(U as:List Addr)(N O:Nat->List (Int×AV)):Prop where
 ex:aK σ Z
 cm:Z m=some (false,.inst 17 [(47,.ref b),(48,.bool false),(41,.ref D),(42,.ref A)])
 cD:Z D=some (false,.list (U.map rf))
 cA:Z A=some (false,.list (as.map rf))
 cd:∀i x,U[i]?=some x->Z x=some (false,.dict (N i))
 ca:∀i x,as[i]?=some x->Z x=some (false,.dict (O i))
 n1:U.Nodup
 n2:as.Nodup
 n3:∀x∈U,∀y∈as,x≠y
 nd:∀x∈U,x≠m/\x≠D/\x≠A
 na:∀x∈as,x≠m/\x≠D/\x≠A
 mD:m≠D
 mA:m≠A
 DA:D≠A
 fm:σ m=none
 fD:σ D=none
 fA:σ A=none
 fd:∀x∈U,σ x=none
 fa:∀x∈as,σ x=none
variable {σ Z:Hp} {m b D A:Addr} {U as:List Addr} {N O:Nat->List (Int×AV)}
theorem Mk.dm(h:Mk σ Z m b D A U as N O){x:Addr}(c:x∈U):∃o,Z x=some (false,o):=by
 obtain⟨i,a⟩:=List.getElem?_of_mem c;exact⟨_,h.cd i x a⟩
theorem Mk.am(h:Mk σ Z m b D A U as N O){x:Addr}(c:x∈as):∃o,Z x=some (false,o):=by
 obtain⟨i,a⟩:=List.getElem?_of_mem c;exact⟨_,h.ca i x a⟩
theorem hK{l:List Addr}{r:Addr}(h:l.Nodup)(k:∀x∈l,x≠r):(l++[r]).Nodup:=List.nodup_append.mpr ⟨h,List.Pairwise.cons (λ_ h=>nM h) .nil,λx a y c=>by rw[aw c];exact k x a⟩
theorem rC{B:Type}{l:List B}{r x:B}{i:Nat}(h:(l++[r])[i]?=some x):l[i]?=some x∨(i=l.length/\x=r):=by
 by_cases e:i<l.length
 ·rw[List.getElem?_append_left e]at h;exact .inl h
 ·rw[List.getElem?_append_right (Nat.not_lt.mp e)]at h
  cases c:i-l.length with
  |zero=>rw[c]at h;exact .inr ⟨by exact Nat.le_antisymm (n2 [_,_,_] J0 (.eq (.v 2) (.n 0)) (.le (.v 0) (.a (.v 2) (.v 1))) rfl c (sb (i) (l.length))) (n1 [_,_] J0 J0 rfl (nl e)),(Option.some.inj h).symm⟩
  |succ k=>rw[c]at h;cases h
theorem Mk.pushD(h:Mk σ Z m b D A U as N O){r:Addr}(c:Z r=none)(p:N U.length=[]):Mk σ (upd (upd Z r (false,.dict [])) D (false,.list (U.map rf++[rf r]))) m b D A (U++[r]) as N O:=by
 have g:=af h.cm c
 have j:=af h.cD c
 have k:=af h.cA c
 have l:∀x∈U,x≠r:=λx a=>by obtain⟨o,e⟩:=h.dm a;exact af e c
 have f:∀x∈as,x≠r:=λx a=>by obtain⟨o,e⟩:=h.am a;exact af e c
 have d:=h.ex.nn c
 refine⟨(h.ex.upd d).upd h.fD,?_,?_,?_,λi x a=>?_,λi x a=>?_,hK h.n1 l,h.n2,λx a y n=>?_,λx a=>?_,h.na,h.mD,h.mA,h.DA,h.fm,h.fD,h.fA,λx a=>?_,h.fa⟩
 ·rw[ac h.mD,ac g];exact h.cm
 ·rw[List.map_append];exact ab
 ·rw[ac (Ne.symm h.DA),ac k];exact h.cA
 ·rcases rC a with a|⟨rfl,rfl⟩
  ·have:=List.mem_of_getElem? a
   rw[ac (h.nd x this).2.1,ac (l x this)];exact h.cd i x a
  ·rw[ac (Ne.symm j),p];exact ab
 ·have:=List.mem_of_getElem? a
  rw[ac (h.na x this).2.1,ac (f x this)];exact h.ca i x a
 ·rcases aE a with a|a
  ·exact h.n3 x a y n
  ·rw[aw a];exact Ne.symm (f y n)
 ·rcases aE a with a|a
  ·exact h.nd x a
  ·rw[aw a];exact⟨Ne.symm g,Ne.symm j,Ne.symm k⟩
 ·rcases aE a with a|a
  ·exact h.fd x a
  ·rw[aw a];exact d
theorem Mk.pushA(h:Mk σ Z m b D A U as N O){r:Addr}(c:Z r=none)(p:O as.length=[]):Mk σ (upd (upd Z r (false,.dict [])) A (false,.list (as.map rf++[rf r]))) m b D A U (as++[r]) N O:=by
 have j:=af h.cm c
 have k:=af h.cD c
 have l:=af h.cA c
 have n:∀x∈U,x≠r:=λx a=>by obtain⟨o,e⟩:=h.dm a;exact af e c
 have g:∀x∈as,x≠r:=λx a=>by obtain⟨o,e⟩:=h.am a;exact af e c
 have f:=h.ex.nn c
 refine⟨(h.ex.upd f).upd h.fA,?_,?_,?_,λi x a=>?_,λi x a=>?_,h.n1,hK h.n2 g,λx a y d=>?_,h.nd,λx a=>?_,h.mD,h.mA,h.DA,h.fm,h.fD,h.fA,h.fd,λx a=>?_⟩
 ·rw[ac h.mA,ac j];exact h.cm
 ·rw[ac h.DA,ac k];exact h.cD
 ·rw[List.map_append];exact ab
 ·have:=List.mem_of_getElem? a
  rw[ac (h.nd x this).2.2,ac (n x this)];exact h.cd i x a
 ·rcases rC a with a|⟨rfl,rfl⟩
  ·have:=List.mem_of_getElem? a
   rw[ac (h.na x this).2.2,ac (g x this)];exact h.ca i x a
  ·rw[ac (Ne.symm l),p];exact ab
 ·rcases aE d with d|d
  ·exact h.n3 x a y d
  ·rw[aw d];exact n x a
 ·rcases aE a with a|a
  ·exact h.na x a
  ·rw[aw a];exact⟨Ne.symm j,Ne.symm k,Ne.symm l⟩
 ·rcases aE a with a|a
  ·exact h.fa x a
  ·rw[aw a];exact f
theorem gU{l:List Addr}(h:l.Nodup){i j:Nat}{x y:Addr}(hi:l[i]?=some x)(a:l[j]?=some y)(n:j≠i):y≠x:=by
 obtain⟨c,rfl⟩:=be hi
 obtain⟨d,rfl⟩:=be a
 exact λe=>n ((List.getElem_inj h).mp e)
noncomputable def aI{B:Type}(f:Nat->B)(i:Nat)(v:B):Nat->B:=λj=>if j=i then v else f j
theorem mz{B:Type}{f:Nat->B}{i:Nat}{v:B}:aI f i v i=v:=if_pos rfl
theorem mB{B:Type}{f:Nat->B}{i j:Nat}{v:B}(h:j≠i):aI f i v j=f j:=if_neg h
theorem Mk.setD(h:Mk σ Z m b D A U as N O){i:Nat}{x:Addr}(d:U[i]?=some x)(es:List (Int×AV)):Mk σ (upd Z x (false,.dict es)) m b D A U as (aI N i es) O:=by
 have c:=List.mem_of_getElem? d
 obtain⟨f,g,k⟩:=h.nd x c
 refine⟨h.ex.upd (h.fd x c),?_,?_,?_,λj y a=>?_,λj y a=>?_,h.n1,h.n2,h.n3,h.nd,h.na,h.mD,h.mA,h.DA,h.fm,h.fD,h.fA,h.fd,h.fa⟩
 ·rw[ac (Ne.symm f)];exact h.cm
 ·rw[ac (Ne.symm g)];exact h.cD
 ·rw[ac (Ne.symm k)];exact h.cA
 ·by_cases e:j=i
  ·subst e;rw[d]at a;cases a;rw[mz];exact ab
  ·rw[mB e,ac (gU h.n1 d a e)];exact h.cd j y a
 ·rw[ac (Ne.symm (h.n3 x c y (List.mem_of_getElem? a)))];exact h.ca j y a
theorem Mk.setA(h:Mk σ Z m b D A U as N O){i:Nat}{x:Addr}(d:as[i]?=some x)(es:List (Int×AV)):Mk σ (upd Z x (false,.dict es)) m b D A U as N (aI O i es):=by
 have c:=List.mem_of_getElem? d
 obtain⟨f,g,k⟩:=h.na x c
 refine⟨h.ex.upd (h.fa x c),?_,?_,?_,λj y a=>?_,λj y a=>?_,h.n1,h.n2,h.n3,h.nd,h.na,h.mD,h.mA,h.DA,h.fm,h.fD,h.fA,h.fd,h.fa⟩
 ·rw[ac (Ne.symm f)];exact h.cm
 ·rw[ac (Ne.symm g)];exact h.cD
 ·rw[ac (Ne.symm k)];exact h.cA
 ·rw[ac (h.n3 y (List.mem_of_getElem? a) x c)];exact h.cd j y a
 ·by_cases e:j=i
  ·subst e;rw[d]at a;cases a;rw[mz];exact ab
  ·rw[mB e,ac (gU h.n2 d a e)];exact h.ca j y a
theorem wB{n:Nat}{V:bo}{Q:PX}(e:σ m=none)(y:dP true σ V)(B:rB V)
  (h:∀(D A:Addr) (U as:List Addr) (Z:Hp),U.length=V.lv.length->as.length=V.lv.length->Mk σ Z m V.adr D A U as (λ_=>[]) (λ_=>[])->Q .none Z):
  cB ext (n+1) (F.fa 54) [.ref m,.ref V.adr] (upd σ m (false,.inst 17 [])) Q:=by
 have z:=y.v
 refine aB (l:=[.ref m,.ref V.adr,.undef]) MP rfl rfl ?_;show Go _ ID _ _ _;delta ID
 right
 intro D t
 have d:m≠D:=af ab t
 have w:σ D=none:=by rw[ac (Ne.symm d)]at t;exact t
 have I:∀c,upd σ m c V.adr=_:=λc=>ag e z
 right
 intro A hA
 have o:m≠A:=af ab hA
 have s:D≠A:=af (by rw[ac (Ne.symm d)];exact ab) hA
 have x:σ A=none:=by rw[ac (Ne.symm o),ac (Ne.symm s),ac (Ne.symm o)]at hA;exact hA
 right
 have q:=B.n
 refine dR (λa:List Addr×List Addr×AV=>[.ref m,.ref V.adr,a.2.2]) (λi a Z=>Mk σ Z m V.adr D A a.1 a.2.1 (λ_=>[]) (λ_=>[])/\(a.1.length:Int)=i/\(a.2.1.length:Int)=i) ([],[],.undef) rfl ⟨by decide,by decide,Int.natCast_nonneg _,by exact z1 [_] jJ zk rfl (cl q)⟩ ⟨?_,rfl,rfl⟩ ?_ ?_
 ·exact⟨((((aK.new e).upd w).upd e).upd x).upd e,ab,by rw[ac (Ne.symm d),ac s,ac (Ne.symm d)];exact ab,by rw[ac (Ne.symm o)];exact ab,λ_ _ h=>oW h,λ_ _ h=>oW h,.nil,.nil,λ_=>nM,λ_=>nM,λ_=>nM,d,o,s,e,w,x,λ_=>nM,λ_=>nM⟩
 ·intro i a Z R g1 g2 ⟨k,j,p⟩ G
  have K:=k.cm
  have b1:(a.1.map rf).length<=9000:=by rw[List.length_map];exact l9 j g2 q
  have b2:(a.2.1.map rf).length<=9000:=by rw[List.length_map];exact l9 p g2 q
  refine dJ (iI (aS (by left) (iW k.cD rfl (aj (yc λr u=>aD (dO (ag u k.cD) b1 ?_))))))
  have g:=k.pushD u rfl
  have J:=g.cm
  refine dJ (iI (aS (by left) (iW g.cA rfl (aj (yc λE f=>aD (dO (ag f g.cA) b2 ?_))))))
  have k2:=g.pushA f rfl
  right
  exact aR (G (a.1++[r],a.2.1++[E],.int i) _ ⟨k2,by rw[List.length_append,←j];rfl,by rw[List.length_append,←p];rfl⟩)
 ·intro i a Z g1 g2 g3 ⟨k,j,p⟩
  right
  exact fX (Wk.refl _) (h D A a.1 a.2.1 Z (by exact lE j g2 g3) (by exact lE p g2 g3) k)
theorem oU{n i:Nat}{V:bo}{Q:PX}(d:Z m=some (false,.inst 17 [(47,.ref V.adr),(48,.bool false),(41,.ref D),(42,.ref A)]))(a:dP true Z V)(hi:i<V.lv.length)(h:Q .none Z):cB ext (n+1) (F.fa 55) [.ref m,.int i] Z Q:=by
 have c:=a.v
 refine aB (l:=[.ref m,.int i]) LY rfl rfl ?_;show Go _ KJ _ _ _;delta KJ
 refine gG (by left) (kx (fZ (Int.natCast_nonneg _)) (Int.not_le.mpr (dF hi))) ?_
 right
 exact fX (Wk.refl _) h
def bA(k:Nat)(a b:FM):Prop:=if k=0 then a.num<b.num else a.hi.u<b.lo.u
theorem vY{n k:Nat}{V:bo}{f g:FM}{Q:PX}(B:Z m=some (false,.inst 17 [(47,.ref V.adr),(48,.bool false),(41,.ref D),(42,.ref A)]))(h:dP true Z V)(r:mO Z f)(q:mO Z g)(j:f.ok)(go:g.ok)(lf:f.lo.u<=f.hi.u)(p:g.lo.u<=g.hi.u)
  (a:bA k f g->Q (.bool true) Z) (c:bA k g f->Q (.bool false) Z) (sep:bA k f g∨bA k g f):cB ext (n+5) (F.fa 57) [.ref m,.int k,f.v,g.v] Z Q:=by
 have w:=h.v
 obtain⟨t,z,E⟩:=id h.o
 unfold mO at r q
 unfold bA at a c sep
 refine aB (l:=[.ref m,.int k,f.v,g.v,.undef]) MY rfl rfl ?_;show Go _ Kx _ _ _;delta Kx
 refine d6 (by left) (λx=>?_) λx=>?_
 ·have d:k≠0:=λe=>by rw[e]at x;exact absurd x (by decide)
  rw[if_neg d]at a c sep
  right
  refine ff h.o j.1 go.1 ?_
  rcases sep with s|s
  ·have e:jY f.lo.u f.lo.s f.lo.k g.lo.u g.lo.s g.lo.k= -1:=if_pos (Nat.lt_of_le_of_lt lf s)
   rw[e]
   refine d6 (by left) (λ_=>?_) λy=>absurd (by decide) y
   right
   exact(ay (a s))
  ·rw[if_neg d]at s
   have i:=Nat.lt_of_le_of_lt p s
   have e:jY f.lo.u f.lo.s f.lo.k g.lo.u g.lo.s g.lo.k=1:=by unfold jY;rw[if_neg (iG (Nat.le_of_lt i)),if_pos i]
   rw[e]
   refine d6 (by left) (λ_=>?_) λy=>absurd (by decide) y
   right
   exact(ay (c s))
 ·have d:k=0:=by exact Pq x
  rw[if_pos d]at a c sep
  right
  rcases sep with s|s
  ·rw[decide_eq_true (dF s)];exact ay (a s)
  ·rw[if_pos d]at s
   rw[decide_eq_false (fZ (bF (Nat.le_of_lt s)))];exact ay (c s)
end
section
variable {ext:bj} {Z:Hp} {m D A:Addr}
theorem Bc{k:Nat}{a b c:FM}(h:bA k a b)(g:bA k b c)(d:b.lo.u<=b.hi.u):bA k a c:=by
 unfold bA at h g ⊢
 by_cases e:k=0
 ·rw[if_pos e]at h g ⊢;exact Nat.lt_trans h g
 ·rw[if_neg e]at h g ⊢;exact Nat.lt_trans (Nat.lt_of_lt_of_le h d) g
theorem AK{k:Nat}{a b:FM}(h:bA k a b)(c:a.lo.u<=a.hi.u)(d:b.lo.u<=b.hi.u):¬bA k b a:=by
 unfold bA at h ⊢
 by_cases e:k=0
 ·rw[if_pos e]at h ⊢;exact iG (Nat.le_of_lt h)
 ·rw[if_neg e]at h ⊢;exact iG (n3 [_,_,_,_] J0 EE J4 NB rfl h c d)
theorem yq{n k:Nat}{V:bo}{G:Addr}{cur:List FM}{f:FM}{Q:PX}(hm:Z m=some (false,.inst 17 [(47,.ref V.adr),(48,.bool false),(41,.ref D),(42,.ref A)]))(hV:dP true Z V)(t:Z G=some (false,.list (cur.map FM.v)))(hc:cM Z cur)(hf:mO Z f)
  (ok:pI cur) (Y:f.ok) (K:∀g∈cur,g.lo.u<=g.hi.u) (lf:f.lo.u<=f.hi.u) (len:cur.length<=900) (O:cur.Pairwise (bA k)) (sep:∀g∈cur,bA k g f∨bA k f g)
  (h:∀i:Nat,(cur.take i++f::cur.drop i).Pairwise (bA k)->Q .none (upd Z G (false,.list ((cur.take i++f::cur.drop i).map FM.v)))):cB ext (n+6) (F.fa 58) [.ref m,.int k,.ref G,f.v] Z Q:=by
 have lm:=aO (g:=FM.v) (bh len rfl)
 have s:∀(i j:Nat) (a b:FM),i<j->cur[i]?=some a->cur[j]?=some b->bA k b f->bA k a f:=λi j a b lt hi d c=>by
  have y:=List.mem_of_getElem? d
  obtain⟨li,rfl⟩:=be hi
  obtain⟨lj,rfl⟩:=be d
  exact Bc (List.pairwise_iff_getElem.mp O i j li lj lt) c (K _ y)
 refine aB (l:=[.ref m,.int k,.ref G,f.v,.undef,.undef,.undef]) Nq rfl rfl ?_;show Go _ IE _ _ _;delta IE
 right
 refine lU (λa:Nat×Nat×AV=>[.ref m,.int k,.ref G,f.v,.int a.1,.int a.2.1,a.2.2]) (λ_=>Z) (λa=>a.1<=a.2.1/\a.2.1<=cur.length/\(∀(j:Nat) (g:FM),cur[j]?=some g->j<a.1->bA k g f)/\(∀(j:Nat) (g:FM),cur[j]?=some g->a.2.1<=j->bA k f g))
  (λa=>a.2.1-a.1) (0,cur.length,.undef) (by rw[List.length_map];rfl) rfl ⟨Nat.zero_le _,Nat.le_refl _,λj f _ d=>absurd d (Nat.not_lt_zero _),λj f d hh=>absurd (be d).1 (iG hh)⟩ ?_
 rintro⟨lo,hi,mm⟩ R ⟨g1,g2,g3,I⟩ W
 dsimp only at g1 g2 g3 I
 refine g8 (by left) (br (λx=>?_) λx=>?_)
 ·have B:lo<hi:=cq x
  refine bG (aU (by left) (show AV.int (((lo:Int)+hi)/2)=AV.int ((lo+hi)/2:Nat)from congrArg AV.int (by exact rfl))) ?_
  have p:(lo+hi)/2<hi:=by exact m2 [_,_,_] J2 1 1 1 E8 LT rfl B (Nat.mul_div_le (lo+hi) 2)
  have r:lo<=(lo+hi)/2:=by exact m2 [_,_,_] J0 1 1 1 J4 K6 rfl g1 (Nat.lt_mul_div_succ (lo+hi) (show 0<2 by decide))
  generalize (lo+hi)/2=o at p r
  obtain⟨g,q⟩:∃f,cur[o]?=some f:=⟨_,List.getElem?_eq_getElem (Nat.lt_of_lt_of_le p g2)⟩
  have e3:=bS (g:=FM.v) q
  have E:=List.mem_of_getElem? q
  have N:=Nat.sub_lt_sub_left B (Nat.lt_succ_of_le r)
  refine bJ (kL (aW (by left) (by nofun) rfl (by kernel_rfl) (by left) (vY hm hV (hc g E) hf (ok g E) Y (K g E) lf (λc=>?_) (λc=>?_) (sep g E))))
  ·refine dG ?_
   right
   exact aR (W (o+1,hi,.int o) ⟨p,g2,λj a d z=>by
    by_cases e:j=o
    ·subst e;rw[q]at d;cases d;exact c
    ·exact s j o a g (Nat.lt_of_le_of_ne (Nat.le_of_lt_succ z) e) d q c,I⟩ N)
  ·refine dG ?_
   right
   exact aR (W (lo,o,.int o) ⟨r,Nat.le_trans (Nat.le_of_lt p) g2,g3,λj a d J=>by
    by_cases e:j=o
    ·subst e;rw[q]at d;cases d;exact c
    ·have am:=List.mem_of_getElem? d
     exact(sep a am).resolve_left λc'=>AK c lf (K g E) (s o j g a (Nat.lt_of_le_of_ne J (Ne.symm e)) q d c')⟩ (Nat.sub_lt_sub_right r p))
 ·obtain rfl:lo=hi:=Nat.le_antisymm g1 (Int.ofNat_le.mp (Int.not_lt.mp x))
  have pw:(cur.take lo++f::cur.drop lo).Pairwise (bA k):=by
   have w:=O
   rw[←List.take_append_drop lo cur]at w
   obtain⟨s1,s2,s3⟩:=List.pairwise_append.mp w
   have t1:∀g∈cur.take lo,bA k g f:=λg q=>by
    obtain⟨j,d⟩:=List.getElem?_of_mem q
    have t:=(be d).1
    rw[List.length_take]at t
    rw[List.getElem?_take_of_lt (by exact Nat.lt_of_lt_of_le t (Nat.min_le_left _ _))]at d
    exact g3 j g d (by exact Nat.lt_of_lt_of_le t (Nat.min_le_left _ _))
   have t2:∀g∈cur.drop lo,bA k f g:=λg q=>by
    obtain⟨j,d⟩:=List.getElem?_of_mem q
    rw[List.getElem?_drop]at d
    exact I _ g d (Nat.le_add_right _ _)
   refine List.pairwise_append.mpr ⟨s1,List.pairwise_cons.mpr ⟨t2,s2⟩,λa U b y=>?_⟩
   rcases au y with rfl|y
   ·exact t1 a U
   ·exact s3 a U b y
  refine dJ (iI (aS (by left) (iW t rfl (Bt (by left) (C8 t lm (by rw[List.length_map];exact g2) ?_)))))
  right
  refine fX (Wk.refl _) ?_
  have:=h lo pw
  rw[List.map_append,List.map_cons,List.map_take,List.map_drop]at this
  exact this
end
section
variable {ext:bj}
structure LV(V:bo):Prop where
 sm:rB V
 nd:(nums V).Nodup
 ok:∀L∈V.lv,pI L.fs
 le:∀L∈V.lv,∀f∈L.fs,¬0<dw f.lo f.hi
 so:∀(k:Nat) (L:bM),V.lv[k]?=some L->L.fs.Pairwise (bA k)
theorem AQ{u v:Nat}(a:u<4)(b:v<4):(!decide (bv u<bv v))=decide (v<=u):=by
 rw[show decide (bv u<bv v)=decide (u<v)from decide_eq_decide.mpr (hF u a v b)]
 by_cases e:u<v
 ·rw[decide_eq_true e,decide_eq_false (eK e)];rfl
 ·rw[decide_eq_false e,decide_eq_true (Nat.not_lt.mp e)];rfl
theorem wJ{n:Nat}{b:Bool}{V:bo}{σ:Hp}{Q:PX}(B:dP b σ V)(q:LV V)(h:Q .none σ):cB ext (n+5) (F.fa 53) [.ref V.adr] σ Q:=by
 have v1:=B.v
 have nl:(nums V).length<=60:=eP (V:=V)▸q.sm.f
 refine aB (l:=[.ref V.adr,.undef,.undef,.undef,.undef,.undef,.undef]) LM rfl rfl ?_;show Go _ JH _ _ _;delta JH
 right
 refine iF B q.sm λs r Y U O=>?_
 have hE:=aK.new (c:=(true,.list (s.map .int))) O
 have m:=B.up hE
 have w1:=m.v
 have w2:=m.fl
 obtain⟨uo,o1,o2⟩:=id m.o
 have e1:=aO (g:=bM.v) (bh q.sm.n rfl)
 have K:s.length<=60:=Y.length_eq▸nl
 have nd:=Y.nodup_iff.mpr q.nd
 have le:=aO (g:=AV.int) (bh K rfl)
 right
 refine jL (λa:AV=>[.ref V.adr,.ref r,a,.undef,.undef,.undef,.undef]) (λ_=>upd σ r (true,.list (s.map .int))) (λ_ _=>True) .undef rfl rfl ⟨by decide,by decide,Int.natCast_nonneg _,bF le⟩ trivial ?_ ?_
 ·intro i a R g1 g2 _ I
  obtain⟨j,rfl⟩:∃j:Nat,i=(j:Int)+1:=⟨(i-1).toNat,by exact OJ g1⟩
  have A:j+1<s.length:=by rw[List.length_map]at g2;exact cq g2
  have x1:=bS (g:=AV.int) (List.getElem?_eq_getElem (Nat.lt_of_succ_lt A))
  have x2:oB (s.map .int) ((j:Int)+1)=some (.int s[j+1]):=bS (List.getElem?_eq_getElem A)
  have x3:oB (s.map .int) ((j:Int)+1-1)=some (.int (s[j]'(Nat.lt_of_succ_lt A))):=by rw[Int.add_sub_cancel];exact x1
  refine rY (by left) (λe=>absurd ((List.getElem_inj nd).mp e) (Nat.ne_of_lt (Nat.lt_succ_self j))) ?_
  right
  exact aR (I (.int ((j:Int)+1)) trivial)
 ·intro i a _ _ _ _
  right
  refine jL (λa:(AV×AV)×AV×AV×AV=>[.ref V.adr,.ref r,a.1.1,a.1.2,a.2.1,a.2.2.1,a.2.2.2]) (λ_=>upd σ r (true,.list (s.map .int))) (λ_ _=>True) ((a,.undef),.undef,.undef,.undef) rfl rfl ⟨by decide,by decide,Int.natCast_nonneg _,bF (bh q.sm.n rfl)⟩ trivial ?_ ?_
  ·intro i c R g1 g2 _ I
   obtain⟨k,rfl⟩:∃k:Nat,i=k:=⟨i.toNat,(Int.toNat_of_nonneg g1).symm⟩
   obtain⟨L,J⟩:∃L,V.lv[k]?=some L:=⟨_,List.getElem?_eq_getElem (cq g2)⟩
   have e2:=bS (g:=bM.v) J
   have w:=List.mem_of_getElem? J
   have w3:=m.lv L w
   have Z:=aO (g:=FM.v) (bh (q.sm.len w) rfl)
   right
   refine jL (λa:AV×AV×AV=>[.ref V.adr,.ref r,a.1,.int k,L.v,a.2.1,a.2.2]) (λ_=>upd σ r (true,.list (s.map .int))) (λ_ _=>True) (c.1.1,c.2.2.1,c.2.2.2) rfl rfl ⟨by decide,by decide,Int.natCast_nonneg _,bF Z⟩ trivial ?_ ?_
   ·intro i d R' g1 g2 _ t
    obtain⟨j,rfl⟩:∃j:Nat,i=j:=⟨i.toNat,(Int.toNat_of_nonneg g1).symm⟩
    have A:j<L.fs.length:=by rw[List.length_map]at g2;exact cq g2
    obtain⟨f,D⟩:∃f,L.fs[j]?=some f:=⟨_,List.getElem?_eq_getElem A⟩
    have e3:=bS (g:=FM.v) D
    have N:=List.mem_of_getElem? D
    have h5:=m.fs L w f N
    unfold mO at h5
    have G:=q.ok L w f N
    right
    refine bJ (kL (cG (aW (by left) (by nofun) rfl (by kernel_rfl) (by left) (ff m.o G.1 G.2 (iQ (xW (dG (GQ (q.le L w f N) (ak (cx ?_))))))))))
    refine d6 (by left) (λx=>?_) λx=>?_
    ·right
     exact yJ (t (.int j,f.v,d.2.2) trivial)
    ·obtain⟨p,rfl⟩:∃p,j=p+1:=⟨j-1,by exact(Nat.succ_pred_eq_of_ne_zero λe=>x (ce e)).symm⟩
     obtain⟨g,E⟩:∃f,L.fs[p]?=some f:=⟨_,List.getElem?_eq_getElem (Nat.lt_of_succ_lt A)⟩
     have e4:oB (L.fs.map FM.v) (((p+1:Nat):Int)-1)=some g.v:=by rw[show((p+1:Nat):Int)-1=p by exact Int.le_antisymm (z0 [_] (.le (.a (.a (.v 0) (.n 1)) (.g (.n 1))) (.v 0)) rfl) (z0 [_] (.le (.v 0) (.a (.a (.v 0) (.n 1)) (.g (.n 1)))) rfl)];exact bS E
     have W:=List.mem_of_getElem? E
     have h6:=m.fs L w g W
     unfold mO at h6
     have gk:=q.ok L w g W
     have U:=q.so k L J
     have lo:bA k g f:=by
      obtain⟨lp,rfl⟩:=be E
      obtain⟨lq,rfl⟩:=be D
      exact List.pairwise_iff_getElem.mp U p (p+1) lp lq (Nat.lt_succ_self p)
     unfold bA at lo
     right
     refine d6 (by left) (λy=>?_) λy=>?_
     ·rw[if_pos (cY y)]at lo
      refine rY (by left) (Int.not_le.mpr (dF lo)) ?_
      right
      exact aR (t (.int (p+1:Nat),f.v,g.v) trivial)
     ·rw[if_neg λz=>y (congrArg Int.ofNat z)]at lo
      refine bJ (kL (cG (aV (by left) (bP (aV (by left) (bP (GK (dG ?_))))))))
      rw[AQ gk.2.u G.1.u]
      refine GQ (eK lo) ?_
      right
      exact aR (t (.int (p+1:Nat),f.v,g.v) trivial)
   ·intro i d _ _ _ _
    right
    exact aR (I ((d.1,.int k),L.v,d.2.1,d.2.2) trivial)
  ·intro i c _ _ _ _
   right
   exact fX (jU O) h
end
section
variable {ext:bj} {σ Z:Hp} {m D A:Addr} {U as:List Addr}
structure Ed where
 adr:Addr
 cp:Addr
 dlA:Addr
 alA:Addr
 dl:List (Addr×Nat×Nat)
 al:List (Addr×Nat×FM)
structure jM(σ:Hp)(E:Ed):Prop where
 e:σ E.adr=some (true,.inst 15 [(36,.none),(37,.none),(38,.none),(39,.none),(40,.ref E.cp),(41,.ref E.dlA),(42,.ref E.alA),(43,.bool false)])
 d:σ E.dlA=some (false,.list (E.dl.map λp=>rf p.1))
 a:σ E.alA=some (false,.list (E.al.map λp=>rf p.1))
 c:∃xs,σ E.cp=some (false,.list xs)
 dt:∀p∈E.dl,σ p.1=some (true,.tup [.int p.2.1,.int p.2.2])
 at':∀p∈E.al,σ p.1=some (true,.tup [.int p.2.1,p.2.2.v])/\mO σ p.2.2
structure GC(n:Nat)(E:Ed):Prop where
 dn:∀p∈E.dl,p.2.1<n
 an:∀p∈E.al,p.2.1<n
 nd:(E.al.map λp=>p.2.2.num).Nodup
 dj:∀p∈E.dl,∀q∈E.al,p.2.1=q.2.1->p.2.2≠q.2.2.num
 ld:E.dl.length<=60
 la:E.al.length<=60
theorem zT{x y:Int}{v:AV}{es:List (Int×AV)}:(bE (dZ x v es) y).isSome=true↔((bE es y).isSome=true∨y=x):=by
 have c:∀(es:List (Int×AV)) (y:Int),(bE es y).isSome=true↔∃e∈es,e.1=y:=λes y=>by
  unfold bE
  rw[Option.isSome_map,List.find?_isSome]
  exact⟨λ⟨e,b,d⟩=>⟨e,b,of_decide_eq_true d⟩,λ⟨e,b,d⟩=>⟨e,b,decide_eq_true d⟩⟩
 rw[c,c]
 unfold dZ
 by_cases h:es.any (λe=>decide (e.1=x))=true
 ·rw[if_pos h]
  obtain⟨f,j,b⟩:=List.any_eq_true.mp h
  constructor
  ·rintro⟨e,a,rfl⟩
   obtain⟨g,i,rfl⟩:=bz a
   refine .inl ⟨g,i,?_⟩
   by_cases z:g.1=x
   ·rw[if_pos z]
   ·rw[if_neg z]
  ·rintro(⟨e,a,rfl⟩|rfl)
   ·refine⟨_,dq ⟨e,a,rfl⟩,?_⟩
    by_cases z:e.1=x
    ·rw[if_pos z]
    ·rw[if_neg z]
   ·refine⟨_,dq ⟨f,j,rfl⟩,?_⟩
    rw[if_pos (of_decide_eq_true b)];exact of_decide_eq_true b
 ·rw[if_neg h]
  constructor
  ·rintro⟨e,a,rfl⟩
   rcases aE a with a|a
   ·exact .inl ⟨e,a,rfl⟩
   ·rw[aw a];exact .inr rfl
  ·rintro(⟨e,a,rfl⟩|rfl)
   ·exact⟨e,List.mem_append_left _ a,rfl⟩
   ·exact⟨(y,v),List.mem_append_right _ (.head _),rfl⟩
theorem m6{x:Int}{v:AV}{es:List (Int×AV)}:(dZ x v es).length<=es.length+1:=by
 unfold dZ
 by_cases h:es.any (λe=>decide (e.1=x))=true
 ·rw[if_pos h,List.length_map];exact Nat.le_succ _
 ·rw[if_neg h,List.length_append];exact Nat.le_refl _
theorem xX{x:Int}{v:AV}{es:List (Int×AV)}(h:∀e∈es,e.1≠x):dZ x v es=es++[(x,v)]:=by
 unfold dZ
 rw[if_neg]
 intro k
 obtain⟨e,a,b⟩:=List.any_eq_true.mp k
 exact h e a (of_decide_eq_true b)
noncomputable def cR(al:List (Addr×Nat×FM))(k:Nat):List FM:=(al.filter λp=>decide (p.2.1=k)).map (·.2.2)
noncomputable def gH(al:List (Addr×Nat×FM))(k:Nat):List (Int×AV):=(cR al k).map λf=>((f.num:Int),f.v)
theorem Di{a:List (Addr×Nat×FM)}{q:Addr×Nat×FM}:cR (a++[q]) q.2.1=cR a q.2.1++[q.2.2]:=by
 unfold cR
 rw[List.filter_append,List.filter_cons,if_pos (decide_eq_true rfl),List.map_append];rfl
theorem Da{a:List (Addr×Nat×FM)}{q:Addr×Nat×FM}{k:Nat}(h:q.2.1≠k):cR (a++[q]) k=cR a k:=by
 unfold cR
 rw[List.filter_append,List.filter_cons,if_neg (by rw[decide_eq_false h];exact fT)];exact congrArg _ (List.append_nil _)
theorem yD{n:Nat}{V:bo}{E:Ed}{Q:PX}(G:Mk σ Z m V.adr D A U as (λ_=>[]) (λ_=>[]))(hV:dP true σ V)(sm:rB V)(ld:U.length=V.lv.length)(Y:as.length=V.lv.length)(t:jM σ E)(s:GC V.lv.length E)
  (h:∀(dd:Nat->List (Int×AV)) (W:Hp),Mk σ W m V.adr D A U as dd (gH E.al)->(∀k x,(bE (dd k) x).isSome=true↔∃p∈E.dl,p.2.1=k/\(p.2.2:Int)=x)->Q .none W):
  cB ext (n+2) (F.fa 56) [.ref m,.ref E.adr] Z Q:=by
 have cm:=G.cm
 have ee:=G.ex _ _ t.e
 have ed:=G.ex _ _ t.d
 have ea:=G.ex _ _ t.a
 have O:=hV.up G.ex
 refine aB (l:=[.ref m,.ref E.adr,.undef,.undef,.undef]) Nt rfl rfl ?_;show Go _ I5 _ _ _;delta I5
 right
 refine gB E.dl (λp=>rf p.1) (λa:AV×AV=>[.ref m,.ref E.adr,a.1,a.2,.undef]) (λ_=>Z) (λ_ _=>True) (.undef,.undef) rfl rfl ed (bh s.ld rfl) (λ_ _ _=>⟨_,ed⟩) trivial ?_ ?_
 ·intro i p us a R e _ J
  have r:=aP e
  refine vx (G.ex _ _ (t.dt p r)) (dJ (aW (by left) (by nofun) rfl (by kernel_rfl) (by left) (oU G.cm O (s.dn p r) ?_)))
  right
  exact aR (J (.int p.2.1,.int p.2.2) trivial)
 intro a _
 right
 refine gB E.al (λp=>rf p.1) (λb:AV×AV=>[.ref m,.ref E.adr,b.1,a.2,b.2]) (λ_=>Z) (λ_ _=>True) (a.1,.undef) rfl rfl ea (bh s.la rfl) (λ_ _ _=>⟨_,ea⟩) trivial ?_ ?_
 ·intro i p us b R e _ J
  have r:=aP e
  refine vx (G.ex _ _ (t.at' p r).1) (dJ (aW (by left) (by nofun) rfl (by kernel_rfl) (by left) (oU G.cm O (s.an p r) ?_)))
  right
  exact aR (J (.int p.2.1,p.2.2.v) trivial)
 intro b _
 refine gG (by left) rfl ?_
 right
 refine eC E.dl (λp=>rf p.1) (λc:(Nat->List (Int×AV))×AV×AV=>[.ref m,.ref E.adr,c.2.1,c.2.2,b.2]) (λi c Z=>Mk σ Z m V.adr D A U as c.1 (λ_=>[])/\(∀k,(c.1 k).length<=i.length)/\∀k x,(bE (c.1 k) x).isSome=true↔∃p∈i,p.2.1=k/\(p.2.2:Int)=x)
  (λ_=>[],b.1,a.2) rfl ed (bh s.ld rfl) (λ_ _ Z p=>⟨_,p.1.ex _ _ t.d⟩) ⟨G,λ_=>Nat.le_refl _,λk x=>⟨fT,λ⟨_,h,_⟩=>nM h⟩⟩ ?_ ?_
 ·intro i p us c Z R e ⟨k1,k2,k3⟩ J
  have r:=aP e
  obtain⟨x,K⟩:∃x,U[p.2.1]?=some x:=⟨_,List.getElem?_eq_getElem (ld▸s.dn p r)⟩
  obtain⟨y,N⟩:∃y,as[p.2.1]?=some y:=⟨_,List.getElem?_eq_getElem (Y▸s.dn p r)⟩
  have ex:=bS (g:=rf) K
  have ey:=bS (g:=rf) N
  have lD:=aO (g:=rf) (bs:=U) (by rw[ld];exact bh sm.n rfl)
  have lA:=aO (g:=rf) (bs:=as) (by rw[Y];exact bh sm.n rfl)
  have c1:=k1.cm
  have c2:=k1.cD
  have pl:i.length<=60:=Nat.le_trans (by rw[e,List.length_append];exact Nat.le_add_right _ _) s.ld
  refine vx (k1.ex _ _ (t.dt p r)) (dz (aS aT (aS (by left) (aS (by left) (B9 (k1.cd _ _ K) (bh (Nat.le_trans (k2 _) pl) rfl) ?_)))))
  have u:=k1.setD K (dZ p.2.2 (.bool true) (c.1 p.2.1))
  have c3:=u.cm
  have c4:=u.cA
  have c5:=u.ca _ _ N
  refine gG (bR (js (by left) (by left) c5)) rfl ?_
  right
  refine aR (J (aI c.1 p.2.1 (dZ p.2.2 (.bool true) (c.1 p.2.1)),.int p.2.1,.int p.2.2) _ ⟨u,λk=>?_,λk z=>?_⟩)
  ·rw[List.length_append]
   by_cases q:k=p.2.1
   ·subst q;show List.length (aI _ _ _ _)<=_;rw[mz];exact Nat.le_trans m6 (Nat.add_le_add_right (k2 _) 1)
   ·show List.length (aI _ _ _ _)<=_;rw[mB q];exact Nat.le_trans (k2 _) (Nat.le_add_right _ _)
  ·show(bE (aI _ _ _ _) _).isSome=true↔_
   by_cases q:k=p.2.1
   ·subst q;rw[mz,zT,k3]
    constructor
    ·rintro(⟨w,o,B⟩|rfl)
     ·exact⟨w,List.mem_append_left _ o,B⟩
     ·exact⟨p,List.mem_append_right _ (.head _),rfl,rfl⟩
    ·rintro⟨w,o,B,I⟩
     rcases aE o with o|o
     ·exact .inl ⟨w,o,B,I⟩
     ·rw[aw o]at I;exact .inr I.symm
   ·rw[mB q,k3]
    constructor
    ·rintro⟨w,o,B⟩;exact⟨w,List.mem_append_left _ o,B⟩
    ·rintro⟨w,o,B,I⟩
     rcases aE o with o|o
     ·exact⟨w,o,B,I⟩
     ·rw[aw o]at B;exact absurd B.symm q
 intro c Z ⟨k1,k2,k3⟩
 have c1:=k1.cm
 have γ:=k1.ex _ _ t.e
 have β:=k1.ex _ _ t.a
 right
 refine eC E.al (λp=>rf p.1) (λd:AV×AV=>[.ref m,.ref E.adr,d.1,c.2.2,d.2]) (λi d Z=>Mk σ Z m V.adr D A U as c.1 (gH i)) (c.2.1,b.2) rfl β (bh s.la rfl) (λ_ _ Z p=>⟨_,p.ex _ _ t.a⟩) k1 ?_ ?_
 ·intro i p us d Z R e k1 J
  have r:=aP e
  obtain⟨x,K⟩:∃x,U[p.2.1]?=some x:=⟨_,List.getElem?_eq_getElem (ld▸s.an p r)⟩
  obtain⟨y,N⟩:∃y,as[p.2.1]?=some y:=⟨_,List.getElem?_eq_getElem (Y▸s.an p r)⟩
  have ex:=bS (g:=rf) K
  have ey:=bS (g:=rf) N
  have lD:=aO (g:=rf) (bs:=U) (by rw[ld];exact bh sm.n rfl)
  have lA:=aO (g:=rf) (bs:=as) (by rw[Y];exact bh sm.n rfl)
  have c1:=k1.cm
  have c2:=k1.cA
  have pl:i.length<=60:=Nat.le_trans (by rw[e,List.length_append];exact Nat.le_add_right _ _) s.la
  have pf:=k1.ex.fz _ _ (t.at' p r).2
  have al:(gH i p.2.1).length<=9000:=by
   unfold gH cR;rw[List.length_map,List.length_map]
   exact Nat.le_trans (List.length_filter_le _ _) (bh pl rfl)
  refine vx (k1.ex _ _ (t.at' p r).1) (dz (aS (by left) (aS (by left) (aS (by left) (B9 (k1.ca _ _ N) al ?_)))))
  have nw:dZ p.2.2.num p.2.2.v (gH i p.2.1)=gH i p.2.1++[((p.2.2.num:Int),p.2.2.v)]:=xX λg hg z=>by
   unfold gH cR at hg
   rw[List.map_map]at hg
   obtain⟨q,hq,rfl⟩:=bz hg
   have nd:=s.nd
   rw[e,List.map_append,List.map_cons]at nd
   exact(List.nodup_append.mp nd).2.2 _ (List.mem_map_of_mem (f:=λp:Addr×Nat×FM=>p.2.2.num) (fN hq).1) _ (.head _) (cY z)
  have u:=k1.setA N (dZ p.2.2.num p.2.2.v (gH i p.2.1))
  have c3:=u.cm
  have c4:=u.cD
  have c5:=u.cd _ _ K
  have δ:=u.ex.fz _ _ (t.at' p r).2
  have no:(bE (c.1 p.2.1) p.2.2.num).isSome=false:=by
   cases z:(bE (c.1 p.2.1) p.2.2.num).isSome with
   |false=>rfl
   |true=>
    obtain⟨w,o,B,I⟩:=(k3 _ _).mp z
    exact(s.dj w o p r B (cY I)).elim
  refine gG (bR (js (by left) (by left) c5)) no ?_
  right
  refine aR (J (.int p.2.1,p.2.2.v) _ ?_)
  rw[nw]at u
  have ef:aI (gH i) p.2.1 (gH i p.2.1++[((p.2.2.num:Int),p.2.2.v)])=gH (i++[p]):=funext λj=>by
   by_cases q:j=p.2.1
   ·subst q;rw[mz];unfold gH;rw[Di,List.map_append];rfl
   ·rw[mB q];unfold gH;rw[Da (Ne.symm q)]
  rw[ef]at u
  rw[nw]
  exact u
 ·intro d Z k1
  right
  exact fX (Wk.refl _) (h c.1 Z k1 k3)
end
section
variable {ext:bj} {σ Z:Hp} {m D A:Addr} {U as:List Addr}
theorem oC{B C:Type}{f:B->C}:∀{xs:List B} {ys:List C},ys.Perm (xs.map f)->∃zs:List B,zs.Perm xs/\zs.map f=ys:=by
 intro xs ys h
 generalize e:xs.map f=j at h
 induction h generalizing xs with
 |nil=>
  cases xs with
  |nil=>exact⟨[],.nil,rfl⟩
  |cons a l=>cases e
 |cons a h o=>
  cases xs with
  |nil=>cases e
  |cons x l=>
   obtain⟨rfl,rfl⟩:=List.cons.inj e
   obtain⟨zs,g,i⟩:=o rfl
   exact⟨x::zs,g.cons x,by rw[List.map_cons,i]⟩
 |swap a b l=>
  cases xs with
  |nil=>cases e
  |cons x l=>
   cases l with
   |nil=>cases(List.cons.inj e).2
   |cons y l=>
    obtain⟨rfl,n⟩:=List.cons.inj e
    obtain⟨rfl,rfl⟩:=List.cons.inj n
    exact⟨y::x::l,.swap _ _ _,rfl⟩
 |trans g i d c=>
  obtain⟨zs,g1,g2⟩:=c e
  obtain⟨j,g3,k⟩:=d g2
  exact⟨j,g3.trans g1,k⟩
noncomputable def kT(dl:List (Addr×Nat×Nat))(k:Nat)(f:FM):Bool:=dl.any λp=>decide (p.2.1=k/\p.2.2=f.num)
noncomputable def cQ(E:Ed)(k:Nat)(fs:List FM):List FM:=fs.filter λf=>!kT E.dl k f
structure iH(V:bo)(E:Ed)(V':bo):Prop where
 n:V'.lv.length=V.lv.length
 l:∀(k:Nat) (L:bM),V.lv[k]?=some L->∃L',V'.lv[k]?=some L'/\L'.fs.Perm (cQ E k L.fs++cR E.al k)/\L'.fs.Pairwise (bA k)
structure Nk(V:bo)(E:Ed):Prop where
 gd:∀(k:Nat) (L:bM),V.lv[k]?=some L->∀f∈cQ E k L.fs++cR E.al k,f.ok/\f.lo.u<=f.hi.u
 sep:∀(k:Nat) (L:bM),V.lv[k]?=some L->(cQ E k L.fs++cR E.al k).Pairwise λa b=>bA k a b∨bA k b a
 so:∀(k:Nat) (L:bM),V.lv[k]?=some L->L.fs.Pairwise (bA k)
 nw:∀(k:Nat) (L:bM),V.lv[k]?=some L->∀f∈cQ E k L.fs,∀g∈cR E.al k,f.num≠g.num
 ck:∀V',iH V E V'->LV V'
noncomputable def setL(W:bo)(k:Nat)(a:Addr)(fs:List FM):bo:={W with lv:=W.lv.set k ⟨a,fs⟩}
theorem qf{W:List bM}{k:Nat}{L:bM}{fs:List FM}(h:W[k]?=some L){B:Type}{g:bM->B}(a:∀L:bM,g L=g ⟨L.adr,[]⟩):(W.set k ⟨L.adr,fs⟩).map g=W.map g:=by
 rw[List.map_set,a ⟨L.adr,fs⟩,←a L]
 refine List.ext_getElem? λi=>?_
 rw[List.getElem?_set]
 by_cases e:k=i
 ·subst e
  have:=(be h).1
  rw[if_pos rfl,List.length_map,if_pos this,List.getElem?_map,h];rfl
 ·rw[if_neg e]
theorem lC{W:bo}{k:Nat}{L:bM}{fs:List FM}(h:W.lv[k]?=some L):(setL W k L.adr fs).lv[k]?=some ⟨L.adr,fs⟩:=by
 show(W.lv.set k _)[k]?=_
 rw[List.getElem?_set,if_pos rfl,if_pos (be h).1]
theorem qd{W:bo}{k j:Nat}{a:Addr}{fs:List FM}(h:k≠j):(setL W k a fs).lv[j]?=W.lv[j]?:=by
 show(W.lv.set k _)[j]?=_
 rw[List.getElem?_set,if_neg h]
theorem dP.setF{W:bo}{k:Nat}{L:bM}{fs:List FM}(h:dP false Z W)(n:Bj W)(g:W.lv[k]?=some L)(t:cM Z fs):dP false (upd Z L.adr (false,.list (fs.map FM.v))) (setL W k L.adr fs):=by
 have p:=List.mem_of_getElem? g
 obtain⟨q,r⟩:=n.b L p
 have s:=h.lv L p
 have z:=Fz.mut (c:=(false,.list (fs.map FM.v))) s
 have a:∀M∈(setL W k L.adr fs).lv,M=⟨L.adr,fs⟩∨(M∈W.lv/\M.adr≠L.adr):=λM d=>by
  obtain⟨j,f⟩:=List.getElem?_of_mem d
  by_cases e:k=j
  ·subst e;rw[lC g]at f;exact .inl (Option.some.inj f).symm
  ·rw[qd e]at f
   refine .inr ⟨List.mem_of_getElem? f,gU n.c (by rw[List.getElem?_map,g];rfl) (by rw[List.getElem?_map,f];rfl) (Ne.symm e)⟩
 refine⟨?_,h.o.fz z,?_,λM d=>?_,λM d=>?_,z _ _ h.sc⟩
 ·show upd _ _ _ W.adr=_
  rw[ac (Ne.symm q),show(setL W k L.adr fs).lv.length=W.lv.length from List.length_set];exact h.v
 ·show upd _ _ _ W.fl=_
  rw[ac (Ne.symm r),show(setL W k L.adr fs).lv.map bM.v=W.lv.map bM.v from qf g λ_=>rfl];exact h.fl
 ·rcases a M d with rfl|⟨i,l⟩
  ·exact ab
  ·rw[ac l];exact h.lv M i
 ·rcases a M d with rfl|⟨i,l⟩
  ·exact t.fz z
  ·exact(h.fs M i).fz z
theorem Bj.setL{W:bo}{k:Nat}{L:bM}{fs:List FM}(d:Bj W)(i:W.lv[k]?=some L):Bj (setL W k L.adr fs):=by
 have e:(Mine.setL W k L.adr fs).lv.map bM.adr=W.lv.map bM.adr:=qf i λ_=>rfl
 refine⟨d.a,λM h=>?_,by rw[e];exact d.c⟩
 have:=List.mem_map_of_mem (f:=bM.adr) h
 rw[e]at this
 obtain⟨g,l,j⟩:=bz this
 rw[←j];exact d.b g l
theorem DT{W:bo}{k:Nat}{a:Addr}{X Y:List FM}:setL (setL W k a X) k a Y=setL W k a Y:=by
 unfold setL;dsimp only;rw[List.set_set]
theorem dP.at2{W:bo}{k:Nat}{L:bM}{X:List FM}(h:dP false Z (setL W k L.adr X))(a:W.lv[k]?=some L):Z L.adr=some (false,.list (X.map FM.v)):=h.lv _ (List.mem_of_getElem? (lC a))
theorem dP.setF2{W:bo}{k:Nat}{L:bM}{X Y:List FM}(h:dP false Z (setL W k L.adr X))(c:Bj W)(a:W.lv[k]?=some L)(b:cM Z Y):dP false (upd Z L.adr (false,.list (Y.map FM.v))) (setL W k L.adr Y):=by
 have:=dP.setF (fs:=Y) h (c.setL a) (lC a) b
 rw[DT]at this;exact this
theorem yh{fs:List FM}{f:FM}(b:(fs.map FM.num).Nodup)(a:f∈fs):bE (fs.map λf=>((f.num:Int),f.v)) f.num=some f.v:=by
 induction fs with
 |nil=>cases a
 |cons g r c=>
  rw[List.map_cons,List.nodup_cons]at b
  unfold bE
  rw[List.map_cons,List.find?_cons]
  by_cases e:g.num=f.num
  ·rw[show decide ((((g.num:Int),g.v):Int×AV).1=(f.num:Int))=true from decide_eq_true (congrArg Int.ofNat e)]
   rcases au a with rfl|h
   ·rfl
   ·exact absurd (e▸List.mem_map_of_mem (f:=FM.num) h) b.1
  ·rw[show decide ((((g.num:Int),g.v):Int×AV).1=(f.num:Int))=false from decide_eq_false (λz=>e (cY z))]
   rcases au a with rfl|h
   ·exact absurd rfl e
   ·exact c b.2 h
theorem A0{fs:List FM}{x:Nat}(h:∀g∈fs,x≠g.num):(bE (fs.map λf=>((f.num:Int),f.v)) x).isSome=false:=by
 unfold bE
 rw[Option.isSome_map]
 cases e:(fs.map λf=>((f.num:Int),f.v)).find? _ with
 |none=>rfl
 |some p=>
  have a:=List.find?_some e
  obtain⟨g,b,rfl⟩:=bz (List.mem_of_find?_eq_some e)
  exact absurd (cY (of_decide_eq_true a)).symm (h g b)
theorem vF{n:Nat}{V:bo}{E:Ed}{dd:Nat->List (Int×AV)}{Q:PX}(hk:Mk σ Z m V.adr D A U as dd (gH E.al))(hV:dP true σ V)(sm:rB V)(ld:U.length=V.lv.length)(la:as.length=V.lv.length)(hE:jM σ E)(eo:GC V.lv.length E)(ok:Nk V E)
  (hd:∀k x,(bE (dd k) x).isSome=true↔∃p∈E.dl,p.2.1=k/\(p.2.2:Int)=x)
  (h:∀(V':bo) (δ:Hp),iH V E V'->V'.o=V.o->aK Z δ->dP false δ V'->Bj V'->Z V'.adr=none->Z V'.fl=none->(∀L∈V'.lv,Z L.adr=none)->Q (.ref V'.adr) δ):
  cB ext (n+7) (F.fa 59) [.ref m] Z Q:=by
 have cm:=hk.cm
 have s:=hV.up hk.ex
 have v1:=s.v
 have dB:∀k f,(bE (dd k) (f:FM).num).isSome=kT E.dl k f:=λk f=>by
  cases e:kT E.dl k f with
  |true=>
   obtain⟨p,O,I⟩:=List.any_eq_true.mp e
   obtain⟨I,h3⟩:=of_decide_eq_true I
   exact(hd k f.num).mpr ⟨p,O,I,congrArg Int.ofNat h3⟩
  |false=>
   cases z:(bE (dd k) f.num).isSome with
   |false=>rfl
   |true=>
    obtain⟨p,O,I,h3⟩:=(hd k f.num).mp z
    have:=(List.any_eq_true (p:=λp:Addr×Nat×Nat=>decide (p.2.1=k/\p.2.2=f.num))).mpr ⟨p,O,decide_eq_true ⟨I,cY h3⟩⟩
    exact absurd (e.symm.trans this) fT
 refine aB (l:=[.ref m,.undef,.undef,.undef,.undef,.undef]) MB rfl rfl ?_;show Go _ IJ _ _ _;delta IJ
 refine az (fV (by left) rfl λv hv=>?_)
 refine rR hv (s.o) sm.n λW π w1 w2 w3 w4 w5 w6 w7 w8 w9 ν χ μ=>⟨π,Wk.refl _,?_⟩
 subst w1
 right
 have c1:=w8 _ _ cm
 have v2:=w8 _ _ v1
 right
 refine dR (λa:bo×AV×AV×AV×AV=>[.ref m,.ref W.adr,a.2.1,a.2.2.1,a.2.2.2.1,a.2.2.2.2]) (λi a υ=>aK Z υ/\dP false υ a.1/\Bj a.1/\a.1.adr=W.adr/\a.1.o=V.o/\a.1.fl=W.fl/\a.1.lv.map bM.adr=W.lv.map bM.adr/\(∀(j:Nat) (L:bM),(j:Int)<i->V.lv[j]?=some L->∃L',a.1.lv[j]?=some L'/\L'.fs.Perm (cQ E j L.fs++cR E.al j)/\L'.fs.Pairwise (bA j))/\(∀(j:Nat) (L:bM),i<=(j:Int)->a.1.lv[j]?=some L->L.fs=[]))
  (W,.undef,.undef,.undef,.undef) rfl ⟨by decide,by decide,Int.natCast_nonneg _,bF (bh sm.n rfl)⟩ ⟨w8,w9,ν,rfl,w2,rfl,rfl,λj L hj=>absurd hj (fZ (Int.natCast_nonneg _)),λj L _ hj=>w4 L (List.mem_of_getElem? hj)⟩ ?_ ?_
 ·intro i a υ R g1 g2 ⟨p1,p2,p3,p4,p5,p6,p7,p8,p9⟩ ih
  obtain⟨k,rfl⟩:∃k:Nat,i=k:=⟨i.toNat,(Int.toNat_of_nonneg g1).symm⟩
  have kl:k<V.lv.length:=cq g2
  have al:a.1.lv.length=V.lv.length:=by have:=congrArg List.length p7;rw[List.length_map,List.length_map]at this;rw[this,w3]
  obtain⟨L,B⟩:∃L,V.lv[k]?=some L:=⟨_,List.getElem?_eq_getElem kl⟩
  obtain⟨M,G⟩:∃L,a.1.lv[k]?=some L:=⟨_,List.getElem?_eq_getElem (al▸kl)⟩
  have M0:=p9 k M (Int.le_refl _) G
  have w:=List.mem_of_getElem? B
  obtain⟨x,hx⟩:∃x,U[k]?=some x:=⟨_,List.getElem?_eq_getElem (ld▸kl)⟩
  obtain⟨y,hy⟩:∃y,as[k]?=some y:=⟨_,List.getElem?_eq_getElem (la▸kl)⟩
  have ex:=bS (g:=rf) hx
  have ey:=bS (g:=rf) hy
  have lD:=aO (g:=rf) (bs:=U) (by rw[ld];exact bh sm.n rfl)
  have lA:=aO (g:=rf) (bs:=as) (by rw[la];exact bh sm.n rfl)
  have lV:=aO (g:=bM.v) (bh sm.n rfl)
  have lW:=aO (g:=bM.v) (bs:=a.1.lv) (by rw[al];exact bh sm.n rfl)
  have eV:=bS (g:=bM.v) B
  have eW:=bS (g:=bM.v) G
  have c1:=p1 _ _ cm
  have v2:=(s.up p1).v
  have v3:=(s.up p1).fl
  have v4:=(s.up p1).lv L w
  have u1:υ W.adr=_:=p4▸p2.v
  have u2:=p2.fl
  have s0:setL a.1 k M.adr []=a.1:=by
   have:(⟨M.adr,[]⟩:bM)=M:=by rw[←M0]
   unfold setL;rw[this]
   have ξ:=(be G)
   rw[←ξ.2,List.set_getElem_self]
  have sA:∀b,aK Z b->b V.adr=_/\b V.fl=_/\b L.adr=_/\b m=_/\b D=_/\b A=_/\b x=_/\b y=_:=λb e=>⟨(s.up e).v,(s.up e).fl,(s.up e).lv L w,e _ _ cm,e _ _ hk.cD,e _ _ hk.cA,e _ _ (hk.cd _ _ hx),e _ _ (hk.ca _ _ hy)⟩
  have fM:Z M.adr=none:=by
   obtain⟨M',O,I⟩:=bz (p7▸List.mem_map_of_mem (f:=bM.adr) (List.mem_of_getElem? G))
   exact I▸μ M' O
  right
  refine jw (by left) (λ_=>?_) (λh=>absurd h (by decide))
  right
  refine eC L.fs FM.v (λc:AV=>[.ref m,.ref W.adr,.int k,M.v,c,a.2.2.2.2]) (λu _ b=>aK Z b/\dP false b (setL a.1 k M.adr (cQ E k u))) a.2.2.2.1 rfl v4 (bh (sm.len w) rfl) (λ_ _ b p=>⟨_,(sA b p.1).2.2.1⟩) ⟨p1,s0.symm▸p2⟩ ?_ ?_
  ·intro u f us c b R' e ⟨q1,q2⟩ β
   have fm:=aP e
   obtain⟨z1,z2,z3,z4,z5,z6,z7,z8⟩:=sA b q1
   have h5:=(s.up q1).fs L w f fm
   have ψ:=h5
   unfold mO at h5
   have q3:=q2.at2 G
   have ζ:=dB k f
   refine mF ?_
   cases db:kT E.dl k f with
   |true=>
    refine EM (bR (aU (js (by left) (by left) z7) (congrArg AV.bool (ζ.trans db)))) ?_
    right
    exact yJ (β f.v b ⟨q1,by unfold cQ;rw[List.filter_append,List.filter_cons,db];exact(List.append_nil (cQ E k u)).symm▸q2⟩)
   |false=>
    have st:f∈cQ E k L.fs:=List.mem_filter.mpr ⟨fm,by rw[db];rfl⟩
    refine gG (bR (js (by left) (by left) z7)) (ζ.trans db) ?_
    refine gG (bR (js (by left) (by left) z8)) (A0 (ok.nw k L B f st)) ?_
    have ql:=aO (g:=FM.v) (bs:=cQ E k u) (Nat.le_trans (List.length_filter_le _ _) (Nat.le_trans (by rw[e,List.length_append];exact Nat.le_add_right _ _) (bh (sm.len w) rfl)))
    right
    have es:cQ E k (u++[f])=cQ E k u++[f]:=by unfold cQ;rw[List.filter_append,List.filter_cons,db];rfl
    have:=q2.setF2 (Y:=cQ E k u++[f]) p3 G λg r=>(s.up q1).fs L w g (by
     rcases aE r with r|r
     ·rw[e];exact List.mem_append_left _ (fN r).1
     ·rw[aw r];exact fm)
    rw[List.map_append]at this
    exact aR (β f.v _ ⟨q1.upd fM,es▸this⟩)
  ·intro c b ⟨q1,q2⟩
   obtain⟨z1,z2,z3,z4,z5,z6,z7,z8⟩:=sA b q1
   have γ:(cR E.al k).length<=60:=by unfold cR;rw[List.length_map];exact Nat.le_trans (List.length_filter_le _ _) eo.la
   have κ:((cR E.al k).map FM.num).Nodup:=by
    unfold cR;rw[List.map_map]
    exact List.Sublist.nodup (List.filter_sublist.map _) eo.nd
   have θ:(gH E.al k).length<=60:=by unfold gH;rw[List.length_map];exact γ
   right
   refine mG (aj (aS (by left) (aD (yo z8 θ λsc ns ε pm _=>?_))))
   have φ:ns.Perm ((cR E.al k).map λf=>(f.num:Int)):=by unfold gH at pm;rw[List.map_map]at pm;exact pm
   obtain⟨gs,gp,rfl⟩:=oC φ
   have gl:gs.length<=60:=gp.length_eq▸γ
   have eM:=q2.at2 G
   have ρ:sc≠M.adr:=Ne.symm (af eM ε)
   rw[List.map_map]
   have η:=((gp.symm.append_left (cQ E k L.fs)).pairwise_iff λh=>h.symm).mp (ok.sep k L B)
   refine eC gs (λf=>.int f.num) (λd:AV=>[.ref m,.ref W.adr,.int k,M.v,c,d]) (λu _ K=>aK Z K/\K sc=some (false,.list (gs.map λf=>.int f.num))/\∃t,dP false K (setL a.1 k M.adr t)/\t.Perm (cQ E k L.fs++u)/\t.Pairwise (bA k)) a.2.2.2.2 rfl ab (bh gl rfl) (λ_ _ K p=>⟨_,p.2.1⟩)
    ⟨q1.trans (aK.new ε),ab,cQ E k L.fs,q2.up (aK.new ε),by rw[List.append_nil],(ok.so k L B).filter _⟩ ?_ ?_
   ·intro u f us d K R' e ⟨r1,r2,t,r3,r4,r5⟩ β
    have fg:=aP e
    have fa:f∈cR E.al k:=gp.mem_iff.mp fg
    obtain⟨z1,z2,z3,z4,z5,z6,z7,z8⟩:=sA K r1
    have J:∀g∈cQ E k L.fs++cR E.al k,mO K g:=λg r=>by
     rcases aE r with r|r
     ·exact(s.up r1).fs L w g (fN r).1
     ·unfold cR at r
      obtain⟨p,hp,rfl⟩:=bz r
      exact(hk.ex.trans r1).fz _ _ (hE.at' p (fN hp).1).2
    have mc:∀g∈t,g∈cQ E k L.fs++cR E.al k:=λg r=>by
     rcases aE (r4.mem_iff.mp r)with r|r
     ·exact List.mem_append_left _ r
     ·exact List.mem_append_right _ (gp.mem_iff.mp (e▸List.mem_append_left _ r))
    have mf:=List.mem_append_right (cQ E k L.fs) fa
    have gd:=ok.gd k L B
    have cl:t.length<=900:=by
     rw[r4.length_eq,List.length_append]
     have O:=List.length_filter_le (λf=>!kT E.dl k f) L.fs
     have I:=sm.len w
     have h3:u.length<=gs.length:=by rw[e,List.length_append];exact Nat.le_add_right _ _
     unfold cQ;exact m4 [_,_,_,_] (.le (.a (.v 0) (.v 1)) (.n 900)) 0 1 1 1 1 Fo (.le (.v 0) (.v 3)) (.le (.v 3) (.n 60)) ON rfl gl O I h3
    have sp:∀g∈t,bA k g f∨bA k f g:=λg r=>by
     have:=η
     rw[e,←List.append_assoc]at this
     exact(List.pairwise_append.mp this).2.2 g (r4.mem_iff.mp r) f (.head _)
    have r6:=r3.at2 G
    have hd:=yh κ fa
    refine mF (dJ (aW (by left) (by nofun) rfl (by kernel_rfl) (ax (by left) (ax (by left) (ax (EZ (by left) (by left) z8 (bh θ rfl) hd) aQ))) ?_))
    refine yq z4 (s.up r1) r6 (λg r=>J g (mc g r)) (J f mf) (λg r=>(gd g (mc g r)).1) (gd f mf).1 (λg r=>(gd g (mc g r)).2) (gd f mf).2 cl r5 sp λi pw=>?_
    right
    refine aR (β (.int f.num) _ ⟨r1.upd fM,by rw[ac ρ];exact r2,t.take i++f::t.drop i,r3.setF2 p3 G λg r=>?_,?_,pw⟩)
    ·rcases aE r with r|r
     ·exact J g (mc g (List.mem_of_mem_take r))
     ·rcases au r with rfl|r
      ·exact J g mf
      ·exact J g (mc g (List.mem_of_mem_drop r))
    ·refine List.perm_middle.trans ?_
     rw[List.take_append_drop,←List.append_assoc]
     exact(r4.cons f).trans (List.perm_append_comm (l₁:=[f]))
   ·intro d K ⟨r1,r2,t,r3,r4,r5⟩
    right
    refine aR (ih (setL a.1 k M.adr t,.int k,M.v,c,d) K ⟨r1,r3,p3.setL G,p4,p5,p6,(qf G λ_=>rfl).trans p7,λj N hj hN=>?_,λj N hj hN=>?_⟩)
    ·by_cases q:k=j
     ·subst q
      rw[B]at hN;cases hN
      exact⟨_,lC G,r4.trans (gp.append_left _),r5⟩
     ·obtain⟨N',n1,n2⟩:=p8 j N (by exact dF (ln (cq hj) λe=>q e.symm)) hN
      exact⟨N',(qd q).trans n1,n2⟩
    ·exact p9 j N (by exact Int.le_of_lt hj) ((qd (by exact Nat.ne_of_lt (cq hj))).symm.trans hN)
 ·intro i a υ g1 g2 g3 ⟨p1,p2,p3,p4,p5,p6,p7,p8,p9⟩
  have al:a.1.lv.length=V.lv.length:=by have:=congrArg List.length p7;rw[List.length_map,List.length_map]at this;rw[this,w3]
  have md:iH V E a.1:=⟨al,λk L B=>p8 k L (Int.lt_of_lt_of_le (dF (be B).1) g2) B⟩
  have u1:υ W.adr=_:=p4▸p2.v
  refine dJ (aW (by left) (by nofun) rfl (by kernel_rfl) (by left) ?_)
  rw[←p4]
  refine wJ p2 (ok.ck _ md) ?_
  right
  rw[←p4]at hv
  refine cV (Wk.refl _) (h a.1 υ md p5 p1 p2 p3 hv (p6▸χ) λL B=>?_)
  obtain⟨M',O,I⟩:=bz (p7▸List.mem_map_of_mem (f:=bM.adr) B)
  exact I▸μ M' O
end
section
variable {ext:bj} {σ Z:Hp}
noncomputable def frz(σ Z:Hp):Hp:=λa=>match σ a with
 |some c=>some c
 |none=>(Z a).map λc=>(true,c.2)
theorem zE{a:Addr}{c:Bool×AO}(h:σ a=some c):frz σ Z a=some c:=by unfold frz;rw[h]
theorem lR{a:Addr}{fz:Bool}{o:AO}(h:Z a=some (fz,o))(n:σ a=none):frz σ Z a=some (true,o):=by unfold frz;rw[n,h];rfl
theorem tW(_:aK σ Z):aK σ (frz σ Z):=λ_ _ e=>zE e
theorem xg(b:aK σ Z):Fz Z (frz σ Z):=λa o e=>by
 cases h:σ a with
 |none=>exact lR e h
 |some c=>have:=b _ _ h;rw[e]at this;rw[zE h];exact this.symm
theorem zD(b:aK σ Z):Wk (frz σ Z) Z:=λa c e=>by
 cases h:σ a with
 |some d=>rw[zE h]at e;cases e;exact⟨_,b _ _ h,rfl,id⟩
 |none=>
  cases g:Z a with
  |none=>unfold frz at e;rw[h,g]at e;cases e
  |some d=>rw[lR (o:=d.2) (fz:=d.1) g h]at e;cases e;exact⟨_,rfl,rfl,λ_=>rfl⟩
theorem dP.frz{V:bo}(h:dP false Z V)(e:aK σ Z)(a:σ V.adr=none)(b:σ V.fl=none)(c:∀L∈V.lv,σ L.adr=none):dP true (frz σ Z) V:=
 ⟨lR h.v a,h.o.fz (xg e),lR h.fl b,λL d=>lR (h.lv L d) (c L d),λL d=>(h.fs L d).fz (xg e),xg e _ _ h.sc⟩
theorem tP{n:Nat}{V:bo}{E:Ed}{o:Op}{Q:PX}(q:dP true σ V)(s:rB V)(w:jM σ E)(x:GC V.lv.length E)(ok:Nk V E)(ho:fu σ o)(G:iX o)(nl:o.nl=V.lv.length)(N:∀d,iH V E d->∀L∈d.lv,Fm L.fs)
  (h:∀(d:bo) (Z:Hp),iH V E d->d.o=V.o->zm d->aK σ Z->dP true Z d->Q (.ref d.adr) Z):cB ext (n+8) (F.fa 79) [.ref V.adr,.ref E.adr,.ref o.adr] σ Q:=by
 refine aB (l:=[.ref V.adr,.ref E.adr,.ref o.adr,.undef,.undef]) Lh rfl rfl ?_;show Go _ KC _ _ _;delta KC
 refine az (fV (by left) rfl λm R=>?_)
 refine wB R q s λD A ds as Z ld u k1=>?_
 have cm:=k1.cm
 right
 refine yD k1 q s ld u w x λdd U k2 hd=>?_
 have cm:=k2.cm
 right
 refine vF k2 q s ld u w x ok hd λd j md B O g t Y w6 J=>?_
 have r:=k2.ex.trans O
 have W:=ok.ck d md
 right
 refine yR g t W.sm (N d md) (r.fz _ _ ho) G (nl.trans md.n.symm) λtop bot p f e K=>?_
 have y:=k2.ex.nn Y
 have i:=(r.upd (r.nn e) (c:=(true,.tup [.int top,.int bot]))).upd y (c:=(false,.inst 16 [(21,.int d.lv.length),(44,.ref d.o),(45,.ref d.fl),(46,.int 0),(0,.ref f),(1,.int p)]))
 have n1:d.adr≠f:=af g.v e
 have I:dP false (upd (upd j f (true,.tup [.int top,.int bot])) d.adr (false,.inst 16 [(21,.int d.lv.length),(44,.ref d.o),(45,.ref d.fl),(46,.int 0),(0,.ref f),(1,.int p)])) (LZ d top bot p f):=by
  have z:Fz j (upd (upd j f (true,.tup [.int top,.int bot])) d.adr (false,.inst 16 [(21,.int d.lv.length),(44,.ref d.o),(45,.ref d.fl),(46,.int 0),(0,.ref f),(1,.int p)])):=(Fz.new e).trans (Fz.mut (ag e g.v))
  refine⟨ab,g.o.fz z,?_,λL k=>?_,λL k=>(g.fs L k).fz z,?_⟩
  ·show upd _ _ _ d.fl=_;rw[ac (Ne.symm t.a)];exact ag e g.fl
  ·rw[ac (t.b L k).1];exact ag e (g.lv L k)
  ·show upd _ _ _ f=_;rw[ac (Ne.symm n1)];exact ab
 right
 exact cV (zD i) (h (LZ d top bot p f) _ ⟨md.n,md.l⟩ B K (tW i) (I.frz i y (k2.ex.nn w6) λL k=>k2.ex.nn (J L k)))
end
section
variable {ext:bj} {σ Z:Hp}
theorem qz{n:Nat}{v:Addr}{Q:PX}(b:σ v=none)(h:∀Z,aK σ Z->qG Z v->Q .none Z):cB ext (n+1) (F.fa 26) [.ref v] (upd σ v (false,.inst 11 [])) Q:=by
 refine aB (l:=[.ref v]) MZ rfl rfl ?_;show Go _ IQ _ _ _;delta IQ
 right
 intro u a
 have n1:v≠u:=af ab a
 have n2:σ u=none:=by rw[ac (Ne.symm n1)]at a;exact a
 right
 have d:=((aK.new (c:=(false,.inst 11 [])) b).upd n2 (c:=(false,.inst 10 []))).upd b (c:=(false,.inst 11 (gE 7 (.ref u) [])))
 exact fX (zD d) (h _ (tW d) ⟨u,lR ab b,lR (by rw[ac (Ne.symm n1)];exact ab) n2⟩)
theorem rL{n:Nat}{e:Addr}{Q:PX}(f:σ e=none)(h:∀(E:Ed) (Z:Hp),E.adr=e->E.dl=[]->E.al=[]->aK σ Z->jM Z E->σ E.cp=none->σ E.dlA=none->σ E.alA=none->E.cp≠E.dlA->E.cp≠E.alA->E.dlA≠E.alA->Z E.cp=some (false,.list [])->Q .none Z):
  cB ext (n+1) (F.fa 40) [.ref e] (upd σ e (false,.inst 15 [])) Q:=by
 refine aB (l:=[.ref e]) Lk rfl rfl ?_;show Go _ JP _ _ _;delta JP
 right
 intro d c
 have n1:e≠d:=af ab c
 have m1:σ d=none:=by rw[ac (Ne.symm n1)]at c;exact c
 right
 intro dl b
 have n2:e≠dl:=af ab b
 have n3:d≠dl:=af (by nofun) b
 have m2:σ dl=none:=by rw[ac (Ne.symm n2),ac (Ne.symm n3),ac (Ne.symm n2)]at b;exact b
 right
 intro al a
 have g:e≠al:=af ab a
 have j:d≠al:=af (by nofun) a
 have i:dl≠al:=af (by nofun) a
 have m3:σ al=none:=by rw[ac (Ne.symm g),ac (Ne.symm i),ac (Ne.symm g),ac (Ne.symm j),ac (Ne.symm g)]at a;exact a
 right
 refine fX pa (h ⟨e,d,dl,al,[],[]⟩ _ rfl rfl rfl ?_ ⟨ab,(show upd _ _ _ dl=some (false,.list [])from(by nofun)),(show upd _ _ _ al=some (false,.list [])from(by nofun)),⟨[],(show upd _ _ _ d=some (false,.list [])from(by nofun))⟩,λ_=>nM,λ_=>nM⟩ m1 m2 m3 n3 j i (show upd _ _ _ d=some (false,.list [])from(by nofun)))
 exact((((((aK.new f).upd m1).upd f).upd m2).upd f).upd m3).upd f
theorem yr{n:Nat}{p op o:Addr}{Q:PX}(h:Q .none (upd σ p (true,.inst 19 [(51,.ref op),(44,.ref o)]))):cB ext (n+1) (F.fa 70) [.ref p,.ref op,.ref o] (upd σ p (false,.inst 19 [])) Q:=by
 refine aB (l:=[.ref p,.ref op,.ref o]) MD rfl rfl ?_;show Go _ Jq _ _ _;delta Jq
 right
 exact fX pa h
structure Nw(σ Z:Hp)(xs:List Addr):Prop where
 ex:aK σ Z
 nd:xs.Nodup
 lv:∀x∈xs,∃c,Z x=some c
 fr:∀x∈xs,σ x=none
theorem Nw.new{xs:List Addr}{r:Addr}{d:Bool×AO}(h:Nw σ Z xs)(b:Z r=none):Nw σ (upd Z r d) (r::xs):=by
 have ne:∀x∈xs,x≠r:=λx a=>by obtain⟨c,e⟩:=h.lv x a;exact af e b
 refine⟨h.ex.upd (h.ex.nn b),List.nodup_cons.mpr ⟨λf=>ne r f rfl,h.nd⟩,λx a=>?_,λx a=>?_⟩
 ·rcases au a with rfl|a
  ·exact⟨_,ab⟩
  ·obtain⟨c,e⟩:=h.lv x a;exact⟨c,ag b e⟩
 ·rcases au a with rfl|a
  ·exact h.ex.nn b
  ·exact h.fr x a
theorem Nw.mut{xs:List Addr}{r:Addr}{d:Bool×AO}(h:Nw σ Z xs)(b:r∈xs):Nw σ (upd Z r d) xs:=
 ⟨h.ex.upd (h.fr r b),h.nd,λx a=>by
  by_cases e:x=r
  ·subst e;exact⟨_,ab⟩
  ·obtain⟨c,g⟩:=h.lv x a;exact⟨c,aq e g⟩,h.fr⟩
theorem Nw.up{xs:List Addr}{a:Hp}(h:Nw σ Z xs)(e:aK Z a):Nw σ a xs:=⟨h.ex.trans e,h.nd,λx b=>by obtain⟨c,g⟩:=h.lv x b;exact⟨c,e _ _ g⟩,h.fr⟩
theorem Nw.one{r:Addr}{d:Bool×AO}(h:σ r=none):Nw σ (upd σ r d) [r]:=⟨aK.new h,List.Pairwise.cons (λ_ h=>nM h) .nil,λx a=>by rw[aw a];exact⟨_,ab⟩,λx a=>by rw[aw a];exact h⟩
theorem Nw.push{xs rs:List Addr}{f:Hp}(h:Nw σ Z xs)(e:aK Z f)(m:rs.Nodup)(i:∀r∈rs,Z r=none)(l:∀r∈rs,∃c,f r=some c):Nw σ f (rs++xs):=by
 refine⟨h.ex.trans e,List.nodup_append.mpr ⟨m,h.nd,λa k b j=>?_⟩,λx d=>?_,λx d=>?_⟩
 ·obtain⟨c,g⟩:=h.lv b j;exact Ne.symm (af g (i a k))
 ·rcases aE d with d|d
  ·exact l x d
  ·obtain⟨c,g⟩:=h.lv x d;exact⟨c,e _ _ g⟩
 ·rcases aE d with d|d
  ·exact h.ex.nn (i x d)
  ·exact h.fr x d
theorem Nw.sub{xs ys:List Addr}(h:Nw σ Z xs)(s:ys.Sublist xs):Nw σ Z ys:=⟨h.ex,s.nodup h.nd,λx a=>h.lv x (s.subset a),λx a=>h.fr x (s.subset a)⟩
theorem pH{a:Addr}{fz:Bool}{o:AO}(h:Z a=some (fz,o)):Wk (upd Z a (true,o)) Z:=sY (aK.refl Z) h
structure C0(σ Z:Hp)(c:Addr)(k:Nat)(V:bo)(o:Op)(ord us inp i0 i1 gp pl:Addr)(E:Ed):Prop where
 h_c:Z c=some (false,.inst 18 [(49,.int k),(50,.ref V.adr),(51,.ref o.adr),(44,.ref ord),(52,.ref us),(53,.ref inp),(54,.ref gp),(55,.ref E.adr),(56,.bool false),(57,.int 0),(58,.int 0),(59,.bool false),(60,.ref pl)])
 h_ord:qG Z ord
 h_us:Z us=some (true,.inst 10 [])
 h_inp:Z inp=some (false,.list [.ref i0,.ref i1])
 h_i0:Z i0=some (false,.list [])
 h_i1:Z i1=some (false,.list [])
 h_gp:Z gp=some (false,.list [])
 h_pl:Z pl=some (false,.list (List.replicate o.nl (.int 0)))
 h_E:jM Z E
 h_cp:Z E.cp=some (false,.list [])
 ed:E.dl=[]
 ea:E.al=[]
 fl:Nw σ Z [pl,E.alA,E.dlA,E.cp,gp,inp,i1,i0,c]
theorem qA{n k:Nat}{c:Addr}{V:bo}{o:Op}{Q:PX}(hc:σ c=none)(ho:fu σ o)(ok:iX o)
  (h:∀(ord g b m q w s:Addr) (E:Ed) (Z:Hp),C0 σ Z c k V o ord g b m q w s E->Q .none Z):cB ext (n+2) (F.fa 62) [.ref c,.int k,.ref V.adr,.ref o.adr] (upd σ c (false,.inst 18 [])) Q:=by
 have ε:=ho
 have δ:=ok.f21
 unfold fu at ho
 refine aB (l:=[.ref c,.int k,.ref V.adr,.ref o.adr]) LR rfl rfl ?_;show Go _ I3 _ _ _;delta I3
 right
 intro r1 Y
 refine qz Y λβ x1 o1=>?_
 have f1:Nw σ β [c]:=(Nw.one hc).up x1
 have c1:=x1 _ _ (ab (σ:=σ) (a:=c))
 right
 intro g N
 have n2:c≠g:=af ab N
 right
 refine ud (aj (a8 aQ rfl λm K=>aj (a8 aQ rfl λq h4=>aD (uv rfl λb h5=>?_))))
 have n3:c≠m:=af ab K
 have n4:c≠q:=af (by nofun) h4
 have n5:c≠b:=af (by nofun) h5
 refine aS (by left) (A9 (by nofun) (by kernel_rfl) rfl ?_)
 right
 intro w h6
 have n6:c≠w:=af ab h6
 right
 intro e h7
 refine rL h7 λE f e1 e2 e3 B O g1 g2 g3 g4 g5 g6 G=>?_
 subst e1
 have f2:Nw σ f ([E.alA,E.dlA,E.cp]++[w,b,q,m,g,c]):=by
  refine Nw.push ?_ B ?_ ?_ ?_
  ·refine Nw.mut (Nw.new ?_ h6) (.tail _ (.tail _ (.tail _ (.tail _ (.tail _ (.head _))))))
   refine Nw.mut (Nw.new (Nw.new (Nw.new ?_ K) h4) h5) (.tail _ (.tail _ (.tail _ (.tail _ (.head _)))))
   refine Nw.mut (Nw.new ?_ N) (.tail _ (.head _))
   exact Nw.mut f1 (.head _)
  ·exact List.nodup_cons.mpr ⟨λhm=>by
    rcases au hm with e|hm
    ·exact g6 e.symm
    ·exact g5 (aw hm).symm,hK (l:=[E.dlA]) (List.Pairwise.cons (λ_ h=>nM h) .nil) λx hx=>by rw[aw hx];exact Ne.symm g4⟩
  ·intro r v
   rcases au v with rfl|v
   ·exact g3
   ·rcases au v with rfl|v
    ·exact g2
    ·rw[aw v];exact g1
  ·intro r v
   rcases au v with rfl|v
   ·exact⟨_,O.a⟩
   ·rcases au v with rfl|v
    ·exact⟨_,O.d⟩
    ·rw[aw v];exact⟨_,G⟩
 have c2:=B _ _ ab
 have W:=B g (false,.inst 10 []) (by nofun)
 have q2:=B b (false,.list [.ref m,.ref q]) (by nofun)
 have q3:=B m (false,.list []) (by nofun)
 have q4:=B q (false,.list []) (by nofun)
 have q5:=B w (false,.list []) (by nofun)
 have o2:qG f r1:=(o1.fz (by
  refine Fz.trans ?_ B.fz
  refine Fz.trans ?_ (Fz.mut (y:=_) (ag h6 ab))
  refine Fz.trans ?_ (Fz.new h6)
  refine Fz.trans ?_ (Fz.mut (y:=_) (by nofun))
  refine Fz.trans ?_ (Fz.new h5)
  refine Fz.trans ?_ (Fz.new h4)
  refine Fz.trans ?_ (Fz.new K)
  refine Fz.trans ?_ (Fz.mut (y:=_) (by nofun))
  refine Fz.trans ?_ (Fz.new N)
  exact Fz.mut c1))
 have γ:=f2.ex _ _ ho
 have nl:=ok.nl
 have nd:=f2.nd
 have D:g≠c:=Ne.symm n2
 have j:∀x∈[E.alA,E.dlA,E.cp,w,b,q,m],x≠g/\x≠c:=λx hx=>by
  have:=(List.nodup_append (l₁:=[E.alA,E.dlA,E.cp,w,b,q,m]) (l₂:=[g,c])).mp nd
  exact⟨this.2.2 x hx g (.head _),this.2.2 x hx c (.tail _ (.head _))⟩
 right
 refine dg (a8 (by left) rfl λt J=>aS (by left) (zR ab ⟨Int.natCast_nonneg _,by exact z1 [_] NM zk rfl (cl nl.2)⟩ λs i=>?_))
 have m1:c≠t:=af ab J
 have m2:c≠s:=af (by nofun) i
 right
 have R:∀x,upd (upd (upd f c x) t (false,.list [.int 0])) s (false,.list (List.replicate (o.nl:Int).toNat (.int 0))) g=some (false,.inst 10 []):=λx=>by
  have a1:g≠t:=af (aq D W) J
  have a2:g≠s:=af (aq a1 (aq D W)) i
  exact aq a2 (aq a1 (aq D W))
 have I:∀x,(upd f c (false,x)) t=none:=λx=>by rw[ac (Ne.symm m1)]at J ⊢;exact J
 have u:∀x,(upd (upd f c (false,x)) t (false,.list [.int 0])) s=none:=λx=>by
  have a:s≠t:=λe=>by rw[e,ab]at i;cases i
  rw[ac a,ac (Ne.symm m2)]at i ⊢;exact i
 have zz:∀x y z,Fz f (upd (upd (upd (upd (upd f c (false,x)) t (false,.list [.int 0])) s (false,.list (List.replicate (o.nl:Int).toNat (.int 0)))) c y) g z):=λx y z=>
  ((((Fz.mut c2).trans (Fz.new (I x))).trans (Fz.new (u x))).trans (Fz.mut (aq m2 (aq m1 ab)))).trans (Fz.mut (aq D (R _)))
 have A:∀x y z a d,a≠c->a≠g->f a=some d->upd (upd (upd (upd (upd f c (false,x)) t (false,.list [.int 0])) s (false,.list (List.replicate (o.nl:Int).toNat (.int 0)))) c y) g z a=some d:=λx y z a d Y N K=>by
  have b1:=aq (c:=(false,x)) Y K
  have b2:=ag (c:=(false,.list [.int 0])) (I x) b1
  exact aq N (aq Y (ag (u x) b2))
 have p1:s≠g:=λe=>by rw[e]at i;exact absurd ((aq (λe'=>by rw[←e',aq D W]at J;cases J) (aq D W)).symm.trans i) sN
 refine fX (pH (aq D (R _))) (h r1 g b m q w s E _ ⟨aq n2 ab,o2.fz (zz _ _ _),ab,A _ _ _ _ _ (j b (by simp)).2 (j b (by simp)).1 q2,A _ _ _ _ _ (j m (by simp)).2 (j m (by simp)).1 q3,A _ _ _ _ _ (j q (by simp)).2 (j q (by simp)).1 q4,A _ _ _ _ _ (j w (by simp)).2 (j w (by simp)).1 q5,aq p1 (aq (Ne.symm m2) ab),
  ⟨zz _ _ _ _ _ O.e,A _ _ _ _ _ (j E.dlA (by simp)).2 (j E.dlA (by simp)).1 O.d,A _ _ _ _ _ (j E.alA (by simp)).2 (j E.alA (by simp)).1 O.a,⟨[],A _ _ _ _ _ (j E.cp (by simp)).2 (j E.cp (by simp)).1 G⟩,(λp U=>by rw[e2]at U;cases U),(λp U=>by rw[e3]at U;cases U)⟩,A _ _ _ _ _ (j E.cp (by simp)).2 (j E.cp (by simp)).1 G,e2,e3,?_⟩)
 refine Nw.sub (xs:=[s,t]++([E.alA,E.dlA,E.cp]++[w,b,q,m,g,c])) ?_ ?_
 ·refine Nw.mut (Nw.mut (Nw.new (Nw.new (Nw.mut f2 ?_) (I _)) (u _)) ?_) ?_<;>simp
 ·exact .cons_cons _ (.cons _ (.cons_cons _ (.cons_cons _ (.cons_cons _ (.cons_cons _ (.cons_cons _ (.cons_cons _ (.cons_cons _ (.cons _ (.cons_cons _ .slnil))))))))))
end
section
variable {ext:bj} {σ Z:Hp}
structure Cm where
 adr:Addr
 k:Nat
 V:bo
 o:Op
 ord:Addr
 us:Addr
 inp:Addr
 i0:Addr
 i1:Addr
 gp:Addr
 pl:Addr
 E:Ed
 man:Bool
 in0:List FM
 in1:List FM
 gs:List FM
noncomputable abbrev fq(c:Cm)(ga:Nat)(go:Int)(sk:Bool):AO:=.inst 18 [(49,.int c.k),(50,.ref c.V.adr),(51,.ref c.o.adr),(44,.ref c.ord),(52,.ref c.us),(53,.ref c.inp),(54,.ref c.gp),(55,.ref c.E.adr),(56,.bool c.man),(57,.int ga),(58,.int go),(59,.bool sk),(60,.ref c.pl)]
noncomputable abbrev tV(n:Nat):AV:=.int n
structure wu(σ:Hp)(c:Cm):Prop where
 h_ord:qG σ c.ord
 h_us:σ c.us=some (true,.inst 10 [])
 h_inp:σ c.inp=some (true,.list [.ref c.i0,.ref c.i1])
 h_i0:σ c.i0=some (true,.list (c.in0.map FM.v))
 h_i1:σ c.i1=some (true,.list (c.in1.map FM.v))
 h_gp:σ c.gp=some (true,.list (c.gs.map FM.v))
 h_f0:cM σ c.in0
 h_f1:cM σ c.in1
 h_fg:cM σ c.gs
 h_V:dP true σ c.V
 h_o:fu σ c.o
theorem wu.fz{c:Cm}(h:wu σ c)(k:Fz σ Z):wu Z c:=⟨h.h_ord.fz k,k _ _ h.h_us,k _ _ h.h_inp,k _ _ h.h_i0,k _ _ h.h_i1,k _ _ h.h_gp,h.h_f0.fz k,h.h_f1.fz k,h.h_fg.fz k,h.h_V.fz k,k _ _ h.h_o⟩
structure D7(c:Cm):Prop where
 oo:iX c.o
 vr:Ag c.V
 nl:c.o.nl=c.V.lv.length
 l0:c.in0.length<=60
 l1:c.in1.length<=60
 lg:c.gs.length<=60
 og:pI c.gs
 kn:c.k+1<c.V.lv.length
theorem qI{a:Addr}{x:Bool×AO}(h:σ a=some x):upd σ a x=σ:=funext λb=>by
 by_cases e:b=a
 ·subst e;rw[ab,h]
 ·rw[ac e]
theorem uD{n ga:Nat}{go:Int}{sk:Bool}{c:Cm}{Q:PX}(i:σ c.adr=some (false,fq c ga go sk))(f:fu σ c.o)(a:iX c.o)(h:∀g:Int,Q (.int g) σ):cB ext (n+1) (F.fa 63) [.ref c.adr] σ Q:=by
 have b:=a.f27
 have d:=a.f20
 have e:=a.gf
 unfold fu at f
 refine aB (l:=[.ref c.adr]) Lf rfl rfl ?_;show Go _ Kq _ _ _;delta Kq
 exact fK (ft (by left) (by left) (Ok e)) (ay (h _))
theorem sF{n ga:Nat}{go:Int}{sk:Bool}{c:Cm}{Q:PX}(j:σ c.adr=some (false,fq c ga go sk))(a:wu σ c)(ok:D7 c)(h:∀b:Bool,(b=true->c.in0.length=1/\c.in1=[])->Q (.bool b) σ):cB ext (n+2) (F.fa 64) [.ref c.adr] σ Q:=by
 have m:=a.h_inp
 have p:=a.h_i0
 have k:=a.h_i1
 have o:=aO (g:=FM.v) (bh ok.l0 rfl)
 have q:=aO (g:=FM.v) (bh ok.l1 rfl)
 refine aB (l:=[.ref c.adr]) Mr rfl rfl ?_;show Go _ Je _ _ _;delta Je
 refine jw (by left) (λx=>?_) λx=>?_
 ·right
  exact ay (h false fT)
 ·have e:c.in0.length=1/\c.in1=[]:=by
   rw[List.length_map,List.length_map]at x
   obtain⟨f,i⟩:=Bool.or_eq_false_iff.mp x
   have d:=Decidable.not_not.mp (of_decide_eq_false f)
   have y2:=Decidable.not_not.mp (of_decide_eq_false i)
   exact⟨cY d,List.length_eq_zero_iff.mp (cY y2)⟩
  right
  refine cG (aV (by left) (nT a.h_gp a.h_fg (bh ok.lg rfl) (aW (by left) (by nofun) rfl (by kernel_rfl) (by left) (uD j a.h_o ok.oo λg=>DU ?_))))
  exact ay (h _ λ_=>e)
theorem AZ{n ga:Nat}{go:Int}{sk:Bool}{c:Cm}{r:Rw}{Q:PX}(i:σ c.adr=some (false,fq c ga go sk))(p:wu σ c)(ok:D7 c)(s:r.ok)(h:∀(b:Bool) (ga:Nat) (go:Int) (sk:Bool),Q (.bool b) (upd σ c.adr (false,fq c ga go sk))):cB ext (n+5) (F.fa 65) [.ref c.adr,.bytes r.b] σ Q:=by
 have w:=aO (g:=FM.v) (bh ok.lg rfl)
 refine aB (l:=[.ref c.adr,.bytes r.b,.undef]) Lm rfl rfl ?_;show Go _ JO _ _ _;delta JO
 refine CG (λa:Nat×AV=>[.ref c.adr,.bytes r.b,a.2]) (λa Z=>∃go sk,Z=upd σ c.adr (false,fq c a.1 go sk)) (λa=>c.gs.length-a.1) (ga,.undef) rfl ⟨go,sk,(qI i).symm⟩ ?_
 rintro a Z R ⟨go,sk,rfl⟩ o
 have d:=p.fz (Fz.mut (c:=(false,fq c a.1 go sk)) i)
 have y:=d.h_gp
 obtain⟨A,B,D⟩:=id d.h_ord
 have fin:∀ga go sk v,Go (cB ext (n+4)) (.cons (.setA (.v 0) 59 (.k (.bool true))) (.cons (.ite (.t (.cmp .gt (.at (.v 0) 58) (.mth (.v 0) 31 .nil))) (.cons (.setA (.v 0) 58 (.k (.int 0))) (.cons (.ret (.k (.bool true))) .nil)) .nil) (.cons (.ret (.k (.bool false))) .nil))) [.ref c.adr,.bytes r.b,v] (upd σ c.adr (false,fq c ga go sk)) (cO Q):=λga go sk v=>by
  right
  refine bJ (kL (cG ?_))
  have j:=p.fz (Fz.mut (c:=(false,fq c ga go true)) i)
  refine aS (by left) (aW (by left) (by nofun) rfl (by kernel_rfl) (by left) (uD (c:=c) (ga:=ga) (go:=go) (sk:=true) ab j.h_o ok.oo λg=>xW (dG (br (λ_=>?_) λ_=>?_))))
  ·right;exact ay (h true ga 0 true)
  ·right;exact ay (h false ga go true)
 refine g8 (by left) (br (λx=>?_) λx=>?_)
 ·obtain⟨f,e⟩:∃f,c.gs[a.1]?=some f:=⟨_,List.getElem?_eq_getElem (by rw[List.length_map]at x;exact cq x)⟩
  have z:=bS (g:=FM.v) e
  have q:=List.mem_of_getElem? e
  have u:=d.h_fg f q
  unfold mO at u
  right
  refine bJ (kL (cG (aW (by left) (by nofun) rfl (by kernel_rfl) (by left) (ff d.h_ord s (ok.og f q).2 (iQ (DU (dG (br (λ_=>?_) λ_=>?_))))))))
  ·exact uL (Bp (AJ (fin a.1 go sk f.v)))
  ·right
   have lt:c.gs.length-(a.1+1)<c.gs.length-a.1:=by have:=(be e).1;exact n2 [_,_,_,_] J2 zr zG rfl (Nat.sub_add_cancel (n:=c.gs.length) (m:=a.fst+1) (n1 [_,_] (.le (.a (.v 0) (.n 1)) (.v 1)) (.le (.a (.v 0) (.n 1)) (.v 1)) rfl this)) (sb (c.gs.length) (a.fst))
   refine jw (by left) (λ_=>?_) λ_=>?_
   ·right;exact aR (o (a.1+1,f.v) _ ⟨_,_,rfl⟩ lt)
   ·right;exact aR (o (a.1+1,f.v) _ ⟨_,_,rfl⟩ lt)
 ·exact fin a.1 go sk a.2
end
section
variable {ext:bj} {σ Z:Hp}
theorem wY{u v:Nat}:CC u v<=0↔u<=v:=by
 unfold CC
 by_cases h:u<v
 ·rw[if_pos h];exact⟨λ_=>Nat.le_of_lt h,λ_=>by decide⟩
 ·rw[if_neg h]
  by_cases g:v<u
  ·rw[if_pos g];exact⟨λx=>absurd x (by decide),λx=>absurd x (eK g)⟩
  ·rw[if_neg g];exact⟨λ_=>Nat.le_of_not_lt g,λ_=>Int.le_refl _⟩
theorem Bg{u v:Nat}(_:¬u<v):(0:Int)<=if v<u then 1 else 0:=by
 by_cases g:v<u
 ·rw[if_pos g];decide
 ·rw[if_neg g];decide
theorem ER{u v:Nat}:0<=CC u v↔v<=u:=by
 unfold CC
 by_cases h:u<v
 ·rw[if_pos h];exact⟨λx=>absurd x (by decide),λx=>absurd x (eK h)⟩
 ·rw[if_neg h];exact⟨λ_=>Nat.le_of_not_lt h,λ_=>Bg h⟩
structure j8(V:bo)(k u:Nat)(ps:List Nat):Prop where
 n:ps.length=V.lv.length
 h:∀(j:Nat) (L:bM),k+2<=j->V.lv[j]?=some L->∀(i:Nat) (f:FM),L.fs[i]?=some f->i<ps.getD j 0->f.hi.u<u
theorem j8.mono{V:bo}{k u v:Nat}{a:List Nat}(h:j8 V k u a)(l:u<=v):j8 V k v a:=⟨h.n,λj L b d i f e c=>Nat.lt_of_lt_of_le (h.h j L b d i f e c) l⟩
def o8(V:bo)(k u:Nat):Prop:=∀(j:Nat) (L:bM),k+2<=j->V.lv[j]?=some L->∀f∈L.fs,¬(f.lo.u<=u/\u<=f.hi.u)
theorem Bq{n u ga:Nat}{go:Int}{sk:Bool}{D:List Nat}{c:Cm}{Q:PX}(hc:σ c.adr=some (false,fq c ga go sk))(hC:wu σ c)(ok:D7 c)(hp:σ c.pl=some (false,.list (D.map tV)))(ne:c.adr≠c.pl)(po:j8 c.V c.k u D)(hu:u<4)
  (h:∀(b:Bool) (D:List Nat),(b=true->o8 c.V c.k u)->j8 c.V c.k u D->Q (.bool b) (upd σ c.pl (false,.list (D.map tV)))):cB ext (n+2) (F.fa 66) [.ref c.adr,.bytes (bv u)] σ Q:=by
 have ζ:=ok.oo.f21
 have β:=hC.h_o
 unfold fu at β
 have K:=ok.vr.sm.n
 have kn:=ok.kn
 refine aB (l:=[.ref c.adr,.bytes (bv u),.undef,.undef,.undef]) M5 rfl rfl ?_;show Go _ JR _ _ _;delta JR
 refine gI (aS (by left) (aS (by left) ?_))
 rw[ok.nl]
 refine dR (λa:List Nat×AV×AV×AV=>[.ref c.adr,.bytes (bv u),a.2.1,a.2.2.1,a.2.2.2]) (λi a Z=>Z=upd σ c.pl (false,.list (a.1.map tV))/\j8 c.V c.k u a.1/\∀(j:Nat) (L:bM),c.k+2<=j->(j:Int)<i->c.V.lv[j]?=some L->∀f∈L.fs,¬(f.lo.u<=u/\u<=f.hi.u)) (D,.undef,.undef,.undef) rfl ⟨by exact Int.natCast_nonneg (c.k+2),by exact z2 [_,_] (.le (.a (.v 0) (.n 2)) (.n 9000)) (.le (.v 1) (.n 7)) Mt rfl (cl K) (cl kn),by exact Int.natCast_nonneg _,by exact Int.le_trans (cl K) (by decide)⟩ ⟨(qI hp).symm,po,λj L B q=>by exact(eK (cq q) B).elim⟩ ?_ ?_
 ·rintro i a Z R g1 g2 ⟨rfl,p1,p2⟩ ih
  obtain⟨j,rfl⟩:∃j:Nat,i=j:=⟨i.toNat,(Int.toNat_of_nonneg (by exact Int.le_trans (Int.natCast_nonneg (c.k+2)) g1)).symm⟩
  have O:j<c.V.lv.length:=cq g2
  have U:c.k+2<=j:=Int.ofNat_le.mp g1
  obtain⟨L,t⟩:∃L,c.V.lv[j]?=some L:=⟨_,List.getElem?_eq_getElem O⟩
  have W:=List.mem_of_getElem? t
  have eL:=bS (g:=bM.v) t
  have lV:=aO (g:=bM.v) (bh K rfl)
  have lL:=aO (g:=FM.v) (bh (ok.vr.sm.len W) rfl)
  have d:∀r:List Nat,wu (upd σ c.pl (false,.list (r.map tV))) c:=λr=>hC.fz (Fz.mut hp)
  have hA:∀r:List Nat,upd σ c.pl (false,.list (r.map tV)) c.adr=_:=λr=>aq ne hc
  have δ:=ok.vr.ap j L (by exact Nat.lt_of_lt_of_le (Nat.succ_pos _) U) t
  have J:∀r v4,j8 c.V c.k u r->(∀f∈L.fs,¬(f.lo.u<=u/\u<=f.hi.u))->R [.ref c.adr,.bytes (bv u),.int j,L.v,v4] (upd σ c.pl (false,.list (r.map tV))):=λr v4 m q2=>ih (r,.int j,L.v,v4) _ ⟨rfl,m,λE L' B q Y=>by
   by_cases e:E=j
   ·subst e;rw[t]at Y;cases Y;exact q2
   ·exact p2 E L' B (by exact dF (ln (cq q) e)) Y⟩
  have ε:=hA a.1
  have w1:=(d a.1).h_V.v
  have w2:=(d a.1).h_V.fl
  right
  refine CG (λb:List Nat×AV=>[.ref c.adr,.bytes (bv u),.int j,L.v,b.2]) (λb Z=>Z=upd σ c.pl (false,.list (b.1.map tV))/\j8 c.V c.k u b.1) (λb=>L.fs.length-b.1.getD j 0) (a.1,a.2.2.2) rfl ⟨rfl,p1⟩ ?_
  rintro b Z R' ⟨rfl,m⟩ γ
  have ε:=hA b.1
  have w3:=(d b.1).h_V.lv L W
  have w4:=(d b.1).h_us
  have lp:=aO (g:=tV) (bs:=b.1) (by rw[m.n];exact bh K rfl)
  obtain⟨p,A⟩:∃p,b.1[j]?=some p:=⟨_,List.getElem?_eq_getElem (by rw[m.n];exact O)⟩
  have ep:=bS (g:=tV) A
  have N:b.1.getD j 0=p:=by rw[List.getD_eq_getElem?_getD,A];rfl
  refine g8 (by left) (br (λx=>?_) λx=>?_)
  ·have pl:p<L.fs.length:=by rw[List.length_map]at x;exact cq x
   obtain⟨f,G⟩:∃f,L.fs[p]?=some f:=⟨_,List.getElem?_eq_getElem pl⟩
   have e3:=bS (g:=FM.v) G
   have fm:=List.mem_of_getElem? G
   have h5:=(d b.1).h_V.fs L W f fm
   unfold mO at h5
   have fk:=ok.vr.ok L W f fm
   right
   refine bJ (kL (cG (fO (aS (by left) (fJ (by nofun) rfl (by kernel_rfl) ?_)))))
   refine aj (aS (by left) (aj (aV (by left) (bP (aD (pQ hu fk.2.u ?_))))))
   refine iQ (DU (dG (br (λy=>?_) λy=>?_)))
   ·have uh:=wY.mp y
    refine bJ (kL (cG (fO (aS (by left) (fJ (by nofun) rfl (by kernel_rfl) ?_)))))
    refine aj (aS (by left) (aj (aV (by left) (bP (aD (pQ hu fk.1.u ?_))))))
    refine iQ (HW (dG (br (λz=>?_) λz=>?_)))
    ·right
     exact ay (h false b.1 fT m)
    ·have ul:u<f.lo.u:=Nat.lt_of_not_le λw=>z (ER.mpr w)
     refine ak (cx (uL (Bp (AJ (ak (aR (J b.1 f.v m λg s I=>?_)))))))
     obtain⟨i,o⟩:=List.getElem?_of_mem s
     rcases Nat.lt_trichotomy i p with lt|rfl|gt
     ·exact absurd I.2 (eK (m.h j L U t i g o (by rw[N];exact lt)))
     ·rw[G]at o;cases o;exact absurd I.1 (eK ul)
     ·obtain⟨li,rfl⟩:=be o
      obtain⟨lp,rfl⟩:=be G
      exact absurd I.1 (eK (Nat.lt_of_le_of_lt uh (List.pairwise_iff_getElem.mp δ p i lp li gt)))
   ·have uh:f.hi.u<u:=Nat.lt_of_not_le λw=>y (wY.mpr w)
    refine ak (cx (Ez (aS (by left) (aS (by left) (xI ab lp (by rw[List.getElem?_map,A];rfl) (aS aT (CF (xb (tc ab lp (by rw[List.length_map,m.n];exact O) ?_)))))))))
    rw[lN,show(AV.int ((p:Int)+1))=tV (p+1)from rfl,←List.map_set]
    have gd:∀i,(b.1.set j (p+1)).getD i 0=if i=j then p+1 else b.1.getD i 0:=λi=>by
     rw[List.getD_eq_getElem?_getD,List.getElem?_set]
     by_cases e:j=i
     ·subst e;rw[if_pos rfl,if_pos (by rw[m.n];exact O),if_pos rfl];rfl
     ·rw[if_neg e,if_neg (Ne.symm e),List.getD_eq_getElem?_getD]
    refine ak (aR (γ (b.1.set j (p+1),f.v) _ ⟨rfl,⟨by rw[List.length_set];exact m.n,λE L' B q i g s o=>?_⟩⟩ ?_))
    ·rw[gd]at o
     by_cases e:E=j
     ·subst e;rw[t]at q;cases q
      rw[if_pos rfl]at o
      by_cases e:i=p
      ·subst e;rw[G]at s;cases s;exact uh
      ·exact m.h E L U t i g s (by rw[N];exact ln o e)
     ·rw[if_neg e]at o;exact m.h E L' B q i g s o
    ·show L.fs.length-(b.1.set j (p+1)).getD j 0<L.fs.length-b.1.getD j 0
     rw[gd,if_pos rfl,N];exact Nat.sub_lt_sub_left pl (Nat.lt_succ_self _)
  ·refine ak (aR (J b.1 b.2 m λg s I=>?_))
   obtain⟨i,o⟩:=List.getElem?_of_mem s
   have:=(be o).1
   exact absurd I.2 (eK (m.h j L U t i g o (by rw[N];rw[List.length_map]at x;exact Nat.lt_of_lt_of_le this (Int.ofNat_le.mp (il x)))))
 ·rintro i a Z g1 g2 g3 ⟨rfl,p1,p2⟩
  right
  exact ay (h true a.1 (λ_ j L B q=>p2 j L B (Int.lt_of_lt_of_le (dF (be q).1) g2) q) p1)
end
section
variable {ext:bj} {σ Z:Hp}
def Mo(S:List Addr)(σ Z:Hp):Prop:=∀a d,a∉S->σ a=some d->Z a=some d
theorem Mo.refl(S:List Addr)(σ:Hp):Mo S σ σ:=λ_ _ _ h=>h
theorem Mo.trans{S:List Addr}{b:Hp}(h:Mo S σ Z)(k:Mo S Z b):Mo S σ b:=λa d n e=>k a d n (h a d n e)
theorem Mo.new{S:List Addr}{r:Addr}{d:Bool×AO}(h:Mo S σ Z)(b:Z r=none):Mo S σ (upd Z r d):=λa c n e=>ag b (h a c n e)
theorem Mo.mut{S:List Addr}{r:Addr}{d:Bool×AO}(h:Mo S σ Z)(b:r∈S):Mo S σ (upd Z r d):=λa c n e=>aq (λx=>n (x▸b)) (h a c n e)
theorem Mo.fz{S:List Addr}(h:Mo S σ Z)(k:∀x∈S,∃o,σ x=some (false,o)):Fz σ Z:=λa o e=>h a _ (λc=>by obtain⟨d,b⟩:=k a c;rw[e]at b;cases b) e
theorem Mo.sub{S b:List Addr}(h:Mo S σ Z)(k:∀x∈S,x∈b):Mo b σ Z:=λa d n e=>h a d (λx=>n (k a x)) e
theorem aK.mo{S:List Addr}(h:aK σ Z):Mo S σ Z:=λa d _ e=>h a d e
noncomputable def sJ(c:Cm)(i:Int):List (Nat×Nat):=if i<=0 then[] else if i<=1 then c.in0.map (λf=>(c.k,f.num)) else c.in0.map (λf=>(c.k,f.num))++c.in1.map (λf=>(c.k+1,f.num))
theorem wi{n ga:Nat}{go:Int}{sk:Bool}{c:Cm}{Q:PX}(O:σ c.adr=some (false,fq c ga go sk))(y:wu σ c)(ok:D7 c)(J:jM σ c.E)(I:c.E.dl=[])(n1:c.E.alA≠c.E.dlA)(n2:c.E.cp≠c.E.dlA)
  (h:∀(dl:List (Addr×Nat×Nat)) (Z:Hp),dl.map (·.2)=sJ c 2->Mo [c.E.dlA] σ Z->jM Z {c.E with dl:=dl}->Q .none Z):cB ext (n+1) (F.fa 67) [.ref c.adr] σ Q:=by
 have U:∀x∈[c.E.dlA],∃o,σ x=some (false,o):=λx W=>by rw[aw W];exact⟨_,J.d⟩
 have nc:c.adr∉[c.E.dlA]:=λhm=>by have e:=aw hm;have:=J.d;rw[←e,O]at this;cases this
 refine aB (l:=[.ref c.adr,.undef,.undef]) LU rfl rfl ?_;show Go _ IT _ _ _;delta IT
 right
 refine dR (λa:List (Addr×Nat×Nat)×AV×AV=>[.ref c.adr,a.2.1,a.2.2]) (λi a Z=>Mo [c.E.dlA] σ Z/\jM Z {c.E with dl:=a.1}/\a.1.map (·.2)=sJ c i) ([],.undef,.undef) rfl ⟨by decide,by decide,by decide,by decide⟩ ⟨Mo.refl _ _,by rw[←I];exact J,rfl⟩ ?_ ?_
 ·intro i a Z R g1 g2 ⟨m1,G,w⟩ ih
  obtain⟨s,K,g,rfl,W,V,hf,len,pn⟩:∃(s:Nat) (K:Addr) (g:List FM),i=s/\oB [.ref c.i0,.ref c.i1] i=some (.ref K)/\σ K=some (true,.list (g.map FM.v))/\cM σ g/\g.length<=60/\sJ c (i+1)=sJ c i++g.map (λf=>(c.k+s,f.num)):=by
   have:i=0∨i=1:=by exact Oz g1 g2
   rcases this with rfl|rfl
   ·exact⟨0,c.i0,c.in0,rfl,rfl,y.h_i0,y.h_f0,ok.l0,rfl⟩
   ·exact⟨1,c.i1,c.in1,rfl,rfl,y.h_i1,y.h_f1,ok.l1,rfl⟩
  have z:=m1.fz U
  have c1:=m1 _ _ nc O
  have c2:=z _ _ y.h_inp
  have c3:=z _ _ V
  have al:a.1.length<=120:=by
   have:=congrArg List.length w
   rw[List.length_map]at this
   rw[this]
   unfold sJ
   have Y:=ok.l0
   have l1:=ok.l1
   split
   ·exact Nat.zero_le _
   ·split
    ·rw[List.length_map];exact Mine.n1 [_] (.le (.v 0) (.n 120)) nQ rfl Y
    ·rw[List.length_append,List.length_map,List.length_map];exact Mine.n2 [_,_] He nQ yQ rfl Y l1
  right
  refine eC g FM.v (λb:List (Addr×Nat×Nat)×AV=>[.ref c.adr,.int s,b.2]) (λu b q=>Mo [c.E.dlA] σ q/\jM q {c.E with dl:=b.1}/\b.1.map (·.2)=sJ c s++u.map (λf=>(c.k+s,f.num))) (a.1,a.2.2) rfl c3 (bh len rfl) (λ_ _ q p=>⟨_,p.1.fz U _ _ V⟩) ⟨m1,G,by rw[w];exact(List.append_nil _).symm⟩ ?_ ?_
  ·intro u f us b q R' e ⟨A,j,B⟩ N
   have fm:=aP e
   have z':=A.fz U
   have d1:=A _ _ nc O
   have h5:=z' _ _ (hf f fm)
   have h6:=j.e
   have bl:(b.1.map λp=>rf p.1).length<=9000:=by
    have:=congrArg List.length B
    rw[List.length_map,List.length_append,List.length_map]at this
    have D:=congrArg List.length w
    rw[List.length_map]at D
    have h2:u.length<=g.length:=by rw[e,List.length_append];exact Nat.le_add_right _ _
    rw[List.length_map];exact m5 [_,_,_,_,_] jJ 0 1 1 1 (-1) 1 yQ GB (.eq (.v 0) (.a (.v 3) (.v 4))) (.eq (.v 2) (.v 3)) (.le (.v 4) (.v 1)) rfl len al this D h2
   refine mF (dJ (iI (aS (by left) (iW j.d rfl (aj (fv (by left) rfl λt r=>aD (dO (ag r j.d) bl ?_)))))))
   have z2:Fz q (upd (upd q t (true,.tup [.int ((c.k:Int)+s),.int f.num])) c.E.dlA (false,.list (b.1.map (λp=>rf p.1)++[.ref t]))):=(Fz.new r).trans (Fz.mut (ag r j.d))
   refine ak (aR (N (b.1++[(t,c.k+s,f.num)],f.v) _ ⟨(A.new r).mut (.head _),⟨z2 _ _ j.e,by show _=some (false,AO.list ((b.1++[(t,c.k+s,f.num)]).map _));rw[List.map_append];exact ab,aq n1 (ag r j.a),?_,λp m=>?_,λp m=>⟨z2 _ _ (j.at' p m).1,z2 _ _ (j.at' p m).2⟩⟩,?_⟩))
   ·obtain⟨xs,D⟩:=j.c;exact⟨xs,aq n2 (ag r D)⟩
   ·rcases aE m with m|m
    ·exact z2 _ _ (j.dt p m)
    ·rw[aw m];exact cP (ag r j.d) ab
   ·rw[List.map_append,List.map_append,B,List.append_assoc];rfl
  ·intro b q ⟨A,j,B⟩
   exact ak (aR (ih (b.1,.int s,b.2) _ ⟨A,j,by rw[pn];exact B⟩))
 ·intro i a Z g1 g2 g3 ⟨m1,G,w⟩
  have:i=2:=by exact i2 g2 g3
  subst this
  right
  exact fX (Wk.refl _) (h a.1 Z w m1 G)
end
section
variable {ext:bj} {σ Z:Hp}
noncomputable abbrev rP:Int:=72057594037927935+1
noncomputable abbrev vo(c:Addr)(b:Int)(cur:Option Nat)(a:Int)(st:Bool):AO:=.inst 13 [(29,.ref c),(30,.int b),(31,ov cur),(32,.int a),(33,.bool st)]
theorem yL{n:Nat}{v c:Addr}{a:Int}{Q:PX}(h:Q .none (upd σ v (false,vo c a none rP false))):cB ext (n+1) (F.fa 36) [.ref v,.ref c,.int a] (upd σ v (false,.inst 13 [])) Q:=by
 refine aB (l:=[.ref v,.ref c,.int a]) MQ rfl rfl ?_;show Go _ KD _ _ _;delta KD
 right
 exact fX (Wk.refl _) h
structure Sv(σ Z:Hp)(c:Cm)(sv:Addr)(sm:Int)(cur:Option Nat)(nw:Int)(st:Bool)(ps:List Nat):Prop where
 mo:Mo [c.adr,c.pl,sv] σ Z
 cc:∃ga go sk,Z c.adr=some (false,fq c ga go sk)
 cp:Z c.pl=some (false,.list (ps.map tV))
 cs:Z sv=some (false,vo c.adr sm cur nw st)
 n1:c.adr≠c.pl
 n2:c.adr≠sv
 n3:c.pl≠sv
theorem Sv.setS{c:Cm}{a:Addr}{b:Int}{cur cur':Option Nat}{i nw':Int}{st st':Bool}{d:List Nat}(h:Sv σ Z c a b cur i st d):Sv σ (upd Z a (false,vo c.adr b cur' nw' st')) c a b cur' nw' st' d:=
 ⟨h.mo.mut (.tail _ (.tail _ (.head _))),by obtain⟨g,go,f,e⟩:=h.cc;exact⟨g,go,f,aq h.n2 e⟩,aq h.n3 h.cp,ab,h.n1,h.n2,h.n3⟩
theorem Sv.setC{c:Cm}{a:Addr}{d:Int}{cur:Option Nat}{e:Int}{st:Bool}{b:List Nat}{ga:Nat}{go:Int}{sk:Bool}(h:Sv σ Z c a d cur e st b):Sv σ (upd Z c.adr (false,fq c ga go sk)) c a d cur e st b:=
 ⟨h.mo.mut (.head _),⟨ga,go,sk,ab⟩,hG h.n1 h.cp,hG h.n2 h.cs,h.n1,h.n2,h.n3⟩
theorem Sv.setP{c:Cm}{b:Addr}{d:Int}{cur:Option Nat}{f:Int}{st:Bool}{j a:List Nat}(h:Sv σ Z c b d cur f st j):Sv σ (upd Z c.pl (false,.list (a.map tV))) c b d cur f st a:=
 ⟨h.mo.mut (.tail _ (.head _)),by obtain⟨i,go,g,e⟩:=h.cc;exact⟨i,go,g,aq h.n1 e⟩,ab,hG h.n3 h.cs,h.n1,h.n2,h.n3⟩
theorem Sv.new{c:Cm}{b r:Addr}{g:Int}{cur:Option Nat}{i:Int}{st:Bool}{f:List Nat}{d:Bool×AO}(h:Sv σ Z c b g cur i st f)(a:Z r=none):Sv σ (upd Z r d) c b g cur i st f:=
 ⟨h.mo.new a,by obtain⟨k,go,j,e⟩:=h.cc;exact⟨k,go,j,ag a e⟩,ag a h.cp,ag a h.cs,h.n1,h.n2,h.n3⟩
theorem Sv.z{c:Cm}{i:Addr}{j:Int}{cur b:Option Nat}{m f:Int}{st g:Bool}{l d:List Nat}(h:Sv σ Z c i j cur m st l)(k:Sv σ σ c i j b f g d):Fz σ Z:=h.mo.fz λx a=>by
 rcases au a with rfl|a
 ·obtain⟨_,_,_,e⟩:=k.cc;exact⟨_,e⟩
 ·rcases au a with rfl|a
  ·exact⟨_,k.cp⟩
  ·rw[aw a];exact⟨_,k.cs⟩
noncomputable def jW(cur:Option Nat)(a:Int)(u:Nat):Int:=if cur=some u then a else rP
theorem DB{l:aG}{c:C}{b:Bool}(h:Pc l σ c b):Pc l σ (.or (.cons c .nil)) b:=⟨λ_ K k=>Df (jp (h.run _ _ (by cases b with|true=>exact eF k|false=>exact de (td k))))⟩
theorem D0{l:aG}{cur:Option Nat}{u:Nat}{e:X}(g:Pe l σ e (ov cur))(g3:Pe l σ (.v 3) (.bytes (bv u)))(b:u<4)(a:∀n,cur=some n->n<4):∃t,Pc l σ (.or (.cons (.t (.cmp .is e (.k .none))) (.cons (.t (.cmp .ne (.v 3) e)) .nil))) t/\(t=true↔cur≠some u):=by
 cases cur with
 |none=>exact⟨true,Ey (bR (vg g rfl)),λ_=>oW,λ_=>rfl⟩
 |some v=>
  refine⟨_,E1 (bR (vg g rfl)) (DB (bR (lJ g3 g rfl))),?_⟩
  rw[decide_eq_true_iff,ne_eq,ne_eq,tK u b v (a v rfl),Option.some.injEq]
  exact⟨λh e=>h e.symm,λh e=>h e.symm⟩
theorem BI{n:Nat}{c:Cm}{g:Addr}{j i a:Int}{cur:Option Nat}{st:Bool}{o:List Nat}{r:Rw}{Q:PX}(hs:Sv σ σ c g j cur i st o)(I:wu σ c)(ok:D7 c)(A:r.ok)(po:j8 c.V c.k r.u o)(D:∀n,cur=some n->n<4)
  (h:∀(cut drop:Bool) (st':Bool) (f:List Nat) (t:Addr) (Z:Hp),(cut=true->cur≠some r.u/\0<=a)->(drop=true->jW cur i r.u<=j∨(r.k=0/\(r.s:Int)<=j/\o8 c.V c.k r.u))->(drop=false->¬jW cur i r.u<=j)->j8 c.V c.k r.u f->
   Sv σ Z c g j (some r.u) r.s st' f->Z t=some (true,.tup [.bool cut,.bool drop])->Q (.ref t) Z):cB ext (n+6) (F.fa 37) [.ref g,.bytes r.b,.int a] σ Q:=by
 refine aB (l:=[.ref g,.bytes r.b,.int a,.undef,.undef,.undef,.undef,.undef]) MO rfl rfl ?_;show Go _ Ke _ _ _;delta Ke
 refine sU (aV (by left) (qq A.s A.k λt ht=>Cf ab ?_))
 have s1:=hs.new (d:=(true,.tup [.bytes (bv r.u),.int r.s,.int r.k])) ht
 have g1:=s1.cs
 obtain⟨E,go,B,N⟩:=s1.cc
 have z1:=s1.z hs
 refine bC (λ_:Unit=>[.ref g,.bytes r.b,.int a,.bytes (bv r.u),.int r.s,.int r.k,.undef,.undef]) (λ_ Z=>∃st,Sv σ Z c g j cur i st o) (λR m=>kL (fO (aS (by left) (fJ N rfl (by kernel_rfl) (Bt (by left) (AZ N (I.fz z1) ok A λb E go B=>dG (jd (λ_=>?_) λ_=>?_))))))) ?_
 ·have s2:=s1.setC (ga:=E) (go:=go) (sk:=B)
  have g2:=s2.cs
  right
  exact bk (m () _ ⟨true,s2.setS⟩)
 ·right
  exact bk (m () _ ⟨st,s1.setC⟩)
 rintro⟨⟩ Z ⟨st,s2⟩
 have g2:=s2.cs
 refine bG aT ?_
 refine bC (λcut:Bool=>[.ref g,.bytes r.b,.int a,.bytes (bv r.u),.int r.s,.int r.k,.bool cut,.undef]) (λcut Z=>(cut=true->cur≠some r.u/\0<=a)/\∃st,Sv σ Z c g j (some r.u) (jW cur i r.u) st o) (λR m=>?_) ?_
 ·obtain⟨t,h1,K⟩:=D0 (σ:=Z) (cur:=cur) (e:=.at (.v 0) 31) (l:=List.set [.ref g,.bytes r.b,.int a,.bytes (bv r.u),.int r.s,.int r.k,.undef,.undef] 6 (.bool false)) (by left) (by left) A.u D
  refine g8 h1 ⟨λx=>?_,λx=>?_⟩
  ·have J:=K.mp x
   have e1:jW cur i r.u=rP:=if_neg J
   refine bC (λcut:Bool=>[.ref g,.bytes r.b,.int a,.bytes (bv r.u),.int r.s,.int r.k,.bool cut,.undef]) (λcut Z=>(cut=true->0<=a)/\Sv σ Z c g j cur i st o) (λR' p=>g8 (by left) (br (λy=>?_) λy=>?_)) ?_
   ·obtain⟨E,go,B,c2⟩:=s2.cc
    have z2:=s2.z hs
    have β:=ok.oo.f20
    have ho:=z2 _ _ I.h_o
    refine az (Nl (aS (by left) (K3 (λ_=>?_) λ_=>aS (by left) ?_)))
    ·exact ak (bk (p true Z ⟨λ_=>y,s2⟩))
    ·exact ak (bk (p _ Z ⟨λ_=>y,s2⟩))
   ·exact ak (bk (p false Z ⟨fT,s2⟩))
   ·rintro cut Z ⟨k1,q⟩
    have g3:=q.cs
    have s4:=q.setS (cur':=some r.u) (nw':=i) (st':=st)
    have g4:=s4.cs
    refine ja (by left) (by left) g3 (by kernel_rfl) rfl ?_
    refine ja (by left) (by left) s4.cs (by kernel_rfl) rfl ?_
    refine ak (bk (m cut _ ⟨λx=>⟨J,k1 x⟩,st,?_⟩))
    rw[e1];exact s4.setS
  ·have O:cur=some r.u:=Decidable.not_not.mp λy=>by rw[K.mpr y]at x;cases x
   refine ak (bk (m false Z ⟨fT,st,?_⟩))
   rw[show jW cur i r.u=i from if_pos O,←O];exact s2
 rintro cut Z ⟨k1,st,q⟩
 have g3:=q.cs
 refine bC (λ_:Unit=>[.ref g,.bytes r.b,.int a,.bytes (bv r.u),.int r.s,.int r.k,.bool cut,.undef]) (λ_ Z=>∃st,Sv σ Z c g j (some r.u) (jW cur i r.u) st o) (λR m=>g8 (by left) ⟨λ_=>?_,λ_=>?_⟩) ?_
 ·refine ja (by left) (by left) q.cs (by kernel_rfl) rfl ?_
  exact ak (bk (m () _ ⟨false,q.setS⟩))
 ·exact ak (bk (m () _ ⟨st,q⟩))
 rintro⟨⟩ Z ⟨st,s4⟩
 have g4:=s4.cs
 refine bG aT ?_
 refine bC (λdrop:Bool=>[.ref g,.bytes r.b,.int a,.bytes (bv r.u),.int r.s,.int r.k,.bool cut,.bool drop]) (λdrop Z=>∃f,Sv σ Z c g j (some r.u) (jW cur i r.u) st f/\j8 c.V c.k r.u f/\(drop=true->jW cur i r.u<=j∨(r.k=0/\(r.s:Int)<=j/\o8 c.V c.k r.u))/\(drop=false->¬jW cur i r.u<=j)) (λR m=>g8 (by left) (br (λx=>?_) λx=>?_)) ?_
 ·exact bG aT (ak (bk (m true _ ⟨o,s4,po,λ_=>.inl x,tF⟩)))
 ·refine jw (by left) (λy=>?_) λy=>?_
  ·obtain⟨y1,y2⟩:=(Bool.and_eq_true _ _).mp y
   obtain⟨E,go,B,U⟩:=s4.cc
   have z4:=s4.z hs
   refine az (aW (by left) U rfl (by kernel_rfl) (by left) (Bq U (I.fz z4) ok s4.cp s4.n1 po A.u λb f W w2=>?_))
   exact ak (cx (ak (bk (m b _ ⟨f,s4.setP,w2,λe=>.inr ⟨cY (of_decide_eq_true y1),of_decide_eq_true y2,W e⟩,λ_=>x⟩))))
  ·exact ak (cx (ak (bk (m false _ ⟨o,s4,po,fT,λ_=>x⟩))))
 rintro drop Z ⟨f,s5,G,k2,k3⟩
 have g5:=s5.cs
 refine ja (by left) (by left) s5.cs (by kernel_rfl) rfl ?_
 have s6:=s5.setS (cur':=some r.u) (nw':=r.s) (st':=st)
 right
 intro w Y
 exact cV (Wk.refl _) (h cut drop st f w _ k1 k2 k3 G (s6.new Y) ab)
end
section
variable {ext:bj} {σ Z:Hp}
theorem wC{n:Nat}{p:Addr}{V:bo}{Q:PX}(a:dP true σ V)(h:Q (.bool (decide (V.bot<=V.top))) σ):cB ext (n+1) (F.fa 71) [.ref p,.ref V.adr] σ Q:=by
 have b:=a.v
 have c:=a.sc
 refine aB (l:=[.ref p,.ref V.adr]) MI rfl rfl ?_;show Go _ II _ _ _;delta II
 right
 exact ay h
noncomputable def Re:Option Rw->List UInt8
 |none=>[]
 |some r=>r.b
noncomputable abbrev on(o:Option Rw):AV:=.bytes (Re o)
def AL(a:List (Option Rw)):Prop:=∀r,some r∈a->r.ok
structure KP(σ Z:Hp)(c:Cm)(pA:Addr)(pts:List (Option Rw)):Prop where
 mo:Mo [c.adr,c.inp,pA,c.E.cp] σ Z
 kc:Z c.adr=some (false,fq c 0 0 false)
 inp:Z c.inp=some (false,.list [.ref c.i0,.ref c.i1])
 hp:Z pA=some (false,.list (pts.map on))
 cp:∃xs,Z c.E.cp=some (false,.list xs)/\xs.length<=5
 i0:∃f,Z c.i0=some (f,.list (c.in0.map FM.v))
 i1:∃f,Z c.i1=some (f,.list (c.in1.map FM.v))
 gp:∃f,Z c.gp=some (f,.list (c.gs.map FM.v))
 f0:cM Z c.in0
 f1:cM Z c.in1
 fg:cM Z c.gs
 m:[c.adr,c.inp,pA,c.E.cp].Nodup
 n0:c.i0∉[c.adr,c.inp,pA,c.E.cp]
 n1:c.i1∉[c.adr,c.inp,pA,c.E.cp]
 ng:c.gp∉[c.adr,c.inp,pA,c.E.cp]
theorem KP.lv{c:Cm}{d:Addr}{b:List (Option Rw)}(h:KP σ Z c d b):∀x∈[c.adr,c.inp,d,c.E.cp],∃o,Z x=some (false,o):=λx a=>by
 rcases au a with rfl|a
 ·exact⟨_,h.kc⟩
 ·rcases au a with rfl|a
  ·exact⟨_,h.inp⟩
  ·rcases au a with rfl|a
   ·exact⟨_,h.hp⟩
   ·rw[aw a];obtain⟨f,e,_⟩:=h.cp;exact⟨_,e⟩
theorem KP.new{c:Cm}{g:Addr}{b:List (Option Rw)}{r:Addr}{d:Bool×AO}(h:KP σ Z c g b)(a:Z r=none):KP σ (upd Z r d) c g b:=
 ⟨h.mo.new a,ag a h.kc,ag a h.inp,ag a h.hp,by obtain⟨i,e,l⟩:=h.cp;exact⟨i,ag a e,l⟩,by obtain⟨f,e⟩:=h.i0;exact⟨f,ag a e⟩,by obtain⟨f,e⟩:=h.i1;exact⟨f,ag a e⟩,by obtain⟨f,e⟩:=h.gp;exact⟨f,ag a e⟩,
  h.f0.fz (Fz.new a),h.f1.fz (Fz.new a),h.fg.fz (Fz.new a),h.m,h.n0,h.n1,h.ng⟩
theorem KP.nin{c:Cm}{b:Addr}{a:List (Option Rw)}{r:Addr}(h:KP σ Z c b a)(f:Z r=none):r∉[c.adr,c.inp,b,c.E.cp]:=λd=>by
 obtain⟨o,e⟩:=h.lv r d;rw[f]at e;cases e
theorem KP.setI{c:Cm}{a:Addr}{b:List (Option Rw)}{a0 a1:Addr}{ys zs:List FM}(h:KP σ Z c a b)(n:∃f,Z a0=some (f,.list (ys.map FM.v)))(j:∃f,Z a1=some (f,.list (zs.map FM.v)))(g:cM Z ys)(g1:cM Z zs)(d:a0∉[c.adr,c.inp,a,c.E.cp])(m1:a1∉[c.adr,c.inp,a,c.E.cp]):
  KP σ (upd Z c.inp (false,.list [.ref a0,.ref a1])) {c with i0:=a0,i1:=a1,in0:=ys,in1:=zs} a b:=by
 have ne:∀x,x∉[c.adr,c.inp,a,c.E.cp]->x≠c.inp:=λx i e=>i (e▸.tail _ (.head _))
 have m:=h.m
 rw[List.nodup_cons,List.nodup_cons]at m
 have z:=Fz.mut (c:=(false,.list [.ref a0,.ref a1])) h.inp
 refine⟨h.mo.mut (.tail _ (.head _)),aq (λe=>m.1 (e▸.head _)) h.kc,ab,aq (λe=>m.2.1 (e▸.head _)) h.hp,?_,?_,?_,?_,g.fz z,g1.fz z,h.fg.fz z,h.m,d,m1,h.ng⟩
 ·obtain⟨k,e,l⟩:=h.cp;exact⟨k,aq (λe=>m.2.1 (e▸.tail _ (.head _))) e,l⟩
 ·obtain⟨f,e⟩:=n;exact⟨f,aq (ne _ d) e⟩
 ·obtain⟨f,e⟩:=j;exact⟨f,aq (ne _ m1) e⟩
 ·obtain⟨f,e⟩:=h.gp;exact⟨f,aq (ne _ h.ng) e⟩
theorem KP.setG{c:Cm}{b:Addr}{a:List (Option Rw)}{g:Addr}{ys:List FM}(h:KP σ Z c b a)(n:∃f,Z g=some (f,.list (ys.map FM.v)))(k:cM Z ys)(d:g∉[c.adr,c.inp,b,c.E.cp]):
  KP σ (upd Z c.adr (false,fq {c with gp:=g} 0 0 false)) {c with gp:=g,gs:=ys} b a:=by
 have ne:∀x,x∉[c.adr,c.inp,b,c.E.cp]->x≠c.adr:=λx j e=>j (e▸.head _)
 have m:=h.m
 rw[List.nodup_cons]at m
 have z:=Fz.mut (c:=(false,fq {c with gp:=g} 0 0 false)) h.kc
 refine⟨h.mo.mut (.head _),ab,aq (λe=>m.1 (e▸.head _)) h.inp,aq (λe=>m.1 (e▸.tail _ (.head _))) h.hp,?_,?_,?_,?_,h.f0.fz z,h.f1.fz z,k.fz z,h.m,h.n0,h.n1,d⟩
 ·obtain⟨i,e,l⟩:=h.cp;exact⟨i,aq (λe=>m.1 (e▸.tail _ (.tail _ (.head _)))) e,l⟩
 ·obtain⟨f,e⟩:=h.i0;exact⟨f,aq (ne _ h.n0) e⟩
 ·obtain⟨f,e⟩:=h.i1;exact⟨f,aq (ne _ h.n1) e⟩
 ·obtain⟨f,e⟩:=n;exact⟨f,aq (ne _ d) e⟩
structure ve(V:bo)(k:Nat)(in0 in1:List FM):Prop where
 s:∃L0 L1,V.lv[k]?=some L0/\V.lv[k+1]?=some L1/\in0.Sublist L0.fs/\in0≠[]/\(k=0->∀g∈L0.fs,g∉in0->∀f∈in0,g.hi.u<f.lo.u∨f.hi.u<g.lo.u)/\
  ∃lo hi,(∀f∈in0,lo<=f.lo.u/\f.hi.u<=hi)/\in1=L1.fs.filter (cK lo hi)
theorem pW{fs:List FM}{lo hi:Nat}(h:∀f∈fs.filter (cK lo hi),lo<=f.lo.u/\f.hi.u<=hi):∀g∈fs,g∉fs.filter (cK lo hi)->∀f∈fs.filter (cK lo hi),g.hi.u<f.lo.u∨f.hi.u<g.lo.u:=λg i n f e=>by
 obtain⟨c,d⟩:=h f e
 have:¬(lo<=g.hi.u/\g.lo.u<=hi):=λ⟨a,b⟩=>n (List.mem_filter.mpr ⟨i,by unfold cK;rw[decide_eq_true a,decide_eq_true b];rfl⟩)
 exact(Nat.lt_or_ge g.hi.u lo).elim (λq=>.inl (Nat.lt_of_lt_of_le q c)) λq=>.inr (Nat.lt_of_le_of_lt d (ng λz=>this ⟨q,z⟩))
end
section
variable {ext:bj} {σ Z:Hp}
structure NK where
 i0:Addr
 i1:Addr
 t6:Addr
 ys:List FM
 zs:List FM
 lo:Nat
 hi:Nat
 v5:AV
 v7:AV
 v8:AV
 v9:AV
 v10:AV
noncomputable abbrev NK.c(a:NK)(c:Cm):Cm:={c with i0:=a.i0,i1:=a.i1,in0:=a.ys,in1:=a.zs}
theorem ve.len0{V:bo}{k:Nat}{ys zs:List FM}(h:ve V k ys zs)(b:rB V):ys.length<=60:=by
 obtain⟨e,d,a,c,s,_⟩:=h.s
 exact Nat.le_trans s.length_le (b.len (List.mem_of_getElem? a))
theorem ve.len1{V:bo}{k:Nat}{ys zs:List FM}(h:ve V k ys zs)(b:rB V):zs.length<=60:=by
 obtain⟨g,f,c,a,s,_,_,lo,d,_,e⟩:=h.s
 rw[e]
 exact Nat.le_trans (List.length_filter_le _ _) (b.len (List.mem_of_getElem? a))
theorem ve.ok{V:bo}{k:Nat}{ys zs:List FM}(h:ve V k ys zs)(b:Ag V):pI ys/\pI zs/\ys≠[]:=by
 obtain⟨i,d,g,c,s,n,_,lo,j,_,e⟩:=h.s
 exact⟨λf a=>b.ok i (List.mem_of_getElem? g) f (s.subset a),λf a=>b.ok d (List.mem_of_getElem? c) f (fN (e▸a)).1,n⟩
theorem cM.app{xs ys:List FM}(h:cM σ xs)(k:cM σ ys):cM σ (xs++ys):=λf a=>(aE a).elim (h f) (k f)
theorem pI.app{xs ys:List FM}(h:pI xs)(k:pI ys):pI (xs++ys):=λf a=>(aE a).elim (h f) (k f)
theorem Ap{P:Hp->Prop}{r:Addr}{x y v:AV}(h:σ r=some (false,.list [x,y]))(k:P (upd σ r (false,.list [v,y]))):setItem (.ref r) (.int 0) v σ P:=tc (i:=0) h (Nat.le_of_ble_eq_true rfl) (Nat.succ_pos 1) k
theorem FA{P:Hp->Prop}{r:Addr}{x y v:AV}(h:σ r=some (false,.list [x,y]))(k:P (upd σ r (false,.list [x,v]))):setItem (.ref r) (.int 1) v σ P:=tc (i:=1) h (Nat.le_of_ble_eq_true rfl) (Nat.lt_succ_self 1) k
theorem vf{n:Nat}{p s op o:Addr}{c:Cm}{d:List (Option Rw)}{l:aG}{K:PX}(h:KP σ Z c s d)(i:ye Z p op o)(A:qG Z o)(sel:ve c.V c.k c.in0 c.in1)(b:Ag c.V)(j:get l 0=.ref p)(g1:get l 1=.ref c.adr)
  (k:∀(lo hi:Nat) (r q:Addr),lo<4->hi<4->Z r=none->(upd Z r (false,.list ((c.in0++c.in1).map FM.v))) q=none->K (.ref q) (upd (upd Z r (false,.list ((c.in0++c.in1).map FM.v))) q (true,.tup [.bytes (bv lo),.bytes (bv hi)]))):
  Gx (cB ext (n+6)) (.mth (.v 0) 37 (.cons (.bin .add (.sub (.at (.v 1) 53) (.k (.int 0))) (.sub (.at (.v 1) 53) (.k (.int 1)))) .nil)) l Z K:=by
 have u:=fp j uR
 have B:=fp g1 uR
 have k1:=h.kc
 have k2:=h.inp
 obtain⟨D,k3⟩:=h.i0
 obtain⟨f1,k4⟩:=h.i1
 obtain⟨w,y,z⟩:=sel.ok b
 have f:=sel.len0 b.sm
 have g:=sel.len1 b.sm
 refine fO (aS (bp u) (fJ i rfl (by kernel_rfl) (aj (dg (aS (by left) (aS (by left) (iR k3 k4 ⟨aO (bh f rfl),aO (bh g rfl)⟩ λr a=>aD ?_)))))))
 rw[←List.map_append]
 refine iq (ag a i) ab ((h.f0.app h.f1).fz (Fz.new a)) (λe=>z (List.append_eq_nil_iff.mp e).1) (w.app y) (A.fz (Fz.new a)) (by rw[List.length_append];exact n2 [_,_] HV nQ yQ rfl f g) λlo hi q m t _ x=>k lo hi r q m t a x
theorem KP.setPt{c:Cm}{a:Addr}{b pts':List (Option Rw)}(h:KP σ Z c a b):KP σ (upd Z a (false,.list (pts'.map on))) c a pts':=by
 have ne:∀x,x∉[c.adr,c.inp,a,c.E.cp]->x≠a:=λx g e=>g (e▸.tail _ (.tail _ (.head _)))
 have m:=h.m
 rw[List.nodup_cons,List.nodup_cons,List.nodup_cons]at m
 have z:=Fz.mut (c:=(false,.list (pts'.map on))) h.hp
 refine⟨h.mo.mut (.tail _ (.tail _ (.head _))),aq (λe=>m.1 (e▸.tail _ (.head _))) h.kc,aq (λe=>m.2.1 (e▸.head _)) h.inp,ab,?_,?_,?_,?_,h.f0.fz z,h.f1.fz z,h.fg.fz z,h.m,h.n0,h.n1,h.ng⟩
 ·obtain⟨d,e,l⟩:=h.cp;exact⟨d,aq (λe=>m.2.2.1 (e▸.head _)) e,l⟩
 ·obtain⟨f,e⟩:=h.i0;exact⟨f,aq (ne _ h.n0) e⟩
 ·obtain⟨f,e⟩:=h.i1;exact⟨f,aq (ne _ h.n1) e⟩
 ·obtain⟨f,e⟩:=h.gp;exact⟨f,aq (ne _ h.ng) e⟩
structure KQ(σ Z:Hp)(c:Cm)(pA:Addr)(pts:List (Option Rw)):Prop where
 mo:Mo [c.adr,c.inp,pA,c.E.cp] σ Z
 kc:Z c.adr=some (false,fq c 0 0 false)
 inp:Z c.inp=some (false,.list [.ref c.i0,.ref c.i1])
 hp:Z pA=some (false,.list (pts.map on))
 cp:∃xs,Z c.E.cp=some (false,.list xs)
 i0:∃f,Z c.i0=some (f,.list (c.in0.map FM.v))
 i1:∃f,Z c.i1=some (f,.list (c.in1.map FM.v))
 gp:∃f,Z c.gp=some (f,.list (c.gs.map FM.v))
 f0:cM Z c.in0
 f1:cM Z c.in1
 fg:cM Z c.gs
theorem KP.setCp{c:Cm}{b:Addr}{a:List (Option Rw)}{xs:List AV}(h:KP σ Z c b a):KQ σ (upd Z c.E.cp (false,.list xs)) c b a:=by
 have ne:∀x,x∉[c.adr,c.inp,b,c.E.cp]->x≠c.E.cp:=λx d e=>d (e▸.tail _ (.tail _ (.tail _ (.head _))))
 have m:=h.m
 rw[List.nodup_cons,List.nodup_cons,List.nodup_cons]at m
 obtain⟨i,g,_⟩:=h.cp
 have z:=Fz.mut (c:=(false,.list xs)) g
 refine⟨h.mo.mut (.tail _ (.tail _ (.tail _ (.head _)))),aq (λe=>m.1 (e▸.tail _ (.tail _ (.head _)))) h.kc,aq (λe=>m.2.1 (e▸.tail _ (.head _))) h.inp,aq (λe=>m.2.2.1 (e▸.head _)) h.hp,⟨xs,ab⟩,?_,?_,?_,h.f0.fz z,h.f1.fz z,h.fg.fz z⟩
 ·obtain⟨f,e⟩:=h.i0;exact⟨f,aq (ne _ h.n0) e⟩
 ·obtain⟨f,e⟩:=h.i1;exact⟨f,aq (ne _ h.n1) e⟩
 ·obtain⟨f,e⟩:=h.gp;exact⟨f,aq (ne _ h.ng) e⟩
theorem rQ{n:Nat}{p pA o:Addr}{c:Cm}{j:List (Option Rw)}{Q:PX}(h:KP σ σ c pA j)(hp:ye σ p c.o.adr o)(ho:qG σ o)(hV:dP true σ c.V)(m:Ag c.V)(hO:fu σ c.o)(oo:iX c.o)(nl:c.o.nl=c.V.lv.length)(kn:c.k+1<c.V.lv.length)(hE:σ c.E.adr=some (true,.inst 15 [(36,.none),(37,.none),(38,.none),(39,.none),(40,.ref c.E.cp),(41,.ref c.E.dlA),(42,.ref c.E.alA),(43,.bool false)]))
  (g0:c.gs=[]) (pl:j.length=c.V.lv.length) (po:AL j) (sz:∀L∈c.V.lv,Fm L.fs)
  (s0:∃A,c.V.lv[c.k]?=some A/\c.in0.Sublist A.fs/\c.in0≠[]/\(c.k=0->∀g∈A.fs,g∉c.in0->∀f∈c.in0,g.hi.u<f.lo.u∨f.hi.u<g.lo.u))
  (q:∀(i0 i1 gp:Addr) (ys zs gs:List FM) (pts':List (Option Rw)) (Z:Hp),KQ σ Z {c with i0:=i0,i1:=i1,gp:=gp,in0:=ys,in1:=zs,gs:=gs} pA pts'->pts'.length=c.V.lv.length->AL pts'->ve c.V c.k ys zs->gs.length<=60->pI gs->(i0=c.i0∨∃o,Z i0=some (true,o))->(∃o,Z i1=some (true,o))->(gp=c.gp∨∃o,Z gp=some (true,o))->Q .none Z):
  cB ext (n+7) (F.fa 75) [.ref p,.ref c.adr,.ref pA] σ Q:=by
 obtain⟨A,ζ,sub,ne0,clo⟩:=s0
 obtain⟨z,ε⟩:∃L,c.V.lv[c.k+1]?=some L:=⟨_,List.getElem?_eq_getElem kn⟩
 have k1:=h.kc
 have k2:=h.inp
 obtain⟨f0,k3⟩:=h.i0
 have m0:=List.mem_of_getElem? ζ
 have m1:=List.mem_of_getElem? ε
 have l0:c.in0.length<=60:=Nat.le_trans sub.length_le (m.sm.len m0)
 have v1:=hV.v
 refine aB (l:=[.ref p,.ref c.adr,.ref pA,.undef,.undef,.undef,.undef,.undef,.undef,.undef,.undef,.undef]) Ms rfl rfl ?_;show Go _ JX _ _ _;delta JX
 refine bG (by left) (bG (by left) (az (fO (aS (by left) (fJ hp rfl (by kernel_rfl) (Bt (by left) ?_))))))
 refine iq hp k3 h.f0 ne0 (λf O=>m.ok A m0 f (sub.subset O)) ho (bh l0 rfl) λlo hi t1 b1 b2 b3 ρ=>?_
 have h1:=h.new (d:=(true,.tup [.bytes (bv lo),.bytes (bv hi)])) ρ
 have θ:=hV.fz (Fz.new (c:=(true,.tup [.bytes (bv lo),.bytes (bv hi)])) ρ)
 have v1:=θ.v
 have k1:=h1.kc
 refine dz (aW (by left) v1 rfl (by kernel_rfl) (by left) (iu (k:=c.k+1) (lo:=some lo) (hi:=some hi) θ m.sm ε (m.ok z m1) (λn e=>Option.some.inj e▸b1) (λn e=>Option.some.inj e▸b2) λs t x1 x2 x3 _ r hr=>?_))
 obtain⟨rfl,rfl⟩:=x3 (Nat.succ_ne_zero _)
 have h2:=h1.new (d:=(true,.list ((z.fs.filter (cK s t)).map FM.v))) hr
 have k1:=h2.kc
 refine aS (by left) (aS aT (FA h2.inp ?_))
 have h3:=h2.setI (a0:=c.i0) (a1:=r) (ys:=c.in0) (zs:=z.fs.filter (cK s t)) h2.i0 ⟨_,ab⟩ h2.f0 (λf O=>ag hr ((θ.fs z m1) f (fN O).1)) h.n0 (h1.nin hr)
 have sel:ve c.V c.k c.in0 (z.fs.filter (cK s t)):=⟨A,z,ζ,ε,sub,ne0,clo,s,t,b3,rfl⟩
 have z3:=h3.mo.fz h.lv
 have k1:=h3.kc
 refine az (vf h3 (z3 _ _ hp) (ho.fz z3) sel m rfl rfl λD G q6 t6 y1 y2 hq6 ψ=>?_)
 have h4:=(h3.new (d:=(false,.list ((c.in0++z.fs.filter (cK s t)).map FM.v))) hq6).new (d:=(true,.tup [.bytes (bv D),.bytes (bv G)])) ψ
 have k1:=h4.kc
 have φ:=((Fz.mut (c:=(false,.list [.ref c.i0,.ref r])) h2.inp).trans (Fz.new (c:=(false,.list ((c.in0++z.fs.filter (cK s t)).map FM.v))) hq6)).trans (Fz.new (c:=(true,.tup [.bytes (bv D),.bytes (bv G)])) ψ)
 have r4:=φ _ _ (ab (σ:=upd σ t1 (true,.tup [.bytes (bv s),.bytes (bv t)])) (a:=r))
 clear φ
 generalize e4:upd _ t6 _=ω at h4 r4 ⊢
 have t4:ω t6=some (true,.tup [.bytes (bv D),.bytes (bv G)]):=e4▸ab
 refine bC (λa:NK=>[.ref p,.ref c.adr,.ref pA,.int c.k,.ref c.V.adr,a.v5,.ref a.t6,a.v7,a.v8,a.v9,a.v10,.undef]) (λa Z=>KP σ Z (a.c c) pA j/\ve c.V c.k a.ys a.zs/\Z a.t6=some (true,.tup [.bytes (bv a.lo),.bytes (bv a.hi)])/\a.lo<4/\a.hi<4/\(a.i0=c.i0∨∃o,Z a.i0=some (true,o))/\∃o,Z a.i1=some (true,o)) (λR ih=>?_) ?_
 ·have z4:=h4.mo.fz h.lv
  have μ:=hV.fz z4
  have hp4:=z4 _ _ hp
  have hO4:=z4 _ _ hO
  have v4:=μ.v
  have k4:=h4.kc
  have i4:=h4.inp
  obtain⟨f0,e0⟩:=h4.i0
  obtain⟨f1,e1⟩:=h4.i1
  have ly:=aO (g:=FM.v) (bh l0 rfl)
  have lz:=aO (g:=FM.v) (bh (sel.len1 m.sm) rfl)
  refine g8 (by left) (br (λx=>?_) λx=>ak (bk (ih ⟨c.i0,r,t6,c.in0,_,D,G,.ref t1,.undef,.undef,.undef,.undef⟩ _ ⟨h4,sel,t4,y1,y2,.inl rfl,_,r4⟩)))
  refine az (aW (by left) v4 rfl (by kernel_rfl) (by left) (iu (k:=c.k) (lo:=some D) (hi:=some G) μ m.sm ζ (m.ok A m0) (λn e=>Option.some.inj e▸y1) (λn e=>Option.some.inj e▸y2) λla ha _ _ _ cl7 g7 J=>?_))
  have K:=h4.new (d:=(true,.list ((A.fs.filter (cK la ha)).map FM.v))) J
  have l7:(A.fs.filter (cK la ha)).length<=60:=Nat.le_trans (List.length_filter_le _ _) (m.sm.len m0)
  have f7:cM (upd _ g7 (true,.list ((A.fs.filter (cK la ha)).map FM.v))) (A.fs.filter (cK la ha)):=λf O=>ag J (μ.fs A m0 f (fN O).1)
  have lg:=aO (g:=FM.v) (bh l7 rfl)
  have z5:=K.mo.fz h.lv
  have ξ:=z5 _ _ hp
  have hO5:=z5 _ _ hO
  have γ:=hV.fz z5
  have v5:=γ.v
  have k5:=K.kc
  have i5:=K.inp
  obtain⟨f0',e0'⟩:=K.i0
  obtain⟨f1',e1'⟩:=K.i1
  have f28:=oo.f28
  have f20:=oo.f20
  have ef:=oo.ef
  refine bG (ft (by left) (by left) (Ok ef)) ?_
  refine az (dg (aV (by left) (nT e1' K.f1 (bh (sel.len1 m.sm) rfl) (aV (by left) (nT ab f7 (bh l7 rfl) (xb ?_))))))
  refine jw (by left) (λy=>?_) λy=>ak (cx (ak (bk (ih ⟨c.i0,r,t6,c.in0,_,D,G,.ref t1,.ref g7,_,_,.undef⟩ _ ⟨K,sel,ag J t4,y1,y2,.inl rfl,_,ag J r4⟩))))
  have ν:=of_decide_eq_true ((Bool.and_eq_true _ _).mp y).1
  rw[List.length_map,List.length_map]at ν
  have ne7:A.fs.filter (cK la ha)≠[]:=λe=>by rw[e]at ν;exact absurd ν (fZ (Int.natCast_nonneg _))
  have ok7:pI (A.fs.filter (cK la ha)):=λf O=>m.ok A m0 f (fN O).1
  refine az (fO (aS (by left) (fJ ξ rfl (by kernel_rfl) (Bt (by left) ?_))))
  refine iq ξ ab f7 ne7 ok7 (ho.fz z5) (bh l7 rfl) λlo8 hi8 t8 b1' b2' b3' Y=>?_
  have N:=K.new (d:=(true,.tup [.bytes (bv lo8),.bytes (bv hi8)])) Y
  have z6:=N.mo.fz h.lv
  have κ:=hV.fz z6
  have v6:=κ.v
  refine az (aW (by left) v6 rfl (by kernel_rfl) (by left) (iu (k:=c.k+1) (lo:=some lo8) (hi:=some hi8) κ m.sm ε (m.ok z m1) (λn e=>Option.some.inj e▸b1') (λn e=>Option.some.inj e▸b2') λW U _ _ x3 _ g9 I=>?_))
  obtain⟨rfl,rfl⟩:=x3 (Nat.succ_ne_zero _)
  have B:=N.new (d:=(true,.list ((z.fs.filter (cK W U)).map FM.v))) I
  have l9:(z.fs.filter (cK W U)).length<=60:=Nat.le_trans (List.length_filter_le _ _) (m.sm.len m1)
  have lg9:=aO (g:=FM.v) (bh l9 rfl)
  have k7:=B.kc
  have i7:=B.inp
  obtain⟨f1'',e1''⟩:=B.i1
  have t6':=ag (c:=(true,.list ((z.fs.filter (cK W U)).map FM.v))) I (ag (c:=(true,.tup [.bytes (bv W),.bytes (bv U)])) Y (ag (c:=(true,.list ((A.fs.filter (cK la ha)).map FM.v))) J t4))
  refine d6 (by left) (λw=>?_) λw=>ak (cx (ak (cx (ak (bk (ih ⟨c.i0,r,t6,c.in0,_,D,G,.ref t8,.ref g7,_,_,.ref g9⟩ _ ⟨B,sel,t6',y1,y2,.inl rfl,_,ag I (ag Y (ag J r4))⟩))))))
  have c7:=ag (c:=(true,.list ((z.fs.filter (cK W U)).map FM.v))) I (ag (c:=(true,.tup [.bytes (bv W),.bytes (bv U)])) Y (ab (σ:=ω) (a:=g7)))
  have f7':=f7.fz ((Fz.new (c:=(true,.tup [.bytes (bv W),.bytes (bv U)])) Y).trans (Fz.new (c:=(true,.list ((z.fs.filter (cK W U)).map FM.v))) I))
  have f9:cM _ (z.fs.filter (cK W U)):=λf O=>ag (c:=(true,.list ((z.fs.filter (cK W U)).map FM.v))) I (κ.fs z m1 f (fN O).1)
  have m7:=h4.nin J
  have m9:=N.nin I
  have h8:=B.setI ⟨_,c7⟩ B.i1 f7' B.f1 m7 B.n1
  have z8:=Fz.mut (c:=(false,.list [.ref g7,.ref r])) B.inp
  have h9:=h8.setI h8.i0 ⟨_,z8 _ _ ab⟩ h8.f0 (f9.fz z8) m7 m9
  have k8:=h8.kc
  refine dz (aS (by left) (aS (by left) (aS aT (Ap B.inp ?_))))
  refine dz (aS (by left) (aS (by left) (aS aT (FA h8.inp ?_))))
  have η:ve c.V c.k (A.fs.filter (cK la ha)) (z.fs.filter (cK W U)):=⟨A,z,ζ,ε,List.filter_sublist,ne7,λk0=>pW (cl7 k0),W,U,b3',rfl⟩
  have z9:=h9.mo.fz h.lv
  refine az (vf h9 (z9 _ _ hp) (ho.fz z9) η m rfl rfl λπ hi9 q9 t9 y1' y2' υ χ=>?_)
  have ze:=((z8.trans (Fz.mut (c:=(false,.list [.ref g7,.ref g9])) h8.inp)).trans (Fz.new (c:=(false,.list ((A.fs.filter (cK la ha)++z.fs.filter (cK W U)).map FM.v))) υ)).trans (Fz.new (c:=(true,.tup [.bytes (bv π),.bytes (bv hi9)])) χ)
  exact ak (cx (ak (cx (ak (bk (ih ⟨g7,g9,t9,_,_,π,hi9,.ref t8,.ref g7,_,_,.ref g9⟩ _ ⟨(h9.new υ).new χ,η,ab,y1',y2',.inr ⟨_,ze _ _ c7⟩,_,ze _ _ ab⟩))))))
 rintro a Z ⟨K,δ,ht,y3,y4,w0,w1⟩
 have z5:=K.mo.fz h.lv
 have ξ:=z5 _ _ hp
 have hO5:=z5 _ _ hO
 have γ:=hV.fz z5
 have f21:=oo.f21
 have v5:=γ.v
 have k5:=K.kc
 refine bC (λ_:Unit=>[.ref p,.ref c.adr,.ref pA,.int c.k,.ref c.V.adr,a.v5,.ref a.t6,a.v7,a.v8,a.v9,a.v10,.undef]) (λ_ Z=>∃gp gs,KP σ Z {c with i0:=a.i0,i1:=a.i1,in0:=a.ys,in1:=a.zs,gp:=gp,gs:=gs} pA j/\gs.length<=60/\pI gs/\(a.i0=c.i0∨∃o,Z a.i0=some (true,o))/\(∃o,Z a.i1=some (true,o))/\(gp=c.gp∨∃o,Z gp=some (true,o))) (λR ih=>g8 (by left) (br (λx=>?_) λx=>?_)) ?_
 ·obtain⟨L2,hL2⟩:∃L,c.V.lv[c.k+2]?=some L:=⟨_,List.getElem?_eq_getElem (by rw[nl]at x;exact cq x)⟩
  have m2:=List.mem_of_getElem? hL2
  refine xd (aW (by left) v5 rfl (by kernel_rfl) (by left) (iu (k:=c.k+2) (lo:=some a.lo) (hi:=some a.hi) γ m.sm hL2 (m.ok L2 m2) (λn e=>Option.some.inj e▸y3) (λn e=>Option.some.inj e▸y4) λs t _ _ _ _ g hg=>aS (by left) (A9 (ag hg k5) (by kernel_rfl) rfl ?_)))
  have N:=K.new (d:=(true,.list ((L2.fs.filter (cK s t)).map FM.v))) hg
  have B:=N.setG ⟨_,ab⟩ (λf O=>ag hg (γ.fs L2 m2 f (fN O).1)) (K.nin hg)
  have zg:=(Fz.new (c:=(true,.list ((L2.fs.filter (cK s t)).map FM.v))) hg).trans (Fz.mut (c:=(false,fq {a.c c with gp:=g} 0 0 false)) N.kc)
  exact ak (bk (ih () _ ⟨g,_,B,Nat.le_trans (List.length_filter_le _ _) (m.sm.len m2),λf O=>m.ok L2 m2 f (fN O).1,w0.imp id λ⟨o,e⟩=>⟨o,zg _ _ e⟩,by obtain⟨o,e⟩:=w1;exact⟨o,zg _ _ e⟩,.inr ⟨_,cP N.kc ab⟩⟩))
 ·exact ak (bk (ih () _ ⟨c.gp,c.gs,K,by rw[g0];exact Nat.zero_le _,by rw[g0];exact λ_=>nM,w0,w1,.inl rfl⟩))
 rintro⟨⟩ Z ⟨gp,gs,N,gl,gok,w0,w1,w2⟩
 have z6:=N.mo.fz h.lv
 have hp6:=z6 _ _ hp
 have k6:=N.kc
 have i6:=N.inp
 obtain⟨f0,e6⟩:=N.i0
 obtain⟨o1,o2,o3⟩:=δ.ok m
 have lp:=aO (g:=on) (bs:=j) (by rw[pl];exact bh m.sm.n rfl)
 refine az (qE (aV (by left) (rG e6 N.f0 o3 o1 (ho.fz z6) (bh (δ.len0 m.sm) rfl) λlo hi r _ hk _ hr=>aS aT (FW (i:=1) ab rfl rfl ?_))))
 have B:=N.new (d:=(true,.tup [.bytes lo.b,.bytes hi.b])) hr
 refine dz (aS (by left) (aS (by left) (aS (by left) (tc B.hp lp (by rw[List.length_map,pl];exact Nat.lt_of_succ_lt kn) ?_))))
 rw[show(j.map on).set c.k (AV.bytes hi.b)=(j.set c.k (some hi)).map on from(List.map_set (f:=on) (l:=j) (i:=c.k) (a:=some hi)).symm]
 have h8:=B.setPt (pts':=j.set c.k (some hi))
 have k8:=h8.kc
 have e8:=(h8.mo.fz h.lv) _ _ hE
 obtain⟨xs,c8,xl⟩:=h8.cp
 have c8:=(show(_:Hp) c.E.cp=some (false,AO.list xs)from c8)
 refine dJ (iI (aS (by left) (iW c8 rfl (aj (fv (by left) rfl λw hw=>aD (dO (ag hw c8) (Nat.le_trans xl (Nat.le_of_ble_eq_true rfl)) ?_))))))
 have ze:=(((Fz.new (c:=(true,.tup [.bytes lo.b,.bytes hi.b])) hr).trans (Fz.mut (c:=(false,.list ((j.set c.k (some hi)).map on))) B.hp)).trans (Fz.new (c:=(true,.tup [.int c.k,.bytes hi.b])) hw)).trans (Fz.mut (c:=(false,.list (xs++[.ref w]))) (ag hw c8))
 refine ak (fX (Wk.refl _) (q a.i0 a.i1 gp a.ys a.zs gs (j.set c.k (some hi)) _ (h8.new hw).setCp (by rw[List.length_set];exact pl) (λr' β=>?_) δ gl gok (w0.imp id λ⟨o,e⟩=>⟨o,ze _ _ e⟩) (by obtain⟨o,e⟩:=w1;exact⟨o,ze _ _ e⟩) (w2.imp id λ⟨o,e⟩=>⟨o,ze _ _ e⟩)))
 rcases List.mem_or_eq_of_mem_set β with β|β
 ·exact po r' β
 ·rw[Option.some.inj β];exact hk
end
section
variable {ext:bj} {σ Z:Hp}
noncomputable def rZ(S:List Addr)(Z:Hp):Hp:=λa=>if a∈S then(Z a).map λc=>(true,c.2) else Z a
theorem jP{S:List Addr}{a:Addr}(h:a∉S):rZ S Z a=Z a:=if_neg h
theorem nE{S:List Addr}{a:Addr}{f:Bool}{o:AO}(e:Z a=some (f,o))(h:a∈S):rZ S Z a=some (true,o):=by unfold rZ;rw[if_pos h,e];rfl
theorem mH{S:List Addr}:Fz Z (rZ S Z):=λa o e=>by
 by_cases h:a∈S
 ·exact nE e h
 ·rw[jP h];exact e
theorem zo{S:List Addr}:Wk (rZ S Z) Z:=λa c e=>by
 by_cases h:a∈S
 ·cases g:Z a with
  |none=>unfold rZ at e;rw[if_pos h,g]at e;cases e
  |some d=>rw[nE (o:=d.2) (f:=d.1) g h]at e;cases e;exact⟨_,rfl,rfl,λ_=>rfl⟩
 ·rw[jP h]at e;exact⟨c,e,rfl,id⟩
theorem sw{S:List Addr}{a:Addr}{f:Bool}{o:AO}(h:Z a=some (f,o))(k:∃o',Z a=some (true,o')):rZ S Z a=some (true,o):=by
 obtain⟨o',e⟩:=k
 rw[h]at e
 exact mH _ _ (by rw[h,(Prod.mk.inj (Option.some.inj e)).1])
structure Bb(σ Z:Hp)(c:Cm)(pA:Addr)(pts:List (Option Rw)):Prop where
 mo:Mo [pA] σ Z
 hC:wu Z c
 kc:Z c.adr=some (false,fq c 0 0 false)
 kpl:Z c.pl=some (false,.list ((List.replicate c.V.lv.length 0).map tV))
 kE:jM Z c.E
 ed:c.E.dl=[]
 ea:c.E.al=[]
 hp:Z pA=some (false,.list (pts.map on))
 nd:[c.adr,c.pl,c.E.cp,c.E.dlA,c.E.alA].Nodup
 fr:∀x∈[c.adr,c.pl,c.E.cp,c.E.dlA,c.E.alA],σ x=none
 sel:ve c.V c.k c.in0 c.in1
 lg:c.gs.length<=60
 og:pI c.gs
theorem HQ{a b c d e f g i j y:Addr}(h:y∈[a,b,c,d,j]):y∈[a,b,c,d,e,f,g,i,j]:=(au h).elim (λe=>e▸Gu) λh=>(au h).elim (λe=>e▸HI) λh=>(au h).elim (λe=>e▸GM) λh=>(au h).elim (λe=>e▸Dr) λh=>aw h▸Cr
theorem Cu{f:Hp}{a p b g m n j ord r x:Addr}{k:Nat}{V:bo}{o:Op}{E:Ed}{d:Bool×AO}(h:C0 σ f a k V o ord r b g m n j E)(l:σ p=some d)(s:f x=none):x∉[a,b,p,E.cp]/\∀y∈[j,E.alA,E.dlA,E.cp,a],y≠x:=by
 have ne:∀y c,f y=some c->y≠x:=λy c e=>af e s
 have lv:=h.fl.lv
 have q:∀y∈[j,E.alA,E.dlA,E.cp,n,b,m,g,a],y≠x:=λy i=>by obtain⟨c,e⟩:=lv y i;exact ne y c e
 refine⟨λt=>?_,λy i=>q y ?_⟩
 ·exact a7 (Ne.symm (ne _ _ h.h_c)) (a7 (Ne.symm (ne _ _ h.h_inp)) (a7 (Ne.symm (ne _ _ (h.fl.ex _ _ l))) (dh (Ne.symm (ne _ _ h.h_cp))))) t
 ·exact HQ i
theorem MS{a b c d e f g i j y:Addr}(h:y∈[j,a,d,c,b]):y∈[a,b,c,d,e,f,g,i,j]:=(au h).elim (λe=>e▸Cr) λh=>(au h).elim (λe=>e▸Gu) λh=>(au h).elim (λe=>e▸Dr) λh=>(au h).elim (λe=>e▸GM) λh=>aw h▸HI
theorem xn{B h t:Hp}{c:Cm}{l s i m:Addr}{ys zs gs:List FM}{v:Addr}{U pts':List (Option Rw)}{dA:AO}
  (f:C0 σ h c.adr c.k c.V c.o c.ord c.us c.inp v c.i1 c.gp c.pl c.E) (m0:Mo [c.adr,c.inp] h t) (j:aK B σ) (K:B m=some (false,dA)) (ni:B c.i0=none) (I:∀y∈[c.pl,c.E.alA,c.E.dlA,c.E.cp,c.adr],y≠c.i0) (nl:c.o.nl=c.V.lv.length) (hV:dP true σ c.V) (hO:fu σ c.o)
  (q:KQ t Z {c with i0:=l,i1:=s,gp:=i,in0:=ys,in1:=zs,gs:=gs} m pts') (hl:KP t t c m U) (sel:ve c.V c.k ys zs) (lg:gs.length<=60) (og:pI gs) (w0:l=c.i0∨∃o,Z l=some (true,o)) (w1:∃o,Z s=some (true,o)) (w2:i=c.gp∨∃o,Z i=some (true,o)):
  Bb B (rZ [c.inp,c.i0,c.gp] Z) {c with i0:=l,i1:=s,gp:=i,in0:=ys,in1:=zs,gs:=gs} m pts':=by
 have b:=f.fl.nd
 have fr:=f.fl.fr
 have D:∀x d,σ x=some d->∀y∈[c.pl,c.E.alA,c.E.dlA,c.E.cp,c.gp,c.inp,c.i1,v,c.adr],x≠y:=λx d e y hy z=>by rw[z,fr y hy]at e;cases e
 have J:∀x d,B x=some d->x≠c.i0:=λx d e z=>by rw[z,ni]at e;cases e
 have g:=D _ _ (j _ _ K)
 have tr:∀x d,x≠c.adr->x≠c.inp->x≠m->x≠c.E.cp->h x=some d->Z x=some d:=λx d u r w R e=>q.mo x d (a7 u (a7 r (a7 w (dh R)))) (m0 x d (a7 u (dh r)) e)
 have O:∀x,x≠c.inp->x≠c.gp->x≠c.i0->x∉[c.inp,c.i0,c.gp]:=λx u r w=>a7 u (a7 w (dh r))
 have z0:Fz h t:=m0.fz λx A=>(au A).elim (λe=>e▸⟨_,f.h_c⟩) λA=>aw A▸⟨_,f.h_inp⟩
 have z1:Fz t Z:=q.mo.fz hl.lv
 have z2:=(z0.trans z1).trans (mH (S:=[c.inp,c.i0,c.gp]))
 have W:=f.fl.ex.fz.trans z2
 obtain⟨xs,Q⟩:=q.cp
 obtain⟨f0,q0⟩:=q.i0
 obtain⟨f1,q1⟩:=q.i1
 obtain⟨f2,Y⟩:=q.gp
 have ii:c.i0∈[c.inp,c.i0,c.gp]:=.tail _ (.head _)
 have ig:c.gp∈[c.inp,c.i0,c.gp]:=.tail _ (.tail _ (.head _))
 have N:=λx d (u:x≠c.adr) (r:x≠c.inp) (w:x≠m) (R:x≠c.E.cp) (x5:x≠c.gp) (x6:x≠c.i0) (e:h x=some d)=>(jP (O x r x5 x6)).trans (tr x d u r w R e)
 refine⟨λa d n e=>?_,⟨f.h_ord.fz z2,z2 _ _ f.h_us,nE q.inp (.head _),?_,?_,?_,q.f0.fz mH,q.f1.fz mH,q.fg.fz mH,hV.fz W,W _ _ hO⟩,?_,?_,⟨z2 _ _ f.h_E.e,N _ _ (nz b 2 8 rfl rfl rfl) (nz b 2 5 rfl rfl rfl) (Ne.symm (g _ GM)) (nz b 2 3 rfl rfl rfl) (nz b 2 4 rfl rfl rfl) (I _ GM) f.h_E.d,N _ _ (nz b 1 8 rfl rfl rfl) (nz b 1 5 rfl rfl rfl) (Ne.symm (g _ HI)) (nz b 1 3 rfl rfl rfl) (nz b 1 4 rfl rfl rfl) (I _ HI) f.h_E.a,⟨xs,?_⟩,(λp G=>by rw[show c.E.dl=[]from f.ed]at G;cases G),(λp G=>by rw[show c.E.al=[]from f.ea]at G;cases G)⟩,f.ed,f.ea,?_,?_,?_,sel,lg,og⟩
 ·have x:=D a d (j _ _ e)
  have x8:a≠m:=λz=>n (z▸.head _)
  exact N a d (x _ Cr) (x _ Do) x8 (x _ Dr) (x _ Hr) (J a d e) (f.fl.ex _ _ (j _ _ e))
 ·rcases w0 with rfl|k
  ·exact nE q0 ii
  ·exact sw q0 k
 ·exact sw q1 w1
 ·rcases w2 with rfl|k
  ·exact nE Y ig
  ·exact sw Y k
 ·have:c.adr∉[c.inp,c.i0,c.gp]:=O _ (Ne.symm (nz b 5 8 rfl rfl rfl)) (Ne.symm (nz b 4 8 rfl rfl rfl)) (I _ Hr)
  exact(jP this).trans q.kc
 ·refine(N _ _ (nz b 0 8 rfl rfl rfl) (nz b 0 5 rfl rfl rfl) (Ne.symm (g _ Gu)) (nz b 0 3 rfl rfl rfl) (nz b 0 4 rfl rfl rfl) (I _ Gu) f.h_pl).trans ?_
  rw[nl,List.map_replicate];rfl
 ·exact(jP (O _ (nz b 3 5 rfl rfl rfl) (nz b 3 4 rfl rfl rfl) (I _ Dr))).trans Q
 ·exact(jP (O _ (g _ Do) (g _ Hr) (J _ _ K))).trans q.hp
 ·exact List.nodup_cons.mpr ⟨a7 (Ne.symm (nz b 0 8 rfl rfl rfl)) (a7 (Ne.symm (nz b 3 8 rfl rfl rfl)) (a7 (Ne.symm (nz b 2 8 rfl rfl rfl)) (dh (Ne.symm (nz b 1 8 rfl rfl rfl))))),List.nodup_cons.mpr ⟨a7 (nz b 0 3 rfl rfl rfl) (a7 (nz b 0 2 rfl rfl rfl) (dh (nz b 0 1 rfl rfl rfl))),List.nodup_cons.mpr ⟨a7 (Ne.symm (nz b 2 3 rfl rfl rfl)) (dh (Ne.symm (nz b 1 3 rfl rfl rfl))),List.nodup_cons.mpr ⟨dh (Ne.symm (nz b 1 2 rfl rfl rfl)),List.nodup_cons.mpr ⟨List.not_mem_nil,.nil⟩⟩⟩⟩⟩
 ·exact λx A=>j.nn (fr x (MS A))
end
section
variable {ext:bj} {σ Z:Hp}
theorem CN{i b:Hp}{c:Cm}{m j:Addr}{q:List (Option Rw)}
  (l:C0 σ i c.adr c.k c.V c.o c.ord c.us c.inp m c.i1 c.gp c.pl c.E) (G:Mo [c.adr,c.inp] i b) (h:σ j=some (false,.list (q.map on))) (J:c.i0∉[c.adr,c.inp,j,c.E.cp]) (B:b c.adr=some (false,fq c 0 0 false)) (p:b c.inp=some (false,.list [.ref c.i0,.ref c.i1]))
  (A:∃f,b c.i0=some (f,.list (c.in0.map FM.v))) (K:cM b c.in0) (w:c.in1=[]) (u:c.gs=[]):KP b b c j q:=by
 have a:=l.fl.nd
 have I:=l.fl.fr
 have g:∀y∈[c.pl,c.E.alA,c.E.dlA,c.E.cp,c.gp,c.inp,c.i1,m,c.adr],j≠y:=λy D z=>by rw[z,I y D]at h;cases h
 have n:∀x,x≠c.adr->x≠c.inp->x≠j->x≠c.E.cp->x∉[c.adr,c.inp,j,c.E.cp]:=λx s y2 N O=>a7 s (a7 y2 (a7 N (dh O)))
 have r:∀x d,x≠c.adr->x≠c.inp->i x=some d->b x=some d:=λx d s y2 e=>G x d (a7 s (dh y2)) e
 have t:=l.fl.ex _ _ h
 refine⟨Mo.refl _ _,B,p,r _ _ (g _ Cr) (g _ Do) t,⟨[],r _ _ (nz a 3 8 rfl rfl rfl) (nz a 3 5 rfl rfl rfl) l.h_cp,Nat.zero_le _⟩,A,⟨_,by rw[w];exact r _ _ (nz a 6 8 rfl rfl rfl) (Ne.symm (nz a 5 6 rfl rfl rfl)) l.h_i1⟩,⟨_,by rw[u];exact r _ _ (nz a 4 8 rfl rfl rfl) (nz a 4 5 rfl rfl rfl) l.h_gp⟩,K,by rw[w];exact λ_=>nM,by rw[u];exact λ_=>nM,List.nodup_cons.mpr ⟨a7 (Ne.symm (nz a 5 8 rfl rfl rfl)) (a7 (Ne.symm (g _ Cr)) (dh (Ne.symm (nz a 3 8 rfl rfl rfl)))),List.nodup_cons.mpr ⟨a7 (Ne.symm (g _ Do)) (dh (Ne.symm (nz a 3 5 rfl rfl rfl))),List.nodup_cons.mpr ⟨dh (g _ Dr),List.nodup_cons.mpr ⟨List.not_mem_nil,.nil⟩⟩⟩⟩,J,n _ (nz a 6 8 rfl rfl rfl) (Ne.symm (nz a 5 6 rfl rfl rfl)) (Ne.symm (g _ PY)) (Ne.symm (nz a 3 6 rfl rfl rfl)),n _ (nz a 4 8 rfl rfl rfl) (nz a 4 5 rfl rfl rfl) (Ne.symm (g _ Hr)) (Ne.symm (nz a 3 4 rfl rfl rfl))⟩
structure Dz(σ:Hp)(p o pA:Addr)(V:bo)(op:Op)(pts:List (Option Rw)):Prop where
 hP:ye σ p op.adr o
 hO:qG σ o
 v:dP true σ V
 vr:Ag V
 so:zm V
 hop:fu σ op
 oo:iX op
 nl:op.nl=V.lv.length
 hp:σ pA=some (false,.list (pts.map on))
 pl:pts.length=V.lv.length
 po:AL pts
 sz:∀L∈V.lv,Fm L.fs
theorem A3{n:Nat}{p o K:Addr}{V:bo}{op:Op}{D:List (Option Rw)}{Q:PX}(hi:Dz σ p o K V op D)(q0:Q .none σ)
  (q1:∀(c:Cm) (pts':List (Option Rw)) (Z:Hp),c.V=V->c.o=op->Bb σ Z c K pts'->pts'.length=V.lv.length->AL pts'->c.k+1<V.lv.length->Q (.ref c.adr) Z):cB ext (n+8) (F.fa 73) [.ref p,.ref V.adr,.ref K] σ Q:=by
 have hp:=hi.hP
 unfold ye at hp
 have v1:=hi.v.v
 refine aB (l:=[.ref p,.ref V.adr,.ref K,.undef,.undef,.undef,.undef,.undef,.undef,.undef]) Lx rfl rfl ?_;show Go _ KV _ _ _;delta KV
 refine bJ (CD (kL (aW (by left) hp rfl (by kernel_rfl) (by left) (wC hi.v (dG (Gb (λ_=>?_) λx=>?_))))))
 ·right;exact ay q0
 obtain⟨k,L,e1,e2,e3,e4⟩:=hi.so x
 refine ak (cx (bG (aU (by left) (congrArg AV.int e1)) (az (fV (by left) rfl λA κ=>qA (k:=k) (V:=V) (o:=op) κ hi.hop hi.oo λord us h i0 N gp pl E i J=>wv ?_))))
 have j:=J.fl.ex
 have B:=hi.v.up j
 have v2:=B.v
 have v3:=B.fl
 have hm:=List.mem_of_getElem? e3
 have v4:=B.lv L hm
 have lV:=aO (g:=bM.v) (bh hi.vr.sm.n rfl)
 have lL:=aO (g:=FM.v) (bh (hi.vr.sm.len hm) rfl)
 have lP:=aO (g:=on) (bs:=D) (by rw[hi.pl];exact bh hi.vr.sm.n rfl)
 have eL:=bS (g:=bM.v) e3
 obtain⟨Y,η⟩:∃Y,D[k]?=some Y:=⟨_,List.getElem?_eq_getElem (by rw[hi.pl];exact Nat.le_of_lt e2)⟩
 have ept:=bS (g:=on) η
 have hp0:=j _ _ hi.hp
 obtain⟨f0,δ⟩:∃f,L.fs[0]?=some f:=by
  cases hl:L.fs with
  |nil=>exact(e4 hl).elim
  |cons f r=>exact⟨f,rfl⟩
 have ψ:oB (L.fs.map FM.v) 0=some f0.v:=bS δ
 have hpp:=j _ _ hp
 have k0:=J.h_c
 have m:=J.h_inp
 have U:=B.fs L hm
 have vQ:=hi.vr.ok L hm
 have ξ:=List.mem_of_getElem? δ
 have w:=hi.hO.fz j.fz
 right
 have fin:∀a:FM×AV,a.1∈L.fs->Go (cB ext (n+7)) (.cons (.setI (.at (.v 4) 53) (.k (.int 0)) (.lst (.cons (.v 7) .nil))) (.cons (.ite (.t (.cmp .eq (.v 3) (.k (.int 0)))) (.cons (.asg 9 (.mth (.v 0) 37 (.cons (.sub (.at (.v 4) 53) (.k (.int 0))) .nil)))
   (.cons (.setI (.at (.v 4) 53) (.k (.int 0)) (.mth (.v 1) 18 (.cons (.k (.int 0)) (.cons (.sub (.v 9) (.k (.int 0))) (.cons (.sub (.v 9) (.k (.int 1))) .nil))))) .nil)) .nil) (.cons (.ex (.mth (.v 0) 40 (.cons (.v 4) (.cons (.v 2) .nil)))) (.cons (.ret (.v 4)) .nil))))
   [.ref p,.ref V.adr,.ref K,.int k,.ref A,L.v,on Y,a.1.v,a.2,.undef] i (cO Q):=λa G=>by
  refine dz (a8 (by left) rfl λr hr=>aS (by left) (aS aT (Ap (ag hr m) ?_)))
  have m1:Mo [A,h] i (upd (upd i r (false,.list [a.1.v])) h (false,.list [.ref r,.ref N])):=((Mo.refl _ _).new hr).mut (.tail _ (.head _))
  have cn:A≠h:=λe=>by rw[e]at k0;rw[k0]at m;cases m
  have rn:=af m hr
  have k1:=aq (c:=(false,.list [.ref r,.ref N])) cn (ag (c:=(false,.list [a.1.v])) hr k0)
  have z1:=m1.fz λx j=>(au j).elim (λe=>e▸⟨_,k0⟩) λj=>aw j▸⟨_,m⟩
  have zz:=j.fz.trans z1
  have γ:=hi.v.fz zz
  have v1:=γ.v
  have ε:upd (upd i r (false,.list [a.1.v])) h (false,.list [.ref r,.ref N]) r=some (false,.list [a.1.v]):=hG rn ab
  refine bC (λb:Addr×List FM×AV=>[.ref p,.ref V.adr,.ref K,.int k,.ref A,L.v,on Y,a.1.v,a.2,b.2.2]) (λb O=>Mo [A,h] i O/\O A=some (false,.inst 18 [(49,.int k),(50,.ref V.adr),(51,.ref op.adr),(44,.ref ord),(52,.ref us),(53,.ref h),(54,.ref gp),(55,.ref E.adr),(56,.bool false),(57,.int 0),(58,.int 0),(59,.bool false),(60,.ref pl)])/\O h=some (false,.list [.ref b.1,.ref N])/\
   (∃f,O b.1=some (f,.list (b.2.1.map FM.v)))/\i b.1=none/\b.2.1.Sublist L.fs/\b.2.1≠[]/\(k=0->∀g∈L.fs,g∉b.2.1->∀f∈b.2.1,g.hi.u<f.lo.u∨f.hi.u<g.lo.u)) (λR ih=>g8 (by left) (br (λx=>?_) λx=>?_)) ?_
  ·have kz:k=0:=cY x
   subst kz
   have μ:=zz _ _ hp
   refine az (aW (by left) μ rfl (by kernel_rfl) (by left) ?_)
   refine iq (fs:=[a.1]) (zz _ _ hi.hP) ε (λf hf=>by rw[aw hf];exact z1 _ _ (U a.1 G)) (List.cons_ne_nil _ _) (λf hf=>by rw[aw hf];exact vQ a.1 G) (hi.hO.fz zz) (Nat.le_of_ble_eq_true rfl) λlo s t b1 b2 b3 W=>?_
   have β:=γ.fz (Fz.new (c:=(true,.tup [.bytes (bv lo),.bytes (bv s)])) W)
   have v1:=β.v
   refine dz (aW (by left) v1 rfl (by kernel_rfl) (ax aT (by left)) (iu (k:=0) (lo:=some lo) (hi:=some s) β hi.vr.sm e3 vQ (λn e=>Option.some.inj e▸b1) (λn e=>Option.some.inj e▸b2) λla lb y1 y2 _ y4 g I=>?_))
   have k2:=ag (c:=(true,.list ((L.fs.filter (cK la lb)).map FM.v))) I (ag (c:=(true,.tup [.bytes (bv lo),.bytes (bv s)])) W k1)
   have i2:=ag (c:=(true,.list ((L.fs.filter (cK la lb)).map FM.v))) I (ag (c:=(true,.tup [.bytes (bv lo),.bytes (bv s)])) W (ab (σ:=upd i r (false,.list [a.1.v])) (a:=h) (c:=(false,.list [.ref r,.ref N]))))
   refine aS (by left) (aS aT (Ap i2 ?_))
   have m2:=((m1.new W (d:=(true,.tup [.bytes (bv lo),.bytes (bv s)]))).new I (d:=(true,.list ((L.fs.filter (cK la lb)).map FM.v)))).mut (d:=(false,.list [.ref g,.ref N])) (.tail _ (.head _))
   have gi:h≠g:=af (ag W ab) I
   have ν:i g=none:=by
    cases z:i g with
    |none=>rfl
    |some d=>
     have:g∉[A,h]:=a7 (λe=>by rw[e,ag W k1]at I;cases I) (dh (Ne.symm gi))
     rw[ag W (m1 g d this z)]at I;cases I
   obtain⟨w1,w2⟩:=b3 a.1 (.head _)
   have wo:=hi.vr.ord L hm a.1 G
   exact ak (bk (ih (g,L.fs.filter (cK la lb),.ref t) _ ⟨m2,aq cn k2,ab,⟨_,hG gi ab⟩,ν,List.filter_sublist,List.ne_nil_of_mem (List.mem_filter.mpr ⟨G,by unfold cK;rw[decide_eq_true (Nat.le_trans y1 (Nat.le_trans w1 wo)),decide_eq_true (Nat.le_trans wo (Nat.le_trans w2 y2))];rfl⟩),λ_=>pW (y4 rfl)⟩))
  ·exact ak (bk (ih (r,[a.1],.undef) _ ⟨m1,k1,ab,⟨_,ε⟩,hr,List.singleton_sublist.mpr G,List.cons_ne_nil _ _,λe=>(x (e▸rfl)).elim⟩))
  rintro⟨b0,ys,v9⟩ O ⟨m2,k2,i2,j2,n2,sub,ne,ζ⟩
  dsimp only at k2 i2 j2 n2 sub ne ζ
  have z2:=m2.fz λx j=>(au j).elim (λe=>e▸⟨_,k0⟩) λj=>aw j▸⟨_,m⟩
  have q:=j.fz.trans z2
  have θ:=q _ _ hp
  have kp:KP O O ⟨A,k,V,op,ord,us,h,b0,N,gp,pl,E,false,ys,[],[]⟩ K D:=CN J m2 hi.hp (Cu J hi.hp n2).1 k2 i2 j2 (λf hf=>z2 _ _ (U f (sub.subset hf))) rfl rfl
  refine dJ (aW (by left) θ rfl (by kernel_rfl) (by left) ?_)
  refine rQ kp (q _ _ hi.hP) (hi.hO.fz q) (hi.v.fz q) hi.vr (q _ _ hi.hop) hi.oo hi.nl e2 (z2 _ _ J.h_E.e) rfl hi.pl hi.po hi.sz ⟨L,e3,sub,ne,ζ⟩ λφ ρ gp' χ zs' π pts' ω kq w1 w2 w3 w4 w5 w6 w7 w8=>?_
  obtain⟨f,j2⟩:=j2
  have pk:=xn (c:=⟨A,k,V,op,ord,us,h,b0,N,gp,pl,E,false,ys,[],[]⟩) J m2 (aK.refl _) hi.hp (j.nn n2) (Cu J hi.hp n2).2 hi.nl hi.v hi.hop kq kp w3 w4 w5 w6 w7 w8
  right
  exact cV zo (q1 _ pts' _ rfl rfl pk w1 w2 e2)
 refine gB L.fs FM.v (λa:FM×AV=>[.ref p,.ref V.adr,.ref K,.int k,.ref A,L.v,on Y,a.1.v,a.2,.undef]) (λ_=>i) (λ_ a=>a.1∈L.fs) (f0,.undef) rfl rfl v4 (bh (hi.vr.sm.len hm) rfl) (λ_ _ _=>⟨_,v4⟩) ξ ?_ λa G=>fin a G
 intro pre f us a R e G ih
 have fm:=aP e
 have h5:=U f fm
 unfold mO at h5
 refine mF (bJ (Df (jp (g8 (by left) (br (λx=>?_) λx=>jp (kL (cG ?_)))))))
 ·refine eF (bG (by left) ?_)
  exact uL (Bp (AJ (fin (f,f.v) fm)))
 ·obtain⟨uo,o1,o2⟩:=id w
  cases Y with
  |none=>exact(x rfl).elim
  |some r=>
   have rk:=hi.po r (List.mem_of_getElem? η)
   refine aW (by left) (by nofun) rfl (by kernel_rfl) (by left) ?_
   refine ff w (vQ f fm).2 rk ?_
   refine iQ (xW (dG (br (λy=>?_) λy=>td ?_)))
   ·refine eF (bG (by left) ?_)
    exact uL (Bp (AJ (fin (f,f.v) fm)))
   ·exact de (ak (cx (ak (aR (ih (a.1,f.v) G)))))
end
section
variable {ext:bj} {σ Z:Hp}
theorem vH{n k:Nat}{p o A:Addr}{V:bo}{op:Op}{L:bM}{lo hi:Option Nat}{U:List (Option Rw)}{Q:PX}(h:Dz σ p o A V op U)(kn:k+1<V.lv.length)(hL:V.lv[k]?=some L)(η:∀n,lo=some n->n<4)(κ:∀n,hi=some n->n<4)(q0:Q .none σ)
  (q1:∀(c:Cm) (pts':List (Option Rw)) (Z:Hp),c.V=V->c.o=op->Bb σ Z c A pts'->pts'.length=V.lv.length->AL pts'->c.k+1<V.lv.length->Q (.ref c.adr) Z):cB ext (n+8) (F.fa 74) [.ref p,.ref V.adr,.ref A,.int k,ov lo,ov hi] σ Q:=by
 have hp:=h.hP
 unfold ye at hp
 have v1:=h.v.v
 have ho:=h.hop
 unfold fu at ho
 have χ:=h.oo.f21
 have ν:=h.oo.f20
 have hm:=List.mem_of_getElem? hL
 have vQ:=h.vr.ok L hm
 refine aB (l:=[.ref p,.ref V.adr,.ref A,.int k,ov lo,ov hi,.undef,.undef,.undef,.undef]) My rfl rfl ?_;show Go _ Ju _ _ _;delta Ju
 refine gG (by left) (kx (fZ (Int.natCast_nonneg _)) (by rw[h.nl];exact Int.not_le.mpr (Int.lt_sub_right_of_add_lt (dF kn)))) ?_
 have β:∀l D i,get l i=ov lo->Pe l D (.v i) (ov lo):=λl D i g=>bp (fp g xK)
 have γ:∀l D i,get l i=ov hi->Pe l D (.v i) (ov hi):=λl D i g=>bp (fp g xK)
 refine az (aW (by left) v1 rfl (by kernel_rfl) (ax (by left) (ax (β _ _ 4 rfl) (ax (γ _ _ 5 rfl) aQ))) (iu h.v h.vr.sm hL vQ η κ λr s _ _ _ cl g hg=>?_))
 have l6:(L.fs.filter (cK r s)).length<=60:=Nat.le_trans (List.length_filter_le _ _) (h.vr.sm.len hm)
 have lg:=aO (g:=FM.v) (bh l6 rfl)
 have t:=aK.new (c:=(true,.list ((L.fs.filter (cK r s)).map FM.v))) hg
 refine d6 (by left) (λ_=>?_) λx=>?_
 ·right;exact cV (jU hg) q0
 have G:L.fs.filter (cK r s)≠[]:=λe=>x (by rw[e];rfl)
 refine ak (cx ?_)
 refine bC (λb:Addr×List FM×AV×AV=>[.ref p,.ref V.adr,.ref A,.int k,ov lo,ov hi,.ref b.1,b.2.2.1,b.2.2.2,.undef]) (λb D=>aK σ D/\(∃f,D b.1=some (f,.list (b.2.1.map FM.v)))/\σ b.1=none/\b.2.1.Sublist L.fs/\b.2.1≠[]/\(k=0->∀g∈L.fs,g∉b.2.1->∀f∈b.2.1,g.hi.u<f.lo.u∨f.hi.u<g.lo.u)) (λR ih=>g8 (by left) (br (λx=>?_) λx=>?_)) ?_
 ·have kz:k≠0:=λe=>by rw[e]at x;exact absurd x (by decide)
  right
  have O:=t _ _ hp
  have ho1:=t _ _ ho
  have θ:=(h.v.up t).fs L hm
  refine lU (λa:Nat×Int=>[.ref p,.ref V.adr,.ref A,.int k,ov lo,ov hi,.ref g,.int a.2,.int a.1,.undef]) (λ_=>upd σ g (true,.list ((L.fs.filter (cK r s)).map FM.v))) (λa=>a.1<=(L.fs.filter (cK r s)).length/\(a.1=0->a.2=0)) (λa=>(L.fs.filter (cK r s)).length-a.1) (0,0) rfl rfl ⟨Nat.zero_le _,λ_=>rfl⟩ ?_
  rintro a R' ⟨p1,p2⟩ ζ
  have g6:upd σ g (true,.list ((L.fs.filter (cK r s)).map FM.v)) g=_:=ab
  refine g8 (by left) ⟨λy=>?_,λy=>?_⟩
  ·obtain⟨y1,y2⟩:=(Bool.and_eq_true _ _).mp y
   have y1:=of_decide_eq_true y1
   rw[List.length_map]at y1
   obtain⟨f,N⟩:∃f,(L.fs.filter (cK r s))[a.1]?=some f:=⟨_,List.getElem?_eq_getElem (cq y1)⟩
   have e3:=bS (g:=FM.v) N
   have h5:=θ f (fN (List.mem_of_getElem? N)).1
   unfold mO at h5
   have lt:=(be N).1
   right
   exact aR (ζ (a.1+1,a.2+f.size) ⟨lt,λe=>(Nat.succ_ne_zero _ e).elim⟩ (by show _-(a.1+1)<_-a.1;exact n2 [_,_,_,_] J2 zr zG rfl (Nat.sub_add_cancel (n:=(List.filter (cK r s) L.fs).length) (m:=a.fst+1) (n1 [_,_] (.le (.a (.v 0) (.n 1)) (.v 1)) (.le (.a (.v 0) (.n 1)) (.v 1)) rfl lt)) (sb ((List.filter (cK r s) L.fs).length) (a.fst))))
  ·have a0:a.1≠0:=λe=>by
    have e2:=p2 e
    rw[e,e2,decide_eq_true h.oo.mfs.1,Bool.and_true]at y
    have:=of_decide_eq_false y
    rw[List.length_map]at this
    exact G (List.length_eq_zero_iff.mp (by exact Pq this))
   refine az (yI (aS (by left) (aS (by left) (yz g6 ⟨lg,Int.natCast_nonneg _,by exact Int.le_trans (bF (Nat.le_trans p1 l6)) (by decide)⟩ λc hc=>?_))))
   rw[Int.toNat_natCast,←List.map_take]
   refine ak (bk (ih (c,(L.fs.filter (cK r s)).take a.1,.int a.2,.int a.1) _ ⟨t.trans (aK.new hc),⟨_,ab⟩,t.nn hc,(List.take_sublist _ _).trans List.filter_sublist,λe=>?_,λe=>(kz e).elim⟩))
   rcases List.take_eq_nil_iff.mp e with e|e
   ·exact a0 e
   ·exact G e
 ·exact ak (bk (ih (g,L.fs.filter (cK r s),.undef,.undef) _ ⟨t,⟨_,ab⟩,hg,List.filter_sublist,G,λe=>pW (cl e)⟩))
 rintro⟨J,ys,v7,v8⟩ ξ ⟨q,⟨fb,jb⟩,nb,sub,ne,W⟩
 dsimp only at jb nb sub ne W
 have hp0:=q _ _ hp
 refine az (fV (by left) rfl λz δ=>qA (k:=k) (V:=V) (o:=op) δ (q _ _ h.hop) h.oo λord us j i0 i1 gp pl E Y B=>wv ?_)
 have k0:=B.h_c
 have w:=B.h_inp
 have cn:z≠j:=λe=>by rw[e]at k0;rw[k0]at w;cases w
 have ε:=B.fl.ex _ _ jb
 have fr:=B.fl.fr
 have I:∀y∈[pl,E.alA,E.dlA,E.cp,gp,j,i1,i0,z],y≠J:=λy hy e=>by have:=fr y hy;rw[e,jb]at this;cases this
 have pb:J≠A:=λe=>by have:=h.hp;rw[←e,nb]at this;cases this
 have ni:J∉[z,j,A,E.cp]:=a7 (Ne.symm (I z Cr)) (a7 (Ne.symm (I j Do)) (a7 pb (dh (Ne.symm (I E.cp Dr)))))
 refine ja (by left) (by left) k0 (by kernel_rfl) rfl ?_
 refine dz (aS (by left) (aS (by left) (aS aT (Ap (hG cn w) ?_))))
 have m1:Mo [z,j] Y _:=((Mo.refl [z,j] Y).mut (.head _) (d:=(false,.inst 18 (gE 56 (.bool true) [(49,.int k),(50,.ref V.adr),(51,.ref op.adr),(44,.ref ord),(52,.ref us),(53,.ref j),(54,.ref gp),(55,.ref E.adr),(56,.bool false),(57,.int 0),(58,.int 0),(59,.bool false),(60,.ref pl)])))).mut (.tail _ (.head _)) (d:=(false,.list [.ref J,.ref i1]))
 have z1:=m1.fz λx t=>(au t).elim (λe=>e▸⟨_,k0⟩) λt=>aw t▸⟨_,w⟩
 have x1:=q.trans B.fl.ex
 have K:=x1.fz.trans z1
 have O:=K _ _ hp
 have kp:KP _ _ ⟨z,k,V,op,ord,us,j,J,i1,gp,pl,E,true,ys,[],[]⟩ A U:=CN B m1 (q _ _ h.hp) ni (aq cn ab) ab ⟨fb,aq (Ne.symm (I j Do)) (aq (Ne.symm (I z Cr)) ε)⟩ (λf N=>K _ _ (h.v.fs L hm f (sub.subset N))) rfl rfl
 refine dJ (aW (by left) O rfl (by kernel_rfl) (by left) ?_)
 refine rQ kp (K _ _ h.hP) (h.hO.fz K) (h.v.fz K) h.vr (K _ _ h.hop) h.oo h.nl kn (z1 _ _ B.h_E.e) rfl h.pl h.po h.sz ⟨L,hL,sub,ne,W⟩ λρ π gp' φ ψ μ pts' ω kq w1 w2 w3 w4 w5 w6 w7 w8=>?_
 have pk:=xn (c:=⟨z,k,V,op,ord,us,j,J,i1,gp,pl,E,true,ys,[],[]⟩) B m1 q h.hp nb (λy hy=>I y (HQ hy)) h.nl (h.v.up q) (q _ _ h.hop) kq kp w3 w4 w5 w6 w7 w8
 right
 exact cV zo (q1 _ pts' _ rfl rfl pk w1 w2 kn)
end
section
variable {ext:bj} {σ τ:Hp}
theorem pR{n i:Nat}{a:Addr}{fz:Bool}{ns:List Int}{Q:PX}(h:σ a=some (fz,.list (ns.map .int)))(d:0<ns.length)(c:ns.length<=9000)(q:∀x:Int,Q (.int x) σ):cB ext (n+1) (F.fa 76) [.ref a,.int i] σ Q:=by
 have ln:=aO (g:=AV.int) c
 have b:0<(((ns.map AV.int).length:Nat):Int):=by rw[List.length_map];exact bF d
 have f:0<(((ns.map AV.int).length:Nat):Int)/\(((ns.map AV.int).length:Nat):Int)<2 ^ 30:=⟨b,by rw[List.length_map];exact N7 c⟩
 obtain⟨j,e,k⟩:∃j:Nat,(i:Int)%(((ns.map AV.int).length:Nat):Int)=j/\j<ns.length:=by
  refine⟨i%ns.length,by rw[List.length_map];rfl,Nat.mod_lt _ d⟩
 have m:=bS (g:=AV.int) (List.getElem?_eq_getElem k)
 refine aB (l:=[.ref a,.int i]) No rfl rfl ?_;show Go _ JE _ _ _;delta JE
 exact fK (cJ (kF (by left) (aU (cH (by left) (by left) b) (congrArg AV.int e)) h ln m) (ft aT (dX (by left) (by left) f) (by decide)) rfl) (ay (q _))
theorem jB{n u:Nat}{Q:PX}(a:u<4)(q:Q (.bytes (bv u)) σ):cB ext (n+1) (F.fa 77) [.int u] σ Q:=by
 refine aB (l:=[.int u]) MC rfl rfl ?_;show Go _ IM _ _ _;delta IM
 refine e7 (qE (a8 (by left) rfl λr b=>aS (by left) ?_))
 have:([.bytes [],.bytes [97],.bytes [97,0],.bytes [98]]:List AV)[u]?=some (.bytes (bv u)):=by
  have:u=0∨u=1∨u=2∨u=3:=u4 a
  rcases this with rfl|rfl|rfl|rfl<;>rfl
 exact xI ab (Nat.le_of_ble_eq_true rfl) this (pO b q)
def E4(σ:Hp)(r:Rw):Prop:=σ r.adr=some (true,.tup [.int r.u,.int (-(r.s:Int)),.int r.k])
theorem Dj:∀k:Nat,k<2->∀s:Nat,s<10->EN [.int k,.int (0- -(s:Int)),.int 0,.int 0,.int 0,.int 0,.int 0,.int 0]=some [UInt8.ofNat k,UInt8.ofNat s,0,0,0,0,0,0]:=by decide+kernel
theorem lH{n:Nat}{r:Rw}{Q:PX}(c:E4 σ r)(ok:r.ok)(q:Q (.bytes r.b) σ):cB ext (n+2) (F.fa 78) [.ref r.adr] σ Q:=by
 unfold E4 at c
 refine aB (l:=[.ref r.adr]) NG rfl rfl ?_;show Go _ Kb _ _ _;delta Kb
 refine e7 (dg (aV (by left) (jB ok.u (mG (aj (a8 (by left) rfl λt a=>aD (lu ab (Nat.le_of_ble_eq_true rfl) (Dj r.k ok.k r.s ok.s) (sS ⟨nB,Nat.le_of_ble_eq_true rfl⟩ ?_))))))))
 exact pO a q
end
section
variable {ext:bj} {σ Z:Hp}
structure fc where
 adr:Addr
 num:Nat
 seq:Nat
noncomputable abbrev fc.v(m:fc):AV:=.ref m.adr
def ot(σ:Hp)(m:fc):Prop:=σ m.adr=some (false,.inst 7 [(2,.int m.num),(3,.int m.seq),(4,.bool true)])
theorem vw{n:Nat}{a:Addr}{x y:Int}{Q:PX}(h:Q .none (upd σ a (false,.inst 7 [(2,.int x),(3,.int y),(4,.bool true)]))):cB ext (n+1) (F.fa 1) [.ref a,.int x,.int y] (upd σ a (false,.inst 7 [])) Q:=by
 refine aB (l:=[.ref a,.int x,.int y]) Ru rfl rfl ?_;show Go _ b1 _ _ _;delta b1
 right
 exact fX (Wk.refl _) h
theorem wg{n:Nat}{a:Addr}{Q:PX}(i:σ a=none)(h:∀l,σ l=none->a≠l->Q .none (upd (upd σ l (false,.list [])) a (false,.inst 8 [(5,.ref l),(6,.int 0)]))):cB ext (n+1) (F.fa 2) [.ref a] (upd σ a (false,.inst 8 [])) Q:=by
 refine aB (l:=[.ref a]) Rf rfl rfl ?_;show Go _ b2 _ _ _;delta b2
 right
 intro l d
 have n1:a≠l:=af ab d
 have n2:σ l=none:=by rw[ac (Ne.symm n1)]at d;exact d
 right
 refine fX (λb c e=>?_) (h l n2 n1)
 by_cases f:b=a
 ·subst f;rw[ab]at e ⊢;cases e;exact⟨_,rfl,rfl,id⟩
 ·rw[ac f]at e ⊢
  by_cases g:b=l
  ·subst g;rw[ab]at e ⊢;cases e;exact⟨_,rfl,rfl,id⟩
  ·rw[ac g]at e ⊢;rw[ac f];exact⟨c,e,rfl,id⟩
structure om(σ:Hp)(ml la:Addr)(made:Nat)(ms:List fc):Prop where
 m:σ ml=some (false,.inst 8 [(5,.ref la),(6,.int made)])
 l:σ la=some (false,.list (ms.map fc.v))
 k:∀m∈ms,ot σ m
structure mj(made:Nat)(ms:List fc):Prop where
 n:(ms.map fc.num).Pairwise (·<·)
 b:∀m∈ms,m.num<=made
 s:(ms.map fc.seq).Pairwise (·<=·)
 a:(ms.map fc.adr).Nodup
 l:ms.length<=100
theorem zj{n made:Nat}{ml b:Addr}{a:fc}{ms:List fc}{Q:PX}(h:om σ ml b made (a::ms))(ok:mj made (a::ms))(q:Q (.int a.seq) σ):cB ext (n+1) (F.fa 9) [.ref ml] σ Q:=by
 have i:=h.m
 have d:=h.l
 have e:=h.k a (.head _)
 unfold ot at e
 have c:=aO (g:=fc.v) (bh ok.l rfl)
 have f:oB ((a::ms).map fc.v) 0=some a.v:=rfl
 refine aB (l:=[.ref ml]) Rz rfl rfl ?_;show Go _ b9 _ _ _;delta b9
 refine gG (xG (xp (by left) d c)) rfl ?_
 right
 exact ay q
theorem Be{l:aG}{e:X}{r:Addr}{fz:Bool}{xs:List AV}{v:AV}(h:Pe l σ e (.ref r))(g:σ r=some (fz,.list xs))(n:xs.length<=9000)(w:xs.getLast?=some v):Pe l σ (.sub e (.k (.int (-1)))) v:=⟨λ_ _ k=>qE (h.run _ _ (iQ (Mi g n w k)))⟩
theorem DS{n made:Nat}{ml i:Addr}{ms:List fc}{s:Nat}{Q:PX}(h:om σ ml i made ms)(ok:mj made ms)(hs:∀m∈ms,m.seq<=s)(ne:ml≠i)
  (q:∀(r:Addr) (Z:Hp),σ r=none->Mo [ml,i] σ Z->om Z ml i (made+1) (ms++[⟨r,made+1,s⟩])->Q (.ref r) Z):cB ext (n+2) (F.fa 4) [.ref ml,.int s] σ Q:=by
 have z:=h.m
 have j:=h.l
 have o:=aO (g:=fc.v) (bh ok.l rfl)
 have B:∀m∈ms,m.adr≠ml/\m.adr≠i:=λm d=>by
  have e:=h.k m d
  unfold ot at e
  exact⟨(λx=>by rw[x,z]at e;cases e),(λx=>by rw[x,j]at e;cases e)⟩
 refine aB (l:=[.ref ml,.int s,.undef]) QY rfl rfl ?_;show Go _ b4 _ _ _;delta b4
 have cond:Pc [.ref ml,.int s,.undef] σ (.and (.cons (.t (.at (.v 0) 5)) (.cons (.t (.cmp .gt (.at (.sub (.at (.v 0) 5) (.k (.int (-1)))) 3) (.v 1))) .nil))) false:=by
  cases e:ms.getLast? with
  |none=>
   have e:=List.getLast?_eq_none_iff.mp e
   subst e
   exact hZ (xp (by left) j o)
  |some m=>
   have d:=List.mem_of_getLast? e
   have p:=h.k m d
   unfold ot at p
   have A:(ms.map fc.v).getLast?=some m.v:=by rw[List.getLast?_map,e];rfl
   have ne:(!(ms.map fc.v).isEmpty)=true:=by cases ms with|nil=>cases d|cons a b=>rfl
   have t1:Pc [.ref ml,.int s,.undef] σ (.t (.at (.v 0) 5)) true:=by have:=xp (l:=[.ref ml,.int s,.undef]) (e:=.at (.v 0) 5) (by left) j o;rw[ne]at this;exact this
   have t2:Pe [.ref ml,.int s,.undef] σ (.cmp .gt (.at (.sub (.at (.v 0) 5) (.k (.int (-1)))) 3) (.v 1)) (.bool (decide ((s:Int)<m.seq))):=zF (uM (Be (by left) j o A) p (by kernel_rfl) rfl) (by left) rfl
   rw[decide_eq_false (fZ (bF (hs m d)))]at t2
   exact iA t1 (jo (bR t2))
 refine gG cond rfl ?_
 right
 intro r f
 refine vw (wv ?_)
 have u:ml≠r:=af ab f
 have E:i≠r:=af (hG ne j) f
 have y:σ r=none:=by rw[ac (Ne.symm u)]at f;exact f
 have G:=ag (c:=(false,.inst 7 [(2,.int ((made:Int)+1)),(3,.int s),(4,.bool true)])) f (hG (c:=(false,.inst 8 (gE 6 (.int ((made:Int)+1)) [(5,.ref i),(6,.int made)]))) ne j)
 right
 refine cV (Wk.refl _) (q r _ y ((((Mo.refl _ _).mut (.head _)).new f).mut (.tail _ (.head _))) ⟨?_,?_,λm d=>?_⟩)
 ·rw[ac ne,ac u];exact ab
 ·rw[List.map_append];exact ab
 ·rcases aE d with d|d
  ·obtain⟨w,D⟩:=B m d
   have e:=h.k m d
   unfold ot at e ⊢
   rw[ac D,ac (af (aq w e) f),ac w];exact e
  ·rw[aw d]
   unfold ot
   rw[ac (Ne.symm E)];exact ab
end
section
variable {ext:bj} {σ Z:Hp}
theorem zW{made:Nat}{ms:List fc}(ok:mj made ms){i j:Nat}{a b:fc}(h:i<j)(hi:ms[i]?=some a)(e:ms[j]?=some b):a.num<b.num:=by
 have:=ok.n
 rw[List.pairwise_map]at this
 obtain⟨c,rfl⟩:=be hi
 obtain⟨d,rfl⟩:=be e
 exact List.pairwise_iff_getElem.mp this i j c d h
theorem vZ{n made i:Nat}{ml A:Addr}{ms:List fc}{m:fc}{Q:PX}(h:om σ ml A made ms)(ok:mj made ms)(hi:ms[i]?=some m)(q:Q (.int i) σ):cB ext (n+1) (F.fa 5) [.ref ml,.ref m.adr] σ Q:=by
 have D:=h.m
 have E:=h.l
 have B:=aO (g:=fc.v) (bh ok.l rfl)
 have w:=h.k m (List.mem_of_getElem? hi)
 unfold ot at w
 have il:=(be hi).1
 refine aB (l:=[.ref ml,.ref m.adr,.undef,.undef,.undef,.undef]) Q9 rfl rfl ?_;show Go _ b5 _ _ _;delta b5
 right
 refine lU (λa:Nat×Nat×AV=>[.ref ml,.ref m.adr,.int a.1,.int a.2.1,a.2.2,.undef]) (λ_=>σ) (λa=>a.1<=i/\i<=a.2.1/\a.2.1<=ms.length) (λa=>a.2.1-a.1) (0,ms.length,.undef) (by rw[List.length_map];rfl) rfl ⟨Nat.zero_le _,Nat.le_of_lt il,Nat.le_refl _⟩ ?_
 rintro⟨lo,b,G⟩ R ⟨g1,g2,g3⟩ t
 dsimp only at g1 g2 g3
 refine g8 (by left) (br (λx=>?_) λx=>?_)
 ·have o:lo<b:=cq x
  refine bG (aU (by left) (show AV.int (((lo:Int)+b)/2)=AV.int ((lo+b)/2:Nat)from congrArg AV.int (by exact rfl))) ?_
  have j:(lo+b)/2<b:=by exact m2 [_,_,_] J2 1 1 1 E8 LT rfl o (Nat.mul_div_le (lo+b) 2)
  have r:lo<=(lo+b)/2:=by exact m2 [_,_,_] J0 1 1 1 Fe K6 rfl o (Nat.lt_mul_div_succ (lo+b) (show 0<2 by decide))
  generalize (lo+b)/2=d at j r
  obtain⟨f,s⟩:∃f,ms[d]?=some f:=⟨_,List.getElem?_eq_getElem (Nat.lt_of_lt_of_le j g3)⟩
  have y:=bS (g:=fc.v) s
  have u:=h.k f (List.mem_of_getElem? s)
  unfold ot at u
  refine d6 (by left) (λc=>?_) λc=>?_
  ·have c:=cq c
   have:d<i:=Nat.lt_of_not_le λz=>by
    rcases Nat.lt_or_eq_of_le z with z|z
    ·exact absurd (zW ok z hi s) (iG (Nat.le_of_lt c))
    ·subst z;rw[hi]at s;cases s;exact Nat.lt_irrefl _ c
   right
   exact aR (t (d+1,b,.int d) ⟨this,g2,g3⟩ (Nat.sub_lt_sub_left o (Nat.lt_succ_of_le r)))
  ·have:i<=d:=Nat.le_of_not_lt λz=>c (dF (zW ok z s hi))
   right
   exact aR (t (lo,d,.int d) ⟨g1,this,Nat.le_trans (Nat.le_of_lt j) g3⟩ (Nat.sub_lt_sub_right r j))
 ·have e:lo=i:=Nat.le_antisymm g1 (Nat.le_trans g2 (Int.ofNat_le.mp (Int.not_lt.mp x)))
  subst e
  have y:=bS (g:=fc.v) hi
  refine gG (by left) (by rw[List.length_map,decide_eq_false (λz=>Nat.ne_of_lt il (cY z))];rfl) ?_
  right
  refine gG (by left) (kx (p:=(m.num:Int)≠m.num) (q:=(m.seq:Int)≠m.seq) (λz=>z rfl) (λz=>z rfl)) ?_
  right
  exact ay q
theorem fU{B C:Type}{f:B->C}:∀{l:List B} {i:Nat},(l.eraseIdx i).map f=(l.map f).eraseIdx i
 |[],_=>rfl
 |_::_,0=>rfl
 |a::l,i+1=>congrArg (f a::·) (fU (l:=l) (i:=i))
theorem vV{B:Type}{l:List B}{i:Nat}{x:B}(h:x∈l.eraseIdx i):∃j,j≠i/\l[j]?=some x:=by
 obtain⟨j,b⟩:=List.getElem?_of_mem h
 rw[List.getElem?_eraseIdx]at b
 by_cases e:j<i
 ·rw[if_pos e]at b;exact⟨j,Nat.ne_of_lt e,b⟩
 ·rw[if_neg e]at b;exact⟨j+1,by exact Nat.ne_of_gt (n1 [_,_] (.le (.a (.v 0) (.n 1)) (.a (.v 1) (.n 1))) J0 rfl (nl e)),b⟩
theorem BS{n made i:Nat}{ml b:Addr}{ms:List fc}{m:fc}{Q:PX}(h:om σ ml b made ms)(ok:mj made ms)(hi:ms[i]?=some m)(ne:ml≠b)
  (q:∀Z,Mo [b,m.adr] σ Z->om Z ml b made (ms.eraseIdx i)->Q .none Z):cB ext (n+2) (F.fa 7) [.ref ml,.ref m.adr] σ Q:=by
 have o:=h.m
 have d:=h.l
 have r:=aO (g:=fc.v) (bh ok.l rfl)
 have c:=h.k m (List.mem_of_getElem? hi)
 unfold ot at c
 have il:=(be hi).1
 have y:=bS (g:=fc.v) hi
 have n1:ml≠m.adr:=λe=>by rw[e,c]at o;cases o
 have n2:b≠m.adr:=λe=>by rw[e,c]at d;cases d
 refine aB (l:=[.ref ml,.ref m.adr,.undef]) QS rfl rfl ?_;show Go _ b7 _ _ _;delta b7
 refine az (aW (by left) (by nofun) rfl (by kernel_rfl) (by left) (vZ h ok hi ?_))
 refine rY (by left) qS ?_
 refine ja (by left) (by left) c (by kernel_rfl) rfl ?_
 right
 refine Mx (aq n2 d) r (by rw[List.length_map];exact il) ?_
 right
 refine fX (Wk.refl _) (q _ (((Mo.refl _ _).mut (.tail _ (.head _))).mut (.head _)) ⟨?_,?_,λx s=>?_⟩)
 ·rw[ac ne,ac n1];exact o
 ·rw[fU];exact ab
 ·obtain⟨j,u,p⟩:=vV s
  have f:=h.k x (List.mem_of_getElem? p)
  unfold ot at f ⊢
  have w:x.adr≠m.adr:=gU ok.a (by rw[List.getElem?_map,hi];rfl) (by rw[List.getElem?_map,p];rfl) u
  have t:x.adr≠b:=λe=>by rw[e,d]at f;cases f
  rw[ac t,ac w];exact f
end
section
variable {ext:bj} {σ Z:Hp}
noncomputable def pX(h:Addr):List (Nat×AV):=[(8,.int 1),(9,.int 32768),(10,.bool true),(11,.bool true),(12,.bool false),(13,.int 4194304),(14,.int 12),(15,.ref h),(16,.int 4096),(17,.int 16),(18,.int 10),(19,.int 11),(20,.int 2097152),(21,.int 7),(22,.int 4),(23,.int 12),(24,.int 10485760),(25,.int 10),(26,.int 2),(27,.int 10),(28,.int 25)]
noncomputable def EO(h:Addr):List (Nat×AV):=[(8,.int 2),(9,.int 32),(10,.bool true),(11,.bool true),(12,.bool false),(13,.int 96),(14,.int 4),(15,.ref h),(16,.int 48),(17,.int 2),(18,.int 4),(19,.int 5),(20,.int 128),(21,.int 4),(22,.int 2),(23,.int 4),(24,.int 256),(25,.int 2),(26,.int 2),(27,.int 10),(28,.int 25)]
theorem uE{n:Nat}{a:Addr}{Q:PX}(d:σ a=none)(q:∀(h:Addr) (Z:Hp),aK σ Z->Z a=some (false,.inst 12 (pX h))->∃b,Wk b Z/\Q .none b):cB ext (n+1) (F.fa 32) [.ref a] (upd σ a (false,.inst 12 [])) Q:=by
 refine aB (l:=[.ref a]) ME rfl rfl ?_;show Go _ It _ _ _;delta It
 right
 intro h c
 have n1:a≠h:=af ab c
 have n2:σ h=none:=by rw[ac (Ne.symm n1)]at c;exact c
 right
 obtain⟨b,w,e⟩:=q h _ (((aK.new d).upd n2).upd d) ab
 exact fX w e
theorem BW{n:Nat}{a h:Addr}{Q:PX}(b:σ a=some (false,.inst 12 (pX h)))(q:Q (.ref a) (upd σ a (true,.inst 12 (EO h)))):cB ext (n+1) (F.fa 34) [.ref a] σ Q:=by
 unfold pX at b
 refine aB (l:=[.ref a]) Nz rfl rfl ?_;show Go _ KT _ _ _;delta KT
 right
 exact cV pa q
end
section
variable {ext:bj} {σ Z:Hp}
noncomputable abbrev cU(r:Rw):AV:=.ref r.adr
def gb(σ:Hp)(rs:List Rw):Prop:=∀r∈rs,E4 σ r
theorem gb.fz{rs:List Rw}(h:gb σ rs)(k:Fz σ Z):gb Z rs:=λr a=>k _ _ (h r a)
theorem C3{S:List Addr}{a x:Addr}(h:a∉S)(b:x∈S):a≠x:=λe=>h (e▸b)
theorem D8{cal:bj}{b:SS}{l:aG}{Q:Fl->aG->Hp->Prop}(P:Hp->Prop)(p:P σ)(h:∀a,P a->Go cal b l a Q):Go cal b l σ Q:=h σ p
theorem i8{a:Addr}{o:AO}(h:Mo [a] σ Z)(e:σ a=some (false,o)):Fz σ Z:=h.fz λx b=>by rw[aw b];exact⟨_,e⟩
theorem ym{cal:bj}{c:SS}{l:aG}{Q:Fl->aG->Hp->Prop}{o:X}{es:XS}{r:Addr}{xs vs:List AV}(d:Pe l σ o (.ref r))(hs:Ps l σ es vs)(g:σ r=some (false,.list xs))(n:xs.length<=9000)(m:Nat.ble vs.length 9000=true)
  (k:∀t b,σ t=none->Mo [r] σ b->Fz σ b->b t=some (true,.tup vs)->b r=some (false,.list (xs++[.ref t]))->Go cal c l b Q):Go cal (.cons (.ex (.bm .append o (.cons (.tup es) .nil))) c) l σ Q:=
 dJ (iI (d.run _ _ (iW g rfl (aj (fv hs m λt a=>aD (dO (ag a g) n (k t _ a (((Mo.refl _ _).new a).mut (.head _)) ((Fz.new a).trans (Fz.mut (ag a g))) (cP (ag a g) ab) ab)))))))
noncomputable def Ed.more(E:Ed)(p:Addr)(k:Nat)(f:FM):Ed:={E with al:=E.al++[(p,k,f)]}
theorem jM.put{E:Ed}{p:Addr}{k:Nat}{f:FM}(h:jM σ E)(m:Fz σ Z)(hd:Z E.dlA=some (false,.list (E.dl.map λp=>rf p.1)))(c:∃xs,Z E.cp=some (false,.list xs))(b:Z E.alA=some (false,.list ((E.al.map λp=>rf p.1)++[.ref p])))
  (g:Z p=some (true,.tup [.int k,f.v])) (d:mO Z f):jM Z (E.more p k f):=
 ⟨m _ _ h.e,hd,by show _=some (false,AO.list ((E.al++[(p,k,f)]).map _));rw[List.map_append];exact b,c,λq a=>m _ _ (h.dt q a),λq a=>by
  rcases aE a with a|a
  ·exact⟨m _ _ (h.at' q a).1,m _ _ (h.at' q a).2⟩
  ·rw[aw a];exact⟨g,d⟩⟩
theorem yv{n k:Nat}{b j:Addr}{fz:Bool}{rs:List Rw}{lo hi:Rw}{ts:List AV}{E:Ed}{unit:Int}{Q:PX}(A:σ b=some (fz,.list (rs.map cU)))(hR:gb σ rs)(ok:∀r∈rs,r.ok)(v:rs[0]?=some lo)(y:rs[rs.length-1]?=some hi)(len:rs.length<=9000)
  (N:σ j=some (false,.list ts)) (tl:ts.length<=9000) (i:jM σ E) (al:E.al.length<=9000) (n1:j∉[b,E.alA,E.dlA,E.cp]) (n2:b∉[E.alA,E.dlA,E.cp]) (n3:E.alA∉[E.dlA,E.cp])
  (h:∀(p a:Addr) (Z:Hp),jM Z (E.more p k ⟨a,ts.length,rs.length*unit,lo,hi,rs⟩)->Z j=some (false,.list (ts++[.ref b]))->Z b=some (true,.list (rs.map cU))->Mo [j,E.alA,b] σ Z->Q .none Z):
  cB ext (n+3) (F.fa 80) [.int k,.ref b,.ref j,.ref E.adr,.int unit] σ Q:=by
 have V:oB (rs.map cU) 0=some (cU lo):=bS v
 have K:=bS (g:=cU) y
 have I:=aO (g:=cU) len
 have D:=List.mem_of_getElem? v
 have m1:=List.mem_of_getElem? y
 have O:AV.int ((rs.map cU).length:Nat)=AV.int (rs.length:Nat):=by rw[List.length_map]
 have s:0<rs.length:=(be v).1
 have U:=i.e
 have R:=aO (g:=λp:Addr×Nat×FM=>rf p.1) al
 refine aB (l:=[.int k,.ref b,.ref j,.ref E.adr,.int unit,.undef,.undef]) LB rfl rfl ?_;show Go _ I1 _ _ _;delta I1
 right
 refine lH (hR lo D) (ok lo D) ?_
 refine az (aV (ax (kF (by left) (aU (by left) (congrArg AV.int (show(((rs.map cU).length:Nat):Int)-1=((rs.length-1:Nat):Int)by rw[List.length_map];exact(Int.ofNat_sub s).symm))) A I K) aQ) (lH (hR hi m1) (ok hi m1) ?_))
 refine dJ (iI (aS (by left) (iW i.a rfl (aj (oD (aj (aS (by left) (aj ?_))))))))
 refine fV (ax (by left) (ax (ft (aU (by left) O) (by left) ⟨by exact Int.NonNeg.mk (rs.length+Nat.succ 4611686018427387902),by exact PF len⟩) (ax (by left) (ax (by left) aQ)))) rfl λa u=>AB (wv (aD (o6 rfl λp t=>aD (dO (ag t (ag u i.a)) R ?_))))
 refine D8 (λq=>Mo [E.alA] σ q/\mO q ⟨a,ts.length,rs.length*unit,lo,hi,rs⟩/\q p=some (true,.tup [.int k,.ref a])/\q E.alA=some (false,.list ((E.al.map λp=>rf p.1)++[.ref p])))
  ⟨(((Mo.refl _ _).new u).new t).mut (.head _),?_,?_,ab⟩ λq ⟨m,f,g,w⟩=>?_
 ·exact cP (ag t (ag u i.a)) (ag t ab)
 ·exact cP (ag t (ag u i.a)) ab
 ·have z:=i8 m i.a
  have t1:=m j _ (dh (C3 n1 (.tail _ (.head _)))) N
  have t2:=m b _ (dh (C3 n2 (.head _))) A
  have B:b≠j:=λe=>n1 (e▸.head _)
  refine u7 (by left) (by left) t1 tl (ak (fX (pH (aq B t2)) ?_))
  have z2:Fz q (upd (upd q j (false,.list (ts++[.ref b]))) b (true,.list (rs.map cU))):=λx o e=>by
   by_cases G:x=b
   ·subst G;rw[t2]at e;cases e;exact ab
   ·exact aq G (cP t1 e)
  refine h p a _ (i.put (z.trans z2) ?_ ?_ ?_ (z2 _ _ g) (z2 _ _ f)) (aq (Ne.symm B) ab) ab ?_
  ·exact aq (λe=>n2 (e▸.tail _ (.head _))) (aq (λe=>n1 (e▸.tail _ (.tail _ (.head _)))) (m _ _ (dh λe=>n3 (e▸.head _)) i.d))
  ·exact⟨_,aq (λe=>n2 (e▸.tail _ (.tail _ (.head _)))) (aq (λe=>n1 (e▸.tail _ (.tail _ (.tail _ (.head _))))) (m _ _ (dh λe=>n3 (e▸.tail _ (.head _))) i.c.choose_spec))⟩
  ·exact aq (λe=>n2 (e▸.head _)) (aq (λe=>n1 (e▸.tail _ (.head _))) w)
  ·exact((m.sub λx J=>by rw[aw J];exact .tail _ (.head _)).mut (.head _)).mut (.tail _ (.tail _ (.head _)))
end
section
variable {ext:bj} {σ J:Hp}
theorem Mo.step{S f:List Addr}{c:Hp}(h:Mo S σ J)(k:Mo f J c)(n:∀x∈f,x∈S∨σ x=none):Mo S σ c:=λa d b e=>k a d (λg=>(n a g).elim b λz=>by rw[z]at e;cases e) (h a d b e)
theorem Mo.nn{S:List Addr}{x:Addr}(h:Mo S σ J)(e:J x=none)(n:x∉S):σ x=none:=by
 cases g:σ x with
 |none=>rfl
 |some c=>rw[h x c n g]at e;cases e
def kU(σ:Hp)(ts:List AV)(f:FM):Prop:=∃a,ts[f.num]?=some (.ref a)/\σ a=some (true,.list (f.rows.map cU))/\gb σ f.rows
theorem kU.fz{ts:List AV}{f:FM}(h:kU σ ts f)(k:Fz σ J):kU J ts f:=h.imp λ_ h=>⟨h.1,k _ _ h.2.1,h.2.2.fz k⟩
theorem kU.app{ts:List AV}{f:FM}{v:AV}(h:kU σ ts f):kU σ (ts++[v]) f:=h.imp λ_ h=>⟨by rw[List.getElem?_append_left (be h.1).1];exact h.1,h.2⟩
def nV(a b:Rw):Prop:=a.u<b.u∨(a.u=b.u/\b.s<a.s)
theorem nV.le{a b:Rw}(h:nV a b):a.u<=b.u:=h.elim Nat.le_of_lt λh=>Nat.le_of_eq h.1
theorem nV.s{a b:Rw}(h:nV a b)(e:a.u=b.u):b.s<a.s:=h.elim (λx=>absurd e (Nat.ne_of_lt x)) And.right
structure Sf(V:bo)(k O:Nat)(unit:Int)(U Z:List Rw)(fs:List FM)(N:List Rw):Prop where
 kk:(fs.flatMap FM.rows++N).Sublist Z
 keep:∀r∈fs.flatMap FM.rows++N,∀q∈Z,q.u=r.u->r.s<q.s->O<q.s
 drop:∀r∈Z,r∉fs.flatMap FM.rows++N->(∃q∈Z,q.u=r.u/\r.s<q.s/\q.s<=O)∨(r.k=0/\r.s<=O/\o8 V k r.u)
 sep:∀r∈fs.flatMap FM.rows,∀q∈N++U,r.u<q.u
 ap:fs.Pairwise λf g=>∀r∈f.rows,∀q∈g.rows,r.u<q.u
 ne:∀f∈fs,f.rows[0]?=some f.lo/\f.rows[f.rows.length-1]?=some f.hi/\f.size=f.rows.length*unit
section
variable {V:bo} {k O:Nat} {unit:Int} {U Z N:List Rw} {fs:List FM}
theorem Sf.start:Sf V k O unit U [] [] []:=⟨.slnil,λ_=>nM,λ_=>nM,λ_=>nM,.nil,λ_=>nM⟩
theorem Sf.put(h:Sf V k O unit U Z fs N)(c:∀r∈N,∀q∈U,r.u<q.u){f:FM}(l:f.rows=N)(ne:f.rows[0]?=some f.lo/\f.rows[f.rows.length-1]?=some f.hi/\f.size=f.rows.length*unit):Sf V k O unit U Z (fs++[f]) []:=by
 have e:(fs++[f]).flatMap FM.rows=fs.flatMap FM.rows++N:=by rw[ir,l]
 have j:(fs++[f]).flatMap FM.rows++[]=fs.flatMap FM.rows++N:=(List.append_nil _).trans e
 refine⟨j▸h.kk,j▸h.keep,j▸h.drop,λr a q d=>?_,List.pairwise_append.mpr ⟨h.ap,List.pairwise_singleton _ _,λg i b m r a q d=>?_⟩,λg i=>?_⟩
 ·rw[e]at a
  exact(aE a).elim (λa=>h.sep r a q (List.mem_append_right _ d)) λa=>c r a q d
 ·rw[aw m,l]at d
  exact h.sep r (List.mem_flatMap.mpr ⟨g,i,a⟩) q (List.mem_append_left _ d)
 ·exact(aE i).elim (h.ne g) λi=>aw i▸ne
theorem Sf.step{e:Rw}{i:List Rw}(h:Sf V k O unit (e::i) Z fs N)(l:∀r∈Z,nV r e)(b:Bool)(hd:b=true->(∃q∈Z,q.u=e.u/\q.s<=O)∨(e.k=0/\e.s<=O/\o8 V k e.u))(m:b=false->∀q∈Z,q.u=e.u->O<q.s):
  Sf V k O unit i (Z++[e]) fs (if b then N else N++[e]):=by
 have lt:∀r∈fs.flatMap FM.rows,∀q∈i,r.u<q.u:=λr c q a=>h.sep r c q (List.mem_append_right _ (.tail _ a))
 have old:∀r∈Z,r.u=e.u->¬r.s<e.s:=λr c d=>iG (Nat.le_of_lt ((l r c).s d))
 cases b with
 |true=>
  refine⟨h.kk.trans (List.sublist_append_left _ _),λr c q a d f=>?_,λr c g=>?_,λr c q a=>?_,h.ap,h.ne⟩
  ·rcases aE a with a|a
   ·exact h.keep r c q a d f
   ·rw[aw a]at d f;exact(old r (h.kk.subset c) d.symm f).elim
  ·rcases aE c with c|c
   ·exact(h.drop r c g).imp (λ⟨q,a,x⟩=>⟨q,List.mem_append_left _ a,x⟩) id
   ·rw[aw c]
    exact(hd rfl).imp (λ⟨q,a,x⟩=>⟨q,List.mem_append_left _ a,x.1,(l q a).s x.1,x.2⟩) id
  ·exact(aE a).elim (λa=>h.sep r c q (List.mem_append_left _ a)) (lt r c q)
 |false=>
  have j:fs.flatMap FM.rows++(N++[e])=(fs.flatMap FM.rows++N)++[e]:=(List.append_assoc ..).symm
  show Sf V k O unit i (Z++[e]) fs (N++[e])
  refine⟨j▸h.kk.append_right _,λr c q a d f=>?_,λr c g=>?_,λr c q a=>?_,h.ap,h.ne⟩
  ·rw[j]at c
   rcases aE c with c|c
   ·rcases aE a with a|a
    ·exact h.keep r c q a d f
    ·rw[aw a]at d f;exact(old r (h.kk.subset c) d.symm f).elim
   ·rw[aw c]at d f
    rcases aE a with a|a
    ·exact m rfl q a d
    ·rw[aw a]at f;exact(Nat.lt_irrefl _ f).elim
  ·rw[j]at g
   rcases aE c with c|c
   ·exact(h.drop r c λx=>g (List.mem_append_left _ x)).imp (λ⟨q,a,x⟩=>⟨q,List.mem_append_left _ a,x⟩) id
   ·exact(g (List.mem_append_right _ c)).elim
  ·rw[List.append_assoc]at a
   exact h.sep r c q a
end
def CU(Z:List Rw)(cur:Option Nat)(a:Int):Prop:=(Z=[]/\cur=none)∨∃p l,Z=p++[l]/\cur=some l.u/\a=l.s
theorem CU.lt{Z:List Rw}{cur:Option Nat}{i:Int}(h:CU Z cur i)(d:Z.Pairwise nV){e:Rw}(b:∀r∈Z,nV r e)(c:cur≠some e.u):∀r∈Z,r.u<e.u:=λr a=>by
 rcases h with⟨h,_⟩|⟨p,l,f,g,_⟩
 ·rw[h]at a;cases a
 ·subst f
  have le:=(b l (List.mem_append_right _ (.head _))).le
  have ne:l.u<e.u:=Nat.lt_of_le_of_ne le λx=>c (x▸g)
  rcases aE a with a|a
  ·exact Nat.lt_of_le_of_lt ((List.pairwise_append.mp d).2.2 r a l (.head _)).le ne
  ·rw[aw a];exact ne
theorem CU.nw_le{Z:List Rw}{cur:Option Nat}{a:Int}{O:Nat}(h:CU Z cur a){e:Rw}(s9:O<10)(c:jW cur a e.u<=O):∃q∈Z,q.u=e.u/\q.s<=O:=by
 unfold jW at c
 by_cases x:cur=some e.u
 ·rw[if_pos x]at c
  rcases h with⟨_,h⟩|⟨p,l,f,b,d⟩
  ·rw[h]at x;cases x
  ·subst f;rw[d]at c;exact⟨l,List.mem_append_right _ (.head _),Option.some.inj (b.symm.trans x),Int.ofNat_le.mp c⟩
 ·rw[if_neg x]at c;exact absurd c (by show¬(72057594037927935+1:Int)<=_;exact Int.not_le.mpr (Int.lt_of_lt_of_le (dF s9) (by decide)))
theorem CU.nw_gt{Z:List Rw}{cur:Option Nat}{b:Int}{O:Nat}(h:CU Z cur b)(f:Z.Pairwise nV){e:Rw}(j:∀r∈Z,nV r e)(c:¬jW cur b e.u<=O):∀q∈Z,q.u=e.u->O<q.s:=λq a d=>by
 by_cases x:cur=some e.u
 ·unfold jW at c
  rw[if_pos x]at c
  rcases h with⟨h,_⟩|⟨p,l,i,m,g⟩
  ·rw[h]at a;cases a
  ·subst i;rw[g]at c
   have c:=Nat.lt_of_not_le λy=>c (bF y)
   rcases aE a with a|a
   ·exact Nat.lt_trans c (((List.pairwise_append.mp f).2.2 q a l (.head _)).s (d.trans (Option.some.inj (m.symm.trans x)).symm))
   ·rw[aw a];exact c
 ·exact absurd d (Nat.ne_of_lt (h.lt f j x q a))
end
section
variable {ext:bj} {σ τ:Hp}
noncomputable def t3(r:Rw):Int×Int×Int:=(r.u, -(r.s:Int),r.k)
theorem j9:∀{rs:List Rw},gb σ rs->dI σ (rs.map cU)=some (rs.map t3)
 |[],_=>rfl
 |r::rs,h=>by
  have e:kP σ (cU r)=some (t3 r):=by have:=h r (.head _);unfold E4 at this;show(σ _).bind _=_;rw[this];rfl
  show(kP σ (cU r)).bind (λx=>(dI σ (rs.map cU)).map (x::·))=_
  rw[e,j9 λq a=>h q (.tail _ a)];rfl
theorem GN{a b:Rw}(h:jI (t3 a) (t3 b)=true)(n:a.s≠b.s):nV a b:=by
 rcases of_decide_eq_true h with h|⟨h,c|⟨c,_⟩⟩
 ·exact .inl (cq h)
 ·exact .inr ⟨cY h,cq (Int.neg_lt_neg_iff.mp c)⟩
 ·exact(n (cY (Int.neg_inj.mp c))).elim
def Ns(rs:List Rw):Prop:=rs.Pairwise λa b=>a.s≠b.s
theorem Ns.perm{rs zs:List Rw}(h:Ns rs)(p:zs.Perm rs):Ns zs:=p.symm.pairwise h λh e=>h e.symm
theorem oX{K:PX}{f:Addr}{fz:Bool}{rs:List Rw}(h:σ f=some (fz,.list (rs.map cU)))(hR:gb σ rs)(ne:rs≠[])(n:rs.length<=60)(g:Ns rs)
  (k:∀c (zs:List Rw),σ c=none->zs.Perm rs->zs.Pairwise nV->K (.ref c) (upd σ c (false,.list (zs.map cU)))):eO .sorted [.ref f] σ K:=by
 refine xL h (by rw[List.length_map];exact n) (by cases rs with|nil=>exact(ne rfl).elim|cons a b=>rfl) (j9 hR) (List.pairwise_map.mpr (g.imp λh e=>h (by have:=congrArg (λt=>t.2.1) e;exact cY (Int.neg_inj.mp this)))) λc o m l p e _ j=>?_
 obtain⟨zs,d,rfl⟩:=oC p
 rw[j9 λr i=>hR r (d.subset i)]at e
 cases e
 exact k c zs l d (((List.pairwise_map.mp j).and (g.perm d)).imp λh=>GN h.1 h.2)
end
section
variable {ext:bj} {σ Z:Hp}
noncomputable abbrev BC(n:Nat):AV:=.int n
structure Lq(σ Z:Hp)(c:Cm)(tA gA:Addr)(ts ts':List AV)(sm:Nat)(unit:Int)(dl:List (Addr×Nat×Nat))(al:List (Addr×Nat×FM))(gone:List Nat):Prop where
 mo:Mo [c.adr,c.pl,tA,c.E.dlA,c.E.alA] σ Z
 hE:jM Z {c.E with dl:=dl,al:=al}
 kc:∃ga go sk,Z c.adr=some (false,fq c ga go sk)
 ht:Z tA=some (false,.list ts')
 hg:∃fz,Z gA=some (fz,.list (gone.map BC))
 w:(∃f,c.in0=[f]/\c.in1=[]/\gone=[]/\ts'=ts/\dl.map (·.2)=[(c.k,f.num)]/\al.map (·.2)=[(c.k+1,f)])∨
  (gone=(c.in0++c.in1).map FM.num/\dl.map (·.2)=sJ c 2/\∃fs zs,al.map (·.2)=fs.map (λf=>(c.k+1,f))/\zs.Perm ((c.in0++c.in1).flatMap FM.rows)/\zs.Pairwise nV/\Sf c.V c.k sm unit [] zs fs []/\
   fs.map FM.num=List.range' ts.length fs.length/\ts'.length=ts.length+fs.length/\(∃t2,ts'=ts++t2)/\∀f∈fs,kU Z ts' f)
structure Fa(σ:Hp)(c:Cm)(tA:Addr)(ts:List AV):Prop where
 hc:σ c.adr=some (false,fq c 0 0 false)
 hC:wu σ c
 ok:D7 c
 hp:σ c.pl=some (false,.list ((List.replicate c.V.lv.length 0).map tV))
 hE:jM σ c.E
 ed:c.E.dl=[]
 ea:c.E.al=[]
 ht:σ tA=some (false,.list ts)
 tl:ts.length<=100
 nd:[tA,c.adr,c.pl,c.E.cp,c.E.dlA,c.E.alA].Nodup
 it:∀f∈c.in0++c.in1,kU σ ts f/\∀r∈f.rows,r.ok
 ne:(c.in0++c.in1).flatMap FM.rows≠[]
 ln:((c.in0++c.in1).flatMap FM.rows).length<=60
 ns:Ns ((c.in0++c.in1).flatMap FM.rows)
theorem Fa.d{c:Cm}{a:Addr}{ts:List AV}(h:Fa σ c a ts){i j:Nat}{x y:Addr}(hi:[a,c.adr,c.pl,c.E.cp,c.E.dlA,c.E.alA][i]?=some x)(b:[a,c.adr,c.pl,c.E.cp,c.E.dlA,c.E.alA][j]?=some y)(n:j≠i):y≠x:=gU h.nd hi b n
theorem zd{n I:Nat}{unit:Int}{c:Cm}{B:Addr}{ts:List AV}{f:FM}{Q:Fl->aG->Hp->Prop}(h:Fa σ c B ts)(r:c.in0=[f])(O:c.in1=[])(q:∀gA y dl al o Z l,Lq σ Z c B gA ts y I unit dl al o->Q (.ret (.ref gA)) l Z):
  Go (cB ext n) (.cons (.asg 4 (.sub (.sub (.at (.v 0) 53) (.k (.int 0))) (.k (.int 0))))
 (.cons (.ex (.bm .append (.at (.at (.v 0) 55) 41) (.cons (.tup (.cons (.at (.v 0) 49) (.cons (.at (.v 4) 2) .nil))) .nil)))
 (.cons (.ex (.bm .append (.at (.at (.v 0) 55) 42) (.cons (.tup (.cons (.bin .add (.at (.v 0) 49) (.k (.int 1))) (.cons (.v 4) .nil))) .nil)))
 (.cons (.ret (.lst .nil))
 .nil)))) [.ref c.adr,.ref B,.int I,.int unit,.undef,.undef,.undef,.undef,.undef,.undef,.undef,.undef,.undef,.undef] σ Q:=by
 have W:=h.hc
 have hi:=h.hC.h_inp
 have A:=h.hC.h_i0
 have R:=h.hC.h_f0 f (r▸.head _)
 have U:=h.hE.e
 have hd:=h.hE.d
 have G:=h.hE.a
 rw[r]at A
 rw[h.ed]at hd
 rw[h.ea]at G
 unfold mO at R
 have n1:c.E.dlA≠c.E.alA:=h.d (i:=5) (j:=4) rfl rfl (by decide)
 refine bG (by left) (ym (by left) (by left) hd (Nat.zero_le _) rfl λt υ ht m z t1 d1=>?_)
 have w:=m _ _ (dh (h.d (i:=4) (j:=1) rfl rfl (by decide))) W
 have s:=m _ _ (dh (Ne.symm n1)) G
 have V:=z _ _ U
 refine ym (by left) (by left) s (Nat.zero_le _) rfl λt2 N Y m2 z2 t3 d2=>?_
 refine e7 (a8 aQ rfl λg b=>q g ts [(t,c.k,f.num)] [(t2,c.k+1,f)] [] _ _ ?_)
 have J:=(z.trans z2).trans (Fz.new (c:=(false,.list [])) b)
 have K:=ag (c:=(false,.list [])) b (m2 _ _ (dh n1) d1)
 refine⟨?_,⟨J _ _ h.hE.e,K,ag b d2,⟨_,ag b (m2 _ _ (dh (h.d (i:=5) (j:=3) rfl rfl (by decide))) (m _ _ (dh (h.d (i:=4) (j:=3) rfl rfl (by decide))) h.hE.c.choose_spec))⟩,λp D=>?_,λp D=>?_⟩,⟨0,0,false,?_⟩,?_,⟨false,ab⟩,.inl ⟨f,r,O,rfl,rfl,rfl,rfl⟩⟩
 ·exact((m.sub λx u=>by rw[aw u];exact .tail _ (.tail _ (.tail _ (.head _)))).trans (m2.sub λx u=>by rw[aw u];exact .tail _ (.tail _ (.tail _ (.tail _ (.head _)))))).new b
 ·rw[aw D];exact ag b (z2 _ _ t1)
 ·rw[aw D];exact⟨ag b t3,J _ _ (h.hC.h_f0 f (r▸.head _))⟩
 ·exact ag b (m2 _ _ (dh (h.d (i:=5) (j:=1) rfl rfl (by decide))) w)
 ·exact ag b (m2 _ _ (dh (h.d (i:=5) (j:=0) rfl rfl (by decide))) (m _ _ (dh (h.d (i:=4) (j:=0) rfl rfl (by decide))) h.ht))
end
section
variable {ext:bj} {σ Z:Hp}
noncomputable def jN(c:Cm)(i:Int):List FM:=if i<=0 then[] else if i<=1 then c.in0 else c.in0++c.in1
theorem BR{f:FM}{fs:List FM}(h:f∈fs):f.rows.length<=(fs.flatMap FM.rows).length:=by
 obtain⟨s,t,e⟩:=List.append_of_mem h
 rw[e,List.flatMap_append,List.flatMap_cons,List.length_append,List.length_append]
 exact Nat.le_trans (Nat.le_add_right _ _) (Nat.le_add_left _ _)
theorem aY{B C:Type}{g:B->C}{xs:List B}{f:B}:(xs++[f]).map g=xs.map g++[g f]:=by rw[List.map_append];rfl
theorem wH{n D:Nat}{unit:Int}{c:Cm}{w I j:Addr}{ts:List AV}{Q:Fl->aG->Hp->Prop}{ss:SS}(h:Fa σ c w ts){r:Hp}(x:aK σ r)(hr:r I=some (false,.list []))(U:r j=some (false,.list []))(sg:σ j=none)
  (k:∀(x:Addr) (v4 v7:AV) o,Mo [j] r o->o j=some (false,.list (((c.in0++c.in1).map FM.num).map BC))->(∃f,o x=some (f,.list (((c.in0++c.in1).flatMap FM.rows).map cU)))->Go (cB ext n) ss [.ref c.adr,.ref w,.int D,.int unit,v4,.ref x,.ref j,v7,.undef,.undef,.undef,.undef,.undef,.undef] o Q):
  Go (cB ext n) (.cons (.forR 7 (.k (.int 0)) (.k (.int 2)) true (.cons (.for [4] (.sub (.at (.v 0) 53) (.v 7)) (.cons (.asg 5 (.bin .add (.v 5) (.sub (.v 1) (.at (.v 4) 2))))
 (.cons (.ex (.bm .append (.v 6) (.cons (.at (.v 4) 2) .nil)))
 .nil)))
 .nil)) ss) [.ref c.adr,.ref w,.int D,.int unit,.undef,.ref I,.ref j,.undef,.undef,.undef,.undef,.undef,.undef,.undef] r Q:=by
 have N:=λ{o} (m:Mo [j] r o)=>i8 m U
 have ng:∀{a d},σ a=some d->a∉[j]:=λe=>dh (af e sg)
 have len:(c.in0++c.in1).length<=120:=by rw[List.length_append];exact Nat.add_le_add h.ok.l0 h.ok.l1
 refine gI (iQ (iQ ?_))
 refine dR (λa:AV×Addr×AV=>[.ref c.adr,.ref w,.int D,.int unit,a.1,.ref a.2.1,.ref j,a.2.2,.undef,.undef,.undef,.undef,.undef,.undef])
  (λi a o=>Mo [j] r o/\o j=some (false,.list (((jN c i).map FM.num).map BC))/\∃f,o a.2.1=some (f,.list (((jN c i).flatMap FM.rows).map cU))) (.undef,I,.undef) rfl ⟨by decide,by decide,by decide,by decide⟩ ⟨Mo.refl _ _,U,_,hr⟩ ?_ ?_
 ·intro i a o R g1 g2 ⟨m,E,G⟩ ih
  obtain⟨s,O,q,rfl,hx,V,hf,u,pn⟩:∃(s:Nat) (O:Addr) (q:List FM),i=s/\oB [.ref c.i0,.ref c.i1] i=some (.ref O)/\σ O=some (true,.list (q.map FM.v))/\cM σ q/\(∃t,jN c i++q++t=c.in0++c.in1)/\jN c (i+1)=jN c i++q:=by
   have:i=0∨i=1:=by exact Oz g1 g2
   rcases this with rfl|rfl
   ·exact⟨0,c.i0,c.in0,rfl,rfl,h.hC.h_i0,h.hC.h_f0,⟨c.in1,rfl⟩,rfl⟩
   ·exact⟨1,c.i1,c.in1,rfl,rfl,h.hC.h_i1,h.hC.h_f1,⟨[],List.append_nil _⟩,rfl⟩
  obtain⟨rt,u⟩:=u
  have z:=x.fz.trans (N m)
  have c1:=m _ _ (ng h.hc) (x _ _ h.hc)
  have c2:=z _ _ h.hC.h_inp
  have c3:=z _ _ V
  rw[pn]at ih
  right
  refine eC q FM.v (λb:AV×Addr=>[.ref c.adr,.ref w,.int D,.int unit,b.1,.ref b.2,.ref j,.int s,.undef,.undef,.undef,.undef,.undef,.undef])
   (λg b Z=>Mo [j] r Z/\Z j=some (false,.list (((jN c s++g).map FM.num).map BC))/\∃f,Z b.2=some (f,.list (((jN c s++g).flatMap FM.rows).map cU))) (a.1,a.2.1) rfl c3 ?_ (λ_ _ Z p=>⟨_,(x.fz.trans (N p.1)) _ _ V⟩) ⟨m,by rw[List.append_nil];exact E,by rw[List.append_nil];exact G⟩ ?_ ?_
  ·have:=congrArg List.length u
   rw[List.length_append,List.length_append]at this
   exact n2 [_,_,_,_] jJ (.le (.v 1) (.n 120)) (.eq (.a (.a (.v 2) (.v 0)) (.v 3)) (.v 1)) rfl len this
  ·intro g f us b Z R' e ⟨A,d1,d2⟩ K
   have fm:=aP e
   have z':=x.fz.trans (N A)
   have h5:=z' _ _ (hf f fm)
   obtain⟨fz,d2⟩:=d2
   have fin:f∈c.in0++c.in1:=u▸List.mem_append_left _ (List.mem_append_right _ fm)
   obtain⟨⟨ta,t1,t2,_⟩,_⟩:=h.it f fin
   have t3:=A _ _ (ng h.ht) (x _ _ h.ht)
   have t4:=z' _ _ t2
   have tl:=bh h.tl rfl
   have ti:oB ts f.num=some (.ref ta):=t1
   have sub:(jN c s++g).length<=120:=by
    have W:=congrArg List.length u
    have Y:=congrArg List.length e
    rw[List.length_append,List.length_append]at W
    rw[List.length_append]at Y ⊢
    exact m3 [_,_,_,_,_,_] He 0 1 1 (-1) GB (.eq (.a (.a (.v 0) (.v 3)) (.v 4)) (.v 2)) (.eq (.v 3) (.a (.v 1) (.v 5))) rfl len W Y
   have bl:=bh (Nat.le_trans (Nat.le_of_eq ((List.length_map ..).trans (List.length_map ..))) sub:(((jN c s++g).map FM.num).map BC).length<=120) rfl
   have rl:((((jN c s++g).flatMap FM.rows).map cU).length)<=60:=by
    have:((jN c s++g).flatMap FM.rows).length<=((c.in0++c.in1).flatMap FM.rows).length:=by
     rw[←u,e,List.flatMap_append,List.flatMap_append,List.flatMap_append,List.flatMap_append,List.length_append,List.length_append,List.length_append,List.length_append]
     exact n0 [_,_,_,_] (.le (.a (.v 0) (.v 1)) (.a (.a (.v 0) (.a (.v 1) (.v 2))) (.v 3))) rfl
    rw[List.length_map];exact Nat.le_trans this h.ln
   have fl:(f.rows.map cU).length<=60:=by rw[List.length_map];exact Nat.le_trans (BR fin) h.ln
   unfold mO at h5
   refine mF (az (dg (aS (by left) (aS (kF (by left) (by left) t3 tl ti) (iR d2 t4 ⟨bh rl rfl,bh fl rfl⟩ λy B=>?_)))))
   have J:=ag (c:=(false,.list (((jN c s++g).flatMap FM.rows).map cU++f.rows.map cU))) B d1
   have β:=ag (c:=(false,.list (((jN c s++g).flatMap FM.rows).map cU++f.rows.map cU))) B h5
   refine u7 (by left) (by left) J bl (ak (aR (K (f.v,y) _ ⟨(A.new B).mut (.head _),?_,false,?_⟩)))
   ·exact ab.trans (congrArg (λl=>some (false,AO.list l)) (by rw[←List.append_assoc,aY,aY]))
   ·exact(aq (Ne.symm (af d1 B)) ab).trans (congrArg (λl=>some (false,AO.list l)) (by rw[←List.append_assoc,ir];exact List.map_append.symm))
  ·intro b Z ⟨A,d1,d2⟩
   exact ak (aR (ih (b.1,b.2,.int s) Z ⟨A,d1,d2⟩))
 ·intro i a o g1 g2 g3 ⟨m,E,G⟩
  have:i=2:=by exact i2 g2 g3
  subst this
  exact k a.2.1 a.1 a.2.2 o m E G
end
section
variable {ext:bj} {σ B:Hp}
structure Cb(Z:Hp)(c:Cm)(J G U:Addr)(ts:List AV)(sm:Nat)(dl:List (Addr×Nat×Nat)):Prop where
 hC:wu Z c
 ok:D7 c
 hE:jM Z {c.E with dl:=dl,al:=[]}
 hs:Sv Z Z c G sm none rP false (List.replicate c.V.lv.length 0)
 ht:Z J=some (false,.list ts)
 tl:ts.length<=100
 hk:Z U=some (false,.list [])
 nd:[J,c.adr,c.pl,c.E.cp,c.E.dlA,c.E.alA,G,U].Nodup
theorem Cb.d{c:Cm}{Z:Hp}{J G U:Addr}{ts:List AV}{sm:Nat}{dl:List (Addr×Nat×Nat)}(h:Cb Z c J G U ts sm dl){i j:Nat}{x y:Addr}(hi:[J,c.adr,c.pl,c.E.cp,c.E.dlA,c.E.alA,G,U][i]?=some x)(a:[J,c.adr,c.pl,c.E.cp,c.E.dlA,c.E.alA,G,U][j]?=some y)(n:j≠i):y≠x:=gU h.nd hi a n
structure Cw(Z B:Hp)(c:Cm)(J G U:Addr)(ts:List AV)(sm:Nat)(unit:Int)(dl:List (Addr×Nat×Nat))(N D:List Rw)(al:List (Addr×Nat×FM))(fs:List FM)(I:List Rw)(cur:Option Nat)(nw:Int)(lb:Nat)(O:List AV):Prop where
 mo:Mo [c.adr,c.pl,G,J,c.E.alA,U] Z B
 hs:∃st ps,Sv B B c G sm cur nw st ps/\∀u,lb<=u->j8 c.V c.k u ps
 hE:jM B {c.E with dl:=dl,al:=al}
 ea:al.map (·.2)=fs.map λf=>(c.k+1,f)
 ht:B J=some (false,.list O)
 tp:∃t2,O=ts++t2
 tl:O.length=ts.length+fs.length
 nm:fs.map FM.num=List.range' ts.length fs.length
 it:∀f∈fs,kU B O f
 sf:Sf c.V c.k sm unit N D fs I
section
variable {Z:Hp} {c:Cm} {J G U:Addr} {ts O:List AV} {sm:Nat} {unit nw:Int} {dl:List (Addr×Nat×Nat)} {N D I:List Rw} {al:List (Addr×Nat×FM)} {fs:List FM} {cur:Option Nat} {lb:Nat}
theorem Cb.lv(b:Cb Z c J G U ts sm dl):∀x∈[c.adr,c.pl,G,J,c.E.alA,U],∃o,Z x=some (false,o):=λx d=>by
 rcases au d with rfl|d
 ·obtain⟨_,_,_,e⟩:=b.hs.cc;exact⟨_,e⟩
 rcases au d with rfl|d
 ·exact⟨_,b.hs.cp⟩
 rcases au d with rfl|d
 ·exact⟨_,b.hs.cs⟩
 rcases au d with rfl|d
 ·exact⟨_,b.ht⟩
 rcases au d with rfl|d
 ·exact⟨_,b.hE.a⟩
 ·rw[aw d];exact⟨_,b.hk⟩
theorem Cw.z(h:Cw Z B c J G U ts sm unit dl N D al fs I cur nw lb O)(b:Cb Z c J G U ts sm dl):Fz Z B:=h.mo.fz b.lv
def Kn(Z B:Hp)(U a:Addr)(I:List Rw):Prop:=B a=some (false,.list (I.map cU))/\(a=U∨Z a=none)
theorem Kn.ne(h:Kn Z B U kA I){x:Addr}{d:Bool×AO}(e:Z x=some d)(n:x≠U):x≠kA:=h.2.elim (λe=>e▸n) λk=>af e k
theorem Cw.move(h:Cw Z B c J G U ts sm unit dl N D al fs I cur nw lb O)(b:Cb Z c J G U ts sm dl){S:List Addr}{j:Hp}(m:Mo S B j)(z:Fz B j)(r:∀x∈[J,c.adr,c.pl,c.E.cp,c.E.dlA,c.E.alA,G],x∉S)(hS:∀x∈S,x=U∨Z x=none):Cw Z j c J G U ts sm unit dl N D al fs I cur nw lb O:=by
 obtain⟨st,t,s1,s2⟩:=h.hs
 obtain⟨o,go,l,q⟩:=s1.cc
 have n (i:Nat) {x:Addr} (k:[J,c.adr,c.pl,c.E.cp,c.E.dlA,c.E.alA,G][i]?=some x):x∉S:=r x (List.mem_of_getElem? k)
 exact⟨h.mo.step m λx k=>(hS x k).imp (λe=>by rw[e];exact .tail _ (.tail _ (.tail _ (.tail _ (.tail _ (.head _)))))) id,
  ⟨st,t,⟨Mo.refl _ _,⟨o,go,l,m _ _ (n 1 rfl) q⟩,m _ _ (n 2 rfl) s1.cp,m _ _ (n 6 rfl) s1.cs,s1.n1,s1.n2,s1.n3⟩,s2⟩,
  ⟨z _ _ h.hE.e,m _ _ (n 4 rfl) h.hE.d,m _ _ (n 5 rfl) h.hE.a,⟨_,m _ _ (n 3 rfl) h.hE.c.choose_spec⟩,λp g=>z _ _ (h.hE.dt p g),λp g=>⟨z _ _ (h.hE.at' p g).1,z _ _ (h.hE.at' p g).2⟩⟩,h.ea,m _ _ (n 0 rfl) h.ht,h.tp,h.tl,h.nm,λf s=>(h.it f s).fz z,h.sf⟩
theorem Cw.put{n:Nat}{A:Addr}{K:PX}(h:Cw Z B c J G U ts sm unit dl N D al fs I cur nw lb O)(b:Cb Z c J G U ts sm dl)(hk:Kn Z B U A I)(ne:I≠[])(cd:∀r∈I,∀q∈N,r.u<q.u)(hr:gb B D)(ok:∀r∈D,r.ok)(ln:D.length<=60)(Q:fs.length<=60)
  (q:∀y f β O,Cw Z y c J G U ts sm unit dl N D β (fs++[f]) [] cur nw lb O->Fz B y->K .none y):cB ext (n+3) (F.fa 80) [.int ((c.k:Int)+1),.ref A,.ref J,.ref c.E.adr,.int unit] B K:=by
 obtain⟨e,kn⟩:=id hk
 have sub:=(List.sublist_append_right _ _).trans h.sf.kk
 obtain⟨m,hm⟩:∃m,I.length=m+1:=by cases I with|nil=>exact(ne rfl).elim|cons a l=>exact⟨l.length,rfl⟩
 have lk:=Nat.le_trans sub.length_le ln
 have V:al.length<=60:=by have:=congrArg List.length h.ea;rw[List.length_map,List.length_map]at this;exact n2 [_,_] nQ yQ C1 rfl Q this
 have g0:=List.getElem?_eq_getElem (l:=I) (i:=0) (by exact m1 [_,_] CL 0 (-1) GE rfl hm)
 have g1:=List.getElem?_eq_getElem (l:=I) (i:=I.length-1) (by exact n1 [_,_] J2 G0 rfl (Nat.sub_add_cancel (n:=I.length) (m:=1) (m1 [_,_] (.le (.n 1) (.v 0)) 0 (-1) (.eq (.v 0) (.a (.v 1) (.n 1))) rfl hm)))
 have Y:∀{x:Addr} {d:Bool×AO},Z x=some d->x≠U->x≠A:=λe n=>hk.ne e n
 have a0:=Y b.ht (b.d (i:=7) (j:=0) rfl rfl (by decide))
 have a5:=Y b.hE.a (b.d (i:=7) (j:=5) rfl rfl (by decide))
 have a4:=Y b.hE.d (b.d (i:=7) (j:=4) rfl rfl (by decide))
 have a3:=Y b.hE.c.choose_spec (b.d (i:=7) (j:=3) rfl rfl (by decide))
 have d50:c.E.alA≠J:=b.d (i:=0) (j:=5) rfl rfl (by decide)
 refine yv (k:=c.k+1) (E:={c.E with dl:=dl,al:=al}) e (λr s=>hr r (sub.subset s)) (λr s=>ok r (sub.subset s)) g0 g1 (bh lk rfl) h.ht (by rw[h.tl];exact Nat.le_trans (Nat.add_le_add b.tl Q) (Nat.le_of_ble_eq_true rfl)) h.hE (bh V rfl)
  (a7 a0 (a7 (Ne.symm d50) (a7 (b.d (i:=4) (j:=0) rfl rfl (by decide)) (dh (b.d (i:=3) (j:=0) rfl rfl (by decide))))))
  (a7 (Ne.symm a5) (a7 (Ne.symm a4) (dh (Ne.symm a3)))) (a7 (b.d (i:=4) (j:=5) rfl rfl (by decide)) (dh (b.d (i:=3) (j:=5) rfl rfl (by decide)))) λp a y i1 i2 i3 W=>?_
 have z:Fz B y:=W.fz λx o=>by
  rcases au o with rfl|o
  ·exact⟨_,h.ht⟩
  rcases au o with rfl|o
  ·exact⟨_,h.hE.a⟩
  ·rw[aw o];exact⟨_,e⟩
 obtain⟨st,ps,s1,s2⟩:=h.hs
 obtain⟨ga,go,sk,s3⟩:=s1.cc
 have w:∀{x:Addr} {d:Bool×AO},Z x=some d->x≠J->x≠c.E.alA->x≠U->x∉[J,c.E.alA,A]:=λg n1 n2 n3=>a7 n1 (a7 n2 (dh (Y g n3)))
 obtain⟨_,_,_,b3⟩:=b.hs.cc
 refine q y ⟨a,O.length,I.length*unit,I[0]'(by rw[hm];exact Nat.succ_pos _),I[I.length-1]'(Nat.sub_lt (by rw[hm];exact Nat.succ_pos _) Nat.one_pos),I⟩ _ _ ⟨h.mo.step W λx o=>?_,⟨st,ps,⟨Mo.refl _ _,⟨ga,go,sk,W _ _ ?_ s3⟩,W _ _ ?_ s1.cp,W _ _ ?_ s1.cs,s1.n1,s1.n2,s1.n3⟩,s2⟩,i1,?_,i2,?_,?_,?_,λf R=>?_,h.sf.put cd rfl ⟨g0,g1,rfl⟩⟩ z
 ·rcases au o with rfl|o
  ·exact .inl (.tail _ (.tail _ (.tail _ (.head _))))
  rcases au o with rfl|o
  ·exact .inl (.tail _ (.tail _ (.tail _ (.tail _ (.head _)))))
  ·rw[aw o];exact kn.imp (λe=>by rw[e];exact .tail _ (.tail _ (.tail _ (.tail _ (.tail _ (.head _)))))) id
 ·exact w b3 (b.d (i:=0) (j:=1) rfl rfl (by decide)) (b.d (i:=5) (j:=1) rfl rfl (by decide)) (b.d (i:=7) (j:=1) rfl rfl (by decide))
 ·exact w b.hs.cp (b.d (i:=0) (j:=2) rfl rfl (by decide)) (b.d (i:=5) (j:=2) rfl rfl (by decide)) (b.d (i:=7) (j:=2) rfl rfl (by decide))
 ·exact w b.hs.cs (b.d (i:=0) (j:=6) rfl rfl (by decide)) (b.d (i:=5) (j:=6) rfl rfl (by decide)) (b.d (i:=7) (j:=6) rfl rfl (by decide))
 ·show(al++[_]).map _=_;rw[aY,aY,h.ea];rfl
 ·exact h.tp.elim λt e=>⟨t++[.ref A],by rw[e,List.append_assoc]⟩
 ·rw[List.length_append,List.length_append,h.tl,Nat.add_assoc];rfl
 ·rw[aY,h.nm,List.length_append];show _++[O.length]=List.range' ts.length (fs.length+1);rw[List.range'_1_concat,h.tl]
 ·rcases aE R with R|R
  ·exact((h.it f R).fz z).app
  ·rw[aw R]
   exact⟨A,List.getElem?_concat_length,i3,λr s=>z _ _ (hr r (sub.subset s))⟩
end
end
section
variable {ext:bj} {σ O:Hp}
theorem jM.up{E:Ed}(h:jM σ E)(x:aK σ O):jM O E:=⟨x _ _ h.e,x _ _ h.d,x _ _ h.a,h.c.imp λ_ e=>x _ _ e,λp b=>x _ _ (h.dt p b),λp b=>⟨x _ _ (h.at' p b).1,x _ _ (h.at' p b).2⟩⟩
variable {D:Hp} {c:Cm} {G I J:Addr} {ts U:List AV} {B:Nat} {unit nw:Int} {dl:List (Addr×Nat×Nat)} {rest Z N:List Rw} {al:List (Addr×Nat×FM)} {fs:List FM} {cur:Option Nat} {lb:Nat}
theorem Cw.new{r:Addr}{d:Bool×AO}(h:Cw D O c G I J ts B unit dl rest Z al fs N cur nw lb U)(b:Cb D c G I J ts B dl)(a:O r=none):Cw D (upd O r d) c G I J ts B unit dl rest Z al fs N cur nw lb U:=
 h.move b (S:=[]) ((Mo.refl _ _).new a) (Fz.new a) (λ_ _=>nM) (λ_=>nM)
theorem Cw.fr{r:Addr}(h:Cw D O c G I J ts B unit dl rest Z al fs N cur nw lb U)(b:O r=none):r=J∨D r=none:=by
 by_cases e:r=J
 ·exact .inl e
 ·obtain⟨st,f,s1,_⟩:=h.hs
  obtain⟨_,_,_,d⟩:=s1.cc
  exact .inr (h.mo.nn b (a7 (Ne.symm (af d b)) (a7 (Ne.symm (af s1.cp b)) (a7 (Ne.symm (af s1.cs b)) (a7 (Ne.symm (af h.ht b)) (a7 (Ne.symm (af h.hE.a b)) (dh e)))))))
theorem EC{zs Z d:List Rw}{e:Rw}(f:zs.Pairwise nV)(h:zs=Z++e::d):Z.Pairwise nV/\(∀r∈Z,nV r e)/\∀q∈d,e.u<=q.u:=by
 subst h
 obtain⟨a,b,c⟩:=List.pairwise_append.mp f
 exact⟨a,λr g=>c r g e (.head _),λq i=>((List.pairwise_cons.mp b).1 q i).le⟩
theorem Cw.turn{r:Hp}{st o:Bool}{m q:List Nat}{nw':Int}{u:Nat}(h:Cw D O c G I J ts B unit dl rest Z al fs N cur nw lb U)(b:Cb D c G I J ts B dl)(y:Sv O O c I B cur nw o q)(s:Sv O r c I B (some u) nw' st m)(po:j8 c.V c.k u m):Cw D r c G I J ts B unit dl rest Z al fs N (some u) nw' u U:=by
 have z:=s.z y
 have n {i:Nat} {x:Addr} (g:[G,c.adr,c.pl,c.E.cp,c.E.dlA,c.E.alA,I,J][i]?=some x) (n1:1≠i) (n2:2≠i) (t:6≠i):x∉[c.adr,c.pl,I]:=a7 (Ne.symm (b.d (j:=1) g rfl n1)) (a7 (Ne.symm (b.d (j:=2) g rfl n2)) (dh (Ne.symm (b.d (j:=6) g rfl t))))
 exact⟨h.mo.trans (s.mo.sub λx g=>(List.mem_append_left [G,c.E.alA,J] g:x∈[c.adr,c.pl,I]++_)),⟨st,m,⟨Mo.refl _ _,s.cc,s.cp,s.cs,s.n1,s.n2,s.n3⟩,λv A=>po.mono A⟩,
  ⟨z _ _ h.hE.e,s.mo _ _ (n (i:=4) rfl (by decide) (by decide) (by decide)) h.hE.d,s.mo _ _ (n (i:=5) rfl (by decide) (by decide) (by decide)) h.hE.a,⟨_,s.mo _ _ (n (i:=3) rfl (by decide) (by decide) (by decide)) h.hE.c.choose_spec⟩,λp l=>z _ _ (h.hE.dt p l),λp l=>⟨z _ _ (h.hE.at' p l).1,z _ _ (h.hE.at' p l).2⟩⟩,
  h.ea,s.mo _ _ (n (i:=0) rfl (by decide) (by decide) (by decide)) h.ht,h.tp,h.tl,h.nm,λf w=>(h.it f w).fz z,h.sf⟩
theorem Qt{m j:Nat}:(List.replicate m 0).getD j 0=0:=by
 rw[List.getD_eq_getElem?_getD]
 cases e:(List.replicate m 0)[j]? with
 |none=>rfl
 |some x=>exact List.eq_of_mem_replicate (List.mem_of_getElem? e)
theorem yU{n:Nat}{zs:List Rw}{y:Addr}{v4 v5 v6 v7:AV}{Q:Fl->aG->Hp->Prop}{ss:SS}(b:Cb D c G I J ts B dl)(hy:D y=some (false,.list (zs.map cU)))(yk:y∉[c.adr,c.pl,I,G,c.E.alA,J])(so:zs.Pairwise nV)(hR:gb D zs)(ok:∀r∈zs,r.ok)(ln:zs.length<=60)(s9:B<10)
  (k:∀(kA:Addr) (al:List (Addr×Nat×FM)) (fs:List FM) (N:List Rw) (cur:Option Nat) (nw:Int) (lb:Nat) (U:List AV) (x1 x2 x3 x4:AV) O,Cw D O c G I J ts B unit dl [] zs al fs N cur nw lb U->Kn D O J kA N->fs.length<=zs.length->Go (cB ext (n+6)) ss [.ref c.adr,.ref G,.int B,.int unit,v4,v5,v6,v7,.ref I,.ref kA,x1,x2,x3,x4] O Q):
  sD (cB ext (n+6)) [10] (.cons (.asg 11 (.bin .mul (.bi .len (.cons (.v 9) .nil)) (.v 3)))
 (.cons (.ite (.t (.cmp .eq (.v 11) (.k (.int 0)))) (.cons (.asg 11 (.bin .sub (.k (.int 0)) (.k (.int 1))))
 .nil) .nil)
 (.cons (.asgT [12,13] (.mth (.v 8) 15 (.cons (.fn 78 (.cons (.v 10) .nil)) (.cons (.v 11) .nil))))
 (.cons (.ite (.t (.v 12)) (.cons (.ex (.fn 80 (.cons (.bin .add (.at (.v 0) 49) (.k (.int 1))) (.cons (.v 9) (.cons (.v 1) (.cons (.at (.v 0) 55) (.cons (.v 3) .nil)))))))
 (.cons (.asg 9 (.lst .nil))
 .nil)) .nil)
 (.cons (.ite (.not (.t (.v 13))) (.cons (.asg 9 (.bin .add (.v 9) (.lst (.cons (.v 10) .nil))))
 .nil) .nil)
 .nil))))) ss Q (.ref y) [.ref c.adr,.ref G,.int B,.int unit,v4,v5,v6,v7,.ref I,.ref J,.undef,.undef,.undef,.undef] D:=by
 refine eC zs cU (λa:(AV×AV×AV×AV)×Addr=>[.ref c.adr,.ref G,.int B,.int unit,v4,v5,v6,v7,.ref I,.ref a.2,a.1.1,a.1.2.1,a.1.2.2.1,a.1.2.2.2])
  (λZ a O=>∃al fs N cur nw lb U,Cw D O c G I J ts B unit dl (zs.drop Z.length) Z al fs N cur nw lb U/\Kn D O J a.2 N/\fs.length<=Z.length/\CU Z cur nw/\∀q∈zs.drop Z.length,lb<=q.u) ((.undef,.undef,.undef,.undef),J) rfl hy (bh ln rfl) ?_ ?_ ?_ ?_
 ·rintro us a O ⟨al,fs,N,cur,nw,lb,U,w,_⟩
  exact⟨_,w.mo _ _ yk hy⟩
 ·exact⟨[],[],[],none,rP,0,ts,⟨Mo.refl _ _,⟨_,_,b.hs,λu _=>⟨List.length_replicate,λj L _ _ i f _ hi=>by rw[Qt]at hi;exact absurd hi (Nat.not_lt_zero _)⟩⟩,b.hE,rfl,b.ht,⟨[],(List.append_nil _).symm⟩,rfl,rfl,λ_=>nM,Sf.start⟩,⟨b.hk,.inl rfl⟩,Nat.le_refl _,.inl ⟨rfl,rfl⟩,λ_ _=>Nat.zero_le _⟩
 ·rintro Z e us ⟨⟨x1,x2,x3,x4⟩,kA⟩ O R hz ⟨al,fs,N,cur,nw,lb,U,w,kn,fl,cn,lw⟩ ih
  dsimp only at kn lw
  have hd:zs.drop Z.length=e::us:=by rw[hz];exact List.drop_left
  have χ:zs.drop (Z++[e]).length=us:=by rw[hz,show Z++e::us=(Z++[e])++us by rw[List.append_assoc];rfl];exact List.drop_left
  rw[hd]at w lw
  rw[χ]at ih
  obtain⟨sp,se,su⟩:=EC so hz
  have pm:∀r∈Z,r∈zs:=λr hr=>hz▸List.mem_append_left _ hr
  have em:e∈zs:=aP hz
  have Y:Z.length+1<=60:=by have:=congrArg List.length hz;rw[List.length_append,List.length_cons]at this;exact m2 [_,_,_] HX 0 1 (-1) yQ Eo rfl ln this
  have kl:=Nat.le_trans ((List.sublist_append_right _ _).trans w.sf.kk).length_le (Nat.le_of_succ_le Y)
  have kl9:=aO (g:=cU) (bh kl rfl)
  have k1:=kn.1
  have lm:AV.int ((N.map cU).length:Nat)=AV.int (N.length:Nat):=by rw[List.length_map]
  refine mF (bG (ft (aU (by left) lm) (by left) ⟨by exact Int.NonNeg.mk (N.length+Nat.succ 4611686018427387902),by exact PF (bh kl rfl)⟩) ?_)
  refine bC (λo:Int=>[.ref c.adr,.ref G,.int B,.int unit,v4,v5,v6,v7,.ref I,.ref kA,.ref e.adr,.int o,x3,x4]) (λo υ=>υ=O/\(0<=o->N≠[])) (λR' V=>?_) ?_
  ·refine g8 (by left) (br (λx=>?_) λx=>?_)
   ·right
    exact bk (V _ _ ⟨rfl,λh=>absurd h (by decide)⟩)
   ·right
    exact bk (V _ _ ⟨rfl,λh e=>x (by rw[e];exact Int.zero_mul _)⟩)
  rintro o υ ⟨rfl,ho⟩
  obtain⟨st,ps,s1,s2⟩:=w.hs
  have h3:=s1.cs
  have eR:=(w.z b) _ _ (hR e em)
  refine sU (fO (aS (by left) (fJ h3 rfl rfl (aj (aV (by left) (lH eR (ok e em) (aj (aS (by left) (aD ?_)))))))))
  refine BI s1 (b.hC.fz (w.z b)) b.ok (ok e em) (s2 _ (lw e (.head _))) ?_ λcut drop st' ω t κ c1 c2 c3 po γ ht=>?_
  ·intro m hm
   rcases cn with⟨_,h⟩|⟨p,l,h1,h2,_⟩
   ·rw[h]at hm;cases hm
   ·rw[h2]at hm;cases hm;exact(ok l (pm l (h1▸List.mem_append_right _ (.head _)))).u
  refine vx ht ?_
  have w':=w.turn b s1 γ po
  have ε:Kn D κ J kA N:=by
   refine⟨γ.mo _ _ ?_ kn.1,kn.2⟩
   obtain⟨_,_,_,b3⟩:=b.hs.cc
   exact a7 (Ne.symm (kn.ne b3 (b.d (i:=7) (j:=1) rfl rfl (by decide)))) (a7 (Ne.symm (kn.ne b.hs.cp (b.d (i:=7) (j:=2) rfl rfl (by decide)))) (dh (Ne.symm (kn.ne b.hs.cs (b.d (i:=7) (j:=6) rfl rfl (by decide))))))
  have rz:gb κ Z:=λr hr=>(w'.z b) _ _ (hR r (pm r hr))
  refine bC (λa:Addr=>[.ref c.adr,.ref G,.int B,.int unit,v4,v5,v6,v7,.ref I,.ref a,.ref e.adr,.int o,.bool cut,.bool drop])
   (λa O=>∃al fs N U,Cw D O c G I J ts B unit dl (e::us) Z al fs N (some e.u) e.s e.u U/\Kn D O J a N/\fs.length<=Z.length+1) (λR' V=>?_) ?_
  ·refine g8 (by left) (jd (λx=>?_) λx=>?_)
   ·obtain⟨y1,y2⟩:=c1 x
    have lt:=cn.lt sp se y1
    have cd:∀r∈N,∀q∈e::us,r.u<q.u:=λr hr q hq=>Nat.lt_of_lt_of_le (lt r (((List.sublist_append_right _ _).trans w.sf.kk).subset hr)) ((au hq).elim (λh=>h▸Nat.le_refl _) (su q))
    obtain⟨ga,go,sk,hc'⟩:=γ.cc
    have he:=w'.hE.e
    refine dJ (aV (by left) (w'.put b ε (ho y2) cd rz (λr hr=>ok r (pm r hr)) (Nat.le_of_succ_le Y) (Nat.le_trans fl (Nat.le_of_succ_le Y)) λψ f φ ρ w1 z1=>?_))
    refine az (a8 aQ rfl λk' K=>ak (bk (V k' _ ⟨φ,fs++[f],[],ρ,w1.new b K,⟨ab,w1.fr K⟩,?_⟩)))
    rw[List.length_append];exact Nat.add_le_add_right fl 1
   ·right
    exact bk (V kA _ ⟨al,fs,N,U,w',ε,Nat.le_succ_of_le fl⟩)
  rintro kB π ⟨ν,ζ,β,θ,A,η,μ⟩
  have nx:CU (Z++[e]) (some e.u) e.s:=.inr ⟨Z,e,rfl,rfl,rfl⟩
  have sd:=λb' h1 h2=>A.sf.step se b' h1 h2
  have k2:=η.1
  refine jw (by left) (λx=>?_) λx=>?_
  ·have x:drop=false:=by cases drop with|true=>cases x|false=>rfl
   subst x
   have ξ:=bh (Nat.le_trans ((List.sublist_append_right _ _).trans A.sf.kk).length_le (Nat.le_of_succ_le Y)) rfl
   refine az (dg (aS (by left) (a8 (by left) rfl λt' δ=>iR (ag δ k2) ab ⟨aO ξ,Nat.le_of_ble_eq_true rfl⟩ λk' K=>?_)))
   have W:=(A.new b δ (d:=(false,.list [.ref e.adr]))).new b K (d:=(false,.list (β.map cU++[.ref e.adr])))
   have fr:=(A.new b δ (d:=(false,.list [.ref e.adr]))).fr K
   refine ak (cx (ak (aR (ih ((.ref e.adr,.int o,.bool cut,.bool false),k') _ ⟨ν,ζ,β++[e],some e.u,e.s,e.u,θ,⟨W.mo,W.hs,W.hE,W.ea,W.ht,W.tp,W.tl,W.nm,W.it,sd false fT λ_=>cn.nw_gt sp se (c3 rfl)⟩,⟨by rw[aY];exact ab,fr⟩,?_,nx,su⟩))))
   rw[List.length_append];exact μ
  ·have x:drop=true:=by cases drop with|true=>rfl|false=>cases x
   subst x
   refine ak (cx (ak (aR (ih ((.ref e.adr,.int o,.bool cut,.bool true),kB) π ⟨ν,ζ,β,some e.u,e.s,e.u,θ,⟨A.mo,A.hs,A.hE,A.ea,A.ht,A.tp,A.tl,A.nm,A.it,?_⟩,η,?_,nx,su⟩))))
   ·exact sd true (λ_=>(c2 rfl).imp (cn.nw_le s9) λh=>⟨h.1,Int.ofNat_le.mp h.2.1,h.2.2⟩) tF
   ·rw[List.length_append];exact μ
 ·rintro a O ⟨al,fs,N,cur,nw,lb,U,w,kn,fl,_⟩
  rw[List.drop_length]at w
  exact k a.2 al fs N cur nw lb U _ _ _ _ O w kn fl
end
section
variable {ext:bj} {σ Z:Hp}
theorem ty{n B:Nat}{unit:Int}{c:Cm}{v:Addr}{ts:List AV}{Q:PX}(h:Fa σ c v ts)(s9:B<10)(q:∀gA s dl al I Z,Lq σ Z c v gA ts s B unit dl al I->Q (.ref gA) Z):
  cB ext (n+7) (F.fa 81) [.ref c.adr,.ref v,.int B,.int unit] σ Q:=by
 have hc:=h.hc
 refine aB (l:=[.ref c.adr,.ref v,.int B,.int unit,.undef,.undef,.undef,.undef,.undef,.undef,.undef,.undef,.undef,.undef]) Lp rfl rfl ?_;show Go _ Io _ _ _;delta Io
 refine bC (λ_:Unit=>[.ref c.adr,.ref v,.int B,.int unit,.undef,.undef,.undef,.undef,.undef,.undef,.undef,.undef,.undef,.undef]) (λ_ D=>D=σ) (λR ih=>?_) ?_
 ·refine ko (bx (kL (aW (by left) hc rfl rfl (by left) (sF hc h.hC h.ok λb hb=>dG (jd (λx=>bx (g8 (xG (bR (by left))) (jd (λy=>da (eF ?_)) λy=>de (ak (bk (ih () _ rfl)))))) λx=>de (ak (bk (ih () _ rfl))))))))
  obtain⟨e0,e1⟩:=hb x
  obtain⟨f,hf⟩:∃f,c.in0=[f]:=List.length_eq_one_iff.mp e0
  exact zd h hf e1 λgA s dl al I Z l k=>Mg (cV (Wk.refl _) (q _ _ _ _ _ _ k))
 ·rintro _ D rfl
  refine az (a8 aQ rfl λr0 δ=>az (a8 aQ rfl λg0 U=>?_))
  have G:=(aK.new (c:=(false,.list [])) δ).trans (aK.new (c:=(false,.list [])) U)
  have sg:=(aK.new (c:=(false,.list [])) δ).nn U
  refine wH h G (ag U ab) ab sg λxA v4 v7 θ m1 hg m=>?_
  obtain⟨fx,m⟩:=m
  have ng:∀{a d},D a=some d->a∉[g0]:=λe=>dh (af e sg)
  have z1:=G.fz.trans (i8 m1 ab)
  have β:=m1 _ _ (ng hc) (G _ _ hc)
  have O:jM θ c.E:=⟨z1 _ _ h.hE.e,m1 _ _ (ng h.hE.d) (G _ _ h.hE.d),m1 _ _ (ng h.hE.a) (G _ _ h.hE.a),⟨_,m1 _ _ (ng h.hE.c.choose_spec) (G _ _ h.hE.c.choose_spec)⟩,λp hp=>z1 _ _ (h.hE.dt p hp),λp hp=>⟨z1 _ _ (h.hE.at' p hp).1,z1 _ _ (h.hE.at' p hp).2⟩⟩
  refine dJ (aW (by left) β rfl rfl (by left) (wi β (h.hC.fz z1) h.ok O h.ed (h.d (i:=4) (j:=5) rfl rfl (by decide)) (h.d (i:=4) (j:=3) rfl rfl (by decide)) λdl u dp m2 γ=>?_))
  have z2:=z1.trans (i8 m2 O.d)
  have st:∀{a d},D a=some d->a≠c.E.dlA->u a=some d:=λe n=>m2 _ _ (dh n) (m1 _ _ (ng e) (G _ _ e))
  refine az (fV (by left) rfl λsv t=>yL (wv (az (a8 aQ rfl λk0 A=>?_))))
  have x2:=(aK.new (c:=(false,vo c.adr B none rP false)) t).trans (aK.new (c:=(false,.list [])) A)
  have sx:u xA=some (fx,.list (((c.in0++c.in1).flatMap FM.rows).map cU)):=m2 _ _ (dh ?_) m
  have z3:=z2.trans x2.fz
  have η:gb D ((c.in0++c.in1).flatMap FM.rows):=λr o=>by
   obtain⟨f,hf,o⟩:=jc o
   exact(h.it f hf).1.choose_spec.2.2 r o
  refine mR (mG (aj (aS (by left) (aD (oX (x2 _ _ sx) (η.fz z3) h.ne h.ln h.ns λy K Y pz so=>?_)))))
  ·have J:=x2.trans (aK.new (c:=(false,.list (K.map cU))) Y)
   have z4:=z2.trans J.fz
   have c1:=st hc (h.d (i:=4) (j:=1) rfl rfl (by decide))
   have c2:=st h.hp (h.d (i:=4) (j:=2) rfl rfl (by decide))
   have c0:=st h.ht (h.d (i:=4) (j:=0) rfl rfl (by decide))
   have c3:=st h.hE.c.choose_spec (h.d (i:=4) (j:=3) rfl rfl (by decide))
   have c5:=st h.hE.a (h.d (i:=4) (j:=5) rfl rfl (by decide))
   have nv:∀x∈[v,c.adr,c.pl,c.E.cp,c.E.dlA,c.E.alA],∀r,u r=none->x≠r:=λx m r o=>by
    rcases au m with rfl|m
    ·exact af c0 o
    rcases au m with rfl|m
    ·exact af c1 o
    rcases au m with rfl|m
    ·exact af c2 o
    rcases au m with rfl|m
    ·exact af c3 o
    rcases au m with rfl|m
    ·exact af γ.d o
    ·rw[aw m];exact af c5 o
   have V:=(aK.new (c:=(false,vo c.adr B none rP false)) t).nn A
   have b:Cb (upd (upd (upd u sv (false,vo c.adr B none rP false)) k0 (false,.list [])) y (false,.list (K.map cU))) c v sv k0 ts B dl:=by
    refine⟨h.hC.fz z4,h.ok,?_,⟨Mo.refl _ _,⟨_,_,_,J _ _ c1⟩,J _ _ c2,ag Y (ag A ab),h.d (i:=2) (j:=1) rfl rfl (by decide),af c1 t,af c2 t⟩,J _ _ c0,h.tl,ag Y ab,?_⟩
    ·show jM _ {c.E with dl:=dl,al:=[]}
     rw[←h.ea];exact γ.up J
    ·refine hK (hK h.nd λx m=>nv x m sv t) λx m=>?_
     rcases aE m with m|m
     ·exact nv x m k0 V
     ·rw[aw m];exact af ab A
   have y2:=x2.nn Y
   have mS:Mo [c.adr,c.pl,v,c.E.dlA,c.E.alA] D u:=(G.mo.step m1 λx m=>by rw[aw m];exact .inr sg).trans (m2.sub λx m=>by rw[aw m];exact .tail _ (.tail _ (.tail _ (.head _))))
   have nS:∀r,u r=none->D r=none:=λr o=>mS.nn o λW=>nv r (by
    rcases au W with rfl|W
    ·exact .tail _ (.head _)
    rcases au W with rfl|W
    ·exact .tail _ (.tail _ (.head _))
    rcases au W with rfl|W
    ·exact .head _
    ·exact .tail _ (.tail _ (.tail _ (.tail _ W)))) r o rfl
   have gd:g0≠c.E.dlA:=Ne.symm (af h.hE.d sg)
   have κ:=J _ _ (m2 _ _ (dh gd) hg)
   have fin:∀(al:List (Addr×Nat×FM)) (fs:List FM) (N:Option Nat) (nw:Int) (lb:Nat) (s:List AV) Z,Cw _ Z c v sv k0 ts B unit dl [] K al fs [] N nw lb s->Q (.ref g0) Z:=λal fs N nw lb s Z w=>by
    obtain⟨_,_,w1,_⟩:=w.hs
    refine q g0 s dl al _ Z ⟨(mS.trans J.mo).step w.mo λx m=>?_,w.hE,w1.cc,w.ht,⟨false,w.mo _ _ ?_ κ⟩,.inr ⟨rfl,dp,fs,K,w.ea,pz,so,w.sf,w.nm,w.tl,w.tp,w.it⟩⟩
    ·rcases au m with rfl|m
     ·exact .inl (.head _)
     rcases au m with rfl|m
     ·exact .inl (.tail _ (.head _))
     rcases au m with rfl|m
     ·exact .inr (nS _ t)
     rcases au m with rfl|m
     ·exact .inl (.tail _ (.tail _ (.head _)))
     rcases au m with rfl|m
     ·exact .inl (.tail _ (.tail _ (.tail _ (.tail _ (.head _)))))
     ·rw[aw m];exact .inr (nS _ V)
    ·have e (x:Addr) {d:Bool×AO} (m:D x=some d):g0≠x:=Ne.symm (af m sg)
     have ε:=m2 _ _ (dh gd) hg
     exact a7 (e _ hc) (a7 (e _ h.hp) (a7 (af ε t) (a7 (e _ h.ht) (a7 (e _ h.hE.a) (dh (af ε V))))))
   have yn:y∉[c.adr,c.pl,sv,v,c.E.alA,k0]:=by
    have e {x:Addr} (m:x∈[v,c.adr,c.pl,c.E.cp,c.E.dlA,c.E.alA]):y≠x:=Ne.symm (nv x m y y2)
    exact a7 (e (.tail _ (.head _))) (a7 (e (.tail _ (.tail _ (.head _)))) (a7 (Ne.symm (af (ag A ab) Y)) (a7 (e (.head _)) (a7 (e (.tail _ (.tail _ (.tail _ (.tail _ (.tail _ (.head _))))))) (dh (Ne.symm (af ab Y)))))))
   have ζ:∀r∈K,r.ok:=λr o=>by
    obtain⟨f,hf,o⟩:=jc (pz.subset o)
    exact(h.it f hf).2 r o
   have rz:gb D K:=λr o=>η r (pz.subset o)
   have ln:K.length<=60:=by rw[pz.length_eq];exact h.ln
   refine yU b ab yn so (rz.fz z4) ζ ln s9 λkA al fs ke N nw lb s v1 v2 v3 v4 Z w kn fl=>?_
   have k1:=kn.1
   have kl:=Nat.le_trans ((List.sublist_append_right _ _).trans w.sf.kk).length_le ln
   have ν:=aO (g:=cU) (bh kl rfl)
   refine d6 (by left) (λx=>?_) λx=>?_
   ·have ne:ke≠[]:=λe=>by rw[e]at x;exact absurd x (by decide)
    obtain⟨_,_,w1,_⟩:=w.hs
    obtain⟨_,_,_,ξ⟩:=w1.cc
    have w0:=w.hE.e
    refine dJ (aV (by left) (w.put b kn ne (λ_ _ _=>nM) (λr o=>(w.z b) _ _ ((rz.fz z4) r o)) ζ ln (Nat.le_trans fl ln) λμ f ρ π w' _=>?_))
    exact ak (cx (fK (by left) (cV (Wk.refl _) (fin _ _ _ _ _ _ _ w'))))
   ·have e:ke=[]:=by cases ke with|nil=>rfl|cons a l=>exact absurd (by rw[List.length_map];exact dF (Nat.succ_pos _)) x
    subst e
    exact ak (cx (fK (by left) (cV (Wk.refl _) (fin _ _ _ _ _ _ _ w))))
  ·intro e
   rw[e,O.d,h.ed]at m
   have:=(Prod.mk.inj (Option.some.inj m)).2
   exact h.ne (List.map_eq_nil_iff.mp (AO.list.inj this).symm)
end
section
section
variable {cal:bj} {l:aG} {σ:Hp} {K:PX} {B:Type}
def AI(cal:bj)(t:Nat)(f:CS)(e:X)(l:aG)(ok:Hp->Prop)(v:AV)(d:Hp)(P:Option AV->Hp->Prop):Prop:=
 EL cal f (l.set t v) d λb a=>(b=true->Gx cal e (l.set t v) a λy c=>ok c/\P (some y) c)/\(b=false->ok a/\P none a)
def qR(cal:bj)(t:Nat)(g:CS)(e:X)(l:aG)(K:PX)(a:AV)(σ:Hp):Prop:=kh a λr=>cL (σ r) λd=>d.length<=line/\jH (AI cal t g e l (vQ r d)) d [] σ λf b=>∀c,b c=none->K (.ref c) (upd b c (false,.list f))
theorem jX{t:Nat}{c e:X}{d:CS}(h:Gx cal c l σ λa b=>qR cal t d e l K a b):Gx cal (.comp t c d e) l σ K:=by with_unfolding_all exact h
def wX(cal:bj)(t:Nat)(h:CS)(e:X)(l:aG)(K:PX)(a b:AV)(σ:Hp):Prop:=bV a λlo=>bV b λf=>(0<=lo/\lo<=line/\0<=f/\f<=line)/\jH (AI cal t h e l λ_=>True) ((aM lo f).map .int) [] σ λg d=>∀c,d c=none->K (.ref c) (upd d c (false,.list g))
theorem uy{t:Nat}{lo hi e:X}{f:CS}(h:Gx cal lo l σ λa d=>Gx cal hi l d λb c=>wX cal t f e l K a b c):Gx cal (.compR t lo hi f e) l σ K:=by with_unfolding_all exact h
theorem jn{t:Nat}{o:CS}{e:X}{ok:Hp->Prop}{g:B->AV}{bs:List B}{F:List AV->Hp->Prop}(P:List B->List AV->Hp->Prop)(n:∀j a k,P j a k->ok k)
  (step:∀c f j a k (R:List AV->Hp->Prop),bs=c++f::j->P c a k->(∀i d,P (c++[f]) i d->R i d)->EL cal o (l.set t (g f)) k λb d=>(b=true->Gx cal e (l.set t (g f)) d λy m=>R (a++[y]) m)/\(b=false->R a d))
  (done:∀a k,P bs a k->F a k):
  ∀j c a σ,bs=c++j->P c a σ->jH (AI cal t o e l ok) (j.map g) a σ F
 |[],c,a,σ,e,h=>done a σ (by rw[e,List.append_nil];exact h)
 |f::j,c,a,σ,q,h=>by
  have:=step c f j a σ (λi d=>ok d/\jH (AI cal t o e l ok) (j.map g) i d F) q h λi d p=>⟨n _ _ _ p,jn P n step done j (c++[f]) i d (by rw[q,List.append_assoc];rfl) p⟩
  exact this
theorem pc{t:Nat}{o:CS}{e:X}{g:B->AV}{r:Addr}{fz:Bool}(bs:List B)(P:List B->List AV->Hp->Prop)(h:σ r=some (fz,.list (bs.map g)))(len:bs.length<=9000)(n:∀m a i,P m a i->vQ r (bs.map g) i)(p:P [] [] σ)
  (step:∀pre f m a i (R:List AV->Hp->Prop),bs=pre++f::m->P pre a i->(∀j d,P (pre++[f]) j d->R j d)->EL cal o (l.set t (g f)) i λb d=>(b=true->Gx cal e (l.set t (g f)) d λy k=>R (a++[y]) k)/\(b=false->R a d))
  (done:∀a i,P bs a i->∀c,i c=none->K (.ref c) (upd i c (false,.list a))):qR cal t o e l K (.ref r) σ:=by
 exact eT h ⟨bN (by rw[List.length_map];exact len),jn P n step done bs [] [] σ rfl p⟩
theorem Eb{t:Nat}{c:C}{e:X}{g v:B->AV}{r:Addr}{fz:Bool}(bs:List B)(p:B->Bool)(h:σ r=some (fz,.list (bs.map g)))(len:bs.length<=9000)(n:∀f∈bs,Pc (l.set t (g f)) σ c (p f))(m:∀f∈bs,p f=true->Pe (l.set t (g f)) σ e (v f))
  (k:∀x,σ x=none->K (.ref x) (upd σ x (false,.list ((bs.filter p).map v)))):qR cal t (.cons c .nil) e l K (.ref r) σ:=by
 refine pc bs (λb a d=>d=σ/\a=(b.filter p).map v) h len (λ_ _ d q=>q.1▸⟨_,h⟩) ⟨rfl,rfl⟩ ?_ λa d q=>by rw[q.1,q.2];exact k
 rintro b f o a d R e ⟨rfl,rfl⟩ i
 have j:=aP e
 refine bx ((n f j).run _ _ (jd (λx=>da (eF ((m f j x).run _ _ (i _ _ ⟨rfl,?_⟩)))) λx=>de (i _ _ ⟨rfl,?_⟩)))
 ·rw[List.filter_append,List.filter_cons,if_pos x,List.map_append];rfl
 ·rw[List.filter_append,List.filter_cons,if_neg (by rw[x];exact fT)];exact(congrArg (List.map v) (List.append_nil _)).symm
theorem yu{t:Nat}{e:X}{g v:B->AV}{r:Addr}{fz:Bool}(bs:List B)(h:σ r=some (fz,.list (bs.map g)))(len:bs.length<=9000)(d:∀f∈bs,Pe (l.set t (g f)) σ e (v f))
  (k:∀x,σ x=none->K (.ref x) (upd σ x (false,.list (bs.map v)))):qR cal t .nil e l K (.ref r) σ:=by
 refine pc bs (λb a c=>c=σ/\a=b.map v) h len (λ_ _ c q=>q.1▸⟨_,h⟩) ⟨rfl,rfl⟩ ?_ λa c q=>by rw[q.1,q.2];exact k
 rintro b f j a c R e ⟨rfl,rfl⟩ i
 exact da (eF ((d f (aP e)).run _ _ (i _ _ ⟨rfl,aY.symm⟩)))
theorem AH{t:Nat}{c:C}{e:X}{lo hi:Int}{v:Int->AV}(p:Int->Bool)(d:0<=lo/\lo<=9000/\0<=hi/\hi<=9000)(o:∀i∈aM lo hi,Pc (l.set t (.int i)) σ c (p i))(n:∀i∈aM lo hi,p i=true->Pe (l.set t (.int i)) σ e (v i))
  (k:∀x,σ x=none->K (.ref x) (upd σ x (false,.list (((aM lo hi).filter p).map v)))):wX cal t (.cons c .nil) e l K (.int lo) (.int hi) σ:=by
 refine⟨⟨d.1,by have:=bI;exact y2 [_,_] J0 0 1 (-1) jJ t7 rfl d.2.1 (ce this),d.2.2.1,by have:=bI;exact y2 [_,_] J0 0 1 (-1) jJ t7 rfl d.2.2.2 (ce this)⟩,?_⟩
 refine jn (g:=AV.int) (bs:=aM lo hi) (λb a h=>h=σ/\a=(b.filter p).map v) (λ_ _ _ _=>trivial) ?_ (λa h q=>by rw[q.1,q.2];exact k) _ [] [] σ rfl ⟨rfl,rfl⟩
 rintro b f r a h R e ⟨rfl,rfl⟩ j
 have m:=aP e
 refine bx ((o f m).run _ _ (jd (λx=>da (eF ((n f m x).run _ _ (j _ _ ⟨rfl,?_⟩)))) λx=>de (j _ _ ⟨rfl,?_⟩)))
 ·rw[List.filter_append,List.filter_cons,if_pos x,List.map_append];rfl
 ·rw[List.filter_append,List.filter_cons,if_neg (by rw[x];exact fT)];exact(congrArg (List.map v) (List.append_nil _)).symm
theorem BH{t:Nat}{e:X}{lo hi:Int}{v:Int->AV}(c:0<=lo/\lo<=9000/\0<=hi/\hi<=9000)(h:∀i∈aM lo hi,Pe (l.set t (.int i)) σ e (v i))
  (k:∀x,σ x=none->K (.ref x) (upd σ x (false,.list ((aM lo hi).map v)))):wX cal t .nil e l K (.int lo) (.int hi) σ:=by
 refine⟨⟨c.1,by have:=bI;exact y2 [_,_] J0 0 1 (-1) jJ t7 rfl c.2.1 (ce this),c.2.2.1,by have:=bI;exact y2 [_,_] J0 0 1 (-1) jJ t7 rfl c.2.2.2 (ce this)⟩,?_⟩
 refine jn (g:=AV.int) (bs:=aM lo hi) (λb a d=>d=σ/\a=b.map v) (λ_ _ _ _=>trivial) ?_ (λa d q=>by rw[q.1,q.2];exact k) _ [] [] σ rfl ⟨rfl,rfl⟩
 rintro b f m a d R e ⟨rfl,rfl⟩ j
 exact da (eF ((h f (aP e)).run _ _ (j _ _ ⟨rfl,aY.symm⟩)))
end
end
section
variable {ext:bj} {σ Z:Hp}
theorem Mo.exx{S:List Addr}{b:Hp}(m:Mo S b Z)(x:aK σ b)(n:∀a∈S,σ a=none):aK σ Z:=λa d e=>m a d (λh=>by rw[n a h]at e;cases e) (x a d e)
theorem dE{x y:Int}{v:AV}{es:List (Int×AV)}:bE (dZ x v es) y=if y=x then some v else bE es y:=by
 unfold dZ
 by_cases h:es.any (λe=>decide (e.1=x))=true
 ·rw[if_pos h]
  induction es with
  |nil=>cases h
  |cons e r d=>
   by_cases b:e.1=x
   ·by_cases c:y=x
    ·rw[if_pos c];unfold bE;rw[List.map_cons,if_pos b,List.find?_cons,show decide (e.1=y)=true from decide_eq_true (b.trans c.symm)];rfl
    ·rw[if_neg c]
     have n1:decide (e.1=y)=false:=decide_eq_false λz=>c (z.symm.trans b)
     have f:∀l:List (Int×AV),bE (l.map λe=>if e.1=x then(e.1,v) else e) y=bE l y:=λl=>by
      induction l with
      |nil=>rfl
      |cons a l d=>
       unfold bE at d ⊢
       rw[List.map_cons,List.find?_cons,List.find?_cons]
       by_cases i:a.1=x
       ·rw[if_pos i,show decide (a.1=y)=false from decide_eq_false λz=>c (z.symm.trans i)];exact d
       ·rw[if_neg i];cases decide (a.1=y)<;>first|rfl|exact d
     exact f (e::r)
   ·have j:r.any (λe=>decide (e.1=x))=true:=by rw[List.any_cons,decide_eq_false b]at h;exact h
    have:=d j
    unfold bE at this ⊢
    rw[List.map_cons,if_neg b,List.find?_cons,List.find?_cons]
    by_cases g:e.1=y
    ·rw[decide_eq_true g,if_neg λz=>b (g.trans z)]
    ·rw[decide_eq_false g];exact this
 ·rw[if_neg h]
  unfold bE
  rw[List.find?_append]
  cases e:es.find? (λe=>decide (e.1=y))with
  |some p=>
   have k:p.1=y:=of_decide_eq_true (List.find?_some (p:=λe:Int×AV=>decide (e.1=y)) e)
   rw[if_neg λz=>h (List.any_eq_true.mpr ⟨p,List.mem_of_find?_eq_some e,decide_eq_true (k.trans z)⟩)];rfl
  |none=>
   rw[Option.none_or,List.find?_cons]
   by_cases z:y=x
   ·rw[if_pos z,show decide (x=y)=true from decide_eq_true z.symm];rfl
   ·rw[if_neg z,show decide (x=y)=false from decide_eq_false λw=>z w.symm];rfl
theorem qZ:∀{rs c:List Rw},rs.map cU=c.map cU->gb σ rs->gb σ c->rs=c
 |[],[],_,_,_=>rfl
 |[],_::_,h,_,_=>nomatch h
 |_::_,[],h,_,_=>nomatch h
 |r::rs,q::c,h,f,g=>by
  obtain⟨k,l⟩:=List.cons.inj h
  have a:=AV.ref.inj k
  have e:=f r (.head _)
  have i:=g q (.head _)
  unfold E4 at e i
  rw[a,i]at e
  have b:=AO.tup.inj (Prod.mk.inj (Option.some.inj e)).2
  obtain⟨f1,b⟩:=List.cons.inj b
  obtain⟨f2,b⟩:=List.cons.inj b
  obtain⟨j,_⟩:=List.cons.inj b
  rw[qZ l (λx d=>f x (.tail _ d)) λx d=>g x (.tail _ d)]
  cases r;cases q
  cases a
  cases cY (AV.int.inj f1)
  cases cY (Int.neg_inj.mp (AV.int.inj f2))
  cases cY (AV.int.inj j)
  rfl
theorem kU.rows{ts:List AV}{f g:FM}(h:kU σ ts f)(k:kU σ ts g)(e:f.num=g.num):f.rows=g.rows:=by
 obtain⟨a,c,j,i⟩:=h
 obtain⟨b,b1,b2,d⟩:=k
 rw[e,b1]at c
 cases c
 rw[j]at b2
 exact qZ (AO.list.inj (Prod.mk.inj (Option.some.inj b2)).2) i d
noncomputable def fP:Option Rw->AV
 |some r=>if r.k=0 then .none else .bytes [UInt8.ofNat r.s]
 |none=>.none
theorem Ay(o:Option Rw):∃b k v,DN o=[.bool b,.int k,.bytes v]/\((b&&decide (k=1))=true->fP o=.bytes v)/\((b&&decide (k=1))=false->fP o=.none):=by
 cases o with
 |none=>exact⟨_,_,_,rfl,fT,λ_=>rfl⟩
 |some r=>
  unfold DN fP
  dsimp only
  by_cases a:r.k=0
  ·rw[if_pos a,if_pos a];exact⟨_,_,_,rfl,fT,λ_=>rfl⟩
  ·rw[if_neg a,if_neg a];exact⟨_,_,_,rfl,λ_=>rfl,tF⟩
theorem Gy:∀s:Nat,s<10->EN [.int (0- -(s:Int))]=some [UInt8.ofNat s]:=by decide+kernel
theorem FS{u s a b:Nat}:decide ((u:Int)<a∨((u:Int)=a/\0-(s:Int)<= -(b:Int)))=decide (u<a∨(u=a/\b<=s)):=decide_eq_decide.mpr (by exact or_congr Int.ofNat_lt (and_congr Int.ofNat_inj (by rw[Int.zero_sub];exact Int.neg_le_neg_iff.trans Int.ofNat_le)))
structure Tc(σ0 Z:Hp)(d:Addr)(V:bo)(u s:Nat)(pre:List Int)(es:List (Int×AV)):Prop where
 mo:Mo [d] σ0 Z
 hd:Z d=some (false,.dict es)
 el:es.length<=2*pre.length
 no:∀L∈V.lv,∀f∈L.fs,(f.num:Int)∈pre->ah u s f=none->bE es f.num=some .none
 yes:∀L∈V.lv,∀f∈L.fs,(f.num:Int)∈pre->∀r,ah u s f=some r->∃e,bE es f.num=some (.ref e)/\Z e=some (true,.tup [.bytes r.b,.bytes [UInt8.ofNat r.s]])
theorem Am{n u s:Nat}{V:bo}{tA:Addr}{fz:Bool}{ts:List AV}{Q:PX}(hV:dP true σ V)(vr:Ag V)(hu:u<4)(hs:s<10)(ht:σ tA=some (fz,.list ts))(tl:ts.length<=9000)(it:∀L∈V.lv,∀f∈L.fs,kU σ ts f)(ok:∀L∈V.lv,∀f∈L.fs,∀r∈f.rows,r.ok)(rl:∀L∈V.lv,∀f∈L.fs,f.rows.length<=60)(q:Q (fP (look u s (fF u s V.lv))) σ):
  cB ext (n+8) (F.fa 82) [.ref V.adr,.ref tA,.int u,.int s] σ Q:=by
 have v1:=hV.v
 refine aB (l:=[.ref V.adr,.ref tA,.int u,.int s,.undef,.undef,.undef,.undef,.undef,.undef,.undef,.undef,.undef,.undef,.undef]) MJ rfl rfl ?_;show Go _ IU _ _ _;delta IU
 refine az (yc λd hd=>mR (aW (by left) (ag hd v1) rfl rfl (by left) (iF (hV.up (aK.new hd)) vr.sm λns nA p1 p2 hn=>?_)))
 have x0:=(aK.new (c:=(false,.dict [])) hd).trans (aK.new (c:=(true,.list (ns.map .int))) hn)
 have nl:ns.length<=60:=by rw[p1.length_eq,eP];exact vr.sm.f
 have J:upd (upd σ d (false,.dict [])) nA (true,.list (ns.map .int)) d=some (false,.dict []):=ag hn ab
 generalize U:upd (upd σ d (false,.dict [])) nA (true,.list (ns.map .int))=β at x0 J
 have θ:β nA=some (true,.list (ns.map .int)):=U▸ab
 clear U
 refine eC ns AV.int (λa:AV×AV=>[.ref V.adr,.ref tA,.int u,.int s,.ref d,a.1,a.2,.undef,.undef,.undef,.undef,.undef,.undef,.undef,.undef])
  (λj a Z=>∃m,Tc β Z d V u s j m) (.undef,.undef) rfl θ (bh nl rfl) (λus a Z ⟨m,h⟩=>⟨_,(i8 h.mo J) _ _ θ⟩) ⟨[],Mo.refl _ _,J,Nat.le_refl _,λ_ _ _ _ h=>nM h,λ_ _ _ _ h=>nM h⟩ ?_ ?_
 ·rintro j nn us ⟨a5,a6⟩ Z R e ⟨m,h⟩ ih
  obtain⟨L,A,K⟩:=jc (p1.subset (aP e))
  obtain⟨f,fm,rfl⟩:=bz K
  have z:Fz σ Z:=x0.fz.trans (i8 h.mo J)
  obtain⟨ta,t1,t2,t3⟩:=(it L A f fm).fz z
  have dt:tA≠d:=af ht hd
  have ht':=h.mo _ _ (dh dt) (x0 _ _ ht)
  have ti:oB ts (f.num:Int)=some (.ref ta):=t1
  have I:=h.hd
  have pl:j.length+1<=60:=by have:=congrArg List.length e;rw[List.length_append,List.length_cons]at this;exact m2 [_,_,_] HX 0 1 (-1) yQ Eo rfl nl this
  have el:=h.el
  have dta:ta≠d:=λx=>by rw[x,I]at t2;cases t2
  refine mF (dz (iQ (aS (by left) (aS (by left) (B9 I (by exact m2 [_,_] jJ 0 2 1 Hz GO rfl pl el) ?_)))))
  have ψ:=ab (σ:=Z) (a:=d) (c:=(false,.dict (dZ f.num .none m)))
  have η:=cP (c:=(false,.dict (dZ f.num .none m))) I t2
  have ht2:=aq (c:=(false,.dict (dZ f.num .none m))) dt ht'
  have φ:gb _ f.rows:=t3.fz (Fz.mut (c:=(false,.dict (dZ f.num .none m))) I)
  refine az (jX (aS (kF (by left) (by left) ht2 tl ti) (pc f.rows (λj Y N=>aK (upd Z d (false,.dict (dZ f.num .none m))) N/\Y=(j.filter λr=>decide (u<r.u∨(u=r.u/\r.s<=s))).map cU) η (bh (rl L A f fm) rfl) (λ_ _ N p=>⟨_,p.1 _ _ η⟩) ⟨aK.refl _,rfl⟩ ?_ ?_)))
  ·rintro pre' r us' Y N R' e' ⟨W,rfl⟩ μ
   have rm:=aP e'
   have B:=W.fz _ _ (φ r rm)
   refine bx (kL (cG (fv (by left) rfl λc1 h1=>fv (by left) rfl λc2 h2=>HP (ag h2 ab) ab (dG ?_))))
   rw[FS]
   have xx:=(W.trans (aK.new (c:=(true,.tup [.int r.u,.int (-(r.s:Int))])) h1)).trans (aK.new (c:=(true,.tup [.int u,.int (0-(s:Int))])) h2)
   refine jd (λy=>da (eF (aS (by left) (μ _ _ ⟨xx,?_⟩)))) λy=>de (μ _ _ ⟨xx,?_⟩)
   ·rw[List.filter_append,List.filter_cons,if_pos y,List.map_append];rfl
   ·rw[List.filter_append,List.filter_cons,if_neg (by rw[y];exact fT)];exact(congrArg (List.map cU) (List.append_nil _).symm)
  ·rintro Y N ⟨W,rfl⟩ c hc
   have fh:(f.rows.filter λr=>decide (u<r.u∨(u=r.u/\r.s<=s))).head?=ah u s f:=List.head?_filter ..
   have mq:Mo [d] β (upd N c (false,.list ((f.rows.filter λr=>decide (u<r.u∨(u=r.u/\r.s<=s))).map cU))):=((h.mo.mut (.head _)).trans W.mo).new hc
   have zq:Fz Z (upd N c (false,.list ((f.rows.filter λr=>decide (u<r.u∨(u=r.u/\r.s<=s))).map cU))):=((Fz.mut I).trans W.fz).trans (Fz.new hc)
   have G:=ag (c:=(false,.list ((f.rows.filter λr=>decide (u<r.u∨(u=r.u/\r.s<=s))).map cU))) hc (W _ _ ψ)
   have ξ:=ab (σ:=N) (a:=c) (c:=(false,.list ((f.rows.filter λr=>decide (u<r.u∨(u=r.u/\r.s<=s))).map cU)))
   have same:∀M∈V.lv,∀g∈M.fs,g.num=f.num->ah u s g=ah u s f:=λM E g D e=>by unfold ah;rw[((it M E g D).fz z).rows ⟨ta,t1,t2,t3⟩ e]
   have pm:∀{x:Nat},(x:Int)∈j++[(f.num:Int)]->x≠f.num->(x:Int)∈j:=λo n=>(aE o).elim id λo=>(n (cY (aw o))).elim
   have γ:=m6 (x:=(f.num:Int)) (v:=.none) (es:=m)
   have O:∀r∈(f.rows.filter λr=>decide (u<r.u∨(u=r.u/\r.s<=s))),r∈f.rows:=λr B=>(fN B).1
   have δ:=Nat.le_trans (List.length_filter_le (λr=>decide (u<r.u∨(u=r.u/\r.s<=s))) f.rows) (rl L A f fm)
   generalize (f.rows.filter λr=>decide (u<r.u∨(u=r.u/\r.s<=s)))=fl at fh mq zq G ξ O δ
   generalize upd N c (false,.list (fl.map cU))=ω at mq zq G ξ
   have ll:=aO (g:=cU) (bh δ rfl)
   cases fl with
   |nil=>
    refine AX (bR (by left)) (ak (cx (ak (aR (ih (.int f.num,.ref c) ω ⟨_,mq,G,by rw[List.length_append,List.length_singleton];exact n2 [_,_,_] Ec Du Gz rfl el γ,λM E g D o _=>?_,λM E g D o r B=>?_⟩)))))
    ·rw[dE]
     by_cases i:(g.num:Int)=f.num
     ·rw[if_pos i]
     ·rw[if_neg i];exact h.no M E g D (pm o λe=>i (congrArg _ e)) ‹_›
    ·by_cases i:(g.num:Int)=f.num
     ·rw[same M E g D (cY i),←fh]at B;cases B
     ·obtain⟨e2,y1,y2⟩:=h.yes M E g D (pm o λe=>i (congrArg _ e)) r B
      exact⟨e2,by rw[dE,if_neg i];exact y1,zq _ _ y2⟩
   |cons r fl=>
    have rm:=O r (.head _)
    have B:=zq _ _ (t3 r rm)
    have ε:=ok L A f fm r rm
    have e0:oB ((r::fl).map cU) 0=some (cU r):=rfl
    have ρ:=B
    unfold E4 at ρ
    have χ:=λe=>m6 (x:=(f.num:Int)) (v:=.ref e) (es:=dZ f.num .none m)
    refine d6 (by left) (λ_=>?_) λn=>(n (dF (Nat.succ_pos _))).elim
    refine dz (oD (aj (aV (by left) (lH B ε (aj (mG (aj (a8 (by left) rfl λw hw=>aD (lu ab (Nat.le_of_ble_eq_true rfl) (Gy _ ε.s) (aD (o6 rfl λx o=>aS (by left) (aS (by left) ?_))))))))))))
    have κ:=ag (c:=(true,.tup [.bytes r.b,.bytes [UInt8.ofNat r.s]])) o (ag (c:=(false,.list [.int (0- -(r.s:Int))])) hw G)
    have z2:=((Fz.new (c:=(false,.list [.int (0- -(r.s:Int))])) hw).trans (Fz.new (c:=(true,.tup [.bytes r.b,.bytes [UInt8.ofNat r.s]])) o)).trans (Fz.mut (c:=(false,.dict (dZ f.num (.ref x) (dZ f.num .none m)))) κ)
    refine B9 κ (by exact m3 [_,_,_] jJ 0 2 1 1 Hz Du Gz rfl pl el γ) (ak (cx (ak (aR (ih (.int f.num,.ref c) _ ⟨_,((mq.new hw).new o).mut (.head _),ab,by have:=χ x;rw[List.length_append,List.length_singleton];exact n3 [_,_,_,_] Ec Du (.le (.v 3) (.a (.v 2) (.n 1))) Ho rfl el γ this,λM E g D o _=>?_,λM E g D π r' B=>?_⟩)))))
    ·rw[dE,dE]
     by_cases i:(g.num:Int)=f.num
     ·rename_i h0
      rw[same M E g D (cY i),←fh]at h0;cases h0
     ·rw[if_neg i,if_neg i];exact h.no M E g D (pm o λe=>i (congrArg _ e)) ‹_›
    ·by_cases i:(g.num:Int)=f.num
     ·rw[same M E g D (cY i),←fh]at B
      cases B
      exact⟨x,by rw[dE,if_pos i],cP (ag o (ag hw G)) ab⟩
     ·obtain⟨e2,y1,y2⟩:=h.yes M E g D (pm π λe=>i (congrArg _ e)) r' B
      exact⟨e2,by rw[dE,if_neg i,dE,if_neg i];exact y1,z2 _ _ (zq _ _ y2)⟩
 ·rintro⟨a5,a6⟩ Z ⟨m,h⟩
  have z:Fz σ Z:=x0.fz.trans (i8 h.mo J)
  have ζ:=hV.fz z
  have v1':=ζ.v
  have ν:∀L∈V.lv,∀f∈L.fs,(f.num:Int)∈ns:=λL A f K=>p1.symm.subset (List.mem_flatMap.mpr ⟨L,A,dq ⟨f,K,rfl⟩⟩)
  have ca:Gl Z m V u s:=⟨λL A f K e=>h.no L A f K (ν L A f K) e,λL A f K r e=>⟨ok L A f K r (List.mem_of_find?_eq_some e),h.yes L A f K (ν L A f K) r e⟩⟩
  have el:=h.el
  have W:aK σ Z:=h.mo.exx x0 λa ha=>by rw[aw ha];exact hd
  refine sU (fO (aS (by left) (fJ v1' rfl rfl (aj (aS (by left) (aj (aV (by left) (jB hu (aj (aS (by left) (aD (EW ζ vr hu hs h.hd (by exact m2 [_,_] jJ 0 2 1 yQ GO rfl nl el) ca λt N x ht=>?_))))))))))))
  have xF:=(W.trans x).wk
  obtain⟨b,k,v,e,i,e2⟩:=Ay (look u s (fF u s V.lv))
  rw[e]at ht
  refine Cf ht (jw (by left) (λy=>fK (by left) (wa (cV xF (i y▸q)))) λy=>ak (cx (fK (by left) (cV xF (e2 y▸q)))))
end
section
variable {ext:bj} {σ τ:Hp}
structure Rd where
 adr:Addr
 V:bo
 s:Nat
 ma:Addr
 ms:List AV
noncomputable abbrev Rd.v(r:Rd):AV:=.ref r.adr
structure ya(σ:Hp)(ts:List AV)(r:Rd):Prop where
 t:σ r.adr=some (true,.tup [.ref r.V.adr,.int r.s,.ref r.ma])
 m:∃f,σ r.ma=some (f,.list r.ms)
 l:r.ms.length<=9000
 hV:dP true σ r.V
 vr:Ag r.V
 s9:r.s<10
 it:∀L∈r.V.lv,∀f∈L.fs,kU σ ts f
 ok:∀L∈r.V.lv,∀f∈L.fs,∀r∈f.rows,r.ok
 rl:∀L∈r.V.lv,∀f∈L.fs,f.rows.length<=60
 told:∀u,u<4->r.ms[u]?=some (fP (look u r.s (fF u r.s r.V.lv)))
theorem AS{o:Option Rw}{P:Bool->Prop}(h:P false):cmp .ne (fP o) (fP o) σ P:=by
 have b:∀v:List UInt8,cmp .ne (.bytes v) (.bytes v) σ P:=λv=>Hc (by rw[decide_eq_false λn=>n rfl];exact h)
 cases o with
 |none=>exact G9 h
 |some r=>
  unfold fP
  dsimp only
  by_cases k:r.k=0
  ·rw[if_pos k];exact G9 h
  ·rw[if_neg k];exact b _
theorem y6{n:Nat}{d f c:Addr}{f1 f2 w:Bool}{b:List Rd}{g:List Nat}{ts:List AV}{Q:PX}(o:σ d=some (f1,.list (b.map Rd.v)))(B:σ f=some (f2,.list ts))(j:σ c=some (w,.list (g.map BC)))(tl:ts.length<=9000)(x:b.length<=9000)(z:g.length<=9000)
  (A:∀u∈g,u<4) (ok:∀r∈b,ya σ ts r) (q:Q (.bool true) σ):cB ext (n+9) (F.fa 83) [.ref d,.ref f,.ref c] σ Q:=by
 refine aB (l:=[.ref d,.ref f,.ref c,.undef,.undef,.undef,.undef]) Ly rfl rfl ?_;show Go _ JD _ _ _;delta JD
 refine mR (aS (by left) (gB b Rd.v (λa:AV×AV×AV×AV=>[.ref d,.ref f,.ref c,a.1,a.2.1,a.2.2.1,a.2.2.2]) (λ_=>σ) (λ_ _=>True) (.undef,.undef,.undef,.undef) rfl rfl o x (λ_ _ _=>⟨_,o⟩) trivial ?_ ?_))
 ·rintro E r y ⟨U,W,O,K⟩ R e-J
  have k:=ok r (aP e)
  obtain⟨Y,D⟩:=k.m
  refine Cf k.t (mR (aS (by left) (gB g BC (λa:AV=>[.ref d,.ref f,.ref c,.ref r.V.adr,.int r.s,.ref r.ma,a]) (λ_=>σ) (λ_ _=>True) K rfl rfl j z (λ_ _ _=>⟨_,j⟩) trivial ?_ ?_)))
  ·rintro i u p a N G-h
   have u4:=A u (aP G)
   have I:oB r.ms u=some _:=k.told u u4
   have ml:=k.l
   refine mF (bJ (kL (cG (aV (by left) (Am k.hV k.vr u4 k.s9 B tl k.it k.ok k.rl (aS (kF (by left) (by left) D ml I) (AS (dG (de (ak (cx (ak (aR (h (.int u) trivial))))))))))))))
  ·rintro a -
   exact ak (aR (J (_,_,_,_) trivial))
 ·rintro a -
  exact fK (by left) (ay q)
end
section
variable {ext:bj} {σ Z:Hp}
theorem EQ{a:Addr}{d:Bool×AO}(m:Mo [a] σ Z)(e:Z a=some d):Wk (upd σ a d) Z:=λb c g=>by
 by_cases x:b=a
 ·rw[x,ab]at g;rw[x];cases g;exact⟨_,e,rfl,id⟩
 ·rw[ac x]at g;exact⟨c,m b c (dh x) g,rfl,id⟩
structure Kp where
 r:Rd
 na:Addr
 ns:List Int
noncomputable abbrev Kp.v(k:Kp):AV:=.ref k.r.adr
structure Lu(σ:Hp)(k:Kp):Prop where
 t:σ k.r.adr=some (true,.tup [.ref k.r.V.adr,.int k.r.s,.ref k.r.ma,.ref k.na])
 n:∃f,σ k.na=some (f,.list (k.ns.map .int))
 l:k.ns.length<=60
theorem wc{n:Nat}{s A:Addr}{fk:Bool}{V:bo}{D:List Kp}{ts:List AV}{Q:PX}(Y:dP true σ V)(sm:rB V)(N:σ s=some (false,.list ts))(h2:σ A=some (fk,.list (D.map Kp.v)))(tl:ts.length<=9000)(kl:D.length<=100)(O:∀k∈D,Lu σ k)(n1:A≠s)(n2:∀k∈D,k.na≠s)
  (q:∀d:List AV,d.length=ts.length->(∀i:Nat,i=0∨(i:Int)∈nums V∨(∃k∈D,(i:Int)∈k.ns)->d[i]?=ts[i]?)->Q .none (upd σ s (false,.list d))):cB ext (n+2) (F.fa 84) [.ref s,.ref V.adr,.ref A] σ Q:=by
 have v1:=Y.v
 refine aB (l:=[.ref s,.ref V.adr,.ref A,.undef,.undef,.undef]) K4 rfl rfl ?_;show Go _ JQ _ _ _;delta JQ
 refine az (aW (by left) v1 rfl rfl (by left) (iF Y sm λns nA p1 _ hn=>?_))
 have x0:=aK.new (c:=(true,.list (ns.map .int))) hn
 have nl:ns.length<=60:=by rw[p1.length_eq,eP];exact sm.f
 refine mR (aS (by left) (eC D Kp.v (λa:Addr×AV=>[.ref s,.ref V.adr,.ref A,.ref a.1,a.2,.undef]) (λw a Z=>aK σ Z/\∃f g,Z a.1=some (f,.list (g.map .int))/\a.1≠s/\g.length<=60+60*w.length/\∀i,i∈nums V∨(∃k∈w,i∈k.ns)->i∈g) (nA,.undef) rfl (x0 _ _ h2) (bh kl rfl) (λ_ _ Z p=>⟨_,p.1 _ _ h2⟩)
  ⟨x0,_,ns,ab,Ne.symm (af N hn),nl,λi o=>o.elim (λo=>p1.symm.subset o) λ⟨k,O,_⟩=>nM O⟩ ?_ ?_))
 ·rintro w k us ⟨a,b⟩ Z R e ⟨z,f,g,W,ne,cl,o⟩ J
  have K:=O k (aP e)
  obtain⟨fn,y⟩:=K.n
  have y:=z _ _ y
  have ht:=z _ _ K.t
  have pl:w.length+1<=100:=by have:=congrArg List.length e;rw[List.length_append,List.length_cons]at this;exact m2 [_,_,_] Dh 0 1 (-1) F8 Eo rfl kl this
  have kn:=K.l
  refine mF (az (dg (aS (by left) (aS (by left) (iR W y ⟨aO (by exact m2 [_,_] jJ 0 1 60 (.le (.v 0) (.a (.n 60) (.m 60 (.v 1)))) (.le (.a (.v 1) (.n 1)) (.n 100)) rfl cl pl),aO (bh kn rfl)⟩ λc u=>?_)))))
  refine ak (aR (J (c,k.v) _ ⟨z.trans (aK.new u),false,g++k.ns,by rw[List.map_append];exact ab,Ne.symm (af (z _ _ N) u),?_,λi U=>?_⟩))
  ·rw[List.length_append,List.length_append,List.length_singleton];exact Mine.n2 [_,_,_] (.le (.a (.v 0) (.v 1)) (.a (.n 60) (.m 60 (.a (.v 2) (.n 1))))) (.le (.v 0) (.a (.n 60) (.m 60 (.v 2)))) yQ rfl cl kn
  ·rcases U with h|⟨k',r,h⟩
   ·exact List.mem_append_left _ (o i (.inl h))
   ·rcases aE r with r|r
    ·exact List.mem_append_left _ (o i (.inr ⟨k',r,h⟩))
    ·rw[aw r]at h;exact List.mem_append_right _ h
 ·rintro⟨a,b⟩ Z ⟨z,f,g,W,ne,cl,o⟩
  have h3:=z _ _ N
  refine gI (iQ (aS (by left) ?_))
  refine dR (λc:AV=>[.ref s,.ref V.adr,.ref A,.ref a,b,c]) (λi c E=>Mo [s] Z E/\∃d,E s=some (false,.list d)/\d.length=ts.length/\∀i:Nat,i=0∨(i:Int)∈g->d[i]?=ts[i]?) .undef rfl ⟨by decide,by decide,Int.natCast_nonneg _,bF tl⟩ ⟨Mo.refl _ _,ts,h3,rfl,λ_ _=>rfl⟩ ?_ ?_
  ·rintro i c E R g1 g2 ⟨m,d,G,B,I⟩ J
   obtain⟨j,rfl⟩:∃j:Nat,i=j:=⟨i.toNat,by exact tn (Int.le_trans (by decide) g1)⟩
   have u:=m _ _ (dh ne) W
   refine jw (bR (qw (by left) (by left) u bT)) (λx=>?_) λx=>?_
   ·refine dz (iQ (aS (by left) (aS (by left) (tc G (by exact Mine.n2 [_,_] jJ (.le (.v 1) (.n 9000)) C1 rfl tl B) (by exact Nat.lt_of_lt_of_eq (cq g2) B.symm) (ak (cx (ak (aR (J (.int j) _ ⟨m.mut (.head _),d.set j .none,ab,by rw[List.length_set];exact B,λi o=>?_⟩)))))))))
    have:j≠i:=λe=>by
     subst e
     rcases o with o|o
     ·exact absurd g1 (by rw[o];decide)
     ·have:g.any (·==(j:Int))=true:=List.any_eq_true.mpr ⟨_,o,beq_self_eq_true _⟩
      rw[this]at x;cases x
    rw[List.getElem?_set_ne this];exact I i o
   ·exact ak (cx (ak (aR (J (.int j) E ⟨m,d,G,B,I⟩))))
  ·rintro i c E _ _ _ ⟨m,d,G,B,I⟩
   refine ak (fX (EQ (z.mo.trans m) G) (q d B λi h=>I i (h.imp id λh=>o _ h)))
end
section
variable {ext:bj} {σ Z:Hp}
theorem Dz.up{p o b:Addr}{V:bo}{op:Op}{a:List (Option Rw)}(h:Dz σ p o b V op a)(x:aK σ Z):Dz Z p o b V op a:=
 ⟨x _ _ h.hP,h.hO.fz x.fz,h.v.fz x.fz,h.vr,h.so,x _ _ h.hop,h.oo,h.nl,x _ _ h.hp,h.pl,h.po,h.sz⟩
theorem Bb.base{d:Hp}{c:Cm}{e:Addr}{b:List (Option Rw)}(h:Bb d Z c e b)(x:aK σ d):Bb σ Z c e b:=
 ⟨x.mo.trans h.mo,h.hC,h.kc,h.kpl,h.kE,h.ed,h.ea,h.hp,h.nd,λa f=>x.nn (h.fr a f),h.sel,h.lg,h.og⟩
theorem mem_range{lo hi i:Int}(h:i∈aM lo hi):lo<=i/\i<hi:=by
 unfold aM at h
 obtain⟨k,a,rfl⟩:=bz h
 have:=List.mem_range.mp a
 exact⟨Int.le_add_of_nonneg_right (Int.natCast_nonneg k),Int.add_lt_of_lt_sub_left (Int.lt_toNat.mp this)⟩
noncomputable def GV(V:bo)(i:Int):Bool:=decide ((0:Int)<((((V.lv[i.toNat]?.map λL=>L.fs.map FM.v).getD []).length:Nat):Int))
theorem vO{n:Nat}{p o d:Addr}{V:bo}{op:Op}{y:List (Option Rw)}{q:Int}{Q:PX}(hi:Dz σ p o d V op y)(I:Q .none σ)
  (q1:∀(c:Cm) (pts':List (Option Rw)) (Z:Hp),c.V=V->c.o=op->Bb σ Z c d pts'->pts'.length=V.lv.length->AL pts'->c.k+1<V.lv.length->Q (.ref c.adr) Z):
  cB ext (n+9) (F.fa 86) [.ref p,.ref V.adr,.ref d,.int q,.int V.lv.length] σ Q:=by
 have v1:=hi.v.v
 have v2:=hi.v.fl
 have E:=bh hi.vr.sm.n rfl
 have lm:=aO (g:=bM.v) E
 have W:=hi.vr.sm.n
 have ne:=hi.vr.ne
 have cell:∀i∈aM 0 ((V.lv.length:Int)-1),∃(k:Nat) (L:bM),i=k/\k+1<V.lv.length/\V.lv[k]?=some L:=λi h=>by
  obtain⟨h1,G⟩:=mem_range h
  obtain⟨k,rfl⟩:∃k:Nat,i=k:=⟨i.toNat,by exact tn h1⟩
  exact⟨k,_,rfl,by exact ww G,List.getElem?_eq_getElem (by exact Nat.lt_of_succ_lt (ww G))⟩
 refine aB (l:=[.ref p,.ref V.adr,.ref d,.int q,.int V.lv.length,.undef,.undef,.undef,.undef,.undef,.undef,.undef,.undef,.undef,.undef]) MX rfl rfl ?_;show Go _ Iz _ _ _;delta Iz
 refine az (uy (iQ (aS (by left) (AH (v:=AV.int) (GV V) ⟨by decide,by decide,by exact z1 [_] HM CL rfl (cl ne),by exact z1 [_] DE jJ rfl (cl E)⟩ (λi h=>?_) (λi h _=>bp rfl) λx hx=>?_))))
 ·obtain⟨k,L,rfl,_,s⟩:=cell i h
  have N:=List.mem_of_getElem? s
  have D:=bS (g:=bM.v) s
  have v3:=hi.v.lv L N
  have A:=aO (g:=FM.v) (bh (hi.vr.sm.len N) rfl)
  unfold GV;rw[show((k:Int)).toNat=k from rfl,s]
  exact(by left)
 have sub:∀i∈(aM 0 ((V.lv.length:Int)-1)).filter (GV V),∃(k:Nat) (L:bM),i=k/\k+1<V.lv.length/\V.lv[k]?=some L:=λi h=>cell i (fN h).1
 have O:((aM 0 ((V.lv.length:Int)-1)).filter (GV V)).length<=7:=by
  refine Nat.le_trans (List.length_filter_le _ _) ?_
  unfold aM;rw[List.length_map,List.length_range];exact Int.toNat_le.mpr (Int.le_trans (by rw[Int.sub_zero];exact Int.sub_le_self _ (by decide)) (bF W))
 generalize (aM 0 ((V.lv.length:Int)-1)).filter (GV V)=lv at sub O
 have m:=aK.new (c:=(false,.list (lv.map .int))) hx
 have Y:=ab (σ:=σ) (a:=x) (c:=(false,.list (lv.map .int)))
 have A:=aO (g:=AV.int) (bh O rfl)
 refine d6 (by left) (λ_=>fK (by left) (wa (cV m.wk I))) λn0=>ak (cx ?_)
 have lp:(0:Int)<(((lv.map AV.int).length:Nat):Int):=by exact dF (Nat.pos_of_ne_zero λe=>n0 (ce e))
 obtain⟨j,hj,B⟩:∃j:Nat,(q/4)%(((lv.map AV.int).length:Nat):Int)=j/\j<lv.length:=Gj (q/4) lp (ce (List.length_map _))
 obtain⟨k,L,hk,kn,s⟩:=sub _ (List.getElem_mem B)
 have ej:oB (lv.map AV.int) (j:Int)=some (.int k):=by rw[←hk];exact bS (List.getElem?_eq_getElem B)
 obtain⟨a,ha,t⟩:∃a:Nat,(q/12)%4=a/\a<4:=Gj (q/12) (by decide) rfl
 obtain⟨b,U,b4⟩:∃b:Nat,(q/48)%(4-(a:Int))=b/\a+b<4:=by
  exact(md (q/48) (Int.sub_pos_of_lt (dF t))).imp λb h=>⟨h.1,cq (Int.add_lt_of_lt_sub_left h.2)⟩
 refine bG (kF (by left) (aU (cH (by left) (by left) lp) (congrArg AV.int hj)) Y A ej) (bG (aU (v:=.int (q/12%4)) (by left) (congrArg AV.int ha)) (bG (by left) (bG (by left) ?_)))
 refine bC (λo:Option Nat=>[.ref p,.ref V.adr,.ref d,.int q,.int V.lv.length,.ref x,.int k,.int a,ov o,.none,.undef,.undef,.undef,.undef,.undef]) (λo f=>f=upd σ x (false,.list (lv.map .int))/\∀n,o=some n->n<4) (λR r=>?_) ?_
 ·refine g8 (by left) (br (λ_=>az (aV (by left) (jB t (ak (bk (r (some a) _ ⟨rfl,λn e=>Option.some.inj e▸t⟩)))))) λ_=>ak (bk (r none _ ⟨rfl,λ_=>oW⟩)))
 rintro lo f ⟨rfl,z⟩
 refine bC (λo:Option Nat=>[.ref p,.ref V.adr,.ref d,.int q,.int V.lv.length,.ref x,.int k,.int a,ov lo,ov o,.undef,.undef,.undef,.undef,.undef]) (λo f=>f=upd σ x (false,.list (lv.map .int))/\∀n,o=some n->n<4) (λR r=>?_) ?_
 ·refine g8 (by left) (br (λ_=>az (aV (ax (aU (v:=.int ((a:Int)+(q/48%(4-(a:Int))))) (cJ (by left) (cH (by left) (by left) (Int.sub_pos_of_lt (dF t))) rfl) (congrArg AV.int (by rw[U];rfl))) aQ) (jB (u:=a+b) b4 (ak (bk (r (some (a+b)) _ ⟨rfl,λn e=>Option.some.inj e▸b4⟩)))))) λ_=>ak (bk (r none _ ⟨rfl,λ_=>oW⟩)))
 rintro h f ⟨rfl,w⟩
 have J:=(hi.up m).hP
 unfold ye at J
 have K:∀{o:Option Nat},ov o≠.undef:=xK
 refine e7 (fO (aS (by left) (fJ J rfl rfl (aj (aS (by left) (aj (aS (by left) (aj (aS (by left) (aj (rx rfl K (aj (rx rfl K (aD ?_))))))))))))))
 exact vH (hi.up m) kn s z w (cV m.wk I) λc pts' Z e1 e2 pk D e4 e5=>cV (Wk.refl _) (q1 c pts' Z e1 e2 (pk.base m) D e4 e5)
end
section
variable {ext:bj} {σ Z:Hp}
structure Wr(last:Nat)(rs:List Rw):Prop where
 s:rs.map Rw.s=List.range' (last+1) rs.length
 uk:∀r∈rs,r.u<4/\r.k<2
theorem wj{n c:Nat}{y:Int}{Q:PX}(q:∀(x:Addr) (rs:List Rw) Z,1<=rs.length->rs.length<=3->Wr c rs->gb Z rs->Z x=some (true,.list (rs.map cU))->aK σ Z->Q (.ref x) Z):cB ext (n+1) (F.fa 87) [.int y,.int c] σ Q:=by
 refine aB (l:=[.int y,.int c,.undef,.undef,.undef]) K7 rfl rfl ?_;show Go _ JB _ _ _;delta JB
 refine az (a8 aQ rfl λx p=>gI (iQ (aS (by left) ?_)))
 refine dR (λa:AV×AV=>[.int y,.int c,.ref x,a.1,a.2]) (λi a Z=>aK σ Z/\∃rs:List Rw,(rs.length:Int)=i/\Wr c rs/\gb Z rs/\Z x=some (false,.list (rs.map cU))) (.undef,.undef) rfl ⟨by decide,by decide,by exact Int.sub_nonneg_of_le (Int.le_of_lt (Int.emod_lt_of_pos y (by decide))),by exact Int.le_trans (Int.sub_le_self 3 (Int.emod_nonneg y (by decide))) (by decide)⟩ ⟨aK.new p,[],rfl,⟨rfl,λ_=>nM⟩,λ_=>nM,ab⟩ ?_ ?_
 ·rintro i ⟨a,b⟩ Z R g1 g2 ⟨A,rs,rfl,w,hR,f⟩ O
  have j:rs.length<=2:=by exact Nat.le_of_lt_succ (cq (Int.lt_of_lt_of_le g2 (Int.sub_le_self 3 (Int.emod_nonneg y (by decide)))))
  have N:0<(12:Int) ^ ((rs.length:Int)).toNat/\(12:Int) ^ ((rs.length:Int)).toNat<2 ^ 30:=by
   rw[show((rs.length:Int)).toNat=rs.length from rfl]
   generalize rs.length=m at j
   have:m=0∨m=1∨m=2:=by exact u3 (Nat.lt_succ_of_le j)
   rcases this with rfl|rfl|rfl<;>decide
  refine az (dg (aS (by left) (dg (iQ (aS (by left) (G1 ⟨Int.natCast_nonneg _,by exact bF j⟩ (E2 N ?_)))))))
  generalize y/3/12 ^ ((rs.length:Int)).toNat=z
  obtain⟨u,G,u4⟩:∃u:Nat,z%4=u/\u<4:=Gj z (by decide) rfl
  obtain⟨k,K,k2⟩:∃k:Nat,(if z/4%3<1 then z/4%3 else 1)=(k:Int)/\k<2:=by
   by_cases h:z/4%3<1
   ·exact⟨0,by rw[if_pos h];exact Int.le_antisymm (Int.le_of_lt_add_one (b:=0) h) (Int.emod_nonneg _ (by decide)),by decide⟩
   ·exact⟨1,by rw[if_neg h];rfl,by decide⟩
  have D:(rs.map cU).length<=9000:=aO (bh j rfl)
  refine ym (by left) (ax (aU (v:=.int (z%4)) (by left) (congrArg AV.int G)) (ax (aU (v:=.int (0-(c:Int)-1-(rs.length:Int))) (by left) (congrArg AV.int (show _= -((c+1+rs.length:Nat):Int)by exact Int.le_antisymm (z0 [_,_] (.le (.a (.a (.a (.n 0) (.g (.v 0))) (.g (.n 1))) (.g (.v 1))) (.g (.a (.a (.v 0) (.n 1)) (.v 1)))) rfl) (z0 [_,_] (.le (.g (.a (.a (.v 0) (.n 1)) (.v 1))) (.a (.a (.a (.n 0) (.g (.v 0))) (.g (.n 1))) (.g (.v 1)))) rfl)))) (ax (aU (v:=.int (if z/4%3<1 then z/4%3 else 1)) (by left) (congrArg AV.int K)) aQ))) f D rfl λt B V m U E J=>?_
  refine ak (aR (O (.int rs.length,.int z) B ⟨m.exx A λa I=>by rw[aw I];exact p,rs++[⟨u,c+1+rs.length,k,t⟩],by rw[List.length_append];rfl,⟨?_,λr d=>?_⟩,λr d=>?_,by rw[aY];exact J⟩))
  ·rw[aY,w.s,List.length_append];show _=List.range' (c+1) (rs.length+1);rw[List.range'_1_concat]
  ·rcases aE d with d|d
   ·exact w.uk r d
   ·rw[aw d];exact⟨u4,k2⟩
  ·rcases aE d with d|d
   ·exact U _ _ (hR r d)
   ·rw[aw d];exact E
 ·rintro i ⟨a,b⟩ Z g1 g2 g3 ⟨A,rs,e,w,hR,f⟩
  refine fK (by left) (cV (pH f) (q x rs _ (by exact cq (Int.lt_of_lt_of_le (Int.sub_pos_of_lt (Int.emod_lt_of_pos y (by decide))) (e▸g2))) (by exact Int.ofNat_le.mp (Int.le_trans (Int.le_of_eq e) (g3.elim (λq=>Int.le_trans (Int.le_of_eq q) (by decide)) λq=>Int.le_trans (Int.le_of_eq q) (Int.sub_le_self 3 (Int.emod_nonneg y (by decide)))))) w (hR.fz λa o e=>?_) ab (A.upd p)))
  exact cP f e
end
section
variable {σ τ:Hp}
inductive ES(σ:Hp)(Q:PX):Addr->List AV->Prop
 |mk (ml hA la:Addr) (last:Int) (made:Nat) (f1 f2:Bool) (_:σ ml=some (false,.inst 8 [(5,.ref la),(6,.int made)])) (_:σ la=some (f1,.list [])) (_:σ hA=some (f2,.list [])) (_:Q (.int last) σ):ES σ Q (F.fa 85) [.ref ml,.ref hA,.int last]
noncomputable def j7:bj:=λf a σ Q=>ES σ Q f a
theorem Hm{ext:bj}{k i:Nat}{d:Fd}{as:List AV}{Q:PX}(a:bD (F.fa i)=some d)(h:ext (F.fa i) as σ Q):cB ext (k+1) (F.fa i) as σ Q:=by
 show gy F bD ext (k+1) (F.fa i) as σ Q
 unfold gy
 rw[a]
 exact .inr h
structure Hd where
 adr:Addr
 k:fc
 ma:Addr
 ms:List AV
noncomputable abbrev Hd.v(h:Hd):AV:=.ref h.adr
noncomputable abbrev Hd.s(h:Hd):Nat:=h.k.seq
def B0(σ:Hp)(h:Hd):Prop:=σ h.adr=some (true,.tup [.ref h.k.adr,.int h.s,.ref h.ma])
noncomputable def yb(hs:List Hd)(a:Nat):Nat:=match hs with
 |[]=>a
 |h::_=>h.s
theorem vy{n made a:Nat}{ml j hA:Addr}{hs:List Hd}{Q:PX}(h:om σ ml j made (hs.map Hd.k))(ok:mj made (hs.map Hd.k))(i:σ hA=some (false,.list (hs.map Hd.v)))(t:∀h∈hs,B0 σ h)(q:Q (.int (yb hs a)) σ):cB j7 (n+2) (F.fa 85) [.ref ml,.ref hA,.int a] σ Q:=by
 cases hs with
 |nil=>exact Hm GF (.mk ml hA j a made false false h.m h.l i q)
 |cons b hs=>
  have m1:=h.m
  have l9:(b::hs).length<=9000:=bh (by have:=ok.l;rw[List.length_map]at this;exact this) rfl
  have u:=aO (g:=Hd.v) l9
  refine aB (l:=[.ref ml,.ref hA,.int a,.undef,.undef,.undef,.undef,.undef,.undef]) GF rfl rfl ?_;show Go _ Jr _ _ _;delta Jr
  refine Cy (az (aW (by left) m1 rfl rfl (by left) (zj (ms:=hs.map Hd.k) h ok (ak (cx ?_)))))
  refine bJ (ko (bx (g8 (by left) (br (λ_=>?_) λx=>(x (dF (Nat.succ_pos _))).elim))))
  refine bx (kL (cG (aS (by left) (mG (aj (jX (aS (by left) (yu (v:=λh:Hd=>.int h.s) (b::hs) i l9 (λf c=>?_) λx p=>aD ?_))))))))
  ·have o:=t f c
   unfold B0 at o
   exact(by left)
  ·have e:(b::hs).map (λh:Hd=>AV.int h.s)=((b::hs).map λh:Hd=>(h.s:Int)).map .int:=by rw[List.map_map];rfl
   refine Bm (ns:=(b::hs).map λh:Hd=>(h.s:Int)) ab (aO l9) (by rw[e];exact bT) (Nat.succ_pos _) λM r d=>?_
   have:M=(b.s:Int):=by
    refine Int.le_antisymm (d _ (.head _)) ?_
    obtain⟨f,c,rfl⟩:=bz r
    rcases au c with rfl|c
    ·exact Int.le_refl _
    ·have:=ok.s
     rw[List.map_map]at this
     exact bF ((List.pairwise_cons.mp this).1 _ (dq ⟨f,c,rfl⟩))
   subst this
   refine Nd (dG (LI rfl (da (eF (fK (by left) (wa (cV (jU p) q)))))))
end
section
noncomputable def gD:Expr:=.Constant .none 0 default
noncomputable def gN(e:Expr):Str×Pos:=if h:e.ctorIdx=23 then Expr.Name.elim (motive_1:=λ_=>Str×Pos) e h λa b=>(a,b) else("",default)
noncomputable def gC(e:Expr):Expr×List Expr×Pos:=if h:e.ctorIdx=16 then Expr.Call.elim (motive_1:=λ_=>Expr×List Expr×Pos) e h λa b _ d=>(a,b,d) else(gD,[],default)
noncomputable def gA(e:Expr):Expr×Pos:=if h:e.ctorIdx=20 then Expr.Attribute.elim (motive_1:=λ_=>Expr×Pos) e h λa _ d=>(a,d) else(gD,default)
noncomputable def gK(e:Expr):Const×Nat×Pos:=if h:e.ctorIdx=19 then Expr.Constant.elim (motive_1:=λ_=>Const×Nat×Pos) e h λa b c=>(a,b,c) else(.none,0,default)
noncomputable def gS(c:Const):Str:=if h:c.ctorIdx=5 then Const.str.elim (motive:=λ_=>Str) c h id else ""
noncomputable def hI(s:Stmt):Expr×List Stmt×Pos:=if h:s.ctorIdx=12 then Stmt.If.elim (motive_2:=λ_=>Expr×List Stmt×Pos) s h λa b _ d=>(a,b,d) else(gD,[],default)
noncomputable def hR(s:Stmt):Expr×Pos:=if h:s.ctorIdx=16 then Stmt.Raise.elim (motive_2:=λ_=>Expr×Pos) s h λa _ d=>(a.getD gD,d) else(gD,default)
noncomputable def hT(s:Stmt):Expr×Pos:=if h:s.ctorIdx=3 then Stmt.Return.elim (motive_2:=λ_=>Expr×Pos) s h λa d=>(a.getD gD,d) else(gD,default)
noncomputable def hA(s:Stmt):Expr×Expr×Pos:=if h:s.ctorIdx=5 then Stmt.Assign.elim (motive_2:=λ_=>Expr×Expr×Pos) s h λa b d=>(a.headD gD,b,d) else(gD,gD,default)
noncomputable def hY(s:Stmt):List Stmt×List ExceptHandler×Pos:=if h:s.ctorIdx=17 then Stmt.Try.elim (motive_2:=λ_=>List Stmt×List ExceptHandler×Pos) s h λa b _ _ d=>(a,b,d) else([],[],default)
noncomputable def hH(l:List ExceptHandler):Expr×List Stmt×Pos:=(l.map λ(.ExceptHandler e _ b p)=>(e.getD gD,b,p)).headD (gD,[],default)
noncomputable def hS:Stmt:=.Pass default
noncomputable def E9:Str:=Str.ofString "NotFound"
noncomputable def Ld:Str:=Str.ofString "smallest"
noncomputable def i9:Expr×List Stmt×Pos:=hI ((ao s9).headD hS)
noncomputable def r9:Expr×Pos:=hR (i9.2.1.headD hS)
noncomputable def e9:Expr×List Expr×Pos:=gC r9.1
noncomputable def a9:Const×Nat×Pos:=gK (e9.2.1.headD gD)
noncomputable def x9:Pos:=(gN e9.1).2
noncomputable def z9:Str:=gS a9.1
theorem Qy:ao s9=.If i9.1 [.Raise (some (.Call (.Name E9 x9) [.Constant (.str z9) a9.2.1 a9.2.2] [] e9.2.2)) none r9.2] [] i9.2.2::(ao s9).tail:=by kernel_rfl
noncomputable def Mc:List Stmt×List ExceptHandler×Pos:=hY ((ao Af).headD hS)
noncomputable def Ni:Expr×Expr×Pos:=hA (Mc.1.headD hS)
noncomputable def Os:Str×Pos:=gN Ni.1
noncomputable def MH:Expr×List Expr×Pos:=gC Ni.2.1
noncomputable def GA:Expr×Pos:=gA MH.1
noncomputable def Ip:Expr×List Stmt×Pos:=hH Mc.2.1
noncomputable def QX:Pos:=(gN Ip.1).2
noncomputable def IH:Expr×List Stmt×Pos:=hI (Ip.2.1.headD hS)
noncomputable def L4:Expr×Pos:=hT (Ip.2.1.tail.headD hS)
theorem NI:ao Af=.Try [.Assign [.Name Os.1 Os.2] (.Call (.Attribute GA.1 Ld GA.2) [] [] MH.2.2) Ni.2.2]
  [.ExceptHandler (some (.Name E9 QX)) none [.If IH.1 IH.2.1 [] IH.2.2,.Return (some L4.1) L4.2] Ip.2.2] [] [] Mc.2.2::(ao Af).tail:=by kernel_rfl
noncomputable def xa:Cn:=⟨ae Af,(ar (ae Af)).nm,[],true⟩
noncomputable def c9:C:=.not (.t (.at (.v 0) 5))
noncomputable def MV:C:=.t (.cmp .gt (.bi .len (.cons (.v 1) .nil)) (.k (.int 0)))
theorem k1:um ct d9.cn c9 i9.1=true:=by kernel_rfl
theorem k2:aX ct oj.cn (.v 0) GA.1=true:=by kernel_rfl
theorem k3:kI GA.1=true:=by kernel_rfl
theorem k4:(GA.2.endLine==MH.2.2.line)=true:=by kernel_rfl
theorem k5:um ct xa MV IH.1=true:=by kernel_rfl
theorem k6:aX ct xa (.v 2) L4.1=true:=by kernel_rfl
theorem k7(n:Nat):cellsFrom n d9.cn.sc.names []=[]:=by kernel_rfl
theorem k8(n:Nat):cellsFrom n oj.cn.sc.names []=[]:=by kernel_rfl
theorem IN{K:Frag}(H:HK K):nsIn K mainGlobals E9=some (some (.ref 80))/\excIn K 80 [.type "Exception",.type "BaseException",.type "object"] "Exception.__new__"=true/\ktsIn K 80 "BaseException"=true:=by
 have h:=H.k.nf
 unfold Nm at h
 simp only[Bool.and_eq_true]at h
 exact⟨gZ h.1.1,h.1.2,h.2⟩
theorem f9:(190,d9,s9)∈jA:=List.mem_of_getElem? (i:=5) (by kernel_rfl)
theorem Q7:(875,oj,Af)∈jA:=List.mem_of_getElem? (i:=63) (by kernel_rfl)
theorem Qq:(897,M1,A7)∈jA:=List.mem_of_getElem? (i:=67) (by kernel_rfl)
theorem RL:d9.cn.sc.names.lookup E9=some .globalImplicit:=by kernel_rfl
theorem P6:oj.cn.sc.names.lookup E9=some .globalImplicit:=by kernel_rfl
theorem NP:(E9==("__debug__":Str))=false:=by decide+kernel
theorem QM:ct.gi.lookup Ld=some 7:=by kernel_rfl
theorem By{a c g d:Heap}{L:Addr}{m:Str->Option Value}(b:a.StaysIn c)(F:Fr c L g m)(x:cF a g d):∃h',cF a c h'/\Fr h' L d m:=by
 obtain⟨h',T,S⟩:=cF.pull b F.keep x
 obtain⟨l,e,i,j,hd,h,k⟩:=F.ns
 obtain⟨n,f⟩:=x.up _ _ j
 exact⟨h',T,⟨_,e,i,f,hd,h,k⟩,S,by rw[T.size];exact F.above⟩
theorem cF.ofKts{c g a:Heap}{fs:List Addr}(x:KtsTurn fs g a)(b:c.StaysIn a):cF c g a:=⟨x.size,x.none_,b,λ_ _ e=>x.up e⟩
theorem FF{q:Str}{b:Scope}{L a:Addr}{c:Value}(h:∀n,cellsFrom n b.names []=[]):envOfC q b L a c=envOf q b L a c:=by
 show envX q b L a c (cellsFrom (L+1) b.names [])=envX q b L a c []
 rw[h]
noncomputable def q8:bj:=λ_ _ _ _=>False
theorem Rm{ml d:Addr}{a:AV}{f1:Bool}(m1:σ ml=some (false,.inst 8 [(5,.ref d),(6,a)]))(m2:σ d=some (f1,.list [])):Ae F q8 c9 ([AV.ref ml]++List.replicate (d9.nl-d9.np) AV.undef) σ λb c=>b=true/\c=σ:=by
 exact C9 m1 ⟨by kernel_rfl,eT m2 ⟨Nat.zero_le _,rfl,rfl⟩⟩
theorem Mh{ml hA:Addr}{a:AV}{f1:Bool}(m2:σ hA=some (f1,.list [])):Ae F q8 MV ([AV.ref ml,.ref hA,a]++List.replicate (oj.nl-oj.np) AV.undef) σ λb c=>b=false/\c=σ:=by
 exact eT m2 ⟨Nat.zero_le _,rfl,rfl⟩
noncomputable def wM(w:World)(K:Frag)(A:Around)(e:Addr)(a g:Heap):Wd:=⟨pw,w,K,T,F,ct,q8,A.mark (some (.ref e)),a,g⟩
theorem Ht{W:Wd}{L:Addr}{m:Str->Option Value}{opq:List (Addr×Obj)}{E:Value->Shared->Prop}{s:Shared}{t:Sem Value}{r:Addr}{R:Value->Shared->Prop}(h:wpAny W.M W.A t (W.P L opq m (λa b=>a=.ref r/\b=σ) s) E s)
  (c:∀s',d8 s s'->W.H L opq m σ s'.heap->R (.ref r) s'):wpAny W.M W.A t R E s:=aN h λv a b s' d e H q=>by
 obtain⟨rfl,rfl⟩:=q
 obtain rfl:=e.ref
 exact c s' d H
theorem HJ{W:Wd}{L:Addr}{m:Str->Option Value}{opq:List (Addr×Obj)}{E:Value->Shared->Prop}{s:Shared}{t:Sem Value}{i:Int}{R:Value->Shared->Prop}(h:wpAny W.M W.A t (W.P L opq m (λa b=>a=.int i/\b=σ) s) E s)
  (c:∀v s',d8 s s'->VR v (.int i)->W.H L opq m σ s'.heap->R v s'):wpAny W.M W.A t R E s:=aN h λv a b s' d e H q=>by
 obtain⟨rfl,rfl⟩:=q
 exact c v s' d e H
theorem Ab{W:Wd}{L:Addr}{m:Str->Option Value}{opq:List (Addr×Obj)}{E:Value->Shared->Prop}{s:Shared}{t:Sem Bool}{b:Bool}{R:Bool->Shared->Prop}(h:wpAny W.M W.A t (W.PB L opq m (λc a=>c=b/\a=σ) s) E s)
  (c:∀s',d8 s s'->W.H L opq m σ s'.heap->R b s'):wpAny W.M W.A t R E s:=jv h λv a s' d H q=>by
 obtain⟨rfl,rfl⟩:=q
 exact c s' d H
theorem Fw{W:Wd}{env:Env}{n:Cn}{l:aG}{L:Addr}{m:Str->Option Value}{opq:List (Addr×Obj)}{E:Value->Shared->Prop}{s:Shared}{t:Ct}{f:Value}{first:List Value}{pos:Pos}{P:Heap->Prop}{Q:Value->Shared->Prop}(e:W.SXS n .nil [])
  (g:∀h,P h->∃k,(k=Keeper.frame∨k=Keeper.machine∨k=Keeper.boundFrame)/\Looks W.M h (keeperOf f) k) (lv:W.L env n L m opq l) (H:W.H L opq m σ s.heap)
  (k:∀s',d8 s s'->W.H L opq m σ s'.heap->P s'.heap/\wpAny W.M W.A (call f (first++[])) Q E s'):wpAny W.M W.A (callWith pos f first (backTo pos (starEach [] env)) []) Q E s:=
 mu (t:=t) (xs:=.nil) (es:=[]) rfl e g lv H (Qs:=λb a=>b=[]/\a=σ) ⟨rfl,rfl⟩ λj b a s' d i c q=>by
  obtain⟨rfl,rfl⟩:=q
  cases i
  exact k s' d c
theorem DJ{w:World}{K:Frag}(i:HK K):∀(A:Around) (env:Env) (l h₀:Heap) (L:Addr),Gd K l h₀ A env->env.frame=some L->Bl l h₀ A env->A.handled=none->A.depth<=890->A.units+320<=cLine->gY pw w T j7 A l h₀ L:=by
 intro A env l h₀ L gd hf hB hh hd hu O f as vs z s Z m Q R Y hc r H hR
 obtain⟨ml,hA,la,U,made,f1,f2,m1,m2,m3,q⟩:=hc
 obtain⟨pp,ξ,mean,mg,mb,TB⟩:=gd.trb
 have ε:∀{A l h L},gY pw w T q8 A l h L:=λ_ _ _ _ _ _ _ _ _ _ _ h=>h.elim
 obtain⟨ω,ν⟩:F.fa 85=875/\F.fa 9=190:=by constructor<;>kernel_rfl
 rw[ω]
 refine qb (cal:=q8) (Cp i) (lO i Q7) gd hf hB hh (by exact n1 [_] PD (.le (.v 0) (.n 890)) rfl hd) (by exact n1 [_,_] Pn (.le (.a (.v 0) (.n 320)) (.v 1)) rfl hu) (λ_ _ _ _ _ _ _ _ _ _=>ε) Y rfl r H hR λenv2 g0 g o mm cs s2 en tu j H2 _=>?_
 obtain⟨c,fG,e2⟩:=en.ee
 obtain⟨y,π,B,DD⟩:=en.bl
 have eb:=en.b
 rw[FF k8]at e2
 subst e2
 rw[NI]
 refine wpAny_execs_cons (wpAny_Try_except (wpAny_execs_cons (wpAny_Assign_Name (jK (W:=⟨pw,w,K,T,F,ct,q8,O.deeper (envOf c oj.cn.sc o 875 fG),l,g⟩) (n:=oj.cn) (t:=ct) (xs:=.nil) k3 k4 (Nat.le_of_ble_eq_true rfl) rfl λpl=>?_) rfl)))
 refine Ht (cg (.v 0) oj.cn _ k2 _ o mm (cs++Z) _ z s2 (λa k=>a=.ref ml/\k=z) _ j.lv H2 ⟨rfl,rfl⟩) λs1 ρ H1=>?_
 obtain⟨q1,q2,q3,q4⟩:=(Cp i).mth Ld 7 QM 8 9 (by kernel_rfl)
 obtain⟨d,ents,nn,I,hr⟩:=HS.inst j.lv.gd.st H1 m1
 obtain⟨G,χ,_,_,Fh,_,_⟩:=id H1
 refine method_inst Fh (j.lv.gd.turn χ.base).X I q1.pg q2 q3 (jg hr λp hp e=>?_) ?_
 ·have h1:=kK (show([(5,.ref la),(6,.int made)]:List (Nat×AV)).all (λp=>F.fo 8 p.1)=true by kernel_rfl) p hp
  have h2:=((Cp i).fld _ _ h1).2.2
  rw[e,q2]at h2
  cases h2
 refine Fw (t:=ct) (pJ .nil oj.cn [] rfl) (jq q4) j.lv H1 λs3 φ H3=>⟨JL j.lv H3,?_⟩
 rw[ν]
 have d1:=Y.dp
 have u1:=Y.un
 refine wpAny_call (qb (cal:=q8) (as:=[.ref ml]) (Q:=λ_ _=>False) (Cp i) (lO i f9) j.lv.gd rfl eb (j.lv.hh j.lf) (by show O.depth+1<=990;exact n2 [_,_] (.le (.a (.v 0) (.n 1)) (.n 990)) (.le (.v 1) (.n 890)) OK rfl hd d1) (by show O.units+3+300<=cLine;exact n2 [_,_,_] (.le (.a (.a (.v 0) (.n 3)) (.n 300)) (.v 1)) (.le (.a (.v 2) (.n 320)) (.v 1)) (.le (.v 0) (.a (.v 2) (.n 10))) rfl hu u1) (λ_ _ _ _ _ _ _ _ _ _=>ε) (.refl _) rfl (.cons rfl .nil) H3 (λv s' p=>?_) λenv3 g1 g' L3 m4 cs3 s4 E β u H4 _=>?_)
 ·obtain⟨_,_,_,_,_,_,_,h⟩:=p
  exact h.elim
 obtain⟨V,δ,e3⟩:=E.ee
 obtain⟨N,γ,B3,_⟩:=E.bl
 have hA4:(O.deeper (envOf c oj.cn.sc o 875 fG)).frames=some (envOf c oj.cn.sc o 875 fG::env::y):=by show O.frames.map _=_;rw[π];rfl
 have ho:N=env::y:=by rw[hA4]at γ;exact(List.cons.inj (Option.some.inj γ)).2.symm
 subst ho
 rw[FF k7]at e3
 subst e3
 rw[Qy]
 refine wpAny_execs_cons (wpAny_If (Ab (W:=⟨pw,w,K,T,F,ct,q8,(O.deeper (envOf c oj.cn.sc o 875 fG)).deeper (envOf V d9.cn.sc L3 190 δ),l,g'⟩) (C7 c9 d9.cn _ k1 _ L3 m4 _ _ z s4 (λb k=>b=true/\k=z) _ u.lv H4 ?_) λs5 μ H5=>?_))
 ·exact Rm m1 m2
 rw[if_pos rfl]
 obtain⟨g5,J,ζ,D,F5,N5,R5⟩:=id H5
 have T5:=topRead_of (TB.keeps J.base)
 refine wpAny_execs_cons (Raise_own F5 T5.g (own_of_in (gd.Xb.keeps J.base) T5 (IN i).1 (IN i).2.1) PySem.F.excBase_Exception (u.lv.hh u.lf) (spliced_more (wpAny_Constant_str (spliced_none ⟨by show 1<=sizeLine;decide+kernel,F5.keep,λh' e me=>?_⟩))) rfl rfl u.lv.gd.fk RL NP)
 refine leave_raiseS (J.below B3) me F5 N5 (λh6 t RS _ up=>?_) u.lv.gd.fk
 obtain⟨h1,T1,F1⟩:=By β.base E.fr J
 have Tg:cF l g h1:=β.trans T1
 refine caught_SO0 RS F1 (Tg.below B) up gd.Xb TB (Tg.dicts DD) .refl (IN i).1 (IN i).2.2 (λh7 g7 ψ T4 F4 _ _ N4 B4 _ _ _=>?_) j.lv.gd.fk P6 NP
 have υ:cF l g g7:=Tg.trans (.ofKts T4 B4.stays)
 have HF:HS T l g o (cs++Z) mm z h7:=⟨g7,υ,ζ,D,F4,N4,R5.opq_sub λp hp=>List.mem_append_right _ hp⟩
 have η:(wM w K (O.deeper (envOf c oj.cn.sc o 875 fG)) e l g).L (envOf c oj.cn.sc o 875 fG) xa o mm (cs++Z) ([.ref ml,.ref hA,.int U]++List.replicate (oj.nl-oj.np) .undef):=⟨⟨j.lv.gd.Xb,j.lv.gd.trb,j.lv.gd.st,j.lv.gd.fk,rfl,rfl,j.lv.gd.un,j.lv.gd.fits⟩,Cp i,j.lv.lr,λx=>.inl rfl,j.lv.lo,(nofun),(nofun),(nofun)⟩
 refine wpAny_execs_cons (wpAny_If (Ab (C7 (W:=wM w K (O.deeper (envOf c oj.cn.sc o 875 fG)) e l g) MV xa _ k5 _ o mm _ _ z {s5 with heap:=h7,toks:=s5.toks+1} (λb k=>b=false/\k=z) _ η HF (Mh m3)) λs6 θ H6=>?_))
 rw[if_neg Bool.false_ne_true]
 refine wpAny_execs_nil (wpAny_execs_cons (wpAny_Return_some (HJ (cg (W:=wM w K (O.deeper (envOf c oj.cn.sc o 875 fG)) e l g) (.v 2) xa _ k6 _ o mm _ _ z s6 (λa k=>a=.int U/\k=z) _ η H6 ⟨rfl,rfl⟩) λv s7 κ r7 H7=>?_)))
 exact bf (ρ.trans (φ.trans (E.la.trans (μ.trans (d8.trans (s':={s5 with heap:=h7,toks:=s5.toks+1}) ⟨h7,s5.toks+1,rfl⟩ (θ.trans κ)))))) (.ret r7) j H7 ⟨z,.refl _,q⟩
end
section
noncomputable def bU(V:bo)(j:Nat):List FM:=match V.lv[j]? with
 |some L=>L.fs
 |none=>[]
theorem bO{V:bo}{j:Nat}{L:bM}(h:V.lv[j]?=some L):bU V j=L.fs:=by unfold bU;rw[h]
theorem dY{V:bo}{j:Nat}{f:FM}(h:f∈bU V j):∃L,V.lv[j]?=some L/\f∈L.fs:=by
 unfold bU at h
 cases e:V.lv[j]? with
 |none=>rw[e]at h;cases h
 |some L=>rw[e]at h;exact⟨L,rfl,h⟩
theorem Cj{V:bo}{L:bM}(h:L∈V.lv):∃j:Nat,V.lv[j]?=some L:=List.getElem?_of_mem h
theorem gX{V:bo}{L:bM}{f:FM}(h:L∈V.lv)(a:f∈L.fs):∃j,f∈bU V j:=by
 obtain⟨j,e⟩:=Cj h;exact⟨j,bO e▸a⟩
structure Gf(unit:Int)(f:FM):Prop where
 so:f.rows.Pairwise nV
 ns:Ns f.rows
 ok:∀r∈f.rows,r.ok
 lo:f.rows[0]?=some f.lo
 hi:f.rows[f.rows.length-1]?=some f.hi
 sz:f.size=f.rows.length*unit
def vl(f g:FM):Prop:=f.num≠g.num/\∀r∈f.rows,∀q∈g.rows,r.s≠q.s
theorem vl.symm{f g:FM}(h:vl f g):vl g f:=⟨Ne.symm h.1,λr a q b e=>h.2 q b r a e.symm⟩
def oE(f g:FM):Prop:=∀r∈f.rows,∀q∈g.rows,r.u=q.u->q.s<r.s
structure Gv(unit:Int)(Z:Nat)(V:bo):Prop where
 n:2<=V.lv.length/\V.lv.length<=7
 gf:∀j,∀f∈bU V j,Gf unit f
 so:∀j,(bU V j).Pairwise (bA j)
 d1:∀j,(bU V j).Pairwise vl
 d2:∀i j,i<j->∀f∈bU V i,∀g∈bU V j,vl f g
 sl:∀j,∀f∈bU V j,∀r∈f.rows,1<=r.s/\r.s<=Z
 up:∀i j,i<j->∀f∈bU V i,∀g∈bU V j,oE f g
 r0:∀f∈bU V 0,∀g∈bU V 0,f.num<g.num->oE g f
section
variable {unit:Int} {Z:Nat} {V:bo} {f:FM}
theorem Gf.lm(h:Gf unit f):f.lo∈f.rows:=List.mem_of_getElem? h.lo
theorem Gf.hm(h:Gf unit f):f.hi∈f.rows:=List.mem_of_getElem? h.hi
theorem Gf.fok(h:Gf unit f):f.ok:=⟨h.ok _ h.lm,h.ok _ h.hm⟩
theorem Gf.le1(h:Gf unit f){r:Rw}(b:r∈f.rows):r=f.lo∨nV f.lo r:=by
 have e:=h.lo
 have c:=h.so
 generalize f.rows=d at b e c
 cases d with
 |nil=>cases b
 |cons a l=>
  cases e
  exact(au b).imp id ((List.pairwise_cons.mp c).1 r)
theorem Gf.le2(h:Gf unit f){r:Rw}(a:r∈f.rows):r=f.hi∨nV r f.hi:=by
 obtain⟨i,hi,rfl⟩:=List.getElem_of_mem a
 obtain⟨b,e⟩:=be h.hi
 rw[←e]
 by_cases x:i=f.rows.length-1
 ·subst x;exact .inl rfl
 ·exact .inr (List.pairwise_iff_getElem.mp h.so _ _ _ _ (Nat.lt_of_le_of_ne (Nat.le_sub_one_of_lt hi) x))
theorem Gf.lo_le(h:Gf unit f){r:Rw}(a:r∈f.rows):f.lo.u<=r.u:=(h.le1 a).elim (λe=>e▸Nat.le_refl _) nV.le
theorem Gf.le_hi(h:Gf unit f){r:Rw}(a:r∈f.rows):r.u<=f.hi.u:=(h.le2 a).elim (λe=>e▸Nat.le_refl _) nV.le
theorem Gf.ord(h:Gf unit f):f.lo.u<=f.hi.u:=h.lo_le h.hm
theorem Gf.cmp(h:Gf unit f):¬0<dw f.lo f.hi:=by
 have k:=h.fok
 intro x
 unfold dw jY at x
 rcases h.le1 h.hm with e|e|⟨e,a⟩
 ·rw[e,if_neg (Nat.lt_irrefl _),if_neg (Nat.lt_irrefl _),if_neg (Int.lt_irrefl _),if_neg (Int.lt_irrefl _)]at x;cases x
 ·rw[if_pos e]at x;cases x
 ·rw[if_neg (by exact iG (m1 [_,_] J0 0 (-1) DR rfl e)),if_neg (by exact iG (n1 [_,_] J0 C1 rfl e)),if_pos (show cu f.hi.s f.hi.k<cu f.lo.s f.lo.k from tg _ a k.2.k)]at x;cases x
theorem Gf.pos(h:Gf unit f):1<=f.rows.length:=(be h.lo).1
theorem ux{B:Type}{R:B->B->Prop}(g:∀a b,R a b->R b a):∀{l:List B},l.Pairwise R->∀a∈l,∀b∈l,a≠b->R a b
 |[],_,_,h,_,_,_=>nomatch h
 |x::l,h,a,d,b,c,n=>by
  obtain⟨i,j⟩:=List.pairwise_cons.mp h
  rcases au d with rfl|d
  ·rcases au c with rfl|c
   ·exact(n rfl).elim
   ·exact i b c
  ·rcases au c with e|c
   ·exact e▸g _ _ (i a d)
   ·exact ux g j a d b c n
theorem Ns.inj{rs:List Rw}(h:Ns rs){r q:Rw}(a:r∈rs)(b:q∈rs)(e:r.s=q.s):r=q:=Classical.byContradiction λn=>ux (λ_ _=>Ne.symm) h r a q b n e
theorem Gv.dd(h:Gv unit Z V){i j:Nat}{f g:FM}(a:f∈bU V i)(b:g∈bU V j)(n:f≠g∨i≠j):vl f g:=by
 rcases Nat.lt_trichotomy i j with x|rfl|x
 ·exact h.d2 i j x f a g b
 ·exact ux (λ_ _=>vl.symm) (h.d1 i) f a g b (n.elim id λn=>(n rfl).elim)
 ·exact(h.d2 j i x g b f a).symm
theorem qT{R:FM->FM->Prop}(h:∀j,(bU V j).Pairwise R)(d:∀i j,i<j->∀f∈bU V i,∀g∈bU V j,R f g):(V.lv.flatMap bM.fs).Pairwise R:=by
 refine List.pairwise_flatMap.mpr ⟨λL c=>?_,List.pairwise_iff_getElem.mpr λi j b l x f a g k=>d i j x f ?_ g ?_⟩
 ·obtain⟨j,e⟩:=Cj c;exact bO e▸h j
 ·exact(bO (List.getElem?_eq_getElem b)).symm▸a
 ·exact(bO (List.getElem?_eq_getElem l)).symm▸k
theorem fS(h:f∈V.lv.flatMap bM.fs):∃j,f∈bU V j:=by obtain⟨L,a,b⟩:=jc h;exact gX a b
theorem iB{j:Nat}(h:f∈bU V j):f∈V.lv.flatMap bM.fs:=by obtain⟨L,e,a⟩:=dY h;exact List.mem_flatMap.mpr ⟨L,List.mem_of_getElem? e,a⟩
noncomputable def cj(V:bo):List Rw:=(V.lv.flatMap bM.fs).flatMap FM.rows
theorem aZ{r:Rw}:r∈cj V↔∃j,∃f∈bU V j,r∈f.rows:=by
 refine List.mem_flatMap.trans ⟨λ⟨f,a,b⟩=>?_,λ⟨j,f,a,b⟩=>⟨f,iB a,b⟩⟩
 obtain⟨j,c⟩:=fS a;exact⟨j,f,c,b⟩
theorem Gv.ns(h:Gv unit Z V):Ns (cj V):=List.pairwise_flatMap.mpr ⟨λf a=>by obtain⟨j,b⟩:=fS a;exact(h.gf j f b).ns,(qT h.d1 h.d2).imp And.right⟩
theorem mX{rs:List Rw}(h:Ns rs){m:Nat}(b:∀r∈rs,1<=r.s/\r.s<=m):rs.length<=m:=by
 have:=List.Nodup.length_le_of_subset (l₁:=rs.map Rw.s) (l₂:=List.range' 1 m) (List.pairwise_map.mpr h) λx c=>by
  obtain⟨r,d,rfl⟩:=bz c
  exact List.mem_range'_1.mpr (by have:=b r d;exact⟨n1 [_] Fb Fb rfl this.1,n1 [_,_] (.le (.a (.v 0) (.n 1)) (.a (.n 1) (.v 1))) J0 rfl this.2⟩)
 rwa [List.length_map,List.length_range']at this
theorem Gv.rows_len(h:Gv unit Z V):(cj V).length<=Z:=mX h.ns λr a=>by obtain⟨j,f,b,a⟩:=aZ.mp a;exact h.sl j f b r a
theorem lM{fs:List FM}(h:∀f∈fs,1<=f.rows.length):fs.length<=(fs.flatMap FM.rows).length:=by
 induction fs with
 |nil=>exact Nat.le_refl _
 |cons f fs a=>rw[List.flatMap_cons,List.length_append,List.length_cons,Nat.add_comm];exact Nat.add_le_add (h f (.head _)) (a λg b=>h g (.tail _ b))
theorem Gv.files_len(h:Gv unit Z V):(V.lv.flatMap bM.fs).length<=Z:=Nat.le_trans (lM λf a=>by obtain⟨j,b⟩:=fS a;exact(h.gf j f b).pos) h.rows_len
theorem Gv.frows(h:Gv unit Z V){j:Nat}(a:f∈bU V j):f.rows.length<=Z:=mX (h.gf j f a).ns (h.sl j f a)
theorem Gv.sm(h:Gv unit Z V)(l9:Z<=9):rB V:=⟨h.n.2,Nat.le_trans h.files_len (Nat.le_trans l9 (by decide))⟩
theorem Gv.vrd(h:Gv unit Z V)(l9:Z<=9):Ag V where
 sm:=h.sm l9
 ok:=λL a f b=>by obtain⟨j,c⟩:=gX a b;exact(h.gf j f c).fok
 ord:=λL a f b=>by obtain⟨j,c⟩:=gX a b;exact(h.gf j f c).ord
 ap:=λk L e d=>by have:=h.so k;rw[bO d]at this;exact this.imp λh=>by unfold bA at h;rw[if_neg (Nat.ne_of_gt e)]at h;exact h
 ne:=Nat.lt_of_lt_of_le (by decide) h.n.1
theorem jx:nums V=(V.lv.flatMap bM.fs).map λf=>(f.num:Int):=by unfold nums;rw[List.map_flatMap];rfl
theorem Gv.nums(h:Gv unit Z V):(nums V).Nodup:=jx (V:=V)▸List.pairwise_map.mpr ((qT h.d1 h.d2).imp λd e=>d.1 (cY e))
theorem Gv.ck(h:Gv unit Z V)(l9:Z<=9):LV V:=⟨h.sm l9,h.nums,(h.vrd l9).ok,λL a f b=>by obtain⟨j,c⟩:=gX a b;exact(h.gf j f c).cmp,λk L e=>bO e▸h.so k⟩
theorem Gv.fsz(h:Gv unit Z V)(l9:Z<=9)(a:0<=unit)(g:unit<2 ^ 30):∀L∈V.lv,Fm L.fs:=λL d f c=>by
 obtain⟨j,b⟩:=gX d c
 have e:=(h.gf j f b).sz
 have l:=Nat.le_trans (h.frows b) l9
 rw[e]
 refine⟨Int.mul_nonneg (Int.natCast_nonneg _) a,Int.lt_of_le_of_lt (Int.mul_le_mul_of_nonneg_right (bF l) a) ?_⟩
 exact Int.lt_of_le_of_lt (Int.mul_le_mul_of_nonneg_left (Int.le_of_lt g) (by decide)) (by decide)
end
end
section
noncomputable def gL(R:List Rw)(u s:Nat):Option Rw->Prop
 |some r=>r∈R/\r.u=u/\r.s<=s/\∀q∈R,q.u=u->q.s<=s->q.s<=r.s
 |none=>∀q∈R,q.u=u->¬q.s<=s
theorem gL.same{R a:List Rw}{u s:Nat}{o:Option Rw}(h:gL R u s o)(d:∀q∈R,q∈a)(c:∀q∈a,q.u=u->q.s<=s->q∈R):gL a u s o:=by
 cases o with
 |none=>exact λq b e l=>h q (c q b e l) e l
 |some r=>exact⟨d r h.1,h.2.1,h.2.2.1,λq b e l=>h.2.2.2 q (c q b e l) e l⟩
theorem gL.uniq{R:List Rw}{u s:Nat}{o o':Option Rw}(ns:Ns R)(h:gL R u s o)(h':gL R u s o'):o=o':=by
 cases o with
 |none=>cases o' with
  |none=>rfl
  |some r=>exact(h r h'.1 h'.2.1 h'.2.2.1).elim
 |some r=>cases o' with
  |none=>exact(h' r h.1 h.2.1 h.2.2.1).elim
  |some q=>exact congrArg some (ns.inj h.1 h'.1 (Nat.le_antisymm (h'.2.2.2 r h.1 h.2.1 h.2.2.1) (h.2.2.2 q h'.1 h'.2.1 h'.2.2.1)))
section
variable {unit:Int} {Z:Nat} {V:bo} {f:FM} {u s:Nat}
theorem xJ(h:Gf unit f):gL f.rows u s (Ai u s f):=by
 unfold Ai ah
 cases e:f.rows.find? (λr=>decide (u<r.u∨(u=r.u/\r.s<=s)))with
 |none=>exact λq a b c=>List.find?_eq_none.mp e q a (decide_eq_true (.inr ⟨b.symm,c⟩))
 |some r=>
  obtain⟨p,i,j,b,c⟩:=List.find?_eq_some_iff_append.mp e
  have p:=of_decide_eq_true p
  have d:∀q∈f.rows,q.u=u->q.s<=s->q=r∨nV r q:=λq a x y=>by
   rw[b]at a
   rcases aE a with a|a
   ·have:=c q a
    rw[decide_eq_true (Or.inr ⟨x.symm,y⟩)]at this;cases this
   ·have g:=h.so
    rw[b]at g
    exact(au a).imp id ((List.pairwise_cons.mp (List.pairwise_append.mp g).2.1).1 q)
  dsimp only
  by_cases x:r.u=u
  ·rw[if_pos x]
   refine⟨List.mem_of_find?_eq_some e,x,p.elim (λl=>absurd x (Nat.ne_of_gt l)) And.right,λq a y z=>?_⟩
   exact(d q a y z).elim (λe=>e▸Nat.le_refl _) λl=>Nat.le_of_lt (l.s (x.trans y.symm))
  ·rw[if_neg x]
   intro q a y z
   rcases d q a y z with e|l
   ·exact x (e▸y)
   ·have:=l.le
    rcases p with p|p
    ·exact eK p (y▸this)
    ·exact x p.1.symm
theorem oM:∀{c:List FM},(∀f∈c,Gf unit f)->c.Pairwise oE->gL (c.flatMap FM.rows) u s (look u s c)
 |[],_,_=>λ_=>nM
 |f::c,g,n=>by
  have b:=xJ (u:=u) (s:=s) (g f (.head _))
  obtain⟨n1,n2⟩:=List.pairwise_cons.mp n
  have d:=oM (λf h=>g f (.tail _ h)) n2
  unfold look at d ⊢
  rw[List.findSome?_cons,List.flatMap_cons]
  cases e:Ai u s f with
  |some r=>
   rw[e]at b
   refine⟨List.mem_append_left _ b.1,b.2.1,b.2.2.1,λq a x y=>?_⟩
   rcases aE a with a|a
   ·exact b.2.2.2 q a x y
   ·obtain⟨i,j,a⟩:=jc a
    exact Nat.le_of_lt (n1 i j r b.1 q a (b.2.1.trans x.symm))
  |none=>
   rw[e]at b
   exact d.same (λq a=>List.mem_append_right _ a) λq a x y=>(aE a).elim (λa=>(b q a x y).elim) id
theorem j5{fs:List FM}{g:FM}(h:g∈cX u s fs):g∈fs:=by
 unfold cX at h
 cases e:fs.find? (λf=>decide (¬dw f.hi ⟨u,s,1,0⟩<0))with
 |none=>rw[e]at h;cases h
 |some f=>
  rw[e]at h;dsimp only at h
  by_cases x:f.lo.u<=u
  ·rw[if_pos x]at h;rw[aw h];exact List.mem_of_find?_eq_some e
  ·rw[if_neg x]at h;cases h
theorem vS{fs:List FM}{g:FM}(i:g∈fs)(t:zh fs)(r:∀f∈fs,Gf unit f){q:Rw}(a:q∈g.rows)(e:q.u=u)(l:q.s<=s):g∈cX u s fs:=by
 obtain⟨p,w,rfl⟩:=List.append_of_mem i
 have k:=r g i
 have no:∀f∈p,dw f.hi ⟨u,s,1,0⟩<0:=λf c=>by
  have:=(List.pairwise_append.mp t).2.2 f c g (.head _)
  have:f.hi.u<u:=Nat.lt_of_lt_of_le this (e▸k.lo_le a)
  unfold dw jY;rw[if_pos this];decide
 have yes:¬dw g.hi ⟨u,s,1,0⟩<0:=by
  intro x
  unfold dw jY at x
  have d:=k.le_hi a
  rw[if_neg (show¬g.hi.u<u by exact iG (m2 [_,_,_] J0 0 (-1) 1 (.eq (.v 2) (.v 0)) Aj rfl e d))]at x
  by_cases b:u<g.hi.u
  ·rw[if_pos b]at x;cases x
  ·rw[if_neg b]at x
   have o:g.hi.s<=s:=(k.le2 a).elim (λe=>e▸l) λh=>by have:=h.s (by exact Nat.le_antisymm (n1 [_,_] J0 J0 rfl d) (m2 [_,_,_] J0 0 (-1) 1 Lr J4 rfl e (nl b)));exact n2 [_,_,_] J0 Aj Fe rfl l this
   have m:=k.fok.2.k
   rw[if_neg (show¬cu s 1<cu g.hi.s g.hi.k by show¬((s:Int)*256+(1:Nat)<(g.hi.s:Int)*256+g.hi.k);exact fZ (Int.add_le_add (Int.mul_le_mul_of_nonneg_right (bF o) (by decide)) (bF (Nat.le_of_lt_succ m))))]at x
   by_cases j:cu g.hi.s g.hi.k<cu s 1
   ·rw[if_pos j]at x;cases x
   ·rw[if_neg j]at x;cases x
 unfold cX
 rw[List.find?_append,List.find?_eq_none.mpr λf c=>by rw[decide_eq_false λn=>n (no f c)];exact fT,Option.none_or,List.find?_cons,decide_eq_true yes]
 dsimp only
 rw[if_pos (show g.lo.u<=u from e▸k.lo_le a)];exact .head _
theorem vn{fs:List FM}{R:FM->FM->Prop}:(cX u s fs).Pairwise R:=by
 unfold cX
 cases fs.find? (λf=>decide (¬dw f.hi ⟨u,s,1,0⟩<0))with
 |none=>exact .nil
 |some f=>dsimp only;by_cases x:f.lo.u<=u<;>simp only[x,if_true,if_false]<;>first|exact List.pairwise_singleton _ _|exact .nil
theorem Gv.look(h:Gv unit Z V)(l9:Z<=9):gL (cj V) u s (look u s (fF u s V.lv)):=by
 have A:=h.vrd l9
 cases b:V.lv with
 |nil=>have:=h.n.1;rw[b]at this;cases this
 |cons L o=>
  have E:V.lv[0]?=some L:=by rw[b];rfl
  have z0:=bO E
  have B:∀M∈o,∃j:Nat,V.lv[j+1]?=some M:=λM c=>(List.getElem?_of_mem c).imp λj e=>by rw[b];exact e
  have y:∀f∈L.fs.reverse.filter (ue u),f∈bU V 0:=λf a=>z0▸List.mem_reverse.mp (fN a).1
  have v:∀f∈o.flatMap (λL=>cX u s L.fs),∃j,f∈bU V (j+1):=λf a=>by
   obtain⟨M,c,a⟩:=jc a
   obtain⟨j,e⟩:=B M c
   exact⟨j,bO e▸j5 a⟩
  have t:∀f∈fF u s (L::o),∃j,f∈bU V j:=λf a=>(aE a).elim (λa=>⟨0,y f a⟩) λa=>by obtain⟨j,e⟩:=v f a;exact⟨_,e⟩
  refine(oM (unit:=unit) (λf a=>by obtain⟨j,e⟩:=t f a;exact h.gf j f e) (List.pairwise_append.mpr ⟨?_,List.pairwise_flatMap.mpr ⟨λ_ _=>vn,?_⟩,λf a g p=>?_⟩)).same (λq d=>?_) λq d e l=>?_
  ·refine List.Pairwise.filter _ (List.pairwise_reverse.mpr ?_)
   have r:=h.so 0
   rw[z0]at r
   exact r.imp_of_mem λD z l=>h.r0 _ (z0▸D) _ (z0▸z) l
  ·refine List.pairwise_iff_getElem.mpr λi j I G x f a g p=>h.up (i+1) (j+1) (Nat.succ_lt_succ x) f ?_ g ?_
   ·exact(bO (V:=V) (j:=i+1) (by rw[b];exact List.getElem?_eq_getElem I)).symm▸j5 a
   ·exact(bO (V:=V) (j:=j+1) (by rw[b];exact List.getElem?_eq_getElem G)).symm▸j5 p
  ·obtain⟨j,e⟩:=v g p;exact h.up 0 (j+1) (Nat.succ_pos _) f (y f a) g e
  ·obtain⟨f,a,d⟩:=jc d
   obtain⟨j,e⟩:=t f a
   exact aZ.mpr ⟨j,f,e,d⟩
  ·obtain⟨j,f,a,m⟩:=aZ.mp d
   have w:=h.gf j f a
   refine List.mem_flatMap.mpr ⟨f,List.mem_append.mpr ?_,m⟩
   cases j with
   |zero=>exact .inl (List.mem_filter.mpr ⟨List.mem_reverse.mpr (z0▸a),by unfold ue;rw[decide_eq_true (e▸w.lo_le m),decide_eq_true (e▸w.le_hi m)];rfl⟩)
   |succ j=>
    obtain⟨M,k,c⟩:=dY a
    have J:M∈o:=by rw[b]at k;exact List.mem_of_getElem? (i:=j) k
    exact .inr (List.mem_flatMap.mpr ⟨M,J,vS c (A.ap _ M (Nat.succ_pos j) k) (λf a=>h.gf _ f (bO k▸a)) m e l⟩)
end
end
section
noncomputable def newL(V:bo)(E:Ed)(j:Nat):List FM:=cQ E j (bU V j)++cR E.al j
section
variable {unit:Int} {U Z:Nat} {V O:bo} {E:Ed}
theorem eA(m:iH V E O){j:Nat}(h:j<V.lv.length):(bU O j).Perm (newL V E j)/\(bU O j).Pairwise (bA j):=by
 have e:=List.getElem?_eq_getElem h
 obtain⟨c,a,p,b⟩:=m.l j _ e
 unfold newL
 rw[bO e,bO a];exact⟨p,b⟩
theorem bL(m:iH V E O){j:Nat}{f:FM}(h:f∈bU O j):j<V.lv.length/\f∈newL V E j:=by
 obtain⟨L,e,_⟩:=dY h
 have lt:j<V.lv.length:=m.n▸(be e).1
 exact⟨lt,(eA m lt).1.subset h⟩
theorem cW{j:Nat}{f:FM}{fs:List FM}(h:f∈cQ E j fs):f∈fs:=(fN h).1
structure Kv(unit:Int)(Z:Nat)(V:bo)(E:Ed):Prop where
 gf:∀j,∀f∈cR E.al j,Gf unit f/\∀r∈f.rows,1<=r.s/\r.s<=Z
 d1:∀j,(newL V E j).Pairwise vl
 d2:∀i j,i<j->∀f∈newL V E i,∀g∈newL V E j,vl f g/\oE f g
 r0:∀f∈newL V E 0,∀g∈newL V E 0,f.num<g.num->oE g f
 sep:∀j,(newL V E j).Pairwise λa b=>bA j a b∨bA j b a
theorem Kv.made(k:Kv unit Z V E)(g:Gv unit U V)(d:U<=Z)(m:iH V E O):Gv unit Z O where
 n:=m.n▸g.n
 gf:=λj f a=>(aE (bL m a).2).elim (λh=>g.gf j f (cW h)) λh=>(k.gf j f h).1
 so:=λj=>by
  cases e:O.lv[j]? with
  |none=>unfold bU;rw[e];exact .nil
  |some L=>exact(eA m (m.n▸(be e).1)).2
 d1:=λj=>by
  cases e:O.lv[j]? with
  |none=>unfold bU;rw[e];exact .nil
  |some L=>exact(eA m (m.n▸(be e).1)).1.symm.pairwise (k.d1 j) vl.symm
 d2:=λi j h f a q b=>(k.d2 i j h f (bL m a).2 q (bL m b).2).1
 sl:=λj f a r c=>(aE (bL m a).2).elim (λh=>⟨(g.sl j f (cW h) r c).1,Nat.le_trans (g.sl j f (cW h) r c).2 d⟩) λh=>(k.gf j f h).2 r c
 up:=λi j h f a q b=>(k.d2 i j h f (bL m a).2 q (bL m b).2).2
 r0:=λf a q b=>k.r0 f (bL m a).2 q (bL m b).2
theorem Kv.mok(k:Kv unit Z V E)(g:Gv unit U V)(b:U<=Z)(l9:Z<=9):Nk V E where
 gd:=λj L e f a=>by
  have a:f∈newL V E j:=by unfold newL;rw[bO e];exact a
  exact(aE a).elim (λh=>⟨(g.gf j f (cW h)).fok,(g.gf j f (cW h)).ord⟩) λh=>⟨(k.gf j f h).1.fok,(k.gf j f h).1.ord⟩
 sep:=λj L e=>by have:=k.sep j;unfold newL at this;rw[bO e]at this;exact this
 so:=λj L e=>bO e▸g.so j
 nw:=λj L e f a q c=>by
  have:=k.d1 j
  unfold newL at this
  rw[bO e]at this
  exact((List.pairwise_append.mp this).2.2 f a q c).1
 ck:=λO m=>(k.made g b m).ck l9
theorem oJ(m:iH V E O)(c:∀j,cR E.al j≠[]->j<V.lv.length){r:Rw}:r∈cj O↔∃j,∃f∈newL V E j,r∈f.rows:=by
 refine aZ.trans ⟨λ⟨j,f,a,b⟩=>⟨j,f,(bL m a).2,b⟩,λ⟨j,f,a,b⟩=>?_⟩
 have lt:j<V.lv.length:=by
  rcases aE a with h|h
  ·obtain⟨L,e,_⟩:=dY (cW h);exact(be e).1
  ·exact c j (List.ne_nil_of_mem h)
 exact⟨j,f,(eA m lt).1.symm.subset a,b⟩
end
theorem hJ{k:Nat}:∀{al:List (Addr×Nat×FM)} {fs:List FM},al.map (·.2)=fs.map (λf=>(k,f))->∀j,cR al j=if j=k then fs else[]
 |[],[],_,j=>by unfold cR;by_cases h:j=k<;>simp[h]
 |[],_::_,h,_=>nomatch h
 |_::_,[],h,_=>nomatch h
 |p::al,f::fs,h,j=>by
  obtain⟨b,c⟩:=List.cons.inj h
  have b:p.2=(k,f):=b
  have a:=hJ c j
  unfold cR at a ⊢
  rw[List.filter_cons,b]
  by_cases e:j=k
  ·rw[if_pos e]at a ⊢
   rw[if_pos (decide_eq_true e.symm),List.map_cons,a,b]
  ·rw[if_neg e]at a ⊢
   rw[if_neg (by rw[decide_eq_false λx=>e x.symm];exact fT),a]
theorem qX{E:Ed}(h:E.dl=[])(j:Nat)(fs:List FM):cQ E j fs=fs:=by
 unfold cQ kT;rw[h]
 exact List.filter_eq_self.mpr λ_ _=>rfl
theorem y9{unit:Int}{U Z p:Nat}{V:bo}{E:Ed}{f:FM}(g:Gv unit U V)(A:U<=Z)(hd:E.dl=[])(u:E.al=[(p,0,f)])(y:Gf unit f)(n:∀r∈f.rows,U<r.s/\r.s<=Z)(num:∀j,∀g∈bU V j,g.num<f.num):Kv unit Z V E:=by
 have w:∀j,cR E.al j=if j=0 then[f] else[]:=hJ (by rw[u];rfl)
 have t:∀j,newL V E j=bU V j++if j=0 then[f] else[]:=λj=>by unfold newL;rw[qX hd,w]
 have m:∀j q,q∈newL V E j->q∈bU V j∨(j=0/\q=f):=λj q e=>by
  rw[t]at e
  refine(aE e).imp id λh=>?_
  by_cases z:j=0
  ·rw[if_pos z]at h;exact⟨z,aw h⟩
  ·rw[if_neg z]at h;cases h
 have v:∀j,∀q∈bU V j,vl f q/\oE f q:=λj q e=>⟨⟨Nat.ne_of_gt (num j q e),λr k x o=>Nat.ne_of_gt (Nat.lt_of_le_of_lt (g.sl j q e x o).2 (n r k).1)⟩,λr k x o _=>Nat.lt_of_le_of_lt (g.sl j q e x o).2 (n r k).1⟩
 refine⟨λj q e=>?_,λj=>?_,λi j h a c b d=>?_,λa c b d l=>?_,λj=>?_⟩
 ·rw[w]at e
  by_cases z:j=0
  ·rw[if_pos z]at e;rw[aw e];exact⟨y,λr k=>⟨Nat.lt_of_le_of_lt (Nat.zero_le _) (n r k).1,(n r k).2⟩⟩
  ·rw[if_neg z]at e;cases e
 ·rw[t]
  by_cases z:j=0
  ·rw[if_pos z];exact List.pairwise_append.mpr ⟨g.d1 j,List.pairwise_singleton _ _,λa c b d=>by rw[aw d];exact(v j a c).1.symm⟩
  ·rw[if_neg z,List.append_nil];exact g.d1 j
 ·rcases m j b d with d|⟨z,_⟩
  ·rcases m i a c with c|⟨_,rfl⟩
   ·exact⟨g.d2 i j h a c b d,g.up i j h a c b d⟩
   ·exact v j b d
  ·exact(Nat.not_lt_zero i (z▸h)).elim
 ·rcases m 0 b d with d|⟨_,rfl⟩
  ·rcases m 0 a c with c|⟨_,rfl⟩
   ·exact g.r0 a c b d l
   ·exact absurd l (iG (Nat.le_of_lt (num 0 b d)))
  ·rcases m 0 a c with c|⟨_,rfl⟩
   ·exact(v 0 a c).2
   ·exact(Nat.lt_irrefl _ l).elim
 ·rw[t]
  by_cases z:j=0
  ·rw[if_pos z]
   refine List.pairwise_append.mpr ⟨(g.so j).imp .inl,List.pairwise_singleton _ _,λa c b d=>?_⟩
   rw[aw d]
   unfold bA;rw[if_pos z];exact .inl (num j a c)
  ·rw[if_neg z,List.append_nil];exact(g.so j).imp .inl
end
section
noncomputable abbrev jZ(Z U:List FM):List Rw:=(Z++U).flatMap FM.rows
structure eS(V:bo)(k:Nat)(Z U:List FM):Prop where
 kn:k+1<V.lv.length
 i0:∀f∈Z,f∈bU V k
 i1:∀f∈U,f∈bU V (k+1)
 c2:∀g∈bU V k,g∉Z->∀f∈Z,∀r∈f.rows,∀q∈g.rows,r.u≠q.u
 c3:∀g∈bU V (k+1),g∉U->(∀r∈jZ Z U,g.hi.u<r.u)∨∀r∈jZ Z U,r.u<g.lo.u
 pd:(Z++U).Pairwise vl
section
variable {unit:Int} {O k N:Nat} {V V':bo} {Z U fs:List FM} {E:Ed}
theorem CR{j:Nat}(h:(bU V j).Pairwise (bA j))(c:0<j){f g:FM}(d:f∈bU V j)(e:g∈bU V j)(n:f≠g):f.hi.u<g.lo.u∨g.hi.u<f.lo.u:=by
 have:=ux (R:=λa b=>bA j a b∨bA j b a) (λ_ _=>Or.symm) (h.imp .inl) f d g e n
 unfold bA at this
 rw[if_neg (Nat.ne_of_gt c),if_neg (Nat.ne_of_gt c)]at this;exact this
theorem AN(g:Gv unit O V)(s:ve V k Z U):eS V k Z U:=by
 obtain⟨L0,K,e0,B,sb,ne,cl,lo,p,R,rfl⟩:=s.s
 have z0:=bO e0
 have z1:=bO B
 have i:∀f∈Z,f∈bU V k:=λf c=>z0▸sb.subset c
 have t:∀f∈K.fs.filter (cK lo p),f∈bU V (k+1):=λf c=>z1▸(fN c).1
 have w:∀f g:FM,Gf unit f->Gf unit g->g.hi.u<f.lo.u∨f.hi.u<g.lo.u->∀r∈f.rows,∀q∈g.rows,r.u≠q.u:=λf g c D h r d q Q e=>by
  have m:=c.lo_le d
  have v:=c.le_hi d
  have h3:=D.lo_le Q
  have W:=D.le_hi Q
  exact h.elim (λz=>eK z (Nat.le_trans m (Nat.le_trans (Nat.le_of_eq e) W))) λz=>eK z (Nat.le_trans h3 (Nat.le_trans (Nat.le_of_eq e.symm) v))
 refine⟨(be B).1,i,t,λx j n f c=>w f x (g.gf k f (i f c)) (g.gf k x j) ?_,λx j n=>?_,List.pairwise_append.mpr ⟨(z0▸g.d1 k).sublist sb,(z1▸g.d1 (k+1)).filter _,λa ha b Y=>g.d2 k (k+1) (Nat.lt_succ_self k) a (i a ha) b (t b Y)⟩⟩
 ·by_cases J:k=0
  ·exact cl J x (z0▸j) n f c
  ·exact CR (g.so k) (Nat.pos_of_ne_zero J) j (i f c) λe=>n (e▸c)
 ·have gx:=g.gf _ x j
  have G:¬(lo<=x.hi.u/\x.lo.u<=p):=λh=>n (List.mem_filter.mpr ⟨z1▸j,by unfold cK;rw[decide_eq_true h.1,decide_eq_true h.2];rfl⟩)
  have y:∀f∈Z,∀r∈f.rows,lo<=r.u/\r.u<=p:=λf c r d=>⟨Nat.le_trans (R f c).1 ((g.gf k f (i f c)).lo_le d),Nat.le_trans ((g.gf k f (i f c)).le_hi d) (R f c).2⟩
  have lh:lo<=p:=by
   cases Z with
   |nil=>exact(ne rfl).elim
   |cons f l=>have:=y f (.head _) _ (g.gf k f (i f (.head _))).lm;exact n2 [_,_,_] J0 J4 Aj rfl this.1 this.2
  have I:∀f∈K.fs.filter (cK lo p),(lo<=f.hi.u/\f.lo.u<=p)/\(x.hi.u<f.lo.u∨f.hi.u<x.lo.u):=λf c=>by
   have o:=(fN c).2
   unfold cK at o
   rw[Bool.and_eq_true]at o
   exact⟨⟨of_decide_eq_true o.1,of_decide_eq_true o.2⟩,CR (g.so _) (Nat.succ_pos k) j (t f c) λe=>n (e▸c)⟩
  have A:=gx.ord
  by_cases a:x.hi.u<lo
  ·refine .inl ?_
   intro r d
   obtain⟨f,c,d⟩:=jc d
   rcases aE c with c|c
   ·exact Nat.lt_of_lt_of_le a (y f c r d).1
   ·have m:=I f c
    have v:=(g.gf _ f (t f c)).lo_le d
    exact m.2.elim (λz=>Nat.lt_of_lt_of_le z v) λz=>(eK (Nat.lt_of_lt_of_le z A) (Nat.le_trans (Nat.le_of_lt a) m.1.1)).elim
  ·refine .inr ?_
   intro r d
   obtain⟨f,c,d⟩:=jc d
   rcases aE c with c|c
   ·have:=(y f c r d).2;exact Nat.lt_of_le_of_lt this (ng λz=>G ⟨nl a,z⟩)
   ·have m:=I f c
    have v:=(g.gf _ f (t f c)).le_hi d
    exact m.2.elim (λz=>absurd (Nat.le_trans A (Nat.le_trans (Nat.le_of_lt z) m.1.2)) λq=>G ⟨nl a,q⟩) λz=>Nat.lt_of_le_of_lt v z
structure jG(unit:Int)(V:bo)(k N:Nat)(Z U fs:List FM)(E:Ed):Prop where
 ed:E.dl.map (·.2)=Z.map (λf=>(k,f.num))++U.map λf=>(k+1,f.num)
 ea:E.al.map (·.2)=fs.map λf=>(k+1,f)
 sub:∀f∈fs,∀r∈f.rows,r∈jZ Z U
 gf:∀f∈fs,Gf unit f
 fd:fs.Pairwise λf g=>f.num≠g.num/\∀r∈f.rows,∀q∈g.rows,r.u<q.u/\r.s≠q.s
 nn:∀f∈fs,∀j,∀g∈bU V j,(j=k->g∉Z)->(j=k+1->g∉U)->f.num≠g.num
 drop:∀r∈jZ Z U,r∉fs.flatMap FM.rows->(∃q∈jZ Z U,q.u=r.u/\r.s<q.s/\q.s<=N)∨(r.k=0/\r.s<=N/\o8 V k r.u/\∀q∈fs.flatMap FM.rows,q.u=r.u->¬q.s<r.s)
theorem nK(c:eS V k Z U){r:Rw}(h:r∈jZ Z U):(∃f∈Z,f∈bU V k/\r∈f.rows)∨∃f∈U,f∈bU V (k+1)/\r∈f.rows:=by
 obtain⟨f,a,b⟩:=jc h
 exact(aE a).imp (λa=>⟨f,a,c.i0 f a,b⟩) λa=>⟨f,a,c.i1 f a,b⟩
theorem r8(g:Gv unit O V)(c:eS V k Z U)(x:jG unit V k N Z U fs E){j:Nat}{f:FM}(m:f∈bU V j):kT E.dl j f=true↔(j=k/\f∈Z)∨(j=k+1/\f∈U):=by
 have e:kT E.dl j f=(E.dl.map (·.2)).any λp=>decide (p.1=j/\p.2=f.num):=by unfold kT;rw[List.any_map];rfl
 rw[e,x.ed,List.any_eq_true]
 have one:∀{i:Nat} {h:FM},h∈bU V i->i=j->h.num=f.num->h=f:=λ{i h} b a l=>Classical.byContradiction λn=>(g.dd b m (.inl n)).1 l
 constructor
 ·rintro⟨p,d,e⟩
  obtain⟨a,l⟩:=of_decide_eq_true e
  rcases aE d with d|d
  ·obtain⟨h,b,rfl⟩:=bz d
   exact .inl ⟨a.symm,one (c.i0 h b) a l▸b⟩
  ·obtain⟨h,b,rfl⟩:=bz d
   exact .inr ⟨a.symm,one (c.i1 h b) a l▸b⟩
 ·rintro(⟨a,h⟩|⟨a,h⟩)
  ·exact⟨_,List.mem_append_left _ (dq ⟨f,h,rfl⟩),decide_eq_true ⟨a.symm,rfl⟩⟩
  ·exact⟨_,List.mem_append_right _ (dq ⟨f,h,rfl⟩),decide_eq_true ⟨a.symm,rfl⟩⟩
theorem dK(g:Gv unit O V)(c:eS V k Z U)(x:jG unit V k N Z U fs E){j:Nat}{f:FM}:f∈cQ E j (bU V j)↔f∈bU V j/\(j=k->f∉Z)/\(j=k+1->f∉U):=by
 refine List.mem_filter.trans ⟨λ⟨a,b⟩=>⟨a,?_⟩,λ⟨a,b,d⟩=>⟨a,?_⟩⟩
 ·have n:¬kT E.dl j f=true:=λe=>by rw[e]at b;cases b
  rw[r8 g c x a]at n
  exact⟨λe h=>n (.inl ⟨e,h⟩),λe h=>n (.inr ⟨e,h⟩)⟩
 ·have n:¬kT E.dl j f=true:=λe=>((r8 g c x a).mp e).elim (λh=>b h.1 h.2) λh=>d h.1 h.2
  cases e:kT E.dl j f with
  |true=>exact(n e).elim
  |false=>rfl
theorem df(x:jG unit V k N Z U fs E){j:Nat}{f:FM}:f∈newL V E j↔f∈cQ E j (bU V j)∨(j=k+1/\f∈fs):=by
 unfold newL
 rw[hJ x.ea,List.mem_append]
 refine or_congr Iff.rfl ?_
 by_cases e:j=k+1
 ·rw[if_pos e];exact⟨λh=>⟨e,h⟩,And.right⟩
 ·rw[if_neg e];exact⟨nM,λh=>(e h.1).elim⟩
end
end
section
section
variable {unit:Int} {O k J:Nat} {V N:bo} {U Z fs:List FM} {E:Ed}
theorem eH(c:eS V k U Z){r:Rw}(h:r∈jZ U Z):r∈cj V:=(nK c h).elim (λ⟨f,_,a,b⟩=>aZ.mpr ⟨_,f,a,b⟩) λ⟨f,_,a,b⟩=>aZ.mpr ⟨_,f,a,b⟩
theorem yX(g:Gv unit O V)(c:eS V k U Z)(x:jG unit V k J U Z fs E){j:Nat}{h:FM}(p:h∈cQ E j (bU V j)){r q:Rw}(a:r∈jZ U Z)(m:q∈h.rows):r.s≠q.s:=by
 obtain⟨l,n,o⟩:=(dK g c x).mp p
 rcases nK c a with⟨f,d,i,a⟩|⟨f,d,i,a⟩
 ·exact(g.dd i l (Classical.or_iff_not_imp_right.mpr λe b=>n (Classical.not_not.mp e).symm (b▸d))).2 r a q m
 ·exact(g.dd i l (Classical.or_iff_not_imp_right.mpr λe b=>o (Classical.not_not.mp e).symm (b▸d))).2 r a q m
theorem uO(g:Gv unit O V)(c:eS V k U Z)(x:jG unit V k J U Z fs E):Kv unit O V E:=by
 have st:∀{j f},f∈cQ E j (bU V j)->f∈bU V j:=λh=>cW h
 have B:∀{j h f},h∈cQ E j (bU V j)->f∈fs->vl f h:=λ{j h f} A p=>by
  obtain⟨t,z,y⟩:=(dK g c x).mp A
  exact⟨x.nn f p j h t z y,λr n q s=>yX g c x A (x.sub f p r n) s⟩
 have w:=hJ x.ea
 refine⟨λj f p=>?_,λj=>?_,λi j l a G b v=>?_,λa o b d l=>?_,λj=>?_⟩
 ·rw[w]at p
  by_cases e:j=k+1
  ·rw[if_pos e]at p
   refine⟨x.gf f p,λr n=>?_⟩
   obtain⟨i,h,A,n⟩:=aZ.mp (eH c (x.sub f p r n))
   exact g.sl i h A r n
  ·rw[if_neg e]at p;cases p
 ·unfold newL
  refine List.pairwise_append.mpr ⟨(g.d1 j).filter _,?_,λa o b d=>?_⟩
  ·rw[w]
   by_cases e:j=k+1
   ·rw[if_pos e];exact x.fd.imp λh=>⟨h.1,λr n q s=>(h.2 r n q s).2⟩
   ·rw[if_neg e];exact .nil
  ·rw[w]at d
   by_cases e:j=k+1
   ·rw[if_pos e]at d;exact(B o d).symm
   ·rw[if_neg e]at d;cases d
 ·rcases(df x).mp G with o|⟨ei,o⟩
  ·rcases(df x).mp v with d|⟨D,d⟩
   ·exact⟨g.d2 i j l a (st o) b (st d),g.up i j l a (st o) b (st d)⟩
   ·refine⟨(B o d).symm,λr n q s e=>?_⟩
    subst D
    obtain⟨t,z,y⟩:=(dK g c x).mp o
    rcases nK c (x.sub b d q s)with⟨f,p,u,s⟩|⟨f,p,u,s⟩
    ·rcases Nat.lt_or_eq_of_le (Nat.le_of_lt_succ l)with l|rfl
     ·exact g.up i k l a t f u r n q s e
     ·exact(c.c2 a t (z rfl) f p q s r n e.symm).elim
    ·exact g.up i (k+1) l a t f u r n q s e
  ·rcases(df x).mp v with d|⟨D,_⟩
   ·refine⟨B d o,λr n q s e=>?_⟩
    subst ei
    rcases nK c (x.sub a o r n)with⟨f,p,u,n⟩|⟨f,p,u,n⟩
    ·exact g.up k j (Nat.lt_of_succ_lt l) f u b (st d) r n q s e
    ·exact g.up (k+1) j l f u b (st d) r n q s e
   ·exact absurd (ei.trans D.symm) (Nat.ne_of_lt l)
 ·have m:∀{f},f∈newL V E 0->f∈bU V 0:=λh=>((df x).mp h).elim st λh=>(Nat.succ_ne_zero _ h.1.symm).elim
  exact g.r0 a (m o) b (m d) l
 ·unfold newL
  refine List.pairwise_append.mpr ⟨((g.so j).filter _).imp .inl,?_,λa o b d=>?_⟩
  ·rw[w]
   by_cases e:j=k+1
   ·rw[if_pos e]
    refine x.fd.imp_of_mem λo d h=>.inl ?_
    unfold bA
    rw[if_neg (by exact Nat.ne_of_gt (m1 [_,_] CL 0 (-1) GE rfl e))]
    exact(h.2 _ (x.gf _ o).hm _ (x.gf _ d).lm).1
   ·rw[if_neg e];exact .nil
  ·rw[w]at d
   by_cases e:j=k+1
   ·rw[if_pos e]at d
    subst e
    obtain⟨t,z,y⟩:=(dK g c x).mp o
    unfold bA
    rw[if_neg (Nat.succ_ne_zero k),if_neg (Nat.succ_ne_zero k)]
    exact(c.c3 a t (y rfl)).imp (λh=>h _ (x.sub b d _ (x.gf b d).lm)) λh=>h _ (x.sub b d _ (x.gf b d).hm)
   ·rw[if_neg e]at d;cases d
theorem iz(g:Gv unit O V)(c:eS V k U Z)(x:jG unit V k J U Z fs E)(m:iH V E N){r:Rw}:r∈cj N↔(∃j,∃f∈cQ E j (bU V j),r∈f.rows)∨r∈fs.flatMap FM.rows:=by
 refine(oJ m λj h=>?_).trans ⟨λ⟨j,f,a,b⟩=>((df x).mp a).imp (λa=>⟨j,f,a,b⟩) λh=>List.mem_flatMap.mpr ⟨f,h.2,b⟩,λh=>h.elim (λ⟨j,f,a,b⟩=>⟨j,f,(df x).mpr (.inl a),b⟩) λh=>?_⟩
 ·rw[hJ x.ea]at h
  by_cases e:j=k+1
  ·rw[e];exact c.kn
  ·rw[if_neg e]at h;exact(h rfl).elim
 ·obtain⟨f,a,b⟩:=jc h
  exact⟨k+1,f,(df x).mpr (.inr ⟨rfl,a⟩),b⟩
theorem vG(g:Gv unit O V)(c:eS V k U Z)(x:jG unit V k J U Z fs E)(m:iH V E N){u s:Nat}(hs:J<=s){o:Option Rw}(h:gL (cj V) u s o):∃o',gL (cj N) u s o'/\fP o'=fP o:=by
 have sub:∀q∈cj N,q∈cj V:=λq b=>((iz g c x m).mp b).elim (λ⟨j,f,w,v⟩=>aZ.mpr ⟨j,f,cW w,v⟩) λb=>by
  obtain⟨f,w,v⟩:=jc b
  exact eH c (x.sub f w q v)
 cases o with
 |none=>exact⟨none,λq b=>h q (sub q b),rfl⟩
 |some r=>
  by_cases v:r∈cj N
  ·exact⟨some r,⟨v,h.2.1,h.2.2.1,λq b=>h.2.2.2 q (sub q b)⟩,rfl⟩
  ·have n1:r∉fs.flatMap FM.rows:=λe=>v ((iz g c x m).mpr (.inr e))
   have A:r∈jZ U Z:=by
    obtain⟨j,f,w,I⟩:=aZ.mp h.1
    refine Classical.byContradiction λn=>v ((iz g c x m).mpr (.inl ⟨j,f,(dK g c x).mpr ⟨w,λ_ e=>n ?_,λ_ e=>n ?_⟩,I⟩))
    ·exact List.mem_flatMap.mpr ⟨f,List.mem_append_left _ e,I⟩
    ·exact List.mem_flatMap.mpr ⟨f,List.mem_append_right _ e,I⟩
   rcases x.drop r A n1 with⟨q,b,e1,e2,e3⟩|⟨k0,_,Y,old⟩
   ·exact absurd (h.2.2.2 q (eH c b) (e1.trans h.2.1) (Nat.le_trans e3 hs)) (eK e2)
   ·refine⟨none,λq b e l=>?_,by show AV.none=if r.k=0 then AV.none else _;rw[if_pos k0]⟩
    have W:=sub q b
    have i:q.u=r.u:=e.trans h.2.1.symm
    have lt:q.s<r.s:=Nat.lt_of_le_of_ne (h.2.2.2 q W e l) λz=>v (g.ns.inj W h.1 z▸b)
    rcases(iz g c x m).mp b with⟨j,f,w,a⟩|b
    ·obtain⟨t,f2,R⟩:=(dK g c x).mp w
     rcases nK c A with⟨d,hd,dl,B⟩|⟨d,hd,dl,B⟩
     ·rcases Nat.lt_trichotomy j k with y|rfl|y
      ·exact absurd (g.up j k y f t d dl q a r B i) (iG (Nat.le_of_lt lt))
      ·exact c.c2 f t (f2 rfl) d hd r B q a i.symm
      ·rcases Nat.lt_or_eq_of_le (show k+1<=j from y)with y|rfl
       ·obtain⟨L,D,K⟩:=dY t
        have p:=g.gf j f t
        exact Y j L y D f K ⟨i▸p.lo_le a,i▸p.le_hi a⟩
       ·have p:=g.gf _ f t
        have Q:=p.lo_le a
        have G:=p.le_hi a
        exact(c.c3 f t (R rfl)).elim (λh=>eK (h r A) (i▸G)) λh=>eK (h r A) (i▸Q)
     ·rcases Nat.lt_trichotomy j (k+1)with y|rfl|y
      ·exact absurd (g.up j (k+1) y f t d dl q a r B i) (iG (Nat.le_of_lt lt))
      ·have p:=g.gf _ f t
       have Q:=p.lo_le a
       have G:=p.le_hi a
       exact(c.c3 f t (R rfl)).elim (λh=>eK (h r A) (i▸G)) λh=>eK (h r A) (i▸Q)
      ·obtain⟨L,D,K⟩:=dY t
       have p:=g.gf j f t
       exact Y j L y D f K ⟨i▸p.lo_le a,i▸p.le_hi a⟩
    ·exact old q b i lt
theorem vp(g:Gv unit O V)(c:eS V k U Z)(x:jG unit V k J U Z fs E)(m:iH V E N){y:Int}:y∈nums N↔(y∈nums V/\y∉(U++Z).map λf=>(f.num:Int))∨y∈fs.map λf=>(f.num:Int):=by
 have o:∀{W:bo},y∈nums W↔∃j,∃f∈bU W j,(f.num:Int)=y:=λ{W}=>by
  rw[jx]
  exact List.mem_map.trans ⟨λ⟨f,a,e⟩=>by obtain⟨j,s⟩:=fS a;exact⟨j,f,s,e⟩,λ⟨j,f,a,e⟩=>⟨f,iB a,e⟩⟩
 rw[o,o]
 constructor
 ·rintro⟨j,f,a,rfl⟩
  rcases(df x).mp (bL m a).2 with h|⟨_,h⟩
  ·obtain⟨b,q,p⟩:=(dK g c x).mp h
   refine .inl ⟨⟨j,f,b,rfl⟩,λr=>?_⟩
   obtain⟨d,hd,e⟩:=bz r
   have e:=cY e
   rcases aE hd with hd|hd
   ·exact(g.dd (c.i0 d hd) b (Classical.or_iff_not_imp_right.mpr λz i=>q (Classical.not_not.mp z).symm (i▸hd))).1 e
   ·exact(g.dd (c.i1 d hd) b (Classical.or_iff_not_imp_right.mpr λz i=>p (Classical.not_not.mp z).symm (i▸hd))).1 e
  ·exact .inr (dq ⟨f,h,rfl⟩)
 ·have put:∀{j f},f∈newL V E j->j<V.lv.length->∃j,∃g∈bU N j,(g.num:Int)=f.num:=λ{j f} h l=>⟨j,f,(eA m l).1.symm.subset h,rfl⟩
  rintro(⟨⟨j,f,a,rfl⟩,n⟩|h)
  ·obtain⟨L,e,_⟩:=dY a
   refine put ((df x).mpr (.inl ((dK g c x).mpr ⟨a,λ_ h=>n ?_,λ_ h=>n ?_⟩))) (be e).1
   ·exact dq ⟨f,List.mem_append_left _ h,rfl⟩
   ·exact dq ⟨f,List.mem_append_right _ h,rfl⟩
  ·obtain⟨f,a,rfl⟩:=bz h
   exact put ((df x).mpr (.inr ⟨rfl,a⟩)) c.kn
end
end
section
variable {σ J:Hp}
section
variable {unit:Int} {Z N:Nat} {V:bo} {k:Nat} {O U fs:List FM} {E:Ed}
theorem zV{fs:List FM}{f:FM}(h:f∈fs):f.rows.Sublist (fs.flatMap FM.rows):=by
 obtain⟨s,t,e⟩:=List.append_of_mem h
 rw[e,List.flatMap_append,List.flatMap_cons]
 exact(List.sublist_append_left _ _).trans (List.sublist_append_right _ _)
theorem eS.ns(c:eS V k O U)(g:Gv unit Z V):Ns (jZ O U):=List.pairwise_flatMap.mpr ⟨λf a=>((aE a).elim (λh=>g.gf _ f (c.i0 f h)) λh=>g.gf _ f (c.i1 f h)).ns,c.pd.imp And.right⟩
theorem eS.len(c:eS V k O U)(g:Gv unit Z V):(jZ O U).length<=Z:=mX (c.ns g) λr a=>by
 obtain⟨j,f,b,a⟩:=aZ.mp (eH c a);exact g.sl j f b r a
theorem eS.ins_len(c:eS V k O U)(g:Gv unit Z V):(O++U).length<=Z:=Nat.le_trans (lM λf a=>((aE a).elim (λh=>g.gf _ f (c.i0 f h)) λh=>g.gf _ f (c.i1 f h)).pos) (c.len g)
theorem Bk{c:Cm}{tA gA:Addr}{ts m:List AV}{dl:List (Addr×Nat×Nat)}{al:List (Addr×Nat×FM)}{i:List Nat}(g:Gv unit Z c.V)(v:eS c.V c.k c.in0 c.in1)(Y:Lq σ J c tA gA ts m N unit dl al i)(lt:∀j,∀f∈bU c.V j,f.num<ts.length):
  ∃fs,jG unit c.V c.k N c.in0 c.in1 fs {c.E with dl:=dl,al:=al}/\(∀f∈fs,∀h∈c.in1,f.num≠h.num)/\(∃t2,m=ts++t2)/\
   ((fs=c.in0/\c.in1=[]/\i=[]/\m=ts)∨(i=(c.in0++c.in1).map FM.num/\fs.map FM.num=List.range' ts.length fs.length/\m.length=ts.length+fs.length/\∀f∈fs,kU J m f)):=by
 rcases Y.w with⟨f,p,u,A,I,y,G⟩|⟨A,y,fs,K,G,s,W,o,B,tl,tp,R⟩
 ·have Q:=v.i0 f (p▸.head _)
  refine⟨[f],⟨by rw[p,u];exact y,G,λx t r a=>?_,λx t=>?_,List.pairwise_singleton _ _,λx t j q b n1 _ e=>?_,λr a n=>?_⟩,λx _ q b=>?_,⟨[],by rw[List.append_nil,I]⟩,.inl ⟨p.symm,u,A,I⟩⟩
  ·rw[aw t]at a;exact List.mem_flatMap.mpr ⟨f,List.mem_append_left _ (p▸.head _),a⟩
  ·rw[aw t];exact g.gf _ f Q
  ·rw[aw t]at e
   refine(g.dd Q b (Classical.or_iff_not_imp_right.mpr λz z'=>n1 (Classical.not_not.mp z).symm (p▸z'▸.head _))).1 e
  ·rw[show jZ c.in0 c.in1=f.rows by unfold jZ;rw[p,u];exact List.append_nil _]at a
   exact(n (List.mem_flatMap.mpr ⟨f,.head _,a⟩)).elim
  ·rw[u]at b;cases b
 ·have D:=o.kk
  rw[List.append_nil]at D
  have keep:=o.keep
  have drop:=o.drop
  rw[List.append_nil]at keep drop
  have nz:Ns K:=(v.ns g).perm s
  have sb:∀f∈fs,f.rows.Sublist K:=λf d=>(zV d).trans D
  have num:∀f∈fs,ts.length<=f.num:=λf d=>by
   have:f.num∈List.range' ts.length fs.length:=B▸dq ⟨f,d,rfl⟩
   exact(List.mem_range'_1.mp this).1
  refine⟨fs,⟨y,G,λf d r a=>s.subset ((sb f d).subset a),λf d=>⟨W.sublist (sb f d),nz.sublist (sb f d),λr a=>?_,(o.ne f d).1,(o.ne f d).2.1,(o.ne f d).2.2⟩,?_,λf d j q b _ _=>Nat.ne_of_gt (Nat.lt_of_lt_of_le (lt j q b) (num f d)),λr a n=>?_⟩,λf d q b=>Nat.ne_of_gt (Nat.lt_of_lt_of_le (lt _ q (v.i1 q b)) (num f d)),tp,.inr ⟨A,B,tl,R⟩⟩
  ·obtain⟨j,q,b,a⟩:=aZ.mp (eH v (s.subset ((sb f d).subset a)))
   exact(g.gf j q b).ok r a
  ·have n1:fs.Pairwise λf g=>f.num≠g.num:=List.pairwise_map.mp (B▸List.nodup_range':(fs.map FM.num).Nodup)
   exact(n1.and (o.ap.and (List.pairwise_flatMap.mp (nz.sublist D)).2)).imp λh=>⟨h.1,λr a q b=>⟨h.2.1 r a q b,h.2.2 r a q b⟩⟩
  ·refine(drop r (s.symm.subset a) n).imp (λ⟨q,b,x⟩=>⟨q,s.subset b,x⟩) λ⟨k0,l,nc⟩=>⟨k0,l,nc,λq b e x=>?_⟩
   exact absurd (keep q b r (s.symm.subset a) e.symm x) (iG l)
theorem Ej(g:Gv unit Z V)(c:eS V k O U)(x:jG unit V k N O U fs E)(t:∀f∈fs,∀h∈U,f.num≠h.num)(l9:Z<=9):GC V.lv.length E:=by
 have s:∀p∈E.dl,(p.2.1=k/\∃f∈O,f.num=p.2.2)∨(p.2.1=k+1/\∃f∈U,f.num=p.2.2):=λp b=>by
  have:p.2∈E.dl.map (·.2):=dq ⟨p,b,rfl⟩
  rw[x.ed]at this
  rcases aE this with h|h
  ·obtain⟨f,a,e⟩:=bz h;rw[←e];exact .inl ⟨rfl,f,a,rfl⟩
  ·obtain⟨f,a,e⟩:=bz h;rw[←e];exact .inr ⟨rfl,f,a,rfl⟩
 have o:∀p∈E.al,p.2.1=k+1/\p.2.2∈fs:=λp b=>by
  have:p.2∈E.al.map (·.2):=dq ⟨p,b,rfl⟩
  rw[x.ea]at this
  obtain⟨f,a,e⟩:=bz this
  rw[←e];exact⟨rfl,a⟩
 have l:=c.kn
 have z:(E.al.map λp=>p.2.2.num)=fs.map FM.num:=by
  have:=congrArg (List.map λq:Nat×FM=>q.2.num) x.ea
  rw[List.map_map,List.map_map]at this;exact this
 have y:fs.length<=9:=by
  refine Nat.le_trans (lM λf a=>(x.gf f a).pos) (Nat.le_trans (mX (m:=Z) (List.pairwise_flatMap.mpr ⟨λf a=>(x.gf f a).ns,x.fd.imp λh r d q i=>(h.2 r d q i).2⟩) λr d=>?_) l9)
  obtain⟨f,a,d⟩:=jc d
  obtain⟨j,q,i,d⟩:=aZ.mp (eH c (x.sub f a r d))
  exact g.sl j q i r d
 refine⟨λp b=>(s p b).elim (λh=>by exact n2 [_,_,_] J2 GU Kl rfl l h.1) λh=>by exact n2 [_,_,_] J2 GU HN rfl l h.1,λp b=>by rw[(o p b).1];exact l,z▸List.pairwise_map.mpr (x.fd.imp And.left),λp b q i e w=>?_,?_,?_⟩
 ·obtain⟨A,u⟩:=o q i
  rcases s p b with⟨h,_⟩|⟨_,f,a,h⟩
  ·exact absurd (h.symm.trans (e.trans A)) (Nat.ne_of_lt (Nat.lt_succ_self k))
  ·exact t _ u f a (h.trans w).symm
 ·have:=congrArg List.length x.ed
  rw[List.length_map,List.length_append,List.length_map,List.length_map,←List.length_append]at this
  exact Nat.le_trans (Nat.le_of_eq this) (Nat.le_trans (c.ins_len g) (Nat.le_trans l9 (Nat.le_of_ble_eq_true rfl)))
 ·have:=congrArg List.length x.ea
  rw[List.length_map,List.length_map]at this
  exact n2 [_,_] nQ (.le (.v 1) (.n 9)) C1 rfl y this
end
end
section
variable {σ Z:Hp}
structure Fx where
 nA:Addr
 a:Int
 op:Op
 unit:Int
 o:Addr
 p:Addr
 pA:Addr
 ml:Addr
 la:Addr
 tA:Addr
 hA:Addr
 kA:Addr
 wA:Addr
 ns:List Int
structure St where
 V:bo
 sA:Addr
 last:Nat
 ts:List AV
 stand:List Int
 hs:List Hd
 ks:List Kp
 now:List AV
 made:Nat
 ms:List fc
 pts:List (Option Rw)
noncomputable def cells(F:Fx)(S:St):List (Addr×AO):=
 [(F.pA,.list (S.pts.map on)),(F.tA,.list S.ts),(F.hA,.list (S.hs.map Hd.v)),(F.kA,.list (S.ks.map Kp.v)),(F.wA,.list S.now),(S.sA,.list (S.stand.map .int)),(F.ml,.inst 8 [(5,.ref F.la),(6,.int S.made)]),(F.la,.list (S.ms.map fc.v))]
noncomputable def KG(m:fc):AO:=.inst 7 [(2,.int m.num),(3,.int m.seq),(4,.bool true)]
noncomputable def dM(F:Fx)(S:St):List (Addr×AO):=
 (F.nA,.list (F.ns.map .int))::(S.ms.map (λm=>(m.adr,KG m))++(S.hs.map (λh=>(h.ma,.list h.ms))++S.ks.map λk=>(k.r.ma,.list k.r.ms)))
noncomputable def iZ(F:Fx)(S:St):List Addr:=(cells F S).map (·.1)
structure Hf(F:Fx)(σ:Hp)(S:St):Prop where
 hop:fu σ F.op
 hP:ye σ F.p F.op.adr F.o
 hO:qG σ F.o
 hV:dP true σ S.V
 hd:∀h∈S.hs,B0 σ h
 it:∀j,∀f∈bU S.V j,kU σ S.ts f
 kp:∀k∈S.ks,σ k.r.adr=some (true,.tup [.ref k.r.V.adr,.int k.r.s,.ref k.r.ma,.ref k.na])/\σ k.na=some (true,.list (k.ns.map .int))/\dP true σ k.r.V/\∀j,∀f∈bU k.r.V j,kU σ S.ts f
structure Hl(F:Fx)(σ:Hp)(S:St):Prop where
 f:Hf F σ S
 cl:∀p∈cells F S,σ p.1=some (false,p.2)
 nd:(iZ F S).Nodup
 qu:∀p∈dM F S,σ p.1=some (false,p.2)/\p.1∉iZ F S
section
variable {F:Fx} {S U:St}
theorem Hf.fz(h:Hf F σ S)(z:Fz σ Z):Hf F Z S:=
 ⟨z _ _ h.hop,z _ _ h.hP,h.hO.fz z,h.hV.fz z,λx c=>z _ _ (h.hd x c),λj f b=>(h.it j f b).fz z,λk a=>⟨z _ _ (h.kp k a).1,z _ _ (h.kp k a).2.1,(h.kp k a).2.2.1.fz z,λj f b=>((h.kp k a).2.2.2 j f b).fz z⟩⟩
theorem Hl.up(h:Hl F σ S)(x:aK σ Z):Hl F Z S:=⟨h.f.fz x.fz,λp a=>x _ _ (h.cl p a),h.nd,λp a=>⟨x _ _ (h.qu p a).1,(h.qu p a).2⟩⟩
theorem Hl.d(h:Hl F σ S){i j:Nat}{x y:Addr}(hi:(iZ F S)[i]?=some x)(a:(iZ F S)[j]?=some y)(n:j≠i):y≠x:=gU h.nd hi a n
theorem Hl.m(h:Hl F σ S)(i:Nat){x:Addr}{o:AO}(hi:(cells F S)[i]?=some (x,o)):σ x=some (false,o):=h.cl _ (List.mem_of_getElem? hi)
def Fr(F:Fx)(S:St)(y:Addr):Prop:=y∉iZ F S/\∀p∈dM F S,p.1≠y
theorem Hl.fr(h:Hl F σ S){y:Addr}(e:σ y=none):Fr F S y:=by
 refine⟨λb=>?_,λp a x=>?_⟩
 ·obtain⟨p,a,rfl⟩:=bz b
  rw[h.cl p a]at e;cases e
 ·have:=(h.qu p a).1;rw[x,e]at this;cases this
theorem Hl.cell(h:Hl F σ S){i:Nat}{x:Addr}{o o':AO}{T:List Addr}(hi:(cells F S)[i]?=some (x,o))(m:Mo T σ Z)(hT:∀y∈T,y=x∨Fr F S y)(e:Z x=some (false,o'))(n:cells F U=(cells F S).set i (x,o'))(r:Hf F Z U)
  (q:∀p∈dM F U,p∈dM F S∨(Z p.1=some (false,p.2)/\p.1∉iZ F S)):Hl F Z U:=by
 have ce:iZ F U=iZ F S:=by
  unfold iZ
  rw[n,List.map_set]
  refine List.ext_getElem? λj=>?_
  by_cases b:i=j
  ·subst b
   rw[List.getElem?_set_self (by rw[List.length_map];exact(be hi).1),List.getElem?_map,hi];rfl
  ·rw[List.getElem?_set_ne b]
 have k:(iZ F S)[i]?=some x:=by unfold iZ;rw[List.getElem?_map,hi];rfl
 refine⟨r,λp a=>?_,ce▸h.nd,λp a=>?_⟩
 ·rw[n]at a
  obtain⟨j,c⟩:=List.getElem?_of_mem a
  by_cases b:i=j
  ·subst b
   rw[List.getElem?_set_self (be hi).1]at c
   cases c;exact e
  ·rw[List.getElem?_set_ne b]at c
   have g:(iZ F S)[j]?=some p.1:=by unfold iZ;rw[List.getElem?_map,c];rfl
   exact m _ _ (λf=>(hT _ f).elim (h.d k g (Ne.symm b)) λz=>z.1 (List.mem_of_getElem? g)) (h.m j c)
 ·rw[ce]
  rcases q p a with a|a
  ·obtain⟨s,l⟩:=h.qu p a
   exact⟨m _ _ (λf=>(hT _ f).elim (λy=>l (y▸List.mem_of_getElem? k)) λz=>z.2 p a rfl) s,l⟩
  ·exact a
theorem Hl.z(h:Hl F σ S){T:List Addr}(m:Mo T σ Z)(hT:∀y∈T,y∈iZ F S∨σ y=none):Fz σ Z:=λa o e=>m a _ (λb=>(hT a b).elim (λc=>by
 obtain⟨p,d,rfl⟩:=bz c
 rw[h.cl p d]at e;cases e) λn=>by rw[n]at e;cases e) e
end
structure Pl(F:Fx)(S:St):Prop where
 oo:iX F.op
 nl:F.op.nl=S.V.lv.length
 n0:0<F.ns.length/\F.ns.length<=9000
 u0:0<=F.unit/\F.unit<2 ^ 30
 gv:Gv F.unit S.last S.V
 so:zm S.V
 l9:S.last<=9
 me:S.ms=S.hs.map Hd.k
 mo:mj S.made S.ms
 hl:∀h∈S.hs,h.s<=S.last
 w4:S.now.length=4
 wt:∀u,u<4->∃o,gL (cj S.V) u S.last o/\S.now[u]?=some (fP o)
 ht:∀h∈S.hs,h.ms.length=4/\∀u,u<4->∃o,gL (cj S.V) u h.s o/\h.ms[u]?=some (fP o)
 kt:∀k∈S.ks,Gv F.unit k.r.s k.r.V/\k.r.s<=9/\k.ns.Perm (nums k.r.V)/\k.ns.Pairwise (·<=·)/\k.r.ms.length=4/\∀u,u<4->∃o,gL (cj k.r.V) u k.r.s o/\k.r.ms[u]?=some (fP o)
 sp:S.stand.Perm (nums S.V)
 ss:S.stand.Pairwise (·<=·)
 pl:S.pts.length=S.V.lv.length
 po:AL S.pts
 kl:S.ks.length<=100
 tl:S.ts.length<=100
noncomputable def lv(F:Fx)(S:St)(x:Nat->AV):aG:=
 [.ref F.nA,.int F.a,.ref F.op.adr,.int F.op.nl,.int F.unit,.ref F.o,.ref F.p,.ref F.pA,.ref S.V.adr,.ref F.ml,.ref F.tA,.ref S.sA,.ref F.hA,.ref F.kA,.ref F.wA,.int S.last,
  x 16,x 17,x 18,x 19,x 20,x 21,x 22,x 23,x 24,x 25,x 26,x 27,x 28,x 29,x 30,x 31,x 32,x 33,x 34,x 35,x 36,x 37,x 38]
end
section
variable {ext:bj} {σ Z:Hp} {F:Fx} {S U:St} {x:Nat->AV} {O:SS} {Q:Fl->aG->Hp->Prop}
theorem Pl.sm(p:Pl F S):rB S.V:=p.gv.sm p.l9
theorem Pl.kns(p:Pl F S){k:Kp}(h:k∈S.ks):k.ns.length<=60:=by
 obtain⟨g,s9,a,_⟩:=p.kt k h
 rw[a.length_eq,eP]
 exact Nat.le_trans g.files_len (Nat.le_trans s9 (by decide))
theorem wD{V:bo}{j:Nat}{f:FM}(h:f∈bU V j):(f.num:Int)∈nums V:=jx (V:=V)▸dq ⟨f,iB h,rfl⟩
theorem oS{n:Nat}(h:Hl F σ S)(p:Pl F S)(k:∀b:List AV,b.length=S.ts.length->Hl F (upd σ F.tA (false,.list b)) {S with ts:=b}->Pl F {S with ts:=b}->Go (cB ext (n+2)) O (lv F S x) (upd σ F.tA (false,.list b)) Q):
  Go (cB ext (n+2)) (.cons (.ex (.fn 84 (.cons (.v 10) (.cons (.v 8) (.cons (.v 13) .nil))))) O) (lv F S x) σ Q:=by
 have u:=h.m 1 rfl
 have c:=h.m 3 rfl
 refine dJ (aV (by left) (wc h.f.hV p.sm u c (bh p.tl rfl) p.kl (λk c=>⟨(h.f.kp k c).1,⟨_,(h.f.kp k c).2.1⟩,p.kns c⟩) (h.d (i:=1) (j:=3) rfl rfl (by decide)) (λk c e=>by have:=(h.f.kp k c).2.1;rw[e,u]at this;cases this) λb r s=>k b r (h.cell (i:=1) rfl ((Mo.refl [F.tA] σ).mut (.head _)) (λy o=>.inl (aw o)) ab rfl ?_ λq w=>.inl w) ?_))
 ·have z:=h.z ((Mo.refl [F.tA] σ).mut (d:=(false,.list b)) (.head _)) λy o=>.inl (by rw[aw o];exact .tail _ (.head _))
  have f:=h.f.fz z
  have t:∀{f:FM},b[f.num]?=S.ts[f.num]?->kU (upd σ F.tA (false,.list b)) S.ts f->kU (upd σ F.tA (false,.list b)) b f:=λe h=>h.imp λa h=>⟨e▸h.1,h.2⟩
  exact⟨f.hop,f.hP,f.hO,f.hV,f.hd,λj g l=>t (s _ (.inr (.inl (wD l)))) (f.it j g l),λk c=>⟨(f.kp k c).1,(f.kp k c).2.1,(f.kp k c).2.2.1,λj g l=>t (s _ (.inr (.inr ⟨k,c,(p.kt k c).2.2.1.symm.subset (wD l)⟩))) ((f.kp k c).2.2.2 j g l)⟩⟩
 ·exact⟨p.oo,p.nl,p.n0,p.u0,p.gv,p.so,p.l9,p.me,p.mo,p.hl,p.w4,p.wt,p.ht,p.kt,p.sp,p.ss,p.pl,p.po,p.kl,r▸p.tl⟩
theorem Hl.many(h:Hl F σ S){T:List Addr}(m:Mo T σ Z)(ce:iZ F U=iZ F S)(c:∀p∈cells F U,(p∈cells F S/\p.1∉T)∨Z p.1=some (false,p.2))(d:Hf F Z U)
  (e:∀p∈dM F U,(p∈dM F S/\p.1∉T)∨(Z p.1=some (false,p.2)/\p.1∉iZ F S)):Hl F Z U:=
 ⟨d,λp b=>(c p b).elim (λa=>m _ _ a.2 (h.cl p a.1)) id,ce▸h.nd,λp b=>ce▸(e p b).elim (λa=>⟨m _ _ a.2 (h.qu p a.1).1,(h.qu p a.1).2⟩) id⟩
theorem Hl.mrk(h:Hl F σ S){m:fc}(a:m∈S.ms):σ m.adr=some (false,KG m)/\m.adr∉iZ F S:=h.qu (m.adr,KG m) (.tail _ (List.mem_append_left _ (dq ⟨m,a,rfl⟩)))
theorem Hl.iml(h:Hl F σ S):om σ F.ml F.la S.made S.ms:=⟨h.m 6 rfl,h.m 7 rfl,λm a=>(h.mrk a).1⟩
theorem Hl.nq(h:Hl F σ S){p:Addr×AO}(a:p∈dM F S){T:List Addr}(hT:∀y∈T,y∈iZ F S):p.1∉T:=λe=>(h.qu p a).2 (hT _ e)
theorem Hl.new(h:Hl F σ S){r:Addr}(a:σ r=none):r∉iZ F S:=λe=>by
 obtain⟨p,b,rfl⟩:=bz e
 rw[h.cl p b]at a;cases a
theorem Hl.add(h:Hl F σ S){r:Addr}(o:σ r=none)(m:Mo [F.ml,F.la] σ Z)(e:om Z F.ml F.la (S.made+1) (S.ms++[⟨r,S.made+1,S.last⟩])):Hl F Z {S with made:=S.made+1,ms:=S.ms++[⟨r,S.made+1,S.last⟩]}:=by
 have hT:∀y∈[F.ml,F.la],y∈iZ F S:=λy b=>by
  rcases au b with rfl|b
  ·exact List.mem_of_getElem? (i:=6) rfl
  ·rw[aw b];exact List.mem_of_getElem? (i:=7) rfl
 have z:=h.z m λy b=>.inl (hT y b)
 have n {i:Nat} {y:Addr} (b:(iZ F S)[i]?=some y) (j:i≠6) (g:i≠7):y∉[F.ml,F.la]:=a7 (h.d (i:=6) rfl b j) (dh (h.d (i:=7) rfl b g))
 have f:=h.f.fz z
 refine h.many m rfl (λp a=>?_) ⟨f.hop,f.hP,f.hO,f.hV,f.hd,f.it,f.kp⟩ λp a=>?_
 ·rcases au a with rfl|a
  ·exact .inl ⟨.head _,n (i:=0) rfl (by decide) (by decide)⟩
  rcases au a with rfl|a
  ·exact .inl ⟨.tail _ (.head _),n (i:=1) rfl (by decide) (by decide)⟩
  rcases au a with rfl|a
  ·exact .inl ⟨.tail _ (.tail _ (.head _)),n (i:=2) rfl (by decide) (by decide)⟩
  rcases au a with rfl|a
  ·exact .inl ⟨.tail _ (.tail _ (.tail _ (.head _))),n (i:=3) rfl (by decide) (by decide)⟩
  rcases au a with rfl|a
  ·exact .inl ⟨.tail _ (.tail _ (.tail _ (.tail _ (.head _)))),n (i:=4) rfl (by decide) (by decide)⟩
  rcases au a with rfl|a
  ·exact .inl ⟨.tail _ (.tail _ (.tail _ (.tail _ (.tail _ (.head _))))),n (i:=5) rfl (by decide) (by decide)⟩
  rcases au a with rfl|a
  ·exact .inr e.m
  ·rw[aw a];exact .inr e.l
 ·rcases au a with rfl|a
  ·exact .inl ⟨.head _,h.nq (.head _) hT⟩
  rcases aE a with a|a
  ·obtain⟨q,c,rfl⟩:=bz a
   rcases aE c with c|c
   ·have:(q.adr,KG q)∈dM F S:=.tail _ (List.mem_append_left _ (dq ⟨q,c,rfl⟩))
    exact .inl ⟨this,h.nq this hT⟩
   ·rw[aw c]
    exact .inr ⟨e.k _ (List.mem_append_right _ (.head _)),h.new o⟩
  ·have:p∈dM F S:=.tail _ (List.mem_append_right _ a)
   exact .inl ⟨this,h.nq this hT⟩
end
section
variable {ext:bj} {σ Z:Hp} {F:Fx} {S S':St} {x:Nat->AV} {ss:SS} {Q:Fl->aG->Hp->Prop}
theorem Hl.note(h:Hl F σ S){t c:Addr}{d:Hp}{m:fc}(s:aK σ Z)(r:σ c=none)(g:Z c=some (false,.list S.now))(n:Z t=some (true,.tup [.ref m.adr,.int m.seq,.ref c]))(k:Mo [F.hA] Z d)(z:Fz Z d)(e:d F.hA=some (false,.list (S.hs.map Hd.v++[.ref t]))):Hl F d {S with hs:=S.hs++[⟨t,m,c,S.now⟩]}:=by
 have j:=h.up s
 have l:=h.new r
 have u:c≠F.hA:=λe=>l (e▸List.mem_of_getElem? (i:=2) rfl)
 have f:=j.f.fz z
 refine j.cell (i:=2) rfl k (λy o=>.inl (aw o)) e (by unfold cells;rw[aY];rfl) ⟨f.hop,f.hP,f.hO,f.hV,λq b=>?_,f.it,f.kp⟩ λp a=>?_
 ·rcases aE b with b|b
  ·exact f.hd q b
  ·rw[aw b];exact z _ _ n
 ·rcases au a with rfl|a
  ·exact .inl (.head _)
  rcases aE a with a|a
  ·exact .inl (.tail _ (List.mem_append_left _ a))
  rcases aE a with a|a
  ·rw[aY]at a
   rcases aE a with a|a
   ·exact .inl (.tail _ (List.mem_append_right _ (List.mem_append_left _ a)))
   ·rw[aw a];exact .inr ⟨k _ _ (dh u) g,l⟩
  ·exact .inl (.tail _ (List.mem_append_right _ (List.mem_append_right _ a)))
theorem Pl.note(p:Pl F S){t c r:Addr}(i:∀m∈S.ms,m.adr≠r)(b:S.hs.length<=60):Pl F {S with made:=S.made+1,ms:=S.ms++[⟨r,S.made+1,S.last⟩],hs:=S.hs++[⟨t,⟨r,S.made+1,S.last⟩,c,S.now⟩]} where
 oo:=p.oo
 nl:=p.nl
 n0:=p.n0
 u0:=p.u0
 gv:=p.gv
 so:=p.so
 l9:=p.l9
 me:=by show S.ms++_=(S.hs++_).map Hd.k;rw[aY,p.me]
 mo:=by
  have mo:=p.mo
  have ml:∀m∈S.ms,m.seq<=S.last:=λm d=>by rw[p.me]at d;obtain⟨h,e,rfl⟩:=bz d;exact p.hl h e
  refine⟨?_,λm d=>?_,?_,?_,?_⟩
  ·show((S.ms++[_]).map fc.num).Pairwise _
   rw[aY]
   exact List.pairwise_append.mpr ⟨mo.n,List.pairwise_singleton _ _,λa f b g=>by obtain⟨m,d,rfl⟩:=bz f;rw[aw g];exact Nat.lt_succ_of_le (mo.b m d)⟩
  ·rcases aE d with d|d
   ·exact Nat.le_succ_of_le (mo.b m d)
   ·rw[aw d];exact Nat.le_refl _
  ·show((S.ms++[_]).map fc.seq).Pairwise _
   rw[aY]
   exact List.pairwise_append.mpr ⟨mo.s,List.pairwise_singleton _ _,λa f b g=>by obtain⟨m,d,rfl⟩:=bz f;rw[aw g];exact ml m d⟩
  ·show((S.ms++[_]).map fc.adr).Nodup
   rw[aY]
   exact hK mo.a λa f=>by obtain⟨m,d,rfl⟩:=bz f;exact i m d
  ·show(S.ms++[_]).length<=100
   have:=congrArg List.length p.me
   rw[List.length_map]at this
   rw[List.length_append,List.length_singleton];exact n2 [_,_] Dh yQ C1 rfl b this
 hl:=λh e=>(aE e).elim (p.hl h) λe=>by rw[aw e];exact Nat.le_refl _
 w4:=p.w4
 wt:=p.wt
 ht:=λh e=>(aE e).elim (p.ht h) λe=>by rw[aw e];exact⟨p.w4,p.wt⟩
 kt:=p.kt
 sp:=p.sp
 ss:=p.ss
 pl:=p.pl
 po:=p.po
 kl:=p.kl
 tl:=p.tl
theorem xy{n:Nat}{o:Int}(h:Hl F σ S)(p:Pl F S)(b:S.hs.length<=50)(u:x 17=.int o)
  (k:∀(hs:List Hd) (made:Nat) (ms:List fc) (v:AV) Z,Hl F Z {S with hs:=hs,made:=made,ms:=ms}->Pl F {S with hs:=hs,made:=made,ms:=ms}->hs.length<=S.hs.length+2->Go (cB ext (n+2)) ss (lv F {S with hs:=hs,made:=made,ms:=ms} (aI x 22 v)) Z Q):
  Go (cB ext (n+2)) (.cons (.forR 22 (.k (.int 0)) (.sub (.lst (.cons (.k (.int 1)) (.cons (.k (.int 1)) (.cons (.k (.int 2)) (.cons (.k (.int 0)) .nil))))) (.bin .mod (.v 17) (.k (.int 4)))) true (.cons (.ex (.bm .append (.v 12) (.cons (.tup (.cons (.mth (.v 9) 2 (.cons (.v 15) .nil)) (.cons (.v 15) (.cons (.bi .list (.cons (.v 14) .nil)) .nil)))) .nil)))
 .nil)) ss) (lv F S x) σ Q:=by
 obtain⟨j,V,I⟩:∃j:Nat,o%4=j/\j<4:=Gj o (by decide) rfl
 obtain⟨m,f,m2⟩:∃m:Nat,([.int 1,.int 1,.int 2,.int 0]:List AV)[j]?=some (.int m)/\m<=2:=by
  have:j=0∨j=1∨j=2∨j=3:=by exact u4 I
  rcases this with rfl|rfl|rfl|rfl
  ·exact⟨1,rfl,by decide⟩
  ·exact⟨1,rfl,by decide⟩
  ·exact⟨2,rfl,by decide⟩
  ·exact⟨0,rfl,by decide⟩
 have w:bQ (lv F S x) 17=some (.int o):=by show bQ [x 17] 0=_;rw[u];rfl
 refine gI (iQ (qE (a8 (by left) rfl λt g=>aS (aU (cH (bp w) aT (by decide)) (congrArg AV.int V)) (xI ab (Nat.le_of_ble_eq_true rfl) f ?_))))
 refine dR (λa:(List Hd×Nat×List fc)×AV=>lv F {S with hs:=a.1.1,made:=a.1.2.1,ms:=a.1.2.2} (aI x 22 a.2))
  (λi a Z=>Hl F Z {S with hs:=a.1.1,made:=a.1.2.1,ms:=a.1.2.2}/\Pl F {S with hs:=a.1.1,made:=a.1.2.1,ms:=a.1.2.2}/\(a.1.1.length:Int)<=S.hs.length+i) ((S.hs,S.made,S.ms),x 22) ?_ ⟨by decide,by decide,by exact Int.natCast_nonneg m,by exact z1 [_] jJ NN rfl (cl m2)⟩ ⟨h.up (aK.new g),p,by dsimp only;exact Int.le_refl ↑S.hs.length⟩ ?_ ?_
 ·unfold lv;rfl
 ·rintro i ⟨⟨hs,made,ms⟩,v⟩ Z R g1 g2 ⟨h,p,l⟩ G
  dsimp only at h p l G
  have K:=h.m 2 rfl
  have Y:=h.m 6 rfl
  have c4:=h.m 4 rfl
  have z:∀m∈ms,m.seq<=S.last:=λm f=>by have e:ms=hs.map Hd.k:=p.me;rw[e]at f;obtain⟨q,U,rfl⟩:=bz f;exact p.hl q U
  have N:S.now.length<=9000:=Nat.le_trans (Nat.le_of_eq p.w4) (Nat.le_of_ble_eq_true rfl)
  have y:(hs.map Hd.v).length<=9000:=aO (Nat.le_trans (show hs.length<=60 by exact Int.ofNat_le.mp (Int.le_trans l (Int.le_trans (Int.add_le_add (bF b) (Int.le_of_lt (Int.lt_of_lt_of_le g2 (bF m2)))) (by decide)))) (Nat.le_of_ble_eq_true rfl))
  refine dJ (iI (aS (by left) (iW K rfl (aj (oD (aj (aW (by left) Y rfl rfl (by left) (DS h.iml p.mo z (h.d (i:=7) (j:=6) rfl rfl (by decide)) λr W B J O=>?_))))))))
  have s:=h.add B J O
  have d4:=s.m 4 rfl
  have d2:=s.m 2 rfl
  refine aj (aS (by left) (aj (mG (aj (aS (by left) (aD (uZ d4 N λc E=>aD (o6 rfl λt g=>aD ?_))))))))
  have D:=(aK.new (c:=(false,.list S.now)) E).trans (aK.new (c:=(true,.tup [.ref r,.int S.last,.ref c])) g)
  have A:=D _ _ d2
  refine dO A y (ak (aR (G ((hs++[⟨t,⟨r,made+1,S.last⟩,c,S.now⟩],made+1,ms++[⟨r,made+1,S.last⟩]),.int i) _ ⟨s.note D E (ag g ab) ab ((Mo.refl _ _).mut (.head _)) (Fz.mut A) ab,p.note (λm f=>af (h.mrk f).1 B) (by show hs.length<=60;exact Int.ofNat_le.mp (Int.le_trans l (Int.le_trans (Int.add_le_add (bF b) (Int.le_of_lt (Int.lt_of_lt_of_le g2 (bF m2)))) (by decide)))),?_⟩)))
  show(((hs++[_]).length:Nat):Int)<=_
  rw[List.length_append,List.length_singleton];exact z1 [_,_,_] (.le (.a (.v 0) (.n 1)) (.a (.v 1) (.a (.v 2) (.n 1)))) (.le (.v 0) (.a (.v 1) (.v 2))) rfl l
 ·rintro i ⟨⟨hs,made,ms⟩,v⟩ Z g1 g2 g3 ⟨h,p,l⟩
  exact k hs made ms v Z h p (by dsimp only at l;exact Int.ofNat_le.mp (Int.le_trans l (Int.add_le_add_left (g3.elim (λq=>Int.le_trans (Int.le_of_eq q) (by decide)) λq=>Int.le_trans (Int.le_of_eq q) (bF m2)) _)))
end
section
variable {ext:bj} {σ Z:Hp} {F:Fx} {S S':St} {x:Nat->AV} {U:SS} {Q:Fl->aG->Hp->Prop}
theorem Pl.keep(p:Pl F S){t c d:Addr}{ns:List Int}(p1:ns.Perm (nums S.V))(p2:ns.Pairwise (·<=·))(b:S.ks.length<=60):Pl F {S with ks:=S.ks++[⟨⟨t,S.V,S.last,c,S.now⟩,d,ns⟩]}:=
 ⟨p.oo,p.nl,p.n0,p.u0,p.gv,p.so,p.l9,p.me,p.mo,p.hl,p.w4,p.wt,p.ht,λk a=>(aE a).elim (p.kt k) λa=>by rw[aw a];exact⟨p.gv,p.l9,p1,p2,p.w4,p.wt⟩,p.sp,p.ss,p.pl,p.po,by
  show(S.ks++[_]).length<=100
  rw[List.length_append,List.length_singleton];exact n1 [_] Dh nQ rfl b,p.tl⟩
theorem BX{n:Nat}{D:Int}(h:Hl F σ S)(p:Pl F S)(b:S.ks.length<=50)(j:x 17=.int D)
  (k:∀(ks:List Kp) Z,Hl F Z {S with ks:=ks}->Pl F {S with ks:=ks}->ks.length<=S.ks.length+1->Go (cB ext (n+1)) U (lv F S x) Z Q):
  Go (cB ext (n+1)) (.cons (.ite (.t (.cmp .eq (.bin .mod (.bin .fdiv (.v 17) (.k (.int 4))) (.k (.int 2))) (.k (.int 1)))) (.cons (.ex (.bm .append (.v 13) (.cons (.tup (.cons (.v 8) (.cons (.v 15) (.cons (.bi .list (.cons (.v 14) .nil)) (.cons (.mth (.v 8) 24 .nil) .nil))))) .nil)))
 .nil) .nil) U) (lv F S x) σ Q:=by
 have r:bQ (lv F S x) 17=some (.int D):=by show bQ [x 17] 0=_;rw[j];rfl
 refine bC (λ_:Unit=>lv F S x) (λ_ Z=>∃ks,Hl F Z {S with ks:=ks}/\Pl F {S with ks:=ks}/\ks.length<=S.ks.length+1) (λR G=>?_) λ_ Z ⟨ks,h,p,l⟩=>k ks Z h p l
 refine g8 (bR (eX (cH (dX (bp r) aT (by decide)) aT (by decide)) aT rfl)) (jd (λ_=>?_) λ_=>ak (bk (G () σ ⟨S.ks,h,p,Nat.le_succ _⟩)))
 have I:=h.m 3 rfl
 have c4:=h.m 4 rfl
 have K:=h.f.hV.v
 have O:S.now.length<=9000:=Nat.le_trans (Nat.le_of_eq p.w4) (Nat.le_of_ble_eq_true rfl)
 have N:(S.ks.map Kp.v).length<=9000:=aO (Nat.le_trans b (Nat.le_of_ble_eq_true rfl))
 refine dJ (iI (aS (by left) (iW I rfl (aj (oD (aj (aS (by left) (aj (aS (by left) (aj (mG (aj (aS (by left) (aD (uZ c4 O λc g=>?_)))))))))))))))
 have u:=ag (c:=(false,.list S.now)) g K
 refine aj (aW (by left) u rfl rfl (by left) (iF (h.f.hV.up (aK.new g)) p.sm λB A J p2 d=>aD (o6 rfl λt o=>aD ?_)))
 have Y:=((aK.new (c:=(false,.list S.now)) g).trans (aK.new (c:=(true,.list (B.map .int))) d)).trans (aK.new (c:=(true,.tup [.ref S.V.adr,.int S.last,.ref c,.ref A])) o)
 have s:=h.up Y
 have w:=s.m 3 rfl
 refine dO w N (ak (bk (G () _ ⟨S.ks++[⟨⟨t,S.V,S.last,c,S.now⟩,A,B⟩],?_,p.keep J p2 (Nat.le_trans b (by decide)),by rw[List.length_append];exact Nat.le_refl _⟩)))
 have E:=h.new g
 have ch:c≠F.kA:=λe=>E (e▸List.mem_of_getElem? (i:=3) rfl)
 have z:Fz _ (upd _ F.kA (false,.list (S.ks.map Kp.v++[.ref t]))):=Fz.mut w
 have f:=s.f.fz z
 refine s.cell (i:=3) rfl ((Mo.refl [F.kA] _).mut (.head _)) (λy W=>.inl (aw W)) ab (by unfold cells;rw[aY];rfl) ⟨f.hop,f.hP,f.hO,f.hV,f.hd,f.it,λq a=>?_⟩ λq a=>?_
 ·rcases aE a with a|a
  ·exact f.kp q a
  ·rw[aw a]
   exact⟨z _ _ ab,z _ _ (ag o ab),f.hV,f.it⟩
 ·rcases au a with rfl|a
  ·exact .inl (.head _)
  rcases aE a with a|a
  ·exact .inl (.tail _ (List.mem_append_left _ a))
  rcases aE a with a|a
  ·exact .inl (.tail _ (List.mem_append_right _ (List.mem_append_left _ a)))
  ·rw[aY]at a
   rcases aE a with a|a
   ·exact .inl (.tail _ (List.mem_append_right _ (List.mem_append_right _ a)))
   ·rw[aw a];exact .inr ⟨aq ch (ag o (ag d ab)),E⟩
end
section
variable {ext:bj} {σ Z:Hp} {F:Fx} {S S':St} {x:Nat->AV} {ss:SS} {Q:Fl->aG->Hp->Prop}
theorem era{B:Type}{l:List B}{i:Nat}:l.take i++l.drop (i+1)=l.eraseIdx i:=(List.eraseIdx_eq_take_drop_succ ..).symm
theorem mj.era{made i:Nat}{ms:List fc}(h:mj made ms):mj made (ms.eraseIdx i):=by
 have s:=List.eraseIdx_sublist ms i
 exact⟨h.n.sublist (s.map _),λm c=>h.b m (s.subset c),h.s.sublist (s.map _),(s.map _).nodup h.a,Nat.le_trans s.length_le h.l⟩
theorem Pl.drop(p:Pl F S)(i:Nat):Pl F {S with hs:=S.hs.eraseIdx i,ms:=S.ms.eraseIdx i}:=
 ⟨p.oo,p.nl,p.n0,p.u0,p.gv,p.so,p.l9,by show S.ms.eraseIdx i=(S.hs.eraseIdx i).map Hd.k;rw[fU,p.me],p.mo.era,λh a=>p.hl h ((List.eraseIdx_sublist _ _).subset a),p.w4,p.wt,λh a=>p.ht h ((List.eraseIdx_sublist _ _).subset a),p.kt,p.sp,p.ss,p.pl,p.po,p.kl,p.tl⟩
theorem Pl.dropK(p:Pl F S)(i:Nat):Pl F {S with ks:=S.ks.eraseIdx i}:=
 ⟨p.oo,p.nl,p.n0,p.u0,p.gv,p.so,p.l9,p.me,p.mo,p.hl,p.w4,p.wt,p.ht,λh a=>p.kt h ((List.eraseIdx_sublist _ _).subset a),p.sp,p.ss,p.pl,p.po,Nat.le_trans (List.eraseIdx_sublist _ _).length_le p.kl,p.tl⟩
theorem Hl.popH(h:Hl F σ S)(i:Nat):Hl F (upd σ F.hA (false,.list ((S.hs.eraseIdx i).map Hd.v))) {S with hs:=S.hs.eraseIdx i}:=by
 have sb:=List.eraseIdx_sublist S.hs i
 have f:=h.f.fz (h.z ((Mo.refl [F.hA] σ).mut (d:=(false,.list ((S.hs.eraseIdx i).map Hd.v))) (.head _)) λy b=>.inl (by rw[aw b];exact List.mem_of_getElem? (i:=2) rfl))
 refine h.cell (i:=2) rfl ((Mo.refl [F.hA] _).mut (.head _)) (λy b=>.inl (aw b)) ab rfl ⟨f.hop,f.hP,f.hO,f.hV,λq a=>f.hd q (sb.subset a),f.it,f.kp⟩ λq a=>.inl ?_
 rcases au a with rfl|a
 ·exact .head _
 rcases aE a with a|a
 ·exact .tail _ (List.mem_append_left _ a)
 rcases aE a with a|a
 ·exact .tail _ (List.mem_append_right _ (List.mem_append_left _ ((sb.map _).subset a)))
 ·exact .tail _ (List.mem_append_right _ (List.mem_append_right _ a))
theorem Hl.popK(h:Hl F σ S)(i:Nat):Hl F (upd σ F.kA (false,.list ((S.ks.eraseIdx i).map Kp.v))) {S with ks:=S.ks.eraseIdx i}:=by
 have sb:=List.eraseIdx_sublist S.ks i
 have f:=h.f.fz (h.z ((Mo.refl [F.kA] σ).mut (d:=(false,.list ((S.ks.eraseIdx i).map Kp.v))) (.head _)) λy b=>.inl (by rw[aw b];exact List.mem_of_getElem? (i:=3) rfl))
 refine h.cell (i:=3) rfl ((Mo.refl [F.kA] _).mut (.head _)) (λy b=>.inl (aw b)) ab rfl ⟨f.hop,f.hP,f.hO,f.hV,f.hd,f.it,λq a=>f.kp q (sb.subset a)⟩ λq a=>.inl ?_
 rcases au a with rfl|a
 ·exact .head _
 rcases aE a with a|a
 ·exact .tail _ (List.mem_append_left _ a)
 rcases aE a with a|a
 ·exact .tail _ (List.mem_append_right _ (List.mem_append_left _ a))
 ·exact .tail _ (List.mem_append_right _ (List.mem_append_right _ ((sb.map _).subset a)))
theorem Hl.dropM(h:Hl F σ S){i:Nat}{m:fc}(hi:S.ms[i]?=some m)(ok:mj S.made S.ms)(t:Mo [F.la,m.adr] σ Z)(s:om Z F.ml F.la S.made (S.ms.eraseIdx i)):Hl F Z {S with ms:=S.ms.eraseIdx i}:=by
 have v:=List.mem_of_getElem? hi
 have mk:=h.mrk v
 have z:Fz σ Z:=t.fz λy o=>by
  rcases au o with rfl|o
  ·exact⟨_,h.m 7 rfl⟩
  ·rw[aw o];exact⟨_,mk.1⟩
 have f:=h.f.fz z
 have n {j:Nat} {y:Addr} (o:(iZ F S)[j]?=some y) (u:j≠7):y∉[F.la,m.adr]:=a7 (h.d (i:=7) rfl o u) (dh λe=>mk.2 (e▸List.mem_of_getElem? o))
 refine h.many t rfl (λp b=>?_) ⟨f.hop,f.hP,f.hO,f.hV,f.hd,f.it,f.kp⟩ λp b=>?_
 ·rcases au b with rfl|b
  ·exact .inl ⟨.head _,n (j:=0) rfl (by decide)⟩
  rcases au b with rfl|b
  ·exact .inl ⟨.tail _ (.head _),n (j:=1) rfl (by decide)⟩
  rcases au b with rfl|b
  ·exact .inl ⟨.tail _ (.tail _ (.head _)),n (j:=2) rfl (by decide)⟩
  rcases au b with rfl|b
  ·exact .inl ⟨.tail _ (.tail _ (.tail _ (.head _))),n (j:=3) rfl (by decide)⟩
  rcases au b with rfl|b
  ·exact .inl ⟨.tail _ (.tail _ (.tail _ (.tail _ (.head _)))),n (j:=4) rfl (by decide)⟩
  rcases au b with rfl|b
  ·exact .inl ⟨.tail _ (.tail _ (.tail _ (.tail _ (.tail _ (.head _))))),n (j:=5) rfl (by decide)⟩
  rcases au b with rfl|b
  ·exact .inr s.m
  ·rw[aw b];exact .inr s.l
 ·have nl:∀q∈dM F S,q.1≠F.la:=λq c e=>(h.qu q c).2 (e▸List.mem_of_getElem? (i:=7) rfl)
  have lst:∀a r,(a,AO.list r)∈dM F S->((a,AO.list r)∈dM F S/\a∉[F.la,m.adr]):=λa r c=>⟨c,a7 (nl _ c) (dh λe=>by have:=(h.qu _ c).1;rw[show(a,AO.list r).1=m.adr from e,mk.1]at this;cases this)⟩
  rcases au b with rfl|b
  ·exact .inl (lst _ _ (.head _))
  rcases aE b with b|b
  ·obtain⟨q,c,rfl⟩:=bz b
   exact .inr ⟨s.k q c,(h.mrk ((List.eraseIdx_sublist _ _).subset c)).2⟩
  rcases aE b with g|g
  ·obtain⟨q,_,rfl⟩:=bz g;exact .inl (lst _ _ (.tail _ (List.mem_append_right _ b)))
  ·obtain⟨q,_,rfl⟩:=bz g;exact .inl (lst _ _ (.tail _ (List.mem_append_right _ b)))
end
section
variable {ext:bj} {σ Z:Hp} {F:Fx} {S S':St} {x:Nat->AV} {U:SS} {Q:Fl->aG->Hp->Prop}
theorem wW{z:Int}{n:Nat}(h:0<n):∃i:Nat,z%(n:Int)=i/\i<n:=Gj z (dF h) rfl
theorem BQ{n:Nat}{gz:Int}(h:Hl F σ S)(p:Pl F S)(E:bQ (lv F S x) 23=some (.int gz))
  (k:∀(hs:List Hd) (ms:List fc) (v:AV) Z,Hl F Z {S with hs:=hs,ms:=ms}->Pl F {S with hs:=hs,ms:=ms}->hs.length<=S.hs.length->Go (cB ext (n+2)) U (lv F {S with hs:=hs,ms:=ms} (aI x 24 v)) Z Q):
  Go (cB ext (n+2)) (.cons (.ite (.and (.cons (.t (.cmp .gt (.bi .len (.cons (.v 12) .nil)) (.k (.int 0)))) (.cons (.t (.cmp .eq (.bin .mod (.v 23) (.k (.int 3))) (.k (.int 0)))) .nil))) (.cons (.asg 24 (.bm .pop (.v 12) (.cons (.bin .mod (.bin .fdiv (.v 23) (.k (.int 3))) (.bi .len (.cons (.v 12) .nil))) .nil)))
 (.cons (.ex (.mth (.v 9) 5 (.cons (.sub (.v 24) (.k (.int 0))) .nil)))
 .nil)) .nil) U) (lv F S x) σ Q:=by
 have e:=h.m 2 rfl
 have w:S.hs.length<=100:=by have:=p.mo.l;rw[p.me,List.length_map]at this;exact this
 have u:=aO (g:=Hd.v) (bh w rfl)
 refine bC (λa:(List Hd×List fc)×AV=>lv F {S with hs:=a.1.1,ms:=a.1.2} (aI x 24 a.2)) (λa Z=>Hl F Z {S with hs:=a.1.1,ms:=a.1.2}/\Pl F {S with hs:=a.1.1,ms:=a.1.2}/\a.1.1.length<=S.hs.length) (λR s=>?_) λa Z ⟨h,p,l⟩=>k _ _ _ Z h p l
 have no:Go (cB ext (n+2)) .nil (lv F S x) σ (Kj R Q):=ak (bk (s ((S.hs,S.ms),x 24) σ ⟨h,p,Nat.le_refl _⟩))
 refine ko (bx (g8 (by left) (br (λy=>bx (g8 (by left) (jd (λ_=>da (eF ?_)) λ_=>de no))) λ_=>de no)))
 have y:0<S.hs.length:=by rw[List.length_map]at y;exact cq y
 obtain⟨i,D,il⟩:=wW (z:=gz/3) y
 have o:=List.getElem?_eq_getElem il
 have r:(((S.hs.map Hd.v).length:Nat):Int)=(S.hs.length:Nat):=by rw[List.length_map]
 refine az (iI (aS (by left) (iW e rfl (aj (aS (aU (x':=.int ((i:Nat):Int)) (v:=.int (gz/3%((S.hs.map Hd.v).length:Nat))) (cH (by left) (by left) (by rw[r];exact dF (Nat.zero_lt_of_lt il))) (congrArg AV.int (by rw[r];exact D))) (aD (xN (i:=i) e u (by rw[List.getElem?_map,o];rfl) ?_)))))))
 rw[era,←fU]
 have b:=h.popH i
 have G:=b.m 6 rfl
 have hd:=h.f.hd _ (List.getElem_mem il)
 unfold B0 at hd
 have I:=cP (c:=(false,.list ((S.hs.eraseIdx i).map Hd.v))) e hd
 have q:S.ms[i]?=some (S.hs[i]).k:=by rw[p.me,List.getElem?_map,o];rfl
 refine dJ (aW (by left) G rfl rfl (by left) (BS b.iml p.mo q (h.d (i:=7) (j:=6) rfl rfl (by decide)) λZ A B=>ak (bk (s ((S.hs.eraseIdx i,S.ms.eraseIdx i),_) Z ⟨b.dropM q p.mo A B,p.drop i,(List.eraseIdx_sublist _ _).length_le⟩))))
theorem xm{n:Nat}{gz:Int}(h:Hl F σ S)(p:Pl F S)(e:bQ (lv F S x) 23=some (.int gz))
  (k:∀(ks:List Kp) Z,Hl F Z {S with ks:=ks}->Pl F {S with ks:=ks}->ks.length<=S.ks.length->Go (cB ext n) U (lv F S x) Z Q):
  Go (cB ext n) (.cons (.ite (.and (.cons (.t (.cmp .gt (.bi .len (.cons (.v 13) .nil)) (.k (.int 0)))) (.cons (.t (.cmp .eq (.bin .mod (.bin .fdiv (.v 23) (.k (.int 24))) (.k (.int 3))) (.k (.int 0)))) .nil))) (.cons (.ex (.bm .pop (.v 13) (.cons (.bin .mod (.bin .fdiv (.v 23) (.k (.int 72))) (.bi .len (.cons (.v 13) .nil))) .nil)))
 .nil) .nil) U) (lv F S x) σ Q:=by
 have a:=h.m 3 rfl
 have d:=aO (g:=Kp.v) (bh p.kl rfl)
 refine bC (λ_:Unit=>lv F S x) (λ_ Z=>∃ks,Hl F Z {S with ks:=ks}/\Pl F {S with ks:=ks}/\ks.length<=S.ks.length) (λR c=>?_) λ_ Z ⟨ks,h,p,l⟩=>k ks Z h p l
 have no:Go (cB ext n) .nil (lv F S x) σ (Kj R Q):=ak (bk (c () σ ⟨S.ks,h,p,Nat.le_refl _⟩))
 refine ko (bx (g8 (by left) (br (λy=>bx (g8 (by left) (jd (λ_=>da (eF ?_)) λ_=>de no))) λ_=>de no)))
 have y:0<S.ks.length:=by rw[List.length_map]at y;exact cq y
 obtain⟨i,j,il⟩:=wW (z:=gz/72) y
 have f:=List.getElem?_eq_getElem il
 have b:(((S.ks.map Kp.v).length:Nat):Int)=(S.ks.length:Nat):=by rw[List.length_map]
 refine dJ (iI (aS (by left) (iW a rfl (aj (aS (aU (x':=.int ((i:Nat):Int)) (v:=.int (gz/72%((S.ks.map Kp.v).length:Nat))) (cH (by left) (by left) (by rw[b];exact dF (Nat.zero_lt_of_lt il))) (congrArg AV.int (by rw[b];exact j))) (aD (xN (i:=i) a d (by rw[List.getElem?_map,f];rfl) ?_)))))))
 rw[era,←fU]
 exact ak (bk (c () _ ⟨S.ks.eraseIdx i,h.popK i,p.dropK i,(List.eraseIdx_sublist _ _).length_le⟩))
end
section
noncomputable def kS(w:List AV)(r:Rw):List AV:=w.set r.u (fP (some r))
def GY(R:List Rw)(s:Nat)(w:List AV):Prop:=∀u,u<4->∃o,gL R u s o/\w[u]?=some (fP o)
theorem pD:∀{rs:List Rw} {w:List AV},(rs.foldl kS w).length=w.length
 |[],_=>rfl
 |r::rs,w=>by rw[List.foldl_cons,pD];unfold kS;rw[List.length_set]
theorem B2{R:List Rw}{s:Nat}{w:List AV}{r:Rw}(h:GY R s w)(l:w.length=4)(i:s<r.s)(b:∀q∈R,q.s<=s)(u4:r.u<4):GY (R++[r]) r.s (kS w r):=λu g=>by
 unfold kS
 by_cases e:r.u=u
 ·subst e
  refine⟨some r,⟨List.mem_append_right _ (.head _),rfl,Nat.le_refl _,λq a _ _=>?_⟩,List.getElem?_set_self (by exact m2 [_,_] J2 0 (-1) 1 (.eq (.v 1) (.n 4)) LF rfl l u4)⟩
  rcases aE a with a|a
  ·exact Nat.le_trans (b q a) (Nat.le_of_lt i)
  ·rw[aw a];exact Nat.le_refl _
 ·obtain⟨o,d,j⟩:=h u g
  refine⟨o,?_,by rw[List.getElem?_set_ne e];exact j⟩
  have c:∀q∈R++[r],q.u=u->q∈R:=λq a g=>(aE a).elim id λa=>by rw[aw a]at g;exact(e g).elim
  cases o with
  |none=>exact λq a x _=>d q (c q a x) x (b q (c q a x))
  |some k=>exact⟨List.mem_append_left _ d.1,d.2.1,Nat.le_trans d.2.2.1 (Nat.le_of_lt i),λq a x _=>d.2.2.2 q (c q a x) x (b q (c q a x))⟩
theorem uf:∀{rs:List Rw} {R:List Rw} {s:Nat} {w:List AV},GY R s w->w.length=4->(∀q∈R,q.s<=s)->rs.map Rw.s=List.range' (s+1) rs.length->(∀r∈rs,r.u<4)->GY (R++rs) (s+rs.length) (rs.foldl kS w)
 |[],R,s,w,h,_,_,_,_=>by rw[List.append_nil];exact h
 |r::rs,R,s,w,h,l,b,e,u4=>by
  obtain⟨d,g⟩:=List.cons.inj (e.trans (List.range'_succ ..))
  have i:=B2 h l (by exact m1 [_,_] J2 0 (-1) (.eq (.v 1) (.a (.v 0) (.n 1))) rfl d) b (u4 r (.head _))
  have:=uf (rs:=rs) (d▸i) (by unfold kS;rw[List.length_set];exact l) (λq c=>?_) (by rw[g]) λr j=>u4 r (.tail _ j)
  ·rw[List.append_assoc]at this
   rw[List.length_cons,show s+(rs.length+1)=s+1+rs.length by exact Nat.le_antisymm (n0 [_,_] Od rfl) (n0 [_,_] PP rfl)];exact this
  ·rcases aE c with c|c
   ·exact Nat.le_succ_of_le (b q c)
   ·rw[aw c,d];exact Nat.le_refl _
section
variable {unit:Int} {Z last' p:Nat} {V U:bo} {E:Ed} {f:FM}
theorem nC(a:E.al=[(p,0,f)])(j:Nat):cR E.al j=if j=0 then[f] else[]:=hJ (al:=E.al) (fs:=[f]) (by rw[a];rfl) j
theorem dv(hd:E.dl=[])(a:E.al=[(p,0,f)]){j:Nat}{q:FM}:q∈newL V E j↔q∈bU V j∨(j=0/\q=f):=by
 unfold newL
 rw[qX hd,nC a,List.mem_append]
 refine or_congr Iff.rfl ?_
 by_cases e:j=0
 ·rw[if_pos e];exact⟨λh=>⟨e,aw h⟩,λh=>List.mem_singleton.mpr h.2⟩
 ·rw[if_neg e];exact⟨nM,λh=>(e h.1).elim⟩
theorem iS(g:Gv unit Z V)(hd:E.dl=[])(a:E.al=[(p,0,f)])(m:iH V E U){r:Rw}:r∈cj U↔r∈cj V∨r∈f.rows:=by
 refine(oJ m λj h=>?_).trans ⟨λ⟨j,q,c,b⟩=>?_,λh=>h.elim (λh=>?_) λh=>⟨0,f,(dv hd a).mpr (.inr ⟨rfl,rfl⟩),h⟩⟩
 ·rw[nC a]at h
  by_cases e:j=0
  ·rw[e];exact Nat.lt_of_lt_of_le (by decide) g.n.1
  ·rw[if_neg e]at h;exact(h rfl).elim
 ·exact((dv hd a).mp c).imp (λh=>aZ.mpr ⟨j,q,h,b⟩) λ⟨_,h⟩=>h▸b
 ·obtain⟨j,q,c,b⟩:=aZ.mp h
  exact⟨j,q,(dv hd a).mpr (.inl c),b⟩
theorem fI{V:bo}{y:Int}:y∈nums V↔∃j,∃f∈bU V j,(f.num:Int)=y:=by
 rw[jx]
 exact List.mem_map.trans ⟨λ⟨f,a,e⟩=>by obtain⟨j,b⟩:=fS a;exact⟨j,f,b,e⟩,λ⟨j,f,a,e⟩=>⟨f,iB a,e⟩⟩
theorem sH(g:Gv unit Z V)(hd:E.dl=[])(a:E.al=[(p,0,f)])(m:iH V E U){y:Int}:y∈nums U↔y∈nums V∨y=f.num:=by
 rw[fI,fI]
 have put:∀{j q},q∈newL V E j->j<V.lv.length->∃j,∃g∈bU U j,(g.num:Int)=q.num:=λ{j q} h l=>⟨j,q,(eA m l).1.symm.subset h,rfl⟩
 refine⟨λ⟨j,q,b,e⟩=>((dv hd a).mp (bL m b).2).imp (λh=>⟨j,q,h,e⟩) λ⟨_,h⟩=>h▸e.symm,λh=>h.elim (λ⟨j,q,b,e⟩=>?_) λh=>?_⟩
 ·obtain⟨L,c,_⟩:=dY b
  exact e▸put ((dv hd a).mpr (.inl b)) (be c).1
 ·exact h▸put ((dv hd a).mpr (.inr ⟨rfl,rfl⟩)) (Nat.lt_of_lt_of_le (by decide) g.n.1)
end
theorem oO{xs ys:List Int}(p:xs.Perm ys)(h:xs.Pairwise (·<=·))(k:ys.Pairwise (·<=·)):xs=ys:=List.Perm.eq_of_pairwise (λ_ _ _ _=>Int.le_antisymm) h k p
end
section
variable {ext:bj} {σ Z:Hp} {F:Fx} {S S':St} {x:Nat->AV} {U:SS} {Q:Fl->aG->Hp->Prop}
theorem Hl.now(h:Hl F σ S)(w:List AV):Hl F (upd σ F.wA (false,.list w)) {S with now:=w}:=by
 have f:=h.f.fz (h.z ((Mo.refl [F.wA] σ).mut (d:=(false,.list w)) (.head _)) λy a=>.inl (by rw[aw a];exact List.mem_of_getElem? (i:=4) rfl))
 exact h.cell (i:=4) rfl ((Mo.refl [F.wA] _).mut (.head _)) (λy a=>.inl (aw a)) ab rfl ⟨f.hop,f.hP,f.hO,f.hV,f.hd,f.it,f.kp⟩ λq b=>.inl b
theorem Dw{n:Nat}{rs:List Rw}{A:Addr}(h:Hl F σ S)(l:σ A=some (true,.list (rs.map cU)))(hR:gb σ rs)(ok:∀r∈rs,r.ok)(E:S.now.length=4)(ln:rs.length<=9)
  (k:∀v Z,Hl F Z {S with now:=rs.foldl kS S.now}->Fz σ Z->Go (cB ext n) U (lv F S (aI x 20 v)) Z Q):
  sD (cB ext n) [20] (.cons (.setI (.v 14) (.sub (.v 20) (.k (.int 0))) (.ite (.t (.cmp .eq (.sub (.v 20) (.k (.int 2))) (.k (.int 1)))) (.bi .bytes (.cons (.lst (.cons (.bin .sub (.k (.int 0)) (.sub (.v 20) (.k (.int 1)))) .nil)) .nil)) (.k .none)))
 .nil) U Q (.ref A) (lv F S x) σ:=by
 refine eC rs cU (λv:AV=>lv F S (aI x 20 v)) (λa _ Z=>Hl F Z {S with now:=a.foldl kS S.now}/\Fz σ Z) (x 20) (by unfold lv;rfl) l (bh ln rfl) (λ_ _ Z p=>⟨_,p.2 _ _ l⟩) ⟨h,Fz.refl _⟩ ?_ λv Z ⟨h,z⟩=>k v Z h z
 rintro a r J v Z R e ⟨h,z⟩ d
 have q:=aP e
 have b:=ok r q
 have o:=z _ _ (hR r q)
 unfold E4 at o
 have B:=h.m 4 rfl
 have f:(a.foldl kS S.now).length=4:=pD.trans E
 have D:(a++[r]).foldl kS S.now=(a.foldl kS S.now).set r.u (fP (some r)):=by rw[List.foldl_append];rfl
 rw[D]at d
 refine mF (dz (GX (g8 (by left) (br (λy=>?_) λy=>?_))))
 ·have k1:¬r.k=0:=λe=>by rw[e]at y;exact absurd y (by decide)
  have g:fP (some r)=.bytes [UInt8.ofNat r.s]:=if_neg k1
  rw[g]at d
  refine mG (aj (a8 (by left) rfl λc j=>aD (lu ab (Nat.le_of_ble_eq_true rfl) (Gy _ b.s) ?_)))
  have w:=h.up (aK.new (c:=(false,.list [.int (0- -(r.s:Int))])) j)
  have d4:=w.m 4 rfl
  have I:=ag (c:=(false,.list [.int (0- -(r.s:Int))])) j o
  exact aS (by left) (aS (by left) (tc (i:=r.u) d4 (by rw[f];decide) (by rw[f];exact b.u) (ak (aR (d (cU r) _ ⟨w.now _,(z.trans (Fz.new j)).trans (Fz.mut d4)⟩)))))
 ·have G:r.k=0:=by
   exact Nat.lt_one_iff.mp (Mine.ln b.k λe=>y (by rw[e];rfl))
  have g:fP (some r)=.none:=if_pos G
  rw[g]at d
  exact iQ (aS (by left) (aS (by left) (tc (i:=r.u) B (by rw[f];decide) (by rw[f];exact b.u) (ak (aR (d (cU r) _ ⟨h.now _,z.trans (Fz.mut B)⟩))))))
end
section
variable {ext:bj} {σ Z:Hp} {F:Fx} {S U:St} {x:Nat->AV} {O:SS} {Q:Fl->aG->Hp->Prop}
theorem jM.mv{E:Ed}{T:List Addr}(h:jM σ E)(m:Mo T σ Z)(z:Fz σ Z)(n1:E.dlA∉T)(n2:E.alA∉T)(n3:E.cp∉T):jM Z E:=
 ⟨z _ _ h.e,m _ _ n1 h.d,m _ _ n2 h.a,h.c.imp λ_ e=>m _ _ n3 e,λp b=>z _ _ (h.dt p b),λp b=>⟨z _ _ (h.at' p b).1,z _ _ (h.at' p b).2⟩⟩
theorem Hl.stand(h:Hl F σ S)(w:List Int):Hl F (upd σ S.sA (false,.list (w.map .int))) {S with stand:=w}:=by
 have f:=h.f.fz (h.z ((Mo.refl [S.sA] σ).mut (d:=(false,.list (w.map .int))) (.head _)) λy a=>.inl (by rw[aw a];exact List.mem_of_getElem? (i:=5) rfl))
 exact h.cell (i:=5) rfl ((Mo.refl [S.sA] _).mut (.head _)) (λy a=>.inl (aw a)) ab rfl ⟨f.hop,f.hP,f.hO,f.hV,f.hd,f.it,f.kp⟩ λq b=>.inl b
theorem Hl.ts(h:Hl F σ S){ts:List AV}{T:List Addr}{t2:List AV}(m:Mo T σ Z)(z:Fz σ Z)(hT:∀y∈T,y=F.tA∨Fr F S y)(e:Z F.tA=some (false,.list ts))(l:ts=S.ts++t2):Hl F Z {S with ts:=ts}:=by
 have f:=h.f.fz z
 have d:∀{f:FM},kU Z S.ts f->kU Z ts f:=λh=>h.imp λa h=>⟨by rw[l,List.getElem?_append_left (be h.1).1];exact h.1,h.2⟩
 exact h.cell (i:=1) rfl m hT e rfl ⟨f.hop,f.hP,f.hO,f.hV,f.hd,λj g c=>d (f.it j g c),λk b=>⟨(f.kp k b).1,(f.kp k b).2.1,(f.kp k b).2.2.1,λj g c=>d ((f.kp k b).2.2.2 j g c)⟩⟩ λq n=>.inl n
theorem Hl.ver(h:Hl F σ S){V:bo}(b:dP true σ V)(a:∀j,∀f∈bU V j,kU σ S.ts f):Hl F σ {S with V:=V}:=⟨⟨h.f.hop,h.f.hP,h.f.hO,b,h.f.hd,a,h.f.kp⟩,h.cl,h.nd,h.qu⟩
theorem Hl.lst(h:Hl F σ S)(l:Nat):Hl F σ {S with last:=l}:=⟨⟨h.f.hop,h.f.hP,h.f.hO,h.f.hV,h.f.hd,h.f.it,h.f.kp⟩,h.cl,h.nd,h.qu⟩
theorem Hl.num(h:Hl F σ S){j:Nat}{f:FM}(b:f∈bU S.V j):f.num<S.ts.length:=by
 obtain⟨a,e,_⟩:=h.f.it j f b
 exact(be e).1
theorem zJ{n t:Nat}(h:Hl F σ S)(p:Pl F S)(l6:S.last<=6)(t9:S.ts.length<=90)(t2:t<=2)(φ:bQ (lv F S x) 16=some (.int t))
  (k:∀U υ N χ Z,Hl F Z U->Pl F U->U.last<=S.last+3->U.hs=S.hs->U.ks=S.ks->U.ts.length=S.ts.length+1->Go (cB ext (n+8)) O (lv F U (aI (aI (aI x 19 υ) 20 N) 21 χ)) Z Q):
  Go (cB ext (n+8)) (.cons (.asg 19 (.fn 87 (.cons (.fn 76 (.cons (.v 0) (.cons (.bin .add (.k (.int 1)) (.bin .mul (.k (.int 5)) (.v 16))) .nil))) (.cons (.v 15) .nil))))
 (.cons (.asg 15 (.bin .add (.v 15) (.bi .len (.cons (.v 19) .nil))))
 (.cons (.for [20] (.v 19) (.cons (.setI (.v 14) (.sub (.v 20) (.k (.int 0))) (.ite (.t (.cmp .eq (.sub (.v 20) (.k (.int 2))) (.k (.int 1)))) (.bi .bytes (.cons (.lst (.cons (.bin .sub (.k (.int 0)) (.sub (.v 20) (.k (.int 1)))) .nil)) .nil)) (.k .none)))
 .nil))
 (.cons (.asg 21 (.mk 15 .nil))
 (.cons (.ex (.bm .append (.v 11) (.cons (.bi .len (.cons (.v 10) .nil)) .nil)))
 (.cons (.ex (.fn 80 (.cons (.k (.int 0)) (.cons (.bi .sorted (.cons (.v 19) .nil)) (.cons (.v 10) (.cons (.v 21) (.cons (.v 4) .nil)))))))
 (.cons (.asg 8 (.fn 79 (.cons (.v 8) (.cons (.v 21) (.cons (.v 2) .nil)))))
 O))))))) (lv F S x) σ Q:=by
 have hn:=(h.qu _ (.head _)).1
 refine az (BB (aj (aV (ax (by left) (ax (aU (x':=.int ((1+5*t:Nat):Int)) (cJ aT (ft aT (bp φ) (by decide)) rfl) (congrArg AV.int (by exact rfl))) aQ)) (pR hn p.n0.1 p.n0.2 λy=>aj (aS (by left) (aD (wj λxA G Z r1 W w hR hx xE=>?_)))))))
 have h1:=h.up xE
 have rl:(G.map cU).length<=9000:=aO (Nat.le_trans W (by decide))
 have lm:AV.int ((S.last:Int)+((G.map cU).length:Nat))=AV.int ((S.last+G.length:Nat):Int):=by rw[List.length_map];rfl
 have Y:∀r∈G,r.ok:=λr A=>by
  have hs:r.s∈List.range' (S.last+1) G.length:=w.s▸dq ⟨r,A,rfl⟩
  have:=List.mem_range'_1.mp hs
  exact⟨(w.uk r A).1,by exact n3 [_,_,_] (.le (.a (.v 0) (.n 1)) (.n 10)) (.le (.v 1) (.n 6)) (.le (.v 2) (.n 3)) (.le (.a (.v 0) (.n 1)) (.a (.a (.v 1) (.n 1)) (.v 2))) rfl l6 W this.2,(w.uk r A).2⟩
 refine bG (aU (by left) lm) (mR (aS (by left) ?_))
 have h2:Hl F Z {S with last:=S.last+G.length}:=h1.lst _
 refine Dw (S:={S with last:=S.last+G.length}) (x:=aI x 19 (.ref xA)) h2 hx hR Y p.w4 (by exact n1 [_] (.le (.v 0) (.n 9)) Ie rfl W) λN τ1 h3 z1=>?_
 have ns:Ns G:=List.pairwise_map.mp (w.s▸List.nodup_range':(G.map Rw.s).Nodup)
 have xT:=z1 _ _ hx
 have ψ:bQ (lv F {S with last:=S.last+G.length} (aI (aI x 19 (.ref xA)) 20 N)) 19=some (.ref xA):=rfl
 refine az (fV (by left) rfl λe he=>rL he λE K e1 e2 e3 x2 iE g1 g2 g3 g4 g5 g6 _=>wv ?_)
 subst e1
 have h4:=h3.up x2
 have c1:=h4.m 1 rfl
 have c5:=h4.m 5 rfl
 have sl:(S.stand.map AV.int).length<=9000:=by
  rw[List.length_map,p.sp.length_eq,eP]
  exact Nat.le_trans p.gv.files_len (Nat.le_trans p.l9 (by decide))
 have μ:S.ts.length<=9000:=Nat.le_trans t9 (by decide)
 refine u7 (by left) (by left) c5 sl ?_
 have h5:=h4.stand (S.stand++[(S.ts.length:Int)])
 have ce:(S.stand.map AV.int++[AV.int (S.ts.length:Nat)])=(S.stand++[(S.ts.length:Int)]).map .int:=aY.symm
 rw[ce]
 have z5:Fz K (upd K S.sA (false,.list ((S.stand++[(S.ts.length:Int)]).map .int))):=Fz.mut c5
 have a5:=h3.m 5 rfl
 have J:=iE.mv ((Mo.refl [S.sA] K).mut (d:=(false,.list ((S.stand++[(S.ts.length:Int)]).map .int))) (.head _)) z5 (dh (Ne.symm (af a5 g2))) (dh (Ne.symm (af a5 g3))) (dh (Ne.symm (af a5 g1)))
 generalize upd K S.sA (false,.list ((S.stand++[(S.ts.length:Int)]).map .int))=γ at h5 z5 J
 have β:=x2.fz.trans z5
 have ν:=β _ _ xT
 refine dJ (BB (aj (iQ (aj (mG (aj (aS (by left) (aD (oX ν (hR.fz (z1.trans β)) ?_ (by exact n1 [_] nQ Ie rfl W) ns λy' I hy pz so=>aj (aS (by left) (aj (aS (by left) (aj (aS (by left) (aD ?_)))))))))))))))
 ·intro e;rw[e]at r1;exact absurd r1 (by decide)
 have h6:=h5.up (aK.new (c:=(false,.list (I.map cU))) hy)
 have zl:=pz.length_eq
 have i0:=List.getElem?_eq_getElem (l:=I) (i:=0) (by exact m2 [_,_] CL 0 1 (-1) (.le (.n 1) (.v 1)) C1 rfl r1 zl)
 have i1:=List.getElem?_eq_getElem (l:=I) (i:=I.length-1) (by exact n1 [_,_] J2 G0 rfl (Nat.sub_add_cancel (n:=I.length) (m:=1) (m2 [_,_] (.le (.n 1) (.v 0)) 0 1 (-1) (.le (.n 1) (.v 1)) (.eq (.v 0) (.v 1)) rfl r1 zl)))
 have d1:=h6.m 1 rfl
 have η:=J.up (aK.new (c:=(false,.list (I.map cU))) hy)
 have b1:=h3.m 1 rfl
 have frd:=h3.fr g2
 have κ:=h3.fr g3
 have ω:=h3.fr g1
 have ξ:=h5.fr hy
 have t1:F.tA∈iZ F {S with last:=S.last+G.length}:=List.mem_of_getElem? (i:=1) rfl
 have zz:gb (upd γ y' (false,.list (I.map cU))) I:=λr A=>(hR.fz ((z1.trans β).trans (Fz.new (c:=(false,.list (I.map cU))) hy))) r (pz.subset A)
 have ny:∀{a d},γ a=some d->y'≠a:=λe=>Ne.symm (af e hy)
 refine yv (k:=0) (E:=E) (ts:=S.ts) (fz:=false) ab zz (λr A=>Y r (pz.subset A)) i0 i1 (by exact n2 [_,_] jJ (.le (.v 1) (.n 3)) C1 rfl W zl) d1 μ η (by rw[e3];decide) ?_ ?_ (a7 (Ne.symm g6) (dh (Ne.symm g5))) λpp a ρ ε tE rE mo=>?_
 ·exact a7 (Ne.symm (ny (h5.m 1 rfl))) (a7 (af b1 g3) (a7 (af b1 g2) (dh (af b1 g1))))
 ·exact a7 (ny J.a) (a7 (ny J.d) (dh (ny J.c.choose_spec)))
 have z4:Fz (upd γ y' (false,.list (I.map cU))) ρ:=mo.fz λq z=>by
  rcases au z with rfl|z
  ·exact⟨_,d1⟩
  rcases au z with rfl|z
  ·exact⟨_,η.a⟩
  ·rw[aw z];exact⟨_,ab⟩
 have h7:=h6.ts (ts:=S.ts++[.ref y']) mo z4 (λq z=>by
  rcases au z with rfl|z
  ·exact .inl rfl
  rcases au z with rfl|z
  ·exact .inr κ
  ·rw[aw z];exact .inr ξ) tE rfl
 generalize hf:(⟨a,S.ts.length,I.length*F.unit,I[0]'(by rw[zl];exact r1),I[I.length-1]'(Nat.sub_lt (by rw[zl];exact r1) Nat.one_pos),I⟩:FM)=f at ε
 have fr:f.rows=I:=by rw[←hf]
 have fn:f.num=S.ts.length:=by rw[←hf]
 have nz:Ns I:=ns.perm pz
 have gf:Gf F.unit f:=by rw[←hf];exact⟨so,nz,λr A=>Y r (pz.subset A),i0,i1,rfl⟩
 have ζ:∀r∈f.rows,S.last<r.s/\r.s<=S.last+G.length:=λr A=>by
  rw[fr]at A
  have hs:r.s∈List.range' (S.last+1) G.length:=w.s▸dq ⟨r,pz.subset A,rfl⟩
  have:=List.mem_range'_1.mp hs
  exact⟨this.1,Nat.le_of_lt_succ (by rw[Nat.add_right_comm]at this;exact this.2)⟩
 have B:(E.more pp 0 f).dl=[]:=e2
 have D:(E.more pp 0 f).al=[(pp,0,f)]:=by show E.al++_=_;rw[e3];rfl
 have ll:S.last<=S.last+G.length:=Nat.le_add_right _ _
 have l9:S.last+G.length<=9:=by exact Nat.add_le_add l6 W
 have kv:=y9 p.gv ll B D gf ζ λj g R=>by rw[fn];exact h.num R
 have eo:GC S.V.lv.length (E.more pp 0 f):=by
  refine⟨λq z=>?_,λq z=>?_,?_,λq z=>?_,?_,?_⟩
  ·rw[B]at z;cases z
  ·rw[D]at z;rw[aw z];exact Nat.lt_of_lt_of_le (show 0<2 by decide) p.gv.n.1
  ·rw[D];exact List.pairwise_singleton _ _
  ·rw[B]at z;cases z
  ·rw[B];decide
  ·rw[D];exact Nat.le_of_ble_eq_true rfl
 refine az (aV (by left) (tP h7.f.hV p.sm ε eo (kv.mok p.gv ll l9) h7.f.hop p.oo p.nl (λV' md=>(kv.made p.gv ll md).fsz l9 p.u0.1 p.u0.2) λV' δ md ho sc x5 iV=>?_))
 have gv:=kv.made p.gv ll md
 have π:∀j,∀q∈bU V' j,kU δ (S.ts++[.ref y']) q:=λj q z=>by
  rcases(dv B D).mp (bL md z).2 with z|⟨_,rfl⟩
  ·exact(h7.f.it j q z).fz x5.fz
  ·exact⟨y',by rw[fn];exact List.getElem?_concat_length,by rw[fr];exact x5 _ _ rE,by rw[fr];exact zz.fz (z4.trans x5.fz)⟩
 have h8:=(h7.up x5).ver iV π
 have old:∀q∈cj S.V,q.s<=S.last:=λq z=>by obtain⟨j,g,R,z⟩:=aZ.mp z;exact(p.gv.sl j g R q z).2
 have nw:=uf p.wt p.w4 old w.s λr A=>(w.uk r A).1
 have θ:∀{r},r∈cj V'↔r∈cj S.V++G:=λ{r}=>(iS p.gv B D md).trans (by rw[fr,List.mem_append,pz.mem_iff])
 have tn:(S.ts.length:Int)∉nums S.V:=λe=>by
  obtain⟨j,g,R,e⟩:=fI.mp e
  exact absurd (cY e) (Nat.ne_of_lt (h.num R))
 refine k ⟨V',S.sA,S.last+G.length,S.ts++[.ref y'],S.stand++[(S.ts.length:Int)],S.hs,S.ks,G.foldl kS S.now,S.made,S.ms,S.pts⟩ (.ref xA) N (.ref E.adr) δ h8 ?_ (Nat.add_le_add_left W _) rfl rfl (by show(S.ts++[_]).length=_;rw[List.length_append];rfl)
 refine⟨p.oo,md.n▸p.nl,p.n0,p.u0,gv,sc,l9,p.me,p.mo,λq z=>Nat.le_trans (p.hl q z) ll,pD.trans p.w4,λu hu=>?_,λq z=>⟨(p.ht q z).1,λu hu=>?_⟩,p.kt,?_,?_,md.n▸p.pl,p.po,p.kl,?_⟩
 ·exact(nw u hu).imp λo ho=>⟨ho.1.same (λq z=>θ.mpr z) λq z _ _=>θ.mp z,ho.2⟩
 ·obtain⟨o,ho,e⟩:=(p.ht q z).2 u hu
  refine⟨o,ho.same (λr A=>(iS p.gv B D md).mpr (.inl A)) λr A _ l=>((iS p.gv B D md).mp A).elim id λA=>?_,e⟩
  exact absurd (Nat.le_trans l (p.hl q z)) (eK (ζ r A).1)
 ·refine(List.perm_ext_iff_of_nodup ?_ gv.nums).mpr λy=>?_
  ·exact List.nodup_append.mpr ⟨p.sp.symm.pairwise p.gv.nums Ne.symm,List.pairwise_singleton _ _,λa ha b hb e=>tn (by rw[aw hb]at e;exact e▸p.sp.subset ha)⟩
  ·rw[sH p.gv B D md,List.mem_append,p.sp.mem_iff,List.mem_singleton,fn]
 ·refine List.pairwise_append.mpr ⟨p.ss,List.pairwise_singleton _ _,λa ha b hb=>?_⟩
  rw[aw hb]
  obtain⟨j,g,R,rfl⟩:=fI.mp (p.sp.subset ha)
  exact bF (Nat.le_of_lt (h.num R))
 ·show(S.ts++[_]).length<=100
  rw[List.length_append,List.length_singleton];exact Nat.le_trans (Nat.succ_le_succ t9) (Nat.le_of_ble_eq_true rfl)
end
section
variable {ext:bj} {σ Z:Hp} {F:Fx} {S S':St} {x:Nat->AV} {ss:SS} {Q:Fl->aG->Hp->Prop}
theorem Hl.pts(h:Hl F σ S){pts:List (Option Rw)}(m:Mo [F.pA] σ Z)(e:Z F.pA=some (false,.list (pts.map on))):Hl F Z {S with pts:=pts}:=by
 have f:=h.f.fz (h.z m λy a=>.inl (by rw[aw a];exact List.mem_of_getElem? (i:=0) rfl))
 exact h.cell (i:=0) rfl m (λy a=>.inl (aw a)) e rfl ⟨f.hop,f.hP,f.hO,f.hV,f.hd,f.it,f.kp⟩ λq b=>.inl b
theorem Hl.newS(h:Hl F σ S){s:Addr}(hs:σ s=none)(w:List Int):Hl F (upd σ s (false,.list (w.map .int))) {S with sA:=s,stand:=w}:=by
 have l:=h.up (aK.new (c:=(false,.list (w.map .int))) hs)
 have n:=(h.fr hs).1
 have ne {i:Nat} {y:Addr} (B:(iZ F S)[i]?=some y):y≠s:=λe=>n (e▸List.mem_of_getElem? B)
 have d {i j:Nat} {a b:Addr} (r:(iZ F S)[i]?=some a) (q:(iZ F S)[j]?=some b) (k:j≠i):b≠a:=h.d r q k
 refine⟨⟨l.f.hop,l.f.hP,l.f.hO,l.f.hV,l.f.hd,l.f.it,l.f.kp⟩,λp g=>?_,?_,λp g=>⟨(l.qu p g).1,λo=>?_⟩⟩
 ·rcases au g with rfl|g
  ·exact l.m 0 rfl
  rcases au g with rfl|g
  ·exact l.m 1 rfl
  rcases au g with rfl|g
  ·exact l.m 2 rfl
  rcases au g with rfl|g
  ·exact l.m 3 rfl
  rcases au g with rfl|g
  ·exact l.m 4 rfl
  rcases au g with rfl|g
  ·exact ab
  rcases au g with rfl|g
  ·exact l.m 6 rfl
  ·rw[aw g];exact l.m 7 rfl
 ·have D:=h.nd
  have e:iZ F {S with sA:=s,stand:=w}=(iZ F S).set 5 s:=rfl
  rw[e]
  refine List.pairwise_iff_getElem.mpr λi j r q A=>?_
  rw[List.length_set]at r q
  have gi:=List.getElem?_eq_getElem r
  have u:=List.getElem?_eq_getElem q
  rw[List.getElem_set,List.getElem_set]
  by_cases t:5=i
  ·rw[if_pos t,if_neg (by exact Nat.ne_of_lt (n2 [_,_] (.le (.a (.n 5) (.n 1)) (.v 0)) Li (.eq (.n 5) (.v 1)) rfl A t))];exact Ne.symm (ne u)
  ·rw[if_neg t]
   by_cases z:5=j
   ·rw[if_pos z];exact ne gi
   ·rw[if_neg z];exact d u gi (by exact Nat.ne_of_lt (n1 [_,_] J2 J2 rfl A))
 ·have e:iZ F {S with sA:=s,stand:=w}=(iZ F S).set 5 s:=rfl
  rw[e]at o
  rcases List.mem_or_eq_of_mem_set o with o|o
  ·exact(l.qu p g).2 o
  ·exact(h.fr hs).2 p g o
theorem yp{hs:List Hd}{a:Nat}(c:((hs.map Hd.k).map fc.seq).Pairwise (·<=·))(d:∀h∈hs,h.s<=a):yb hs a<=a/\∀h∈hs,yb hs a<=h.s:=by
 cases hs with
 |nil=>exact⟨Nat.le_refl _,λ_=>nM⟩
 |cons e hs=>
  refine⟨d e (.head _),λh b=>?_⟩
  rcases au b with rfl|b
  ·exact Nat.le_refl _
  ·exact(List.pairwise_cons.mp c).1 _ (dq ⟨_,dq ⟨h,b,rfl⟩,rfl⟩)
noncomputable def gi(a:List Nat):List Int:=a.map λn:Nat=>(n:Int)
noncomputable def dD(c:List Int)(d:List Nat)(a b:Nat):List Int:=(c.filter λn=>!(gi d).any (·==n))++aM a b
theorem xM{unit:Int}{q k sm:Nat}{V t:bo}{o p fs:List FM}{E:Ed}{ts l:List AV}{i:List Nat}{d:List Int}(g:Gv unit q V)(c:eS V k o p)(r:jG unit V k sm o p fs E)(m:iH V E t)(U:Gv unit q t)(lt:∀j,∀f∈bU V j,f.num<ts.length)
  (w:(fs=o/\p=[]/\i=[]/\l=ts)∨(i=(o++p).map FM.num/\fs.map FM.num=List.range' ts.length fs.length/\l.length=ts.length+fs.length)) (G:d.Perm (nums V)) (W:d.Pairwise (·<=·)):
  (dD d i ts.length l.length).Perm (nums t)/\(dD d i ts.length l.length).Pairwise (·<=·):=by
 have nd:d.Nodup:=G.symm.pairwise g.nums Ne.symm
 have K:∀y∈d,y<(ts.length:Int):=λy hy=>by obtain⟨j,f,s,rfl⟩:=fI.mp (G.subset hy);exact dF (lt j f s)
 have B:∀{y:Int},y∈aM ts.length l.length↔(ts.length:Int)<=y/\y<l.length:=λ{y}=>by
  refine⟨mem_range,λh=>?_⟩
  unfold aM
  exact dq ⟨(y-ts.length).toNat,List.mem_range.mpr (by exact Int.lt_toNat.mpr (by rw[Int.toNat_of_nonneg (Int.sub_nonneg_of_le h.1)];exact Int.sub_lt_sub_right h.2 _)),by exact(by rw[Int.toNat_of_nonneg (Int.sub_nonneg_of_le h.1),Int.add_comm];exact Int.sub_add_cancel _ _)⟩
 have O:∀{R:Int->Int->Prop},(∀a b,a<b->R a b)->(aM ts.length l.length).Pairwise R:=λ{R} hR=>by
  unfold aM
  exact List.pairwise_map.mpr (List.pairwise_lt_range.imp λh=>hR _ _ (by exact z1 [_,_,_] (.le (.a (.a (.v 0) (.v 1)) (.n 1)) (.a (.v 0) (.v 2))) (.le (.a (.v 1) (.n 1)) (.v 2)) rfl (cl h)))
 have I:∀{y:Int},y∈d.filter (λn=>!(gi i).any (·==n))↔y∈d/\y∉gi i:=λ{y}=>by
  rw[List.mem_filter]
  refine and_congr Iff.rfl ?_
  cases e:(gi i).any (·==y)with
  |true=>
   obtain⟨z,Y,e⟩:=List.any_eq_true.mp e
   have:z=y:=by simpa using e
   exact⟨fT,λh=>(h (this▸Y)).elim⟩
  |false=>exact⟨λ_ h=>by
   have a:(gi i).any (λx=>x==y)=true:=List.any_eq_true.mpr ⟨y,h,beq_self_eq_true y⟩
   exact absurd (e.symm.trans a) fT,λ_=>rfl⟩
 have A:∀{y:Int},y∈dD d i ts.length l.length↔y∈nums t:=λ{y}=>by
  unfold dD
  rw[List.mem_append,I,B,vp g c r m,G.mem_iff]
  rcases w with⟨rfl,rfl,rfl,rfl⟩|⟨rfl,N,J⟩
  ·refine⟨λh=>?_,λh=>.inl ⟨?_,nM⟩⟩
   ·rcases h with h|h
    ·by_cases e:y∈fs.map λf=>(f.num:Int)
     ·exact .inr e
     ·exact .inl ⟨h.1,by rw[List.append_nil];exact e⟩
    ·exact absurd h.2 (fZ h.1)
   ·rcases h with h|h
    ·exact h.1
    ·obtain⟨f,s,e⟩:=bz h
     exact fI.mpr ⟨k,f,c.i0 f s,e⟩
  ·refine or_congr (and_congr Iff.rfl (not_congr ?_)) ⟨λh=>?_,λh=>?_⟩
   ·unfold gi;rw[List.map_map];exact Iff.rfl
   ·have:y.toNat∈fs.map FM.num:=by rw[N];exact List.mem_range'_1.mpr (by exact⟨(Int.le_toNat (Int.le_trans (Int.natCast_nonneg _) h.1)).mpr h.1,J▸tl (Int.le_trans (Int.natCast_nonneg _) h.1) h.2⟩)
    obtain⟨f,s,e⟩:=bz this
    exact dq ⟨f,s,by exact(ce e).trans (tn (Int.le_trans (Int.natCast_nonneg _) h.1)).symm⟩
   ·obtain⟨f,s,e⟩:=bz h
    have:f.num∈List.range' ts.length fs.length:=N▸dq ⟨f,s,rfl⟩
    have:=List.mem_range'_1.mp this
    exact⟨e▸bF this.1,by rw[J];exact e▸dF this.2⟩
 refine⟨(List.perm_ext_iff_of_nodup ?_ U.nums).mpr λy=>A,?_⟩
 ·exact List.nodup_append.mpr ⟨nd.filter _,O λa b h=>Int.ne_of_lt h,λa D b u=>Int.ne_of_lt (Int.lt_of_lt_of_le (K a (I.mp D).1) (B.mp u).1)⟩
 ·exact List.pairwise_append.mpr ⟨W.filter _,O λa b h=>Int.le_of_lt h,λa D b u=>Int.le_of_lt (Int.lt_of_lt_of_le (K a (I.mp D).1) (B.mp u).1)⟩
end
section
variable {ext:bj} {σ Z:Hp} {F:Fx} {S S':St} {x:Nat->AV} {U:SS} {Q:Fl->aG->Hp->Prop}
theorem Hl.sel(h:Hl F σ S)(p:Pl F S):Dz σ F.p F.o F.pA S.V F.op S.pts:=⟨h.f.hP,h.f.hO,h.f.hV,p.gv.vrd p.l9,p.so,h.f.hop,p.oo,p.nl,h.m 0 rfl,p.pl,p.po,p.gv.fsz p.l9 p.u0.1 p.u0.2⟩
def Jc(F:Fx)(S:St)(σ:Hp)(v:AV)(Z:Hp):Prop:=(v=.none/\Z=σ)∨∃(c:Cm) (a:List (Option Rw)),v=.ref c.adr/\c.V=S.V/\c.o=F.op/\Bb σ Z c F.pA a/\a.length=S.V.lv.length/\AL a/\c.k+1<S.V.lv.length
theorem AU{n:Nat}{q t:Int}(h:Hl F σ S)(p:Pl F S)(j:bQ (lv F S x) 16=some (.int t))(e:bQ (lv F S x) 27=some (.int q))
  (k:∀v Z,Jc F S σ v Z->Go (cB ext (n+9)) U (lv F S (aI x 29 v)) Z Q):
  Go (cB ext (n+9)) (.cons (.asg 29 (.k .none))
 (.cons (.ite (.t (.cmp .eq (.bin .mod (.v 27) (.k (.int 2))) (.k (.int 0)))) (.cons (.asg 29 (.mth (.v 6) 38 (.cons (.v 8) (.cons (.v 7) .nil))))
 .nil) .nil)
 (.cons (.ite (.and (.cons (.t (.cmp .is (.v 29) (.k .none))) (.cons (.or (.cons (.t (.cmp .gt (.v 16) (.k (.int 0)))) (.cons (.t (.cmp .eq (.bin .mod (.v 27) (.k (.int 2))) (.k (.int 1)))) .nil))) .nil))) (.cons (.asg 29 (.fn 86 (.cons (.v 6) (.cons (.v 8) (.cons (.v 7) (.cons (.v 27) (.cons (.v 3) .nil)))))))
 .nil) .nil)
 U))) (lv F S x) σ Q:=by
 have r:=h.sel p
 have u:=r.hP
 unfold ye at u
 have w:F.op.nl=S.V.lv.length:=p.nl
 refine bG (by left) ?_
 have i:∀v,bQ (lv F S (aI x 29 v)) 16=some (.int t):=λv=>j
 have o:∀v,bQ (lv F S (aI x 29 v)) 27=some (.int q):=λv=>e
 have Cv:=o .none
 show Go _ _ (lv F S (aI x 29 .none)) σ Q
 refine bC (λv:AV=>lv F S (aI x 29 v)) (λv Z=>Jc F S σ v Z) (λR b=>?_) λv Z J=>?_
 ·refine g8 (bR (eX (cH (bp Cv) aT (by decide)) aT rfl)) (jd (λ_=>?_) λ_=>ak (bk (b .none σ (.inl ⟨rfl,rfl⟩))))
  refine az (aW (by left) u rfl rfl (by left) (A3 r (ak (bk (b .none σ (.inl ⟨rfl,rfl⟩)))) λc a Z f g s l po m=>ak (bk (b (.ref c.adr) Z (.inr ⟨c,a,rfl,f,g,s,l,po,m⟩)))))
 ·rcases J with⟨rfl,rfl⟩|⟨c,a,rfl,J⟩
  ·refine bC (λv:AV=>lv F S (aI x 29 v)) (λv d=>Jc F S Z v d) (λR b=>?_) λv d J=>k v d J
   have CJ:=i .none
   have no:Go (cB ext (n+9)) .nil (lv F S (aI x 29 .none)) Z (Kj R Q):=ak (bk (b .none Z (.inl ⟨rfl,rfl⟩)))
   refine g8 (iA (bR (vg (bp rfl) rfl)) (jo (rT (bR (eX (bp CJ) aT rfl)) λ_=>bR (eX (cH (bp Cv) aT (by decide)) aT rfl)))) (jd (λ_=>?_) λ_=>no)
   refine az (aV (ax (by left) (ax (by left) (ax (by left) (ax (bp Cv) (ax (aU (x':=.int (S.V.lv.length:Nat)) (v:=.int (F.op.nl:Nat)) (by left) (by rw[w])) aQ))))) (vO r no λc a d f g s l po m=>ak (bk (b (.ref c.adr) d (.inr ⟨c,a,rfl,f,g,s,l,po,m⟩)))))
  ·refine AX (hZ (bR (vg (bp rfl) rfl))) (ak (cx (k _ Z (.inr ⟨c,a,rfl,J⟩))))
end
section
variable {ext:bj} {σ Z:Hp} {F:Fx} {S S':St} {x:Nat->AV} {ss:SS} {Q:Fl->aG->Hp->Prop}
theorem Hl.cin(h:Hl F σ S)(p:Pl F S){c:Cm}{t:List (Option Rw)}(r:c.V=S.V)(u:c.o=F.op)(b:Bb σ Z c F.pA t)(D:c.k+1<S.V.lv.length):Fa Z c F.tA S.ts/\eS S.V c.k c.in0 c.in1:=by
 have sel:=b.sel
 rw[r]at sel
 have q:=AN p.gv sel
 have z:=h.z b.mo λy w=>.inl (by rw[aw w];exact List.mem_of_getElem? (i:=0) rfl)
 have inl:=Nat.le_trans (q.ins_len p.gv) p.l9
 rw[List.length_append]at inl
 have E:∀f∈c.in0++c.in1,∃j,f∈bU S.V j:=λf g=>(aE g).elim (λg=>⟨_,q.i0 f g⟩) λg=>⟨_,q.i1 f g⟩
 have tp:F.tA≠F.pA:=h.d (i:=0) (j:=1) rfl rfl (by decide)
 refine⟨⟨b.kc,b.hC,⟨u▸p.oo,r▸p.gv.vrd p.l9,by rw[u,r];exact p.nl,by exact n1 [_,_] nQ (.le (.a (.v 0) (.v 1)) (.n 9)) rfl inl,by exact n1 [_,_] nQ (.le (.a (.v 1) (.v 0)) (.n 9)) rfl inl,b.lg,b.og,by rw[r];exact D⟩,b.kpl,b.kE,b.ed,b.ea,b.mo _ _ (dh tp) (h.m 1 rfl),p.tl,?_,λf g=>?_,?_,Nat.le_trans (q.len p.gv) (Nat.le_trans p.l9 (by decide)),q.ns p.gv⟩,q⟩
 ·exact List.nodup_cons.mpr ⟨λA=>af (h.m 1 rfl) (b.fr _ A) rfl,b.nd⟩
 ·obtain⟨j,g⟩:=E f g
  exact⟨(h.f.it j f g).fz z,(p.gv.gf j f g).ok⟩
 ·obtain⟨_,_,_,_,_,ne,_⟩:=sel.s
  cases e:c.in0 with
  |nil=>exact(ne e).elim
  |cons f l=>
   have B:f∈c.in0:=e▸.head _
   exact List.ne_nil_of_mem (List.mem_flatMap.mpr ⟨f,.head _,(p.gv.gf _ f (q.i0 f B)).lm⟩)
theorem Pl.comp(h:Hl F σ S)(p:Pl F S){k:Nat}{i:bo}{c d fs:List FM}{E:Ed}{b:List AV}{a:List Nat}{pts:List (Option Rw)}{s:Addr}(t:eS S.V k c d)(r:jG F.unit S.V k (yb S.hs S.last) c d fs E)(md:iH S.V E i)(B:zm i)
  (w:(fs=c/\d=[]/\a=[]/\b=S.ts)∨(a=(c++d).map FM.num/\fs.map FM.num=List.range' S.ts.length fs.length/\b.length=S.ts.length+fs.length)) (J:pts.length=S.V.lv.length) (po:AL pts) (tl:b.length<=100):
  Pl F {S with V:=i,sA:=s,ts:=b,stand:=dD S.stand a S.ts.length b.length,pts:=pts}:=by
 have K:=uO p.gv t r
 have A:=K.made p.gv (Nat.le_refl _) md
 have y:=p.mo.s
 rw[p.me]at y
 have z:=yp y p.hl
 have st:=xM p.gv t r md A (λj f N=>h.num N) w p.sp p.ss
 have g:∀{u s:Nat} {m:Option AV},yb S.hs S.last<=s->(∃o,gL (cj S.V) u s o/\m=some (fP o))->∃o,gL (cj i) u s o/\m=some (fP o):=λhs ⟨o,O,e⟩=>by
  obtain⟨I,D,G⟩:=vG p.gv t r md hs O
  exact⟨I,D,G▸e⟩
 exact⟨p.oo,md.n▸p.nl,p.n0,p.u0,A,B,p.l9,p.me,p.mo,p.hl,p.w4,λu l=>g z.1 (p.wt u l),λq v=>⟨(p.ht q v).1,λu l=>g (z.2 q v) ((p.ht q v).2 u l)⟩,p.kt,st.1,st.2,J.trans md.n.symm,po,p.kl,tl⟩
theorem jG.fl{unit:Int}{a k n:Nat}{V:bo}{d e fs:List FM}{E:Ed}(x:jG unit V k n d e fs E)(c:eS V k d e)(g:Gv unit a V):fs.length<=a:=by
 refine Nat.le_trans (lM λf i=>(x.gf f i).pos) (mX (m:=a) (List.pairwise_flatMap.mpr ⟨λf i=>(x.gf f i).ns,x.fd.imp λh r b q l=>(h.2 r b q l).2⟩) λr b=>?_)
 obtain⟨f,i,b⟩:=jc b
 obtain⟨j,q,l,b⟩:=aZ.mp (eH c (x.sub f i r b))
 exact g.sl j q l r b
end
section
variable {ext:bj} {σ U:Hp} {F:Fx} {S Z:St} {x:Nat->AV} {O:SS} {Q:Fl->aG->Hp->Prop}
theorem EA{a:List Nat}:a.map BC=(gi a).map .int:=by unfold gi;rw[List.map_map];rfl
theorem Ao{n:Nat}{v:AV}(h:Hl F σ S)(p:Pl F S)(J:Jc F S σ v U)(t9:S.ts.length<=90)(β:x 29=v)(ζ:bQ (lv F S x) 28=some (.int (yb S.hs S.last)))
  (k:∀Z η ξ U,Hl F U Z->Pl F Z->Z.last=S.last->Z.hs=S.hs->Z.ks=S.ks->Z.ts.length<=S.ts.length+9->Go (cB ext (n+8)) O (lv F Z (aI (aI x 30 η) 31 ξ)) U Q):
  Go (cB ext (n+8)) (.cons (.ite (.t (.cmp .isnt (.v 29) (.k .none))) (.cons (.asg 30 (.bi .len (.cons (.v 10) .nil)))
 (.cons (.asg 31 (.fn 81 (.cons (.v 29) (.cons (.v 10) (.cons (.v 28) (.cons (.v 4) .nil))))))
 (.cons (.asg 11 (.bin .add (.comp 37 (.v 11) (.cons (.t (.cmp .notin (.v 37) (.v 31))) .nil) (.v 37)) (.compR 37 (.v 30) (.bi .len (.cons (.v 10) .nil)) .nil (.v 37))))
 (.cons (.asg 8 (.fn 79 (.cons (.v 8) (.cons (.at (.v 29) 55) (.cons (.v 2) .nil)))))
 (.cons (.ex (.fn 84 (.cons (.v 10) (.cons (.v 8) (.cons (.v 13) .nil)))))
 (.cons (.ite (.t (.cmp .ne (.mth (.v 8) 24 .nil) (.v 11))) (.cons (.ret (.k (.bool false)))
 .nil) .nil)
 .nil)))))) .nil) O) (lv F S x) U Q:=by
 have κ:S.ts.length<=9000:=Nat.le_trans t9 (by decide)
 rcases J with⟨rfl,rfl⟩|⟨c,pts,rfl,Y,eo,I,pl,po,kn⟩
 ·have o:bQ (lv F S x) 29=some .none:=by show bQ [x 29] 0=_;rw[β];rfl
  exact AX (bR (hU (bp o) rfl)) (ak (cx (k S (x 30) (x 31) U h p rfl rfl rfl (Nat.le_add_right _ _))))
 ·have o:bQ (lv F S x) 29=some (.ref c.adr):=by show bQ [x 29] 0=_;rw[β];rfl
  have γ:∀v,bQ (lv F S (aI x 30 v)) 29=some (.ref c.adr):=λ_=>o
  have W:∀v,bQ (lv F S (aI x 30 v)) 28=some (.int (yb S.hs S.last)):=λ_=>ζ
  obtain⟨B,G⟩:=h.cin p Y eo I kn
  have h1:=h.pts I.mo I.hp
  have so:=p.mo.s
  rw[p.me]at so
  have s9:yb S.hs S.last<10:=Nat.lt_succ_of_le (Nat.le_trans (yp so p.hl).1 p.l9)
  have ct:=B.ht
  refine EM (bR (hU (bp o) rfl)) (bG (by left) ?_)
  show Go _ _ (lv F S (aI x 30 (.int (S.ts.length:Nat)))) U _
  have μ:=W (.int (S.ts.length:Nat))
  have δ:=γ (.int (S.ts.length:Nat))
  refine az (aV (ax (bp δ) (ax (by left) (ax (bp μ) (ax (by left) aQ)))) (ty B s9 λgA b dl al i υ z=>?_))
  show Go _ _ (lv F S (aI (aI x 30 (.int (S.ts.length:Nat))) 31 (.ref gA))) υ _
  have gv:Gv F.unit S.last c.V:=Y▸p.gv
  obtain⟨fs,cr,ni,⟨t2,et⟩,w⟩:=Bk gv (Y▸G) z λj f q=>h.num (Y▸q)
  rw[Y]at cr
  have z2:Fz U υ:=z.mo.fz λy l=>by
   rcases au l with rfl|l
   ·exact⟨_,B.hc⟩
   rcases au l with rfl|l
   ·exact⟨_,B.hp⟩
   rcases au l with rfl|l
   ·exact⟨_,B.ht⟩
   rcases au l with rfl|l
   ·exact⟨_,B.hE.d⟩
   ·rw[aw l];exact⟨_,B.hE.a⟩
  have h2:Hl F υ {S with pts:=pts,ts:=b}:=h1.ts z.mo z2 (λy l=>by
   rcases au l with rfl|l
   ·exact .inr (h.fr (I.fr _ (.head _)))
   rcases au l with rfl|l
   ·exact .inr (h.fr (I.fr _ (.tail _ (.head _))))
   rcases au l with rfl|l
   ·exact .inl rfl
   ·exact .inr (h.fr (I.fr _ (.tail _ (.tail _ (.tail _ l)))))) z.ht et
  have A:b.length<=S.ts.length+9:=by
   have q1:=cr.fl G p.gv
   rcases w with⟨_,_,_,e⟩|⟨_,_,e,_⟩
   ·rw[e];exact Nat.le_add_right S.ts.length 9
   ·rw[e];exact Nat.add_le_add_left (Nat.le_trans q1 p.l9) _
  have c5:=h2.m 5 rfl
  have sl:S.stand.length<=60:=by rw[p.sp.length_eq,eP];exact p.sm.f
  obtain⟨fg,hg⟩:=z.hg
  rw[EA]at hg
  refine az (dg (jX (aS (by left) (Eb (g:=AV.int) (v:=AV.int) S.stand (λn=>!(gi i).any (·==n)) c5 (bh sl rfl) (λf _=>bR (qw (bp rfl) (bp rfl) hg bT)) (λf _ _=>bp rfl) λc1 θ=>?_))))
  have x1:=aK.new (c:=(false,.list ((S.stand.filter λn=>!(gi i).any (·==n)).map .int))) θ
  have π:=x1 _ _ z.ht
  have u:b.length<=9000:=by exact n2 [_,_] jJ (.le (.v 1) (.n 90)) (.le (.v 0) (.a (.v 1) (.n 9))) rfl t9 A
  refine uy (aS (by left) (aS (by left) (BH (v:=AV.int) ⟨Int.natCast_nonneg _,bF κ,Int.natCast_nonneg _,bF u⟩ (λ_ _=>bp rfl) λc2 R=>?_)))
  have x2:=x1.trans (aK.new (c:=(false,.list ((aM S.ts.length b.length).map .int))) R)
  have rl:(aM S.ts.length b.length).length<=9000:=by unfold aM;rw[List.length_map,List.length_range];exact Int.toNat_le.mpr (Int.le_trans (Int.sub_le_self _ (Int.natCast_nonneg _)) (bF u))
  refine iR (ag R ab) ab ⟨aO (Nat.le_trans (List.length_filter_le _ _) (bh sl rfl)),aO rl⟩ λs hs=>?_
  rw[show(S.stand.filter λn=>!(gi i).any (·==n)).map AV.int++(aM S.ts.length b.length).map AV.int=(dD S.stand i S.ts.length b.length).map .int from List.map_append.symm]
  have D:Hl F _ {S with pts:=pts,ts:=b,sA:=s,stand:=dD S.stand i S.ts.length b.length}:=(h2.up x2).newS hs (dD S.stand i S.ts.length b.length)
  have x3:=x2.trans (aK.new (c:=(false,.list ((dD S.stand i S.ts.length b.length).map .int))) hs)
  obtain⟨ga,go,sk,kc⟩:=z.kc
  have ε:=x3 _ _ kc
  have iE:=z.hE.up x3
  generalize upd _ s (false,.list ((dD S.stand i S.ts.length b.length).map .int))=ω at D x3 ε iE
  have kv:=uO p.gv G cr
  have ll:=Nat.le_refl S.last
  refine az (aV (ax (by left) (ax (uM (bp δ) ε (by kernel_rfl) rfl) (ax (by left) aQ))) (tP (V:=S.V) (E:={c.E with dl:=dl,al:=al}) D.f.hV p.sm iE (Ej p.gv G cr ni p.l9) (kv.mok p.gv ll p.l9) D.f.hop p.oo p.nl (λV' md=>(kv.made p.gv ll md).fsz p.l9 p.u0.1 p.u0.2) λV' K md ho sc x5 iV=>?_))
  have ν:∀j,∀f∈bU V' j,kU K b f:=λj f q=>by
   rcases(df cr).mp (bL md q).2 with q|⟨ej,q⟩
   ·exact(D.f.it j f (cW q)).fz x5.fz
   ·rcases w with⟨e1,_,_,_⟩|⟨_,_,_,it⟩
    ·exact(D.f.it c.k f (G.i0 f (e1▸q))).fz x5.fz
    ·exact(it f q).fz (x3.fz.trans x5.fz)
  have h4:Hl F K {S with V:=V',sA:=s,ts:=b,stand:=dD S.stand i S.ts.length b.length,pts:=pts}:=(D.up x5).ver iV ν
  have p4:=p.comp h (s:=s) G cr md sc (w.imp id λw=>⟨w.1,w.2.1,w.2.2.1⟩) pl po (Nat.le_trans A (by exact n1 [_] (.le (.a (.v 0) (.n 9)) (.n 100)) HT rfl t9))
  refine oS (n:=n+6) (S:={S with V:=V',sA:=s,ts:=b,stand:=dD S.stand i S.ts.length b.length,pts:=pts}) (x:=aI (aI x 30 (.int (S.ts.length:Nat))) 31 (.ref gA)) h4 p4 λN e2 h5 p5=>?_
  have v5:=h5.f.hV.v
  have d5:=h5.m 5 rfl
  refine bJ (kL (cG (aW (by left) v5 rfl rfl (by left) (iF h5.f.hV p5.sm λns r q1 q2 hr=>aS (by left) (C6 ab (ag hr d5) bT bT (dG ?_))))))
  rw[oO (q1.trans p5.sp.symm) q2 p5.ss,decide_eq_true rfl]
  exact de (ak (cx (ak (cx (k {S with V:=V',sA:=s,ts:=N,stand:=dD S.stand i S.ts.length b.length,pts:=pts} _ _ _ (h5.up (aK.new hr)) p5 rfl rfl rfl (by show N.length<=_;rw[e2];exact A))))))
end
section
variable {ext:bj} {σ Z:Hp} {F:Fx} {S S':St} {x:Nat->AV} {U:SS} {Q:Fl->aG->Hp->Prop}
theorem ya.up{ts:List AV}{r:Rd}(h:ya σ ts r)(e:aK σ Z):ya Z ts r:=⟨e _ _ h.t,h.m.imp λ_ g=>e _ _ g,h.l,h.hV.fz e.fz,h.vr,h.s9,λL a f b=>(h.it L a f b).fz e.fz,h.ok,h.rl,h.told⟩
theorem sG{unit:Int}{a:Nat}{ts:List AV}{r:Rd}{f:Bool}(g:Gv unit a r.V)(l9:a<=9)(s9:r.s<=9)(t:σ r.adr=some (true,.tup [.ref r.V.adr,.int r.s,.ref r.ma]))(m:σ r.ma=some (f,.list r.ms))(l:r.ms.length=4)(i:dP true σ r.V)(n:∀j,∀f∈bU r.V j,kU σ ts f)(b:GY (cj r.V) r.s r.ms):ya σ ts r:=
 ⟨t,⟨f,m⟩,by rw[l];decide,i,g.vrd l9,Nat.lt_succ_of_le s9,λL d f h=>by obtain⟨j,c⟩:=gX d h;exact n j f c,λL d f h=>by obtain⟨j,c⟩:=gX d h;exact(g.gf j f c).ok,λL d f h=>by obtain⟨j,c⟩:=gX d h;exact Nat.le_trans (g.frows c) (Nat.le_trans l9 (by decide)),λu k=>by
  obtain⟨o,p,e⟩:=b u k
  rw[e,p.uniq g.ns (g.look l9)]⟩
theorem u9{cal:bj}{l:aG}{K:PX}{B:Type}{w z y:X}{g:B->AV}{r:Addr}{fz:Bool}{t:Nat}{ts:List AV}(bs:List B)(f:B->Addr->Rd)(h:σ r=some (fz,.list (bs.map g)))(len:bs.length<=9000)
  (A:∀b∈bs,∀j,aK σ j->Ps (l.set t (g b)) j (.cons w (.cons z (.cons y .nil))) [.ref (f b 0).V.adr,.int (f b 0).s,.ref (f b 0).ma]) (E:∀b∈bs,∀a,(f b a).V=(f b 0).V/\(f b a).s=(f b 0).s/\(f b a).ma=(f b 0).ma/\(f b a).adr=a)
  (ok:∀b∈bs,∀j a,aK σ j->j a=some (true,.tup [.ref (f b 0).V.adr,.int (f b 0).s,.ref (f b 0).ma])->ya j ts (f b a))
  (k:∀(d:List Rd) Z,aK σ Z->d.length=bs.length->(∀r∈d,ya Z ts r)->∀c,Z c=none->K (.ref c) (upd Z c (false,.list (d.map Rd.v)))):
  qR cal t .nil (.tup (.cons w (.cons z (.cons y .nil)))) l K (.ref r) σ:=by
 refine pc bs (λo i Z=>aK σ Z/\∃d:List Rd,i=d.map Rd.v/\d.length=o.length/\∀r∈d,ya Z ts r) h len (λ_ _ Z p=>⟨_,p.1 _ _ h⟩) ⟨aK.refl _,[],rfl,rfl,λ_=>nM⟩ ?_ ?_
 ·rintro o b I i Z R e ⟨n,d,rfl,l,u⟩ G
  have bm:=aP e
  refine da (eF (fv (A b bm Z n) rfl λa q=>G _ _ ⟨n.trans (aK.new q),d++[f b a],?_,?_,λr m=>?_⟩))
  ·rw[aY];show _++[AV.ref a]=_++[AV.ref (f b a).adr];rw[(E b bm a).2.2.2]
  ·rw[List.length_append,List.length_append,l];rfl
  ·rcases aE m with m|m
   ·exact(u r m).up (aK.new q)
   ·rw[aw m];exact ok b bm _ a (n.trans (aK.new q)) ab
 ·rintro i Z ⟨n,d,rfl,l,u⟩ c D
  exact k d Z n l u c D
theorem tw{n:Nat}{t pz:Int}(h:Hl F σ S)(p:Pl F S)(π:bQ (lv F S x) 16=some (.int t))(χ:bQ (lv F S x) 25=some (.int pz))
  (k:∀ν v33 Z,Hl F Z S->Go (cB ext (n+9)) U (lv F S (aI (aI x 32 ν) 33 v33)) Z Q):
  Go (cB ext (n+9)) (.cons (.asg 32 (.bin .add (.lst (.cons (.tup (.cons (.v 8) (.cons (.v 15) (.cons (.v 14) .nil)))) .nil)) (.comp 35 (.v 12) .nil (.tup (.cons (.v 8) (.cons (.sub (.v 35) (.k (.int 1))) (.cons (.sub (.v 35) (.k (.int 2))) .nil)))))))
 (.cons (.asg 32 (.bin .add (.v 32) (.comp 35 (.v 13) .nil (.tup (.cons (.sub (.v 35) (.k (.int 0))) (.cons (.sub (.v 35) (.k (.int 1))) (.cons (.sub (.v 35) (.k (.int 2))) .nil)))))))
 (.cons (.asg 33 (.lst (.cons (.k (.int 0)) (.cons (.k (.int 1)) (.cons (.k (.int 2)) (.cons (.k (.int 3)) .nil))))))
 (.cons (.ite (.t (.cmp .lt (.v 16) (.k (.int 2)))) (.cons (.asg 33 (.lst (.cons (.bin .mod (.bin .fdiv (.v 25) (.k (.int 4))) (.k (.int 4))) (.cons (.bin .mod (.bin .add (.bin .fdiv (.v 25) (.k (.int 4))) (.k (.int 1))) (.k (.int 4))) .nil))))
 .nil) .nil)
 (.cons (.ite (.not (.t (.fn 83 (.cons (.v 32) (.cons (.v 10) (.cons (.v 33) .nil)))))) (.cons (.ret (.k (.bool false)))
 .nil) .nil)
 U))))) (lv F S x) σ Q:=by
 have hl:S.hs.length<=100:=by have:=p.mo.l;rw[p.me,List.length_map]at this;exact this
 refine az (dg (ud (aj (fv (by left) rfl λa ha=>aD (uv rfl λc hc=>?_)))))
 have x1:=(aK.new (c:=(true,.tup [.ref S.V.adr,.int S.last,.ref F.wA])) ha).trans (aK.new (c:=(false,.list [.ref a])) hc)
 have δ:=ab (σ:=upd σ a (true,.tup [.ref S.V.adr,.int S.last,.ref F.wA])) (a:=c) (c:=(false,.list [.ref a]))
 have I:=h.up x1
 have r0:ya (upd (upd σ a (true,.tup [.ref S.V.adr,.int S.last,.ref F.wA])) c (false,.list [.ref a])) S.ts ⟨a,S.V,S.last,F.wA,S.now⟩:=sG p.gv p.l9 p.l9 (ag hc ab) (I.m 4 rfl) p.w4 I.f.hV I.f.it p.wt
 generalize upd (upd σ a (true,.tup [.ref S.V.adr,.int S.last,.ref F.wA])) c (false,.list [.ref a])=σ1 at I r0 δ
 have c2:=I.m 2 rfl
 refine jX (aS (by left) (u9 (ts:=S.ts) S.hs (λh b=>⟨b,S.V,h.s,h.ma,h.ms⟩) c2 (bh hl rfl) (λb A G D=>?_) (λ_ _ _=>⟨rfl,rfl,rfl,rfl⟩) (λb A G b' D ht=>?_) λq Z D rl rk c' ζ=>?_))
 ·have e:=D _ _ (I.f.hd b A)
  exact(by left)
 ·have h2:=I.up D
  exact sG p.gv p.l9 (Nat.le_trans (p.hl b A) p.l9) ht (h2.qu (b.ma,.list b.ms) (.tail _ (List.mem_append_right _ (List.mem_append_left _ (dq ⟨b,A,rfl⟩))))).1 (p.ht b A).1 h2.f.hV h2.f.it (p.ht b A).2
 have h2:=I.up D
 have l9:(q.map Rd.v).length<=9000:=aO (by rw[rl];exact bh hl rfl)
 refine iR (ag ζ (D _ _ δ)) ab ⟨Nat.le_of_ble_eq_true rfl,l9⟩ λd hd=>?_
 have x2:=(aK.new (c:=(false,.list (q.map Rd.v))) ζ).trans (aK.new (c:=(false,.list ([.ref a]++q.map Rd.v))) hd)
 have η:=ab (σ:=upd Z c' (false,.list (q.map Rd.v))) (a:=d) (c:=(false,.list ([.ref a]++q.map Rd.v)))
 have h3:=h2.up x2
 have Y:∀r∈(⟨a,S.V,S.last,F.wA,S.now⟩::q:List Rd),ya (upd (upd Z c' (false,.list (q.map Rd.v))) d (false,.list ([.ref a]++q.map Rd.v))) S.ts r:=λr E=>by
  rcases au E with rfl|E
  ·exact r0.up (D.trans x2)
  ·exact(rk r E).up x2
 generalize upd (upd Z c' (false,.list (q.map Rd.v))) d (false,.list ([.ref a]++q.map Rd.v))=ω at h3 Y η
 have β:ω d=some (false,.list ((⟨a,S.V,S.last,F.wA,S.now⟩::q:List Rd).map Rd.v)):=η
 have N:(⟨a,S.V,S.last,F.wA,S.now⟩::q:List Rd).length<=101:=by rw[List.length_cons,rl];exact Nat.lt_succ_of_le hl
 generalize (⟨a,S.V,S.last,F.wA,S.now⟩::q:List Rd)=o at Y β N
 have c3:=h3.m 3 rfl
 refine az (dg (aS (by left) (jX (aS (by left) (u9 (ts:=S.ts) S.ks (λk b=>⟨b,k.r.V,k.r.s,k.r.ma,k.r.ms⟩) c3 (bh p.kl rfl) (λb A G D=>?_) (λ_ _ _=>⟨rfl,rfl,rfl,rfl⟩) (λb A G b' D ht=>?_) λg O γ κ μ W B=>?_)))))
 ·have e:=D _ _ (h3.f.kp b A).1
  exact(by left)
 ·have h4:=h3.up D
  obtain⟨kg,k9,_,_,k4,kt⟩:=p.kt b A
  exact sG kg k9 k9 ht (h4.qu (b.r.ma,.list b.r.ms) (.tail _ (List.mem_append_right _ (List.mem_append_right _ (dq ⟨b,A,rfl⟩))))).1 k4 (h4.f.kp b A).2.2.1 (h4.f.kp b A).2.2.2 kt
 have ρ:(g.map Rd.v).length<=9000:=aO (by rw[κ];exact bh p.kl rfl)
 refine iR (ag B (γ _ _ β)) ab ⟨aO (bh N rfl),ρ⟩ λe he=>?_
 have x4:=γ.trans ((aK.new (c:=(false,.list (g.map Rd.v))) B).trans (aK.new (c:=(false,.list (o.map Rd.v++g.map Rd.v))) he))
 have K:upd (upd O W (false,.list (g.map Rd.v))) e (false,.list (o.map Rd.v++g.map Rd.v)) e=some (false,.list ((o++g).map Rd.v)):=by rw[List.map_append];exact ab
 have h5:=h3.up x4
 have J:∀r∈o++g,ya (upd (upd O W (false,.list (g.map Rd.v))) e (false,.list (o.map Rd.v++g.map Rd.v))) S.ts r:=λr E=>by
  rcases aE E with E|E
  ·exact(Y r E).up x4
  ·exact(μ r E).up ((aK.new (c:=(false,.list (g.map Rd.v))) B).trans (aK.new (c:=(false,.list (o.map Rd.v++g.map Rd.v))) he))
 have θ:(o++g).length<=9000:=by rw[List.length_append,κ];have:=p.kl;exact n2 [_,_] HV (.le (.v 0) (.n 101)) F8 rfl N this
 generalize o++g=rds5 at J K θ
 generalize upd (upd O W (false,.list (g.map Rd.v))) e (false,.list (o.map Rd.v++g.map Rd.v))=ψ at h5 J K
 refine az (a8 (by left) rfl λu hu=>?_)
 have ξ:∀v w,bQ (lv F S (aI (aI x 32 v) 33 w)) 16=some (.int t):=λ_ _=>π
 have φ:∀v w,bQ (lv F S (aI (aI x 32 v) 33 w)) 25=some (.int pz):=λ_ _=>χ
 refine bC (λw:Addr=>lv F S (aI (aI x 32 (.ref e)) 33 (.ref w))) (λw G=>aK ψ G/\∃us:List Nat,G w=some (false,.list (us.map BC))/\us.length<=9000/\∀u∈us,u<4) (λR ih=>?_) ?_
 ·show Gc _ _ (lv F S (aI (aI x 32 (.ref e)) 33 (.ref u))) _ _
  have CJ:=ξ (.ref e) (.ref u)
  have ε:=φ (.ref e) (.ref u)
  refine g8 (bR (eX (bp CJ) aT rfl)) (jd (λ_=>?_) λ_=>?_)
  ·obtain⟨i,hi,i4⟩:=wW (z:=pz/4) (n:=4) (by decide)
   obtain⟨j,hj,j4⟩:=wW (z:=pz/4+1) (n:=4) (by decide)
   refine az (a8 (ax (aU (x':=.int (i:Nat)) (v:=.int (pz/4%4)) (cH (dX (bp ε) aT (by decide)) aT (by decide)) (congrArg AV.int hi)) (ax (aU (x':=.int (j:Nat)) (v:=.int ((pz/4+1)%4)) (cH (cJ (dX (bp ε) aT (by decide)) aT rfl) aT (by decide)) (congrArg AV.int hj)) aQ)) rfl λw hw=>ak (bk (ih w _ ⟨(aK.new hu).trans (aK.new hw),[i,j],ab,Nat.le_of_ble_eq_true rfl,λy hy=>?_⟩)))
   rcases au hy with rfl|hy
   ·exact i4
   ·rw[aw hy];exact j4
  ·exact ak (bk (ih u _ ⟨aK.new hu,[0,1,2,3],ab,Nat.le_of_ble_eq_true rfl,by decide⟩))
 ·rintro w G ⟨x6,us,hw,ul,u4⟩
  have h6:=h5.up x6
  have e6:=x6 _ _ K
  refine bJ (CD (kL (aV (by left) (y6 e6 (h6.m 1 rfl) hw (bh p.tl rfl) θ ul u4 (λr E=>(J r E).up x6) (dG (de (ak (cx (k _ _ G h6)))))))))
end
section
variable {ext:bj} {σ U:Hp} {F:Fx} {S Z:St} {x:Nat->AV} {O:SS} {Q:Fl->aG->Hp->Prop}
structure Bd(S:St)(l t m k:Nat):Prop where
 l:S.last<=l
 t:S.ts.length<=t
 m:S.hs.length<=m
 k:S.ks.length<=k
theorem pM{i:Nat}{v:AV}(e:bQ (lv F S x) i=bQ [x i] 0)(h:x i=v)(n:bQ [v] 0=some v):bQ (lv F S x) i=some v:=by rw[e,h];exact n
theorem wh{n t:Nat}{B:Int}(h:Hl F σ S)(p:Pl F S)(b:Bd S (3*t) (1+19*t) (4*t) (2*t))(t2:t<=2)(f:x 16=.int t)(d:x 17=.int B)
  (k:∀Z x' U,Hl F U Z->Pl F Z->Bd Z (3*t+3) (1+19*t+1) (4*t+4) (2*t+2)->x' 16=.int t->Go (cB ext (n+9)) O (lv F Z x') U Q):
  Go (cB ext (n+9)) (.cons (.forR 18 (.k (.int 0)) (.k (.int 2)) true (.cons (.ite (.or (.cons (.and (.cons (.t (.cmp .eq (.v 18) (.k (.int 0)))) (.cons (.or (.cons (.t (.cmp .eq (.v 16) (.k (.int 0)))) (.cons (.t (.cmp .ne (.bin .mod (.bin .fdiv (.v 17) (.k (.int 8))) (.k (.int 4))) (.k (.int 3)))) .nil))) .nil))) (.cons (.and (.cons (.t (.cmp .eq (.v 18) (.k (.int 1)))) (.cons (.t (.cmp .gt (.v 16) (.k (.int 0)))) (.cons (.t (.cmp .eq (.bin .mod (.bin .fdiv (.v 17) (.k (.int 8))) (.k (.int 4))) (.k (.int 3)))) .nil)))) .nil))) (.cons (.asg 19 (.fn 87 (.cons (.fn 76 (.cons (.v 0) (.cons (.bin .add (.k (.int 1)) (.bin .mul (.k (.int 5)) (.v 16))) .nil))) (.cons (.v 15) .nil))))
 (.cons (.asg 15 (.bin .add (.v 15) (.bi .len (.cons (.v 19) .nil))))
 (.cons (.for [20] (.v 19) (.cons (.setI (.v 14) (.sub (.v 20) (.k (.int 0))) (.ite (.t (.cmp .eq (.sub (.v 20) (.k (.int 2))) (.k (.int 1)))) (.bi .bytes (.cons (.lst (.cons (.bin .sub (.k (.int 0)) (.sub (.v 20) (.k (.int 1)))) .nil)) .nil)) (.k .none)))
 .nil))
 (.cons (.asg 21 (.mk 15 .nil))
 (.cons (.ex (.bm .append (.v 11) (.cons (.bi .len (.cons (.v 10) .nil)) .nil)))
 (.cons (.ex (.fn 80 (.cons (.k (.int 0)) (.cons (.bi .sorted (.cons (.v 19) .nil)) (.cons (.v 10) (.cons (.v 21) (.cons (.v 4) .nil)))))))
 (.cons (.asg 8 (.fn 79 (.cons (.v 8) (.cons (.v 21) (.cons (.v 2) .nil)))))
 .nil))))))) (.cons (.forR 22 (.k (.int 0)) (.sub (.lst (.cons (.k (.int 1)) (.cons (.k (.int 1)) (.cons (.k (.int 2)) (.cons (.k (.int 0)) .nil))))) (.bin .mod (.v 17) (.k (.int 4)))) true (.cons (.ex (.bm .append (.v 12) (.cons (.tup (.cons (.mth (.v 9) 2 (.cons (.v 15) .nil)) (.cons (.v 15) (.cons (.bi .list (.cons (.v 14) .nil)) .nil)))) .nil)))
 .nil))
 (.cons (.ite (.t (.cmp .eq (.bin .mod (.bin .fdiv (.v 17) (.k (.int 4))) (.k (.int 2))) (.k (.int 1)))) (.cons (.ex (.bm .append (.v 13) (.cons (.tup (.cons (.v 8) (.cons (.v 15) (.cons (.bi .list (.cons (.v 14) .nil)) (.cons (.mth (.v 8) 24 .nil) .nil))))) .nil)))
 .nil) .nil)
 .nil)))
 .nil)) O) (lv F S x) σ Q:=by
 obtain⟨w,hw⟩:∃w:Bool,w=(decide ((t:Int)=0)||decide ¬(B/8%4=3)):=⟨_,rfl⟩
 refine gI (iQ (iQ ?_))
 refine dR (λa:St×(Nat->AV)=>lv F a.1 a.2) (λi a U=>Hl F U a.1/\Pl F a.1/\a.2 16=.int t/\a.2 17=.int B/\∃j m:Nat,i=j/\((j=0/\m=0)∨(j=1/\m=w.toNat)∨(j=2/\m=1))/\Bd a.1 (3*t+3*m) (1+19*t+m) (4*t+2*j) (2*t+j)) (S,x) rfl ⟨by decide,by decide,by decide,by decide⟩ ⟨h,p,f,d,0,0,rfl,.inl ⟨rfl,rfl⟩,b⟩ ?_ ?_
 ·rintro i ⟨S,x⟩ U R g1 g2 ⟨h,p,f,d,j,m,rfl,A,b⟩ ih
  dsimp only at f d b h p
  show Go _ _ (lv F S (aI x 18 (.int j))) U _
  have r:bQ (lv F S (aI x 18 (.int j))) 16=some (.int t):=pM rfl f rfl
  have β:bQ (lv F S (aI x 18 (.int j))) 17=some (.int B):=pM rfl d rfl
  obtain⟨c,hc,cw⟩:∃c:Bool,Pc (lv F S (aI x 18 (.int j))) U (.or (.cons (.and (.cons (.t (.cmp .eq (.v 18) (.k (.int 0)))) (.cons (.or (.cons (.t (.cmp .eq (.v 16) (.k (.int 0)))) (.cons (.t (.cmp .ne (.bin .mod (.bin .fdiv (.v 17) (.k (.int 8))) (.k (.int 4))) (.k (.int 3)))) .nil))) .nil))) (.cons (.and (.cons (.t (.cmp .eq (.v 18) (.k (.int 1)))) (.cons (.t (.cmp .gt (.v 16) (.k (.int 0)))) (.cons (.t (.cmp .eq (.bin .mod (.bin .fdiv (.v 17) (.k (.int 8))) (.k (.int 4))) (.k (.int 3)))) .nil)))) .nil))) c/\((j=0/\m=0/\c=w)∨(j=1/\m=w.toNat/\c=!w)):=by
   have g:=cH (dX (bp (σ:=U) β) (aT (v:=.int 8)) (by decide)) (aT (v:=.int 4)) (by decide)
   rcases A with⟨rfl,rfl⟩|⟨rfl,rfl⟩|⟨rfl,rfl⟩
   ·refine⟨_,rT (iA (bR (eX (bp rfl) aT rfl)) (jo (rT (bR (eX (bp r) aT rfl)) λ_=>bR (eX g aT rfl)))) λ_=>hZ (bR (eX (bp rfl) aT rfl)),.inl ⟨rfl,rfl,?_⟩⟩
    rw[hw,Bool.or_false]
   ·refine⟨_,rT (hZ (bR (eX (bp rfl) aT rfl))) λ_=>iA (bR (eX (bp rfl) aT rfl)) (y7 (bR (eX (bp r) aT rfl)) λ_=>bR (eX g aT rfl)),.inr ⟨rfl,rfl,?_⟩⟩
    rw[hw,Bool.false_or]
    by_cases a:t=0
    ·rw[decide_eq_true (show(t:Int)=0 by exact congrArg Nat.cast a),decide_eq_false (show¬(0:Int)<t by exact fZ (z1 [_] OI Hx rfl (ce a)))];rfl
    ·rw[decide_eq_false (show¬(t:Int)=0 by exact λe=>a (cY e)),decide_eq_true (show(0:Int)<t by exact dF (Nat.pos_of_ne_zero a)),decide_not,Bool.true_and,Bool.false_or,Bool.not_not]
   ·exact absurd g2 (by decide)
  obtain⟨b1,b2,J,b4⟩:=b
  have nx:∀s,((j=0/\s=w.toNat)∨(j=1/\s=1))->(j+1=0/\s=0)∨(j+1=1/\s=w.toNat)∨(j+1=2/\s=1):=λs h=>.inr (h.imp (λh=>⟨by exact Nat.le_antisymm (n1 [_] (.le (.a (.v 0) (.n 1)) (.n 1)) Hx rfl h.1) (n0 [_] (.le (.n 1) (.a (.v 0) (.n 1))) rfl),h.2⟩) λh=>⟨by exact Nat.le_antisymm (n1 [_] M2 GR rfl h.1) (m1 [_] (.le (.n 2) (.a (.v 0) (.n 1))) 0 (-1) GR rfl h.1),h.2⟩)
  refine jw hc (λct=>?_) λE=>?_
  ·have y:m=0/\((j=0/\1=w.toNat)∨(j=1/\1=1)):=by
    rcases cw with⟨l,o,g⟩|⟨l,o,g⟩
    ·exact⟨o,.inl ⟨l,by rw[←g,ct];rfl⟩⟩
    ·exact⟨by rw[o];cases w with|true=>rw[g]at ct;cases ct|false=>rfl,.inr ⟨l,rfl⟩⟩
   obtain⟨rfl,m1⟩:=y
   refine zJ (n:=n+1) (x:=aI x 18 (.int j)) h p (by exact m2 [_,_] (.le (.v 0) (.n 6)) 0 3 1 Dq (.le (.v 0) (.a (.m 3 (.v 1)) (.m 3 (.n 0)))) rfl t2 b1) (by exact m2 [_,_] HT 0 19 1 Dq (.le (.v 0) (.a (.a (.n 1) (.m 19 (.v 1))) (.n 0))) rfl t2 b2) t2 r λZ Y ε γ z D p' N I V G=>ak (cx (ak (aR (ih (Z,aI (aI (aI (aI x 18 (.int j)) 19 Y) 20 ε) 21 γ) z ⟨D,p',f,d,j+1,1,rfl,nx 1 m1,⟨by show Z.last<=_;exact n2 [_,_,_] (.le (.v 0) (.a (.m 3 (.v 1)) (.m 3 (.n 1)))) (.le (.v 2) (.a (.m 3 (.v 1)) (.m 3 (.n 0)))) O4 rfl b1 N,by show Z.ts.length<=_;exact n2 [_,_,_] (.le (.v 0) (.a (.a (.n 1) (.m 19 (.v 1))) (.n 1))) (.le (.v 2) (.a (.a (.n 1) (.m 19 (.v 1))) (.n 0))) HN rfl b2 G,by show Z.hs.length<=_;rw[I];exact n1 [_,_,_] HO (.le (.v 0) (.a (.m 4 (.v 1)) (.m 2 (.v 2)))) rfl J,by show Z.ks.length<=_;rw[V];exact Nat.le.step b4⟩⟩))))
  ·have y:(j=0/\m=w.toNat)∨(j=1/\m=1):=by
    rcases cw with⟨l,o,g⟩|⟨l,o,g⟩
    ·exact .inl ⟨l,by rw[o,←g,E];rfl⟩
    ·exact .inr ⟨l,by rw[o];cases w with|true=>rfl|false=>rw[g]at E;cases E⟩
   refine xy (n:=n+7) (x:=aI x 18 (.int j)) h p (by exact Nat.le_trans J (Nat.le_trans (Nat.add_le_add (Nat.mul_le_mul_left 4 t2) (Nat.mul_le_mul_left 2 (y.elim (λq=>Nat.le_trans (Nat.le_of_eq q.1) (Nat.zero_le 1)) λq=>Nat.le_of_eq q.1))) (Nat.le_of_ble_eq_true rfl))) d λhs made ms v z D p' N=>?_
   refine BX (n:=n+8) (x:=aI (aI x 18 (.int j)) 22 v) D p' (by show S.ks.length<=50;exact Nat.le_trans b4 (Nat.le_trans (Nat.add_le_add (Nat.mul_le_mul_left 2 t2) (y.elim (λq=>Nat.le_trans (Nat.le_of_eq q.1) (Nat.zero_le 1)) λq=>Nat.le_of_eq q.1)) (Nat.le_of_ble_eq_true rfl))) d λks u K W δ=>ak (cx (ak (aR (ih ({S with hs:=hs,made:=made,ms:=ms,ks:=ks},aI (aI x 18 (.int j)) 22 v) u ⟨K,W,f,d,j+1,m,rfl,nx m y,⟨b1,by show S.ts.length<=_;exact b2,by show hs.length<=_;exact n2 [_,_,_,_] HO (.le (.v 3) (.a (.m 4 (.v 1)) (.m 2 (.v 2)))) (.le (.v 0) (.a (.v 3) (.n 2))) rfl J N,?_⟩⟩))))
   have l3:ks.length<=S.ks.length+1:=δ
   show ks.length<=_
   exact n2 [_,_,_,_] (.le (.v 0) (.a (.m 2 (.v 1)) (.a (.v 2) (.n 1)))) (.le (.v 3) (.a (.m 2 (.v 1)) (.v 2))) Ho rfl b4 l3
 ·rintro i ⟨S,x⟩ U g1 g2 g3 ⟨h,p,f,d,j,m,rfl,A,b⟩
  dsimp only at f b h p
  have:j=2:=by exact A.elim (λq=>absurd g2 (by rw[q.1];decide)) λh=>h.elim (λq=>absurd g2 (by rw[q.1];decide)) λq=>q.1
  subst this
  have:m=1:=by exact A.elim (λq=>absurd q.1 (by decide)) λh=>h.elim (λq=>absurd q.1 (by decide)) λq=>q.2
  subst this
  exact k S x U h p b f
end
section
variable {σ Z:Hp} {F:Fx} {S U:St} {x:Nat->AV} {O:SS} {Q:Fl->aG->Hp->Prop}
theorem nF{n:Nat}{K:PX}(h:Hl F σ S)(p:Pl F S)(k:K (.int (yb S.hs S.last)) σ):Gx (cB j7 (n+2)) (.fn 85 (.cons (.v 9) (.cons (.v 12) (.cons (.v 15) .nil)))) (lv F S x) σ K:=by
 have a:=h.iml
 have b:=p.mo
 rw[p.me]at a b
 exact aV (by left) (vy a b (h.m 2 rfl) h.f.hd k)
theorem zn{n t:Nat}{pz:Int}(h:Hl F σ S)(p:Pl F S)(G:S.ts.length<=60)(e:x 16=.int t)(d:x 25=.int pz)
  (k:∀U x' Z,Hl F Z U->Pl F U->U.last=S.last->U.hs=S.hs->U.ks=S.ks->U.ts.length<=S.ts.length+18->x' 16=.int t->x' 25=.int pz->Go (cB j7 (n+9)) O (lv F U x') Z Q):
  Go (cB j7 (n+9)) (.cons (.forR 26 (.k (.int 0)) (.bin .add (.k (.int 1)) (.bin .mod (.bin .fdiv (.v 25) (.k (.int 2))) (.k (.int 2)))) true (.cons (.asg 27 (.bin .add (.v 25) (.bin .mul (.k (.int 5)) (.v 26))))
 (.cons (.asg 28 (.fn 85 (.cons (.v 9) (.cons (.v 12) (.cons (.v 15) .nil)))))
 (.cons (.ite (.t (.cmp .lt (.v 28) (.k (.int 0)))) (.cons (.ret (.k (.bool false)))
 .nil) .nil)
 (.cons (.asg 29 (.k .none))
 (.cons (.ite (.t (.cmp .eq (.bin .mod (.v 27) (.k (.int 2))) (.k (.int 0)))) (.cons (.asg 29 (.mth (.v 6) 38 (.cons (.v 8) (.cons (.v 7) .nil))))
 .nil) .nil)
 (.cons (.ite (.and (.cons (.t (.cmp .is (.v 29) (.k .none))) (.cons (.or (.cons (.t (.cmp .gt (.v 16) (.k (.int 0)))) (.cons (.t (.cmp .eq (.bin .mod (.v 27) (.k (.int 2))) (.k (.int 1)))) .nil))) .nil))) (.cons (.asg 29 (.fn 86 (.cons (.v 6) (.cons (.v 8) (.cons (.v 7) (.cons (.v 27) (.cons (.v 3) .nil)))))))
 .nil) .nil)
 (.cons (.ite (.t (.cmp .isnt (.v 29) (.k .none))) (.cons (.asg 30 (.bi .len (.cons (.v 10) .nil)))
 (.cons (.asg 31 (.fn 81 (.cons (.v 29) (.cons (.v 10) (.cons (.v 28) (.cons (.v 4) .nil))))))
 (.cons (.asg 11 (.bin .add (.comp 37 (.v 11) (.cons (.t (.cmp .notin (.v 37) (.v 31))) .nil) (.v 37)) (.compR 37 (.v 30) (.bi .len (.cons (.v 10) .nil)) .nil (.v 37))))
 (.cons (.asg 8 (.fn 79 (.cons (.v 8) (.cons (.at (.v 29) 55) (.cons (.v 2) .nil)))))
 (.cons (.ex (.fn 84 (.cons (.v 10) (.cons (.v 8) (.cons (.v 13) .nil)))))
 (.cons (.ite (.t (.cmp .ne (.mth (.v 8) 24 .nil) (.v 11))) (.cons (.ret (.k (.bool false)))
 .nil) .nil)
 .nil)))))) .nil)
 .nil)))))))) O) (lv F S x) σ Q:=by
 have g:bQ (lv F S x) 25=some (.int pz):=pM rfl d rfl
 have r:0<=pz/2%2/\pz/2%2<2:=by exact⟨Int.emod_nonneg _ (by decide),Int.emod_lt_of_pos _ (by decide)⟩
 refine gI (iQ (aS (cJ aT (cH (dX (bp g) aT (by decide)) aT (by decide)) rfl) ?_))
 refine dR (λa:St×(Nat->AV)=>lv F a.1 a.2) (λi a Z=>Hl F Z a.1/\Pl F a.1/\a.2 16=.int t/\a.2 25=.int pz/\a.1.last=S.last/\a.1.hs=S.hs/\a.1.ks=S.ks/\((a.1.ts.length:Nat):Int)<=S.ts.length+9*i) (S,x) rfl ⟨by decide,by decide,by exact z1 [_] (.le (.n 0) (.a (.n 1) (.v 0))) Jm rfl r.1,by exact z1 [_] (.le (.a (.n 1) (.v 0)) (.n 9000)) M2 rfl r.2⟩ ⟨h,p,e,d,rfl,rfl,rfl,by dsimp only;exact Int.le_refl ↑S.ts.length⟩ ?_ ?_
 ·rintro i ⟨f,x⟩ Z R g1 g2 ⟨h,p,e,d,j,o,l,tl⟩ y
  dsimp only at e d h p j o l tl y
  show Go _ _ (lv F f (aI x 26 (.int i))) Z _
  have g:bQ (lv F f (aI x 26 (.int i))) 25=some (.int pz):=pM rfl d rfl
  refine bG (cJ (bp g) (ft aT (bp rfl) (by decide)) rfl) (az ?_)
  show Gx _ _ (lv F f (aI (aI x 26 (.int i)) 27 (.int (pz+5*i)))) Z _
  refine nF (n:=n+7) h p ?_
  show Go _ _ (lv F f (aI (aI (aI x 26 (.int i)) 27 (.int (pz+5*i))) 28 (.int (yb f.hs f.last)))) Z _
  refine rY (by left) qS ?_
  refine AU (q:=pz+5*i) (t:=t) h p (pM rfl e rfl) rfl λv I J=>?_
  refine Ao (n:=n+1) h p J (by exact Int.ofNat_le.mp (Int.le_trans tl (Int.le_trans (Int.add_le_add (bF G) (Int.mul_le_mul_of_nonneg_left (Int.le_of_lt (Int.lt_of_lt_of_le g2 (Int.add_le_add_left (Int.le_of_lt_add_one (b:=1) r.2) 1))) (by decide))) (by decide)))) rfl rfl λw u s B A E f1 f2 z D=>ak (aR (y (w,aI (aI (aI (aI (aI (aI x 26 (.int i)) 27 (.int (pz+5*i))) 28 (.int (yb f.hs f.last))) 29 v) 30 u) 31 s) B ⟨A,E,e,d,f1.trans j,f2.trans o,z.trans l,?_⟩))
  show((w.ts.length:Nat):Int)<=_
  exact z2 [_,_,_,_] (.le (.v 0) (.a (.v 1) (.m 9 (.a (.v 2) (.n 1))))) (.le (.v 3) (.a (.v 1) (.m 9 (.v 2)))) (.le (.v 0) (.a (.v 3) (.n 9))) rfl tl (cl D)
 ·rintro i ⟨f,x⟩ Z g1 g2 g3 ⟨h,p,e,d,j,o,l,tl⟩
  dsimp only at tl
  exact k f x Z h p j o l (by exact Int.ofNat_le.mp (Int.le_trans tl (Int.add_le_add_left (Int.mul_le_mul_of_nonneg_left (c:=9) (g3.elim (λq=>Int.le_trans (Int.le_of_eq q) (by decide)) λq=>Int.le_trans (Int.le_of_eq q) (Int.add_le_add_left (Int.le_of_lt_add_one (b:=1) r.2) 1)) (by decide)) _))) e d
end
section
variable {ext:bj} {σ Z:Hp} {F:Fx} {S S':St} {x:Nat->AV} {U:SS} {Q:Fl->aG->Hp->Prop}
theorem pr{n c i t:Nat}(h:Hl F σ S)(p:Pl F S)(a:bQ (lv F S x) 16=some (.int t))(k:∀z:Int,Go (cB ext (n+1)) U ((lv F S x).set i (.int z)) σ Q):Go (cB ext (n+1)) (.cons (.asg i (.fn 76 (.cons (.v 0) (.cons (.bin .add (.k (.int (c:Nat))) (.bin .mul (.k (.int 5)) (.v 16))) .nil)))) U) (lv F S x) σ Q:=
 az (aV (ax (bp rfl) (ax (aU (x':=.int ((c+5*t:Nat):Int)) (cJ aT (ft aT (bp a) (by decide)) rfl) (congrArg AV.int (by exact rfl))) aQ)) (pR (h.qu _ (.head _)).1 p.n0.1 p.n0.2 k))
theorem Cc{n:Nat}{K:PX}(h:Hl F σ S)(p:Pl F S)(b:Bd S 0 1 0 0)(k:∀Z,K (.bool true) Z):
  Go (cB j7 (n+9)) (.cons (.forR 16 (.k (.int 0)) (.k (.int 3)) true (.cons (.asg 17 (.fn 76 (.cons (.v 0) (.cons (.bin .add (.k (.int 2)) (.bin .mul (.k (.int 5)) (.v 16))) .nil))))
 (.cons (.forR 18 (.k (.int 0)) (.k (.int 2)) true (.cons (.ite (.or (.cons (.and (.cons (.t (.cmp .eq (.v 18) (.k (.int 0)))) (.cons (.or (.cons (.t (.cmp .eq (.v 16) (.k (.int 0)))) (.cons (.t (.cmp .ne (.bin .mod (.bin .fdiv (.v 17) (.k (.int 8))) (.k (.int 4))) (.k (.int 3)))) .nil))) .nil))) (.cons (.and (.cons (.t (.cmp .eq (.v 18) (.k (.int 1)))) (.cons (.t (.cmp .gt (.v 16) (.k (.int 0)))) (.cons (.t (.cmp .eq (.bin .mod (.bin .fdiv (.v 17) (.k (.int 8))) (.k (.int 4))) (.k (.int 3)))) .nil)))) .nil))) (.cons (.asg 19 (.fn 87 (.cons (.fn 76 (.cons (.v 0) (.cons (.bin .add (.k (.int 1)) (.bin .mul (.k (.int 5)) (.v 16))) .nil))) (.cons (.v 15) .nil))))
 (.cons (.asg 15 (.bin .add (.v 15) (.bi .len (.cons (.v 19) .nil))))
 (.cons (.for [20] (.v 19) (.cons (.setI (.v 14) (.sub (.v 20) (.k (.int 0))) (.ite (.t (.cmp .eq (.sub (.v 20) (.k (.int 2))) (.k (.int 1)))) (.bi .bytes (.cons (.lst (.cons (.bin .sub (.k (.int 0)) (.sub (.v 20) (.k (.int 1)))) .nil)) .nil)) (.k .none)))
 .nil))
 (.cons (.asg 21 (.mk 15 .nil))
 (.cons (.ex (.bm .append (.v 11) (.cons (.bi .len (.cons (.v 10) .nil)) .nil)))
 (.cons (.ex (.fn 80 (.cons (.k (.int 0)) (.cons (.bi .sorted (.cons (.v 19) .nil)) (.cons (.v 10) (.cons (.v 21) (.cons (.v 4) .nil)))))))
 (.cons (.asg 8 (.fn 79 (.cons (.v 8) (.cons (.v 21) (.cons (.v 2) .nil)))))
 .nil))))))) (.cons (.forR 22 (.k (.int 0)) (.sub (.lst (.cons (.k (.int 1)) (.cons (.k (.int 1)) (.cons (.k (.int 2)) (.cons (.k (.int 0)) .nil))))) (.bin .mod (.v 17) (.k (.int 4)))) true (.cons (.ex (.bm .append (.v 12) (.cons (.tup (.cons (.mth (.v 9) 2 (.cons (.v 15) .nil)) (.cons (.v 15) (.cons (.bi .list (.cons (.v 14) .nil)) .nil)))) .nil)))
 .nil))
 (.cons (.ite (.t (.cmp .eq (.bin .mod (.bin .fdiv (.v 17) (.k (.int 4))) (.k (.int 2))) (.k (.int 1)))) (.cons (.ex (.bm .append (.v 13) (.cons (.tup (.cons (.v 8) (.cons (.v 15) (.cons (.bi .list (.cons (.v 14) .nil)) (.cons (.mth (.v 8) 24 .nil) .nil))))) .nil)))
 .nil) .nil)
 .nil)))
 .nil))
 (.cons (.asg 23 (.fn 76 (.cons (.v 0) (.cons (.bin .add (.k (.int 3)) (.bin .mul (.k (.int 5)) (.v 16))) .nil))))
 (.cons (.ite (.and (.cons (.t (.cmp .gt (.bi .len (.cons (.v 12) .nil)) (.k (.int 0)))) (.cons (.t (.cmp .eq (.bin .mod (.v 23) (.k (.int 3))) (.k (.int 0)))) .nil))) (.cons (.asg 24 (.bm .pop (.v 12) (.cons (.bin .mod (.bin .fdiv (.v 23) (.k (.int 3))) (.bi .len (.cons (.v 12) .nil))) .nil)))
 (.cons (.ex (.mth (.v 9) 5 (.cons (.sub (.v 24) (.k (.int 0))) .nil)))
 .nil)) .nil)
 (.cons (.ite (.and (.cons (.t (.cmp .gt (.bi .len (.cons (.v 13) .nil)) (.k (.int 0)))) (.cons (.t (.cmp .eq (.bin .mod (.bin .fdiv (.v 23) (.k (.int 24))) (.k (.int 3))) (.k (.int 0)))) .nil))) (.cons (.ex (.bm .pop (.v 13) (.cons (.bin .mod (.bin .fdiv (.v 23) (.k (.int 72))) (.bi .len (.cons (.v 13) .nil))) .nil)))
 .nil) .nil)
 (.cons (.ex (.fn 84 (.cons (.v 10) (.cons (.v 8) (.cons (.v 13) .nil)))))
 (.cons (.asg 25 (.fn 76 (.cons (.v 0) (.cons (.bin .add (.k (.int 4)) (.bin .mul (.k (.int 5)) (.v 16))) .nil))))
 (.cons (.forR 26 (.k (.int 0)) (.bin .add (.k (.int 1)) (.bin .mod (.bin .fdiv (.v 25) (.k (.int 2))) (.k (.int 2)))) true (.cons (.asg 27 (.bin .add (.v 25) (.bin .mul (.k (.int 5)) (.v 26))))
 (.cons (.asg 28 (.fn 85 (.cons (.v 9) (.cons (.v 12) (.cons (.v 15) .nil)))))
 (.cons (.ite (.t (.cmp .lt (.v 28) (.k (.int 0)))) (.cons (.ret (.k (.bool false)))
 .nil) .nil)
 (.cons (.asg 29 (.k .none))
 (.cons (.ite (.t (.cmp .eq (.bin .mod (.v 27) (.k (.int 2))) (.k (.int 0)))) (.cons (.asg 29 (.mth (.v 6) 38 (.cons (.v 8) (.cons (.v 7) .nil))))
 .nil) .nil)
 (.cons (.ite (.and (.cons (.t (.cmp .is (.v 29) (.k .none))) (.cons (.or (.cons (.t (.cmp .gt (.v 16) (.k (.int 0)))) (.cons (.t (.cmp .eq (.bin .mod (.v 27) (.k (.int 2))) (.k (.int 1)))) .nil))) .nil))) (.cons (.asg 29 (.fn 86 (.cons (.v 6) (.cons (.v 8) (.cons (.v 7) (.cons (.v 27) (.cons (.v 3) .nil)))))))
 .nil) .nil)
 (.cons (.ite (.t (.cmp .isnt (.v 29) (.k .none))) (.cons (.asg 30 (.bi .len (.cons (.v 10) .nil)))
 (.cons (.asg 31 (.fn 81 (.cons (.v 29) (.cons (.v 10) (.cons (.v 28) (.cons (.v 4) .nil))))))
 (.cons (.asg 11 (.bin .add (.comp 37 (.v 11) (.cons (.t (.cmp .notin (.v 37) (.v 31))) .nil) (.v 37)) (.compR 37 (.v 30) (.bi .len (.cons (.v 10) .nil)) .nil (.v 37))))
 (.cons (.asg 8 (.fn 79 (.cons (.v 8) (.cons (.at (.v 29) 55) (.cons (.v 2) .nil)))))
 (.cons (.ex (.fn 84 (.cons (.v 10) (.cons (.v 8) (.cons (.v 13) .nil)))))
 (.cons (.ite (.t (.cmp .ne (.mth (.v 8) 24 .nil) (.v 11))) (.cons (.ret (.k (.bool false)))
 .nil) .nil)
 .nil)))))) .nil)
 .nil))))))))
 (.cons (.asg 32 (.bin .add (.lst (.cons (.tup (.cons (.v 8) (.cons (.v 15) (.cons (.v 14) .nil)))) .nil)) (.comp 35 (.v 12) .nil (.tup (.cons (.v 8) (.cons (.sub (.v 35) (.k (.int 1))) (.cons (.sub (.v 35) (.k (.int 2))) .nil)))))))
 (.cons (.asg 32 (.bin .add (.v 32) (.comp 35 (.v 13) .nil (.tup (.cons (.sub (.v 35) (.k (.int 0))) (.cons (.sub (.v 35) (.k (.int 1))) (.cons (.sub (.v 35) (.k (.int 2))) .nil)))))))
 (.cons (.asg 33 (.lst (.cons (.k (.int 0)) (.cons (.k (.int 1)) (.cons (.k (.int 2)) (.cons (.k (.int 3)) .nil))))))
 (.cons (.ite (.t (.cmp .lt (.v 16) (.k (.int 2)))) (.cons (.asg 33 (.lst (.cons (.bin .mod (.bin .fdiv (.v 25) (.k (.int 4))) (.k (.int 4))) (.cons (.bin .mod (.bin .add (.bin .fdiv (.v 25) (.k (.int 4))) (.k (.int 1))) (.k (.int 4))) .nil))))
 .nil) .nil)
 (.cons (.ite (.not (.t (.fn 83 (.cons (.v 32) (.cons (.v 10) (.cons (.v 33) .nil)))))) (.cons (.ret (.k (.bool false)))
 .nil) .nil)
 .nil))))))))))))))
 (.cons (.for [24] (.v 13) (.cons (.ite (.t (.cmp .ne (.mth (.sub (.v 24) (.k (.int 0))) 24 .nil) (.sub (.v 24) (.k (.int 3))))) (.cons (.ret (.k (.bool false)))
 .nil) .nil)
 .nil))
 (.cons (.ret (.cmp .ge (.fn 85 (.cons (.v 9) (.cons (.v 12) (.cons (.v 15) .nil)))) (.k (.int 0))))
 .nil))) (lv F S x) σ (cO K):=by
 refine gI (iQ (iQ ?_))
 refine dR (λa:St×(Nat->AV)=>lv F a.1 a.2) (λi a Z=>Hl F Z a.1/\Pl F a.1/\∃t:Nat,i=t/\Bd a.1 (3*t) (1+19*t) (4*t) (2*t)) (S,x) rfl ⟨by decide,by decide,by decide,by decide⟩ ⟨h,p,0,rfl,b⟩ ?_ ?_
 ·rintro i ⟨S,x⟩ Z R g1 g2 ⟨h,p,t,rfl,b⟩ s
  dsimp only at h p b s
  have t2:t<=2:=by exact Nat.le_of_lt_succ (cq g2)
  show Go _ _ (lv F S (aI x 16 (.int t))) Z _
  refine pr (n:=n+8) (c:=2) (t:=t) h p rfl λhz=>?_
  show Go _ _ (lv F S (aI (aI x 16 (.int t)) 17 (.int hz))) Z _
  refine wh h p b t2 rfl rfl λg o A h1 V ⟨c1,c2,G,c4⟩ w=>?_
  refine pr (n:=n+8) (c:=3) (t:=t) h1 V (pM rfl w rfl) λj=>?_
  show Go _ _ (lv F g (aI o 23 (.int j))) A _
  refine BQ (n:=n+7) (gz:=j) h1 V rfl λhs ms v β h2 p2 E=>?_
  refine xm (gz:=j) h2 p2 rfl λks ε h3 p3 y=>?_
  refine oS (n:=n+7) (S:={g with hs:=hs,ms:=ms,ks:=ks}) (x:=aI (aI o 23 (.int j)) 24 v) h3 p3 λts q h4 W=>?_
  refine pr (n:=n+8) (c:=4) (t:=t) (S:={g with hs:=hs,ms:=ms,ks:=ks,ts:=ts}) (x:=aI (aI o 23 (.int j)) 24 v) h4 W (pM rfl w rfl) λl=>?_
  show Go _ _ (lv F {g with hs:=hs,ms:=ms,ks:=ks,ts:=ts} (aI (aI (aI o 23 (.int j)) 24 v) 25 (.int l))) _ _
  have q:ts.length=g.ts.length:=q
  refine zn (t:=t) (pz:=l) h4 W (by show ts.length<=60;exact m3 [_,_,_] nQ 0 19 1 1 Dq G2 Kl rfl t2 c2 q) w rfl λd x5 γ h5 p5 f1 f2 D B f5 f6=>?_
  refine tw (t:=t) (pz:=l) h5 p5 (pM rfl f5 rfl) (pM rfl f6 rfl) λz N u h6=>ak (aR (s (d,aI (aI x5 32 z) 33 N) u ⟨h6,p5,t+1,rfl,?_⟩))
  have f1:d.last=g.last:=f1
  have f2:d.hs=hs:=f2
  have D:d.ks=ks:=D
  have B:d.ts.length<=ts.length+18:=B
  have E:hs.length<=g.hs.length:=E
  have y:ks.length<=g.ks.length:=y
  exact⟨by show d.last<=_;exact n2 [_,_,_] (.le (.v 0) (.m 3 (.a (.v 1) (.n 1)))) (.le (.v 2) (.a (.m 3 (.v 1)) (.n 3))) Kl rfl c1 f1,by show d.ts.length<=_;exact n3 [_,_,_,_] (.le (.v 0) (.a (.n 1) (.m 19 (.a (.v 1) (.n 1))))) G2 PN (.le (.v 0) (.a (.v 3) (.n 18))) rfl c2 q B,by show d.hs.length<=_;rw[f2];exact n2 [_,_,_] (.le (.v 0) (.m 4 (.a (.v 1) (.n 1)))) (.le (.v 2) (.a (.m 4 (.v 1)) (.n 4))) J4 rfl G E,by show d.ks.length<=_;rw[D];exact n2 [_,_,_] Ec (.le (.v 2) (.a (.m 2 (.v 1)) (.n 2))) J4 rfl c4 y⟩
 ·rintro i ⟨S,x⟩ Z g1 g2 g3 ⟨h,p,t,rfl,b⟩
  dsimp only at h p b
  have G:=h.m 3 rfl
  refine mR (aS (bp rfl) (eC S.ks Kp.v (λv:AV=>lv F S (aI x 24 v)) (λ_ _ Z=>Hl F Z S) (x 24) (by unfold lv;rfl) G (bh p.kl rfl) (λ_ _ Z h=>⟨_,h.m 3 rfl⟩) h ?_ ?_))
  ·rintro δ I us v Y R e h s
   have O:=aP e
   obtain⟨t1,t2,t3,_⟩:=h.f.kp I O
   have v1:=t3.v
   obtain⟨kg,k9,kp,ks,_⟩:=p.kt I O
   refine mF (bJ (kL (cG (fO (aS (kF (bp rfl) aT t1 (Nat.le_of_ble_eq_true rfl) rfl) (fJ v1 rfl rfl (aD (iF t3 (kg.sm k9) λns r q1 q2 J=>?_))))))))
   refine aS (kF (bp rfl) aT (ag J t1) (Nat.le_of_ble_eq_true rfl) rfl) (C6 ab (ag J t2) bT bT (dG ?_))
   rw[oO (q1.trans kp.symm) q2 ks,decide_eq_true rfl]
   exact de (ak (cx (ak (aR (s I.v _ (h.up (aK.new J)))))))
  ·rintro v Y h
   refine e7 (cG (nF (n:=n+7) h p (iQ (HW ?_))))
   rw[decide_eq_true (Int.natCast_nonneg _)]
   exact cV (Wk.refl _) (k Y)
end
section
variable {σ Z:Hp}
theorem Ev(a h:Addr):iX ⟨a,pX h,2097152,7,4,10485760,10,10,25⟩:=⟨rfl,rfl,rfl,rfl,rfl,rfl,rfl,(show(0:Int)<2097152/\(2097152:Int)<2 ^ 24 by decide),(show 2<=7/\7<=7 by decide),(show(0:Int)<4/\(4:Int)<100 by decide),(show(0:Int)<10485760/\(10485760:Int)<=2 ^ 24 by decide),(show(0:Int)<10/\(10:Int)<=16 by decide),(show(0:Int)<10/\(10:Int)<=100 by decide),(show(0:Int)<25/\(25:Int)<=100 by decide)⟩
theorem DW(a h:Addr):iX ⟨a,EO h,128,4,2,256,2,10,25⟩:=⟨rfl,rfl,rfl,rfl,rfl,rfl,rfl,(show(0:Int)<128/\(128:Int)<2 ^ 24 by decide),(show 2<=4/\4<=7 by decide),(show(0:Int)<2/\(2:Int)<100 by decide),(show(0:Int)<256/\(256:Int)<=2 ^ 24 by decide),(show(0:Int)<2/\(2:Int)<=16 by decide),(show(0:Int)<10/\(10:Int)<=100 by decide),(show(0:Int)<25/\(25:Int)<=100 by decide)⟩
theorem qF{a:Addr}{o:AO}(h:aK σ Z)(e:σ a=none):aK σ (Mine.upd Z a (true,o)):=aK.upd h e
theorem BY{n:Nat}{c:Addr}{a:Int}{Q:Fl->aG->Hp->Prop}{q:SS}(k:∀(op:Op) Z,aK σ Z->fu Z op->iX op->Go (cB j7 (n+1)) q [.ref c,.int a,.ref op.adr,.undef,.undef,.undef,.undef,.undef,.undef,.undef,.undef,.undef,.undef,.undef,.undef,.undef,.undef,.undef,.undef,.undef,.undef,.undef,.undef,.undef,.undef,.undef,.undef,.undef,.undef,.undef,.undef,.undef,.undef,.undef,.undef,.undef,.undef,.undef,.undef] Z Q):
  Go (cB j7 (n+1)) (.cons (.asg 2 (.mk 12 .nil))
 (.cons (.ite (.t (.cmp .ne (.bin .mod (.v 1) (.k (.int 4))) (.k (.int 3)))) (.cons (.asg 2 (.mth (.mk 12 .nil) 14 .nil))
 .nil) .nil) q)) [.ref c,.int a,.undef,.undef,.undef,.undef,.undef,.undef,.undef,.undef,.undef,.undef,.undef,.undef,.undef,.undef,.undef,.undef,.undef,.undef,.undef,.undef,.undef,.undef,.undef,.undef,.undef,.undef,.undef,.undef,.undef,.undef,.undef,.undef,.undef,.undef,.undef,.undef,.undef] σ Q:=by
 refine az (fV aQ rfl λo s=>uE s λh Z w d=>⟨upd Z o (true,.inst 12 (pX h)),pH d,wv ?_⟩)
 have e:=qF (o:=.inst 12 (pX h)) w s
 have m:fu (upd Z o (true,.inst 12 (pX h))) ⟨o,pX h,2097152,7,4,10485760,10,10,25⟩:=ab
 generalize upd Z o (true,.inst 12 (pX h))=g at e m
 refine bC (λb:Addr=>[.ref c,.int a,.ref b,.undef,.undef,.undef,.undef,.undef,.undef,.undef,.undef,.undef,.undef,.undef,.undef,.undef,.undef,.undef,.undef,.undef,.undef,.undef,.undef,.undef,.undef,.undef,.undef,.undef,.undef,.undef,.undef,.undef,.undef,.undef,.undef,.undef,.undef,.undef,.undef]) (λb Z=>∃op:Op,b=op.adr/\aK σ Z/\fu Z op/\iX op) (λR r=>?_) ?_
 ·refine g8 (by left) (jd (λ_=>?_) λ_=>ak (bk (r o g ⟨_,rfl,e,m,Ev o h⟩)))
  refine az (fO (fV aQ rfl λb j=>uE j λp f u l=>⟨f,Wk.refl _,wv (fJ l rfl rfl (aD (BW l (ak (bk (r b _ ⟨⟨b,EO p,128,4,2,256,2,10,25⟩,rfl,e.trans (qF u j),ab,DW b p⟩))))))⟩))
 ·rintro b Z ⟨op,rfl,x,i,ok⟩
  exact k op Z x i ok
end
section
variable {σ Z:Hp}
theorem vC{n:Nat}:List.replicate n (AV.bytes [])=(List.replicate n (none:Option Rw)).map on:=by rw[List.map_replicate];rfl
theorem ug{V:bo}(h:∀L∈V.lv,L.fs=[])(j:Nat):bU V j=[]:=by
 cases e:bU V j with
 |nil=>rfl
 |cons f l=>
  obtain⟨L,b,a⟩:=dY (V:=V) (j:=j) (f:=f) (by rw[e];exact .head _)
  rw[h L (List.mem_of_getElem? b)]at a;cases a
theorem Pl.start{F:Fx}{S:St}(e:iX F.op)(nl:F.op.nl=S.V.lv.length)(n0:0<F.ns.length/\F.ns.length<=9000)(s:0<=F.unit/\F.unit<2 ^ 30)(fs:∀L∈S.V.lv,L.fs=[])(top:S.V.top=0)(bot:S.V.bot=1)(v:S.last=0)(b:S.hs=[])(k:S.ks=[])(g:S.ms=[])(n:S.made=0)(l:S.now=[.none,.none,.none,.none])(es:S.stand=[])
  (ep:S.pts=List.replicate F.op.nl none) (m:S.ts.length=1):Pl F S:=by
 have z:=ug fs
 have t:∀q,q∉cj S.V:=λq c=>by obtain⟨j,f,a,_⟩:=aZ.mp c;rw[z j]at a;cases a
 have p:nums S.V=[]:=by rw[jx,List.flatMap_eq_nil_iff.mpr fs];rfl
 refine⟨e,nl,n0,s,⟨nl▸e.nl,λj f a=>?_,λj=>?_,λj=>?_,λi j _ f a=>?_,λj f a=>?_,λi j _ f a=>?_,λf a=>?_⟩,λh=>?_,by rw[v];decide,by rw[g,b];rfl,?_,?_,by rw[l];rfl,λu o=>⟨none,λq c=>(t q c).elim,?_⟩,?_,?_,by rw[es,p],by rw[es];exact .nil,by rw[ep,List.length_replicate,nl],λr d=>?_,by rw[k];exact Nat.zero_le _,by rw[m];decide⟩
 ·rw[z j]at a;cases a
 ·rw[z j];exact .nil
 ·rw[z j];exact .nil
 ·rw[z i]at a;cases a
 ·rw[z j]at a;cases a
 ·rw[z i]at a;cases a
 ·rw[z 0]at a;cases a
 ·rw[top,bot]at h;exact absurd h (by decide)
 ·rw[g];exact⟨.nil,λ_=>nM,.nil,.nil,Nat.zero_le _⟩
 ·rw[b];exact λ_=>nM
 ·rw[l]
  have:u=0∨u=1∨u=2∨u=3:=by exact u4 o
  rcases this with rfl|rfl|rfl|rfl<;>rfl
 ·rw[b];exact λ_=>nM
 ·rw[k];exact λ_=>nM
 ·rw[ep]at d;have:=List.eq_of_mem_replicate d;cases this
theorem sB{xs ys:List Addr}(f:List Nat)(j:xs.Nodup)(c:f.Nodup)(h:f.map (λi=>xs[i]?)=ys.map some):ys.Nodup:=by
 have:(ys.map some).Nodup:=by
  rw[←h]
  refine List.pairwise_map.mpr (c.imp_of_mem λ{a b} g k ne e=>?_)
  have:xs[a]?∈ys.map some:=h▸dq ⟨a,g,rfl⟩
  obtain⟨y,_,d⟩:=bz this
  exact gU j d.symm (e▸d.symm) (Ne.symm ne) rfl
 exact(List.pairwise_map.mp this).imp λh e=>h (congrArg some e)
theorem Bu{n:Nat}{A:Addr}{a:Int}{op:Op}{ns:List Int}{Q:Fl->aG->Hp->Prop}{ss:SS}(hn:σ A=some (false,.list (ns.map .int)))(n0:0<ns.length/\ns.length<=9000)(i:fu σ op)(u:iX op)
  (k:∀(F:Fx) (S:St) Z,Hl F Z S->Pl F S->S.hs=[]->S.ks=[]->S.last=0->S.ts.length=1->Go (cB j7 (n+1)) ss (lv F S λ_=>.undef) Z Q):
  Go (cB j7 (n+1)) (.cons (.asg 3 (.at (.v 2) 21))
 (.cons (.asg 4 (.bin .mul (.bin .fdiv (.at (.v 2) 20) (.k (.int 8))) (.sub (.lst (.cons (.k (.int 12)) (.cons (.k (.int 6)) (.cons (.k (.int 3)) (.cons (.k (.int 40)) .nil))))) (.bin .mod (.bin .fdiv (.v 1) (.k (.int 4))) (.k (.int 4))))))
 (.cons (.asg 5 (.mk 11 .nil))
 (.cons (.asg 6 (.mk 19 (.cons (.v 2) (.cons (.v 5) .nil))))
 (.cons (.asg 7 (.bin .mul (.lst (.cons (.k (.bytes [])) .nil)) (.v 3)))
 (.cons (.asg 8 (.mk 16 (.cons (.v 3) (.cons (.v 5) .nil))))
 (.cons (.asg 9 (.mk 8 .nil))
 (.cons (.asg 10 (.lst (.cons (.lst .nil) .nil)))
 (.cons (.asg 11 (.lst .nil))
 (.cons (.asg 12 (.lst .nil))
 (.cons (.asg 13 (.lst .nil))
 (.cons (.asg 14 (.lst (.cons (.k .none) (.cons (.k .none) (.cons (.k .none) (.cons (.k .none) .nil))))))
 (.cons (.asg 15 (.k (.int 0))) ss))))))))))))) [.ref A,.int a,.ref op.adr,.undef,.undef,.undef,.undef,.undef,.undef,.undef,.undef,.undef,.undef,.undef,.undef,.undef,.undef,.undef,.undef,.undef,.undef,.undef,.undef,.undef,.undef,.undef,.undef,.undef,.undef,.undef,.undef,.undef,.undef,.undef,.undef,.undef,.undef,.undef,.undef] σ Q:=by
 have ζ:=u.f20
 have η:=u.f21
 have io:=i
 unfold fu at i
 obtain⟨j,hj,j4⟩:=wW (z:=a/4) (n:=4) (by decide)
 obtain⟨m,hm,m1⟩:∃m:Int,([.int 12,.int 6,.int 3,.int 40]:List AV)[j]?=some (.int m)/\0<=m/\m<=40:=by
  have:j=0∨j=1∨j=2∨j=3:=by exact u4 j4
  rcases this with rfl|rfl|rfl|rfl
  ·exact⟨12,rfl,by decide⟩
  ·exact⟨6,rfl,by decide⟩
  ·exact⟨3,rfl,by decide⟩
  ·exact⟨40,rfl,by decide⟩
 have w:=u.mfs
 refine bG (uM (by left) i (by kernel_rfl) η) (az (dg (aS (dX (uM (by left) i (by kernel_rfl) ζ) aT (by decide)) (qE (a8 (by left) rfl λt ht=>aS (aU (x':=.int (j:Nat)) (v:=.int (a/4%4)) (cH (dX (by left) aT (by decide)) aT (by decide)) (congrArg AV.int hj)) (xI ab (Nat.le_of_ble_eq_true rfl) hm (Hu ⟨by exact Int.lt_of_lt_of_le (by decide) (Int.ediv_nonneg (Int.le_of_lt w.1) (by decide)),by exact Int.lt_of_le_of_lt (Int.ediv_le_self _ (Int.le_of_lt w.1)) (Int.lt_trans w.2 (by decide))⟩ ?_)))))))
 have u0:0<=op.mfs/8*m/\op.mfs/8*m<2 ^ 30:=by
  have h1:0<=op.mfs/8:=by exact Int.ediv_nonneg (Int.le_of_lt w.1) (by decide)
  refine⟨Int.mul_nonneg h1 m1.1,Int.lt_of_le_of_lt (Int.mul_le_mul_of_nonneg_left m1.2 h1) (by exact Int.lt_of_le_of_lt (Int.mul_le_mul_of_nonneg_right (Int.le_trans (Int.ediv_le_self _ (Int.le_of_lt w.1)) (Int.le_of_lt w.2)) (by decide)) (by decide))⟩
 generalize op.mfs/8*m=unit at u0
 have x1:=aK.new (c:=(false,.list [.int 12,.int 6,.int 3,.int 40])) ht
 have W:=x1 _ _ hn
 have G:=x1 _ _ io
 generalize upd σ t (false,.list [.int 12,.int 6,.int 3,.int 40])=ν at W G
 refine az (fV aQ rfl λo ho=>qz ho λJ x2 o2=>wv (az (fV (by left) rfl λp hp=>yr (wv ?_))))
 have x3:=x2.trans (aK.new (c:=(true,.inst 19 [(51,.ref op.adr),(44,.ref o)])) hp)
 have o3:=o2.fz (Fz.new (c:=(true,.inst 19 [(51,.ref op.adr),(44,.ref o)])) hp)
 have p3:ye (upd J p (true,.inst 19 [(51,.ref op.adr),(44,.ref o)])) p op.adr o:=ab
 have r:=x3 _ _ W
 have δ:=x3 _ _ G
 generalize upd J p (true,.inst 19 [(51,.ref op.adr),(44,.ref o)])=h at r δ o3 p3
 refine az (dg (a8 (by left) rfl λt' μ=>aS (by left) (zR ab ⟨Int.natCast_nonneg _,by have:=u.nl;exact z1 [_] NM zk rfl (cl this.2)⟩ λy θ=>?_)))
 have n4:=((⟨aK.refl _,.nil,λ_=>nM,λ_=>nM⟩:Nw h h []).new μ (d:=(false,.list [.bytes []]))).new θ (d:=(false,.list (List.replicate (op.nl:Int).toNat (.bytes []))))
 have cp:upd (upd h t' (false,.list [.bytes []])) y (false,.list (List.replicate (op.nl:Int).toNat (.bytes []))) y=some (false,.list ((List.replicate op.nl (none:Option Rw)).map on)):=by rw[←vC];exact ab
 generalize upd (upd h t' (false,.list [.bytes []])) y (false,.list (List.replicate (op.nl:Int).toNat (.bytes [])))=κ at n4 cp
 refine az (fV (by left) rfl λv hv=>rR hv (o3.fz n4.ex.fz) u.nl.2 λV Z e1 e2 e3 e4 e5 e6 _ x iV _ w1 w2=>⟨frz _ Z,zD x,wv ?_⟩)
 subst e1
 have iV:=iV.frz x hv w1 w2
 have n5:=n4.up (tW x)
 have K:=tW x _ _ cp
 generalize frz κ Z=l at iV n5 K
 refine az (fV aQ rfl λml β=>wg β λe Y ne=>wv ?_)
 have g:upd l e (false,.list []) ml=none:=by rw[ac ne];exact β
 have n6:=(n5.new Y (d:=(false,.list []))).new g (d:=(false,.inst 8 [(5,.ref e),(6,.int 0)]))
 have x6:=(aK.new (c:=(false,.list [])) Y).trans (aK.new (c:=(false,.inst 8 [(5,.ref e),(6,.int 0)])) g)
 have B:=x6 _ _ K
 have γ:=iV.fz x6.fz
 have N:upd (upd l e (false,.list [])) ml (false,.inst 8 [(5,.ref e),(6,.int 0)]) ml=_:=ab
 have R:upd (upd l e (false,.list [])) ml (false,.inst 8 [(5,.ref e),(6,.int 0)]) e=some (false,.list []):=ag g ab
 generalize upd (upd l e (false,.list [])) ml (false,.inst 8 [(5,.ref e),(6,.int 0)])=ξ at n6 B γ N R
 refine az (ud (aj (a8 aQ rfl λt0 E=>aD (uv rfl λtA I=>az (a8 aQ rfl λsA O=>az (a8 aQ rfl λhA U=>az (a8 aQ rfl λkA ε=>az (a8 (by left) rfl λwA D=>bG (by left) ?_))))))))
 have s:=(((((n6.new E (d:=(false,.list []))).new I (d:=(false,.list [.ref t0]))).new O (d:=(false,.list []))).new U (d:=(false,.list []))).new ε (d:=(false,.list []))).new D (d:=(false,.list [.none,.none,.none,.none]))
 have x7:=(((((aK.new (c:=(false,.list [])) E).trans (aK.new (c:=(false,.list [.ref t0])) I)).trans (aK.new (c:=(false,.list [])) O)).trans (aK.new (c:=(false,.list [])) U)).trans (aK.new (c:=(false,.list [])) ε)).trans (aK.new (c:=(false,.list [.none,.none,.none,.none])) D)
 have nd:[y,tA,hA,kA,wA,sA,ml,e].Nodup:=sB [8,4,2,1,0,3,6,7] s.nd (by decide) rfl
 have na:A∉[y,tA,hA,kA,wA,sA,ml,e]:=λhm=>by
  have:h A=none:=s.fr A (by
   simp only[List.mem_cons,List.not_mem_nil,or_false]at hm
   rcases hm with rfl|rfl|rfl|rfl|rfl|rfl|rfl|rfl<;>simp)
  rw[r]at this;cases this
 have e8:=x7 _ _ B
 have el:=x7 _ _ R
 have em:=x7 _ _ N
 refine k ⟨A,a,op,unit,o,p,y,ml,e,tA,hA,kA,wA,ns⟩ ⟨V,sA,0,[.ref t0],[],[],[],[.none,.none,.none,.none],0,[],List.replicate op.nl none⟩ _ ⟨⟨s.ex _ _ δ,s.ex _ _ p3,o3.fz s.ex.fz,γ.fz x7.fz,λ_=>nM,λj f hf=>(List.not_mem_nil ((ug e4 j)▸hf)).elim,λ_=>nM⟩,λq b=>?_,nd,λq b=>?_⟩ (Pl.start u e3.symm n0 u0 e4 e5 e6 rfl rfl rfl rfl rfl rfl rfl rfl rfl) rfl rfl rfl rfl
 ·rcases au b with rfl|b
  ·exact e8
  rcases au b with rfl|b
  ·exact(show upd _ _ _ tA=some (false,.list [.ref t0])from(by nofun))
  rcases au b with rfl|b
  ·exact(show upd _ _ _ hA=some (false,.list [])from(by nofun))
  rcases au b with rfl|b
  ·exact(show upd _ _ _ kA=some (false,.list [])from(by nofun))
  rcases au b with rfl|b
  ·exact ab
  rcases au b with rfl|b
  ·exact(show upd _ _ _ sA=some (false,.list [])from(by nofun))
  rcases au b with rfl|b
  ·exact em
  ·rw[aw b];exact el
 ·rw[aw b];exact⟨s.ex _ _ r,na⟩
end
section
variable {σ Z:Hp}
theorem Bf{n:Nat}{b:Addr}{ns:List Int}{K:PX}(e:σ b=some (false,.list (ns.map .int)))(n0:0<ns.length/\ns.length<=9000)(k:∀Z,K (.bool true) Z):cB j7 (n+10) (F.fa 88) [.ref b] σ K:=by
 refine aB (l:=[.ref b,.undef,.undef,.undef,.undef,.undef,.undef,.undef,.undef,.undef,.undef,.undef,.undef,.undef,.undef,.undef,.undef,.undef,.undef,.undef,.undef,.undef,.undef,.undef,.undef,.undef,.undef,.undef,.undef,.undef,.undef,.undef,.undef,.undef,.undef,.undef,.undef,.undef,.undef]) Mj rfl rfl ?_;show Go _ Ka _ _ _;delta Ka
 refine az (aV (ax (bp rfl) (ax aT aQ)) (pR (i:=0) e n0.1 n0.2 λa=>BY (n:=n+8) λop Z x i f=>Bu (n:=n+8) (x _ _ e) n0 i f λF S Z h p c j d g=>?_))
 refine bJ (kL (cG (nF (n:=n+7) h p (iQ (MF (dG ?_))))))
 rw[c,d]
 exact de (ak (cx (Cc h p ⟨by rw[d];exact Nat.le_refl _,by rw[g];exact Nat.le_refl _,by rw[c];exact Nat.le_refl _,by rw[j];exact Nat.le_refl _⟩ k)))
theorem Dk{n:Nat}{j:Addr}{f:Bool}{b:List Int}{K:PX}(h:σ j=some (f,.list (b.map .int)))(l:b.length<=63)(k:∀Z,K (.bool true) Z):cB j7 (n+11) (F.fa 89) [.ref j] σ K:=by
 have q:(b.map AV.int).length<=9000:=aO (bh l rfl)
 refine aB (l:=[.ref j,.undef,.undef,.undef,.undef,.undef,.undef,.undef]) FL rfl rfl ?_;show Go _ Km _ _ _;delta Km
 refine az (jX (yI (aS (by left) (iQ (yz h ⟨q,by decide,by decide⟩ λc u=>?_)))))
 have s:(b.map AV.int).take (20:Int).toNat=(b.take 20).map AV.int:=List.map_take.symm
 rw[s]
 have tl:(b.take 20).length<=9000:=Nat.le_trans (List.length_take_le' _ _) (bh l rfl)
 refine yu (b.take 20) (v:=λx=>.int (x%999983)) ab tl (λx _=>cH (bp rfl) aT (by decide)) λd hd=>?_
 have y:=(aK.new (c:=(false,.list ((b.take 20).map .int))) u)
 have t:(b.take 20).map (λx:Int=>AV.int (x%999983))=((b.take 20).map λx:Int=>x%999983).map .int:=by rw[List.map_map];rfl
 rw[t]
 have nl:((b.take 20).map λx:Int=>x%999983).length<=9000:=by rw[List.length_map];exact tl
 generalize (b.take 20).map (λx:Int=>x%999983)=i at nl
 have w:=aO (g:=AV.int) nl
 have m:=ab (σ:=upd σ c (false,.list ((b.take 20).map .int))) (a:=d) (c:=(false,.list (i.map .int)))
 refine bC (λr:Addr=>[.ref j,.ref r,.undef,.undef,.undef,.undef,.undef,.undef]) (λr Z=>∃i:List Int,Z r=some (false,.list (i.map .int))/\0<i.length/\i.length<=9000) (λR p=>?_) ?_
 ·refine g8 (by left) (br (λ_=>az (a8 (vs:=[.int 0]) (ax aT aQ) rfl λr o=>ak (bk (p r _ ⟨[0],ab,by decide,by decide⟩)))) λn0=>ak (bk (p d _ ⟨i,m,?_,nl⟩)))
  rw[List.length_map]at n0;exact Nat.pos_of_ne_zero λe=>n0 (ce e)
 ·rintro r Z ⟨i,o,n0,n1⟩
  exact bG (by left) (Cy (az (aV (by left) (Bf o ⟨n0,n1⟩ λZ=>ak (cx (fK (by left) (cV (Wk.refl _) (k Z))))))))
end
section
theorem P8(walk:CK):PySem.Challenge.rw_xm0840_01.Holds:=
 holds_law Gk λa=>holds_open (Xt:=xH) (XP:=XL qH []) (YP:=YH) Ig GI zN (λs e=>xl_of s (Bool.and_eq_true_iff.mp e).1) XL.keeps Qp RP Rr (λs e=>recFacts_of (Bool.and_eq_true_iff.mp e).2) (by kernel_rfl) a QP RO QT walk
theorem K5:PySem.Challenge.rw_xm0840_01.row.args=[.list .int]:=by kernel_rfl
theorem Hy:PySem.Challenge.rw_xm0840_01.row.records=[]:=by kernel_rfl
theorem Nh:PySem.Challenge.rw_xm0840_01.row.pre=.and (.not (.lt (.lit (.int 63)) (.len (.arg 0)))) (.lit (.bool true)):=by kernel_rfl
theorem CA:∀{xs:List WData},WShape.hasItems [] xs .int=true->∃is:List Int,xs=is.map .int
 |[],_=>⟨[],rfl⟩
 |x::xs,h=>by
  unfold WShape.hasItems at h
  rw[Bool.and_eq_true]at h
  obtain⟨is,rfl⟩:=CA h.2
  obtain⟨i,rfl⟩:=hasW_int h.1
  exact⟨i::is,rfl⟩
theorem B8{a:List WData}(h:WShape.hasAll PySem.Challenge.rw_xm0840_01.row.records a PySem.Challenge.rw_xm0840_01.row.args=true):∃is:List Int,a=[.list (is.map .int)]:=by
 rw[K5,Hy]at h
 obtain⟨x,f,rfl,c,d⟩:=hasAllW_cons h
 obtain rfl:=hasAllW_nil d
 obtain⟨e,rfl,b⟩:=hasW_list c
 obtain⟨is,rfl⟩:=CA b
 exact⟨is,rfl⟩
theorem Em{is:List Int}(h:WTm.holds PySem.Challenge.rw_xm0840_01.row.records PySem.Challenge.rw_xm0840_01.row.pre {args:=[.list (is.map .int)]}=true):is.length<=63:=by
 rw[Nh,Hy]at h
 have b:=(holds_andW h).1
 have a:=condW_of b (X:=!decide ((63:Int)<(((is.map WData.int).length:Nat):Int))) (by rfl)
 rw[List.length_map,Bool.not_eq_true',decide_eq_false_iff_not]at a
 exact Int.ofNat_le.mp (il a)
theorem qN{P:Params}{h:Heap}{vs:List Value}(x:WellAll P h vs []):vs=[]:=by cases x;rfl
theorem yT{P:Params}{h:Heap}{v:Value}{i:Int}(x:Well P h v (.int i)):∃t,v=.int i t:=by cases x;exact⟨_,rfl⟩
theorem vL{P:Params}{h:Heap}{v:Value}{xs:List WData}(x:Well P h v (.list xs)):∃a vs,v=.ref a/\h.get? a=some (jF vs 0)/\WellAll P h vs xs:=by
 cases x with
 |list b c=>exact⟨_,_,rfl,b,c⟩
theorem xZ{P:Params}{h:Heap}{is:List Int}:∀{vs:List Value},WellAll P h vs (is.map .int)->aF VR vs (is.map .int):=by
 induction is with
 |nil=>intro vs x;rw[qN x];exact .nil
 |cons i is a=>intro vs x;exact(wellAll_cons_inv x).elim λv h=>h.elim λvs h=>(yT h.2.1).elim λt e=>by rw[h.1,e];exact .cons rfl (a h.2.2)
theorem Ax{P:Params}{h:Heap}{b:List Value}{is:List Int}(x:WellAll P h b [.list (is.map .int)]):∃a vs,b=[.ref a]/\h.get? a=some (jF vs 0)/\aF VR vs (is.map .int):=
 (wellAll_cons_inv x).elim λv h=>h.elim λvs h=>(vL h.2.1).elim λa g=>g.elim λc g=>⟨a,c,by rw[h.1,g.1,qN h.2.2],g.2.1,xZ g.2.2⟩
theorem wU{ext:bj}{k:Nat}{f:Addr}{d:Fd}{as:List AV}{σ:Hp}{Q:PX}(a:bD f=some d)(h:gy F bD ext (k+1) f as σ Q)(b:¬ext f as σ Q):as.length=d.np/\ji F (gy F bD ext k) d.body (as++List.replicate (d.nl-d.np) .undef) σ (cO Q):=by
 unfold gy at h
 rw[a]at h
 exact h.resolve_right b
theorem Dm{σ:Hp}{Q:PX}{f:Addr}{as:List AV}(h:ES σ Q f as):f=F.fa 85:=by cases h;rfl
theorem HY{as:List AV}{σ:Hp}{Q:PX}:¬j7 (F.fa 89) as σ Q:=λh=>by
 have e:=Dm h
 have:F.fa 89=897/\F.fa 85=875:=by constructor<;>kernel_rfl
 rw[this.1,this.2]at e
 cases e
theorem LD:F.fa 89=897:=by kernel_rfl
theorem FV{b a s':Shared}{c:List WData}{h':Heap}{tk:Nat}(d:a.gens=#[])(st:a.heap.StaysIn h')(e:s'={a with heap:=h',toks:=tk}):
  GoodWG PySem.Challenge.rw_xm0840_01.row.toRowW.claim (classAt b.heap) (ExcName.means b.heap) c a (.ok (.ret (.bool true))) s':=by
 subst e
 exact⟨.inl ⟨_,.bool true,[],rfl,λ_=>by kernel_rfl,.bool true,by kernel_rfl,λ_=>⟨.nil,λ_ h=>nM h⟩⟩,.of_keep st,rfl,.of_eq d⟩
theorem Q2{h:Heap}{a:Addr}{vs:List Value}{is:List Int}(k:h.get? a=some (jF vs 0))(g:aF VR vs (is.map .int)):HR T (upd (λ_=>none) a (true,.list (is.map .int))) h [] (λ_=>0) []:=by
 have d:∀b f o,upd (λ_=>none) a (true,AO.list (is.map AV.int)) b=some (f,o)->b=a/\f=true/\o=.list (is.map .int):=λb f o e=>by
  by_cases q:b=a
  ·subst q
   rw[ab]at e
   cases e;exact⟨rfl,rfl,rfl⟩
  ·unfold upd at e
   rw[if_neg q]at e
   cases e
 refine⟨.nil,λb f o e=>?_,λb f c j e=>?_,λb f c j m i n l e=>?_,λ_ h=>nM h⟩
 ·obtain⟨rfl,rfl,rfl⟩:=d _ _ _ e
  exact⟨vs,0,.inr ⟨rfl,k⟩,g⟩
 ·cases(d _ _ _ e).2.2
 ·cases(d _ _ _ e).2.2
theorem Ha:CK:=by
 intro w u s mg mb G KY z o pm cd I dV kV ho hd p R i J q r as b f j m k
 obtain⟨K,t,H⟩:=KY
 refine Ground.open G ?_
 intro T B D O TW
 have h:=(pre_splitW b).1
 have d:=(pre_splitW b).2
 clear B D O TW G hd p R b f j k ho
 obtain⟨is,rfl⟩:=B8 h
 have y:=Em d
 obtain⟨a,vs,rfl,Q,N⟩:=Ax m
 have l:z=897:=by
  have:=mg_of t (topRead_of T).g (((Cp H).fn _ 89 (show ct.fi.lookup dH.name=some 89 by kernel_rfl)).1)
  rw[i]at this
  cases this;exact LD
 subst l
 rw[yZ]
 have c:=wU FL (Dk (n:=0) (σ:=upd (λ_=>none) a (true,.list (is.map .int))) (K:=λv _=>v=.bool true) ab y λ_=>rfl) HY
 refine enter_call (sM (Cp H) (lO H Qq) t ⟨_,_,_,_,_,T⟩ T.g.lt (Q2 Q N) c.1 (.cons rfl .nil) (λA2 e g x gd hf Z Y E U=>qM (Cp H) (uG H) (DJ H) _ A2 e _ g x gd hf Z Y ?_ ?_) c.2 λv a' W h' tk V A st=>?_)
 ·exact Nat.le_trans (Nat.add_le_add_right E _) (by decide+kernel)
 ·exact Nat.le_trans (Nat.add_le_add_right (Nat.add_le_add_right U _) _) (by decide+kernel)
 ·subst A
  obtain rfl:=V.bool
  exact FV J st rfl
end
end Mine
theorem PySem.Challenge.cw_xm0840_01_holds : PySem.Challenge.rw_xm0840_01.Holds :=
 Mine.P8 Mine.Ha
