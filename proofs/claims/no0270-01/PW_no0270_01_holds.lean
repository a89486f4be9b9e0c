import PyProof.Rows.All
import Wide.All
import OpenK.AllK
import Wide.FinOn
import PySem.Challenge.RW_no0270_01
import KE.IntTextLaws
import KE.KIntText
set_option linter.all false
set_option maxRecDepth 100000
set_option maxHeartbeats 8000000
set_option genSizeOf false
set_option genSizeOfSpec false
set_option genInjectivity false
set_option Elab.async false
set_option tactic.hygienic false
set_option bootstrap.genMatcherCode false
local macro_rules | `(tactic| omega) => `(tactic| first | lia | omega (splitDisjunctions := true))
noncomputable section
set_option Elab.async false
set_option linter.all false
set_option genSizeOf false
set_option genSizeOfSpec false
set_option genInjectivity false
namespace Mine.Li
noncomputable section
noncomputable def dt:List Int->List Int->Int
 |a::p,b::q=>a*b+dt p q
 |_,_=>0
noncomputable def pa:List Int->List Int->List Int
 |a::p,b::q=>(a+b)::pa p q
 |[],q=>q
 |p,[]=>p
noncomputable def pm (k:Int):List Int->List Int
 |a::p=>(k*a)::pm k p
 |[]=>[]
noncomputable def un:Nat->List Int
 |0=>[1]
 |i+1=>0::un i
theorem pU:∀p q l,dt (pa p q) l=dt p l+dt q l
 |a::p,b::q,c::l=>by
  show(a+b)*c+dt (pa p q) l=(a*c+dt p l)+(b*c+dt q l)
  rw[pU p q l,Int.add_mul];ac_rfl
 |[],q,l=>(Int.zero_add _).symm
 |a::p,[],l=>(Int.add_zero _).symm
 |a::p,b::q,[]=>rfl
theorem su (k:Int):∀p l,dt (pm k p) l=k*dt p l
 |a::p,b::l=>by
  show k*a*b+dt (pm k p) l=k*(a*b+dt p l)
  rw[su k p l,Int.mul_add,Int.mul_assoc]
 |[],l=>(Int.mul_zero k).symm
 |a::p,[]=>(Int.mul_zero k).symm
theorem JR:∀i l,dt (un i) l=l.getD i 0
 |0,[]=>rfl
 |i+1,[]=>rfl
 |0,a::l=>by show 1*a+0=a;rw[Int.one_mul,Int.add_zero]
 |i+1,a::l=>by
  show 0*a+dt (un i) l=l.getD i 0
  rw[JR i l,Int.zero_mul,Int.zero_add]
noncomputable def vals (c:List Nat)(d:List Int):List Int:=match c with
 |[]=>d
 |a::c=>(a:Int)::vals c d
theorem DR:∀(c:List Nat)(d:List Int)(i:Nat),Nat.blt i c.length=true->(vals c d).getD i 0=(c.getD i 0:Nat)
 |a::c,d,0,_=>rfl
 |a::c,d,i+1,h=>DR c d i h
theorem LA:∀(c:List Nat)(d:List Int)(i:Nat),(vals c d).getD (c.length+i) 0=d.getD i 0:=by
 intro z_
 induction z_ with
 |nil=>
  intro d i
  rw[show([]:List Nat).length+i=i from Nat.zero_add i];rfl
 |cons a c ih=>
  intro d i
  rw[show(a::c).length+i=(c.length+i)+1 from Nat.succ_add _ _];exact ih d i
theorem Pg (j:Int)(l:List Int):dt [j] (1::l)=j:=by
 show j*1+0=j
 rw[Int.mul_one,Int.add_zero]
theorem Pf (i:Nat)(l:List Int):dt (0::un i) (1::l)=l.getD i 0:=by
 show 0*1+dt (un i) l=_
 rw[JR,Int.zero_mul,Int.zero_add]
inductive O|le|lt|eq
noncomputable def O.n (a b:Nat):O->Prop
 |.le=>a<=b
 |.lt=>a<b
 |.eq=>a=b
noncomputable def O.i (a b:Int):O->Prop
 |.le=>a<=b
 |.lt=>a<b
 |.eq=>a=b
noncomputable def O.t:O->Int
 |.lt=>-1
 |_=>0
noncomputable def O.two:O->Bool
 |.eq=>true
 |_=>false
theorem O.cast {a b:Nat}:∀{o:O},o.n a b↔o.i a b
 |.le=>Int.ofNat_le.symm
 |.lt=>Int.ofNat_lt.symm
 |.eq=>Int.ofNat_inj.symm
theorem O.ge {a b:Int}:∀{o:O},o.i a b->0<=b-a+o.t
 |.le,h=>(Int.add_zero (b-a)).symm▸Int.sub_nonneg_of_le h
 |.lt,h=>Int.le_sub_one_of_lt (Int.sub_pos_of_lt h)
 |.eq,h=>(Int.add_zero (b-a)).symm▸Int.sub_nonneg_of_le (Int.le_of_eq h)
theorem O.Yy {a b:Int}:∀{o:O},o.two=true->o.i a b->b-a+o.t=0
 |.eq,_,h=>(Int.add_zero (b-a)).trans (Int.sub_eq_zero_of_eq h.symm)
theorem O.no {a b:Int}:∀{o:O},o.two=false->0<=b-a+o.t->o.i a b
 |.le,_,h=>Int.le_of_sub_nonneg ((Int.add_zero (b-a))▸h)
 |.lt,_,h=>Int.lt_of_sub_pos (Int.lt_of_le_sub_one h)
structure T (c:List Nat)(d:List Int) where
 n:Nat
 v:Int
 b:Bool
 p:List Int
 h:dt p (1::vals c d)=v
 hn:b=true->v=(n:Nat)
section
variable {c:List Nat}{d:List Int}
noncomputable def T.k (j:Nat):T c d:=⟨j,(j:Nat),true,[(j:Int)],Pg _ _,λ_=>rfl⟩
noncomputable def T.x (i:Nat):T c d:=match h:Nat.blt i c.length with
 |true=>⟨c.getD i 0,(c.getD i 0:Nat),true,0::un i,(Pf i _).trans (DR c d i h),λ_=>rfl⟩
 |false=>.k 0
noncomputable def T.z (i:Nat):T c d:=⟨0,d.getD i 0,false,0::un (c.length+i),(Pf _ _).trans (LA c d i),nofun⟩
noncomputable def T.a (e f:T c d):T c d:=⟨e.n+f.n,e.v+f.v,e.b&&f.b,pa e.p f.p,(pU _ _ _).trans (by rw[e.h,f.h]),λk=>by
 rw[e.hn (Bool.and_eq_true_iff.mp k).1,f.hn (Bool.and_eq_true_iff.mp k).2];rfl⟩
noncomputable def T.s (e f:T c d):T c d:=⟨0,e.v-f.v,false,pa e.p (pm (-1) f.p),(pU _ _ _).trans (by rw[su,e.h,f.h,Int.neg_mul,Int.one_mul];rfl),nofun⟩
noncomputable def T.m (j:Nat)(e:T c d):T c d:=⟨j*e.n,(j:Nat)*e.v,e.b,pm j e.p,(su _ _ _).trans (by rw[e.h]),λk=>by rw[e.hn k];rfl⟩
noncomputable def T.ca (e:T c d):T c d:=match k:e.b with
 |true=>⟨0,(e.n:Nat),false,e.p,e.h.trans (e.hn k),nofun⟩
 |false=>e
structure H (c:List Nat)(d:List Int) where
 P:Prop
 o:O
 f:List Int
 a:Int
 b:Int
 h:P↔o.i a b
 hf:dt f (1::vals c d)=b-a+o.t
noncomputable def T.f (o:O)(e f:T c d):List Int:=pa (pa f.p (pm (-1) e.p)) [o.t]
theorem T.Pc {o:O}{e f:T c d}:dt (T.f o e f) (1::vals c d)=f.v-e.v+o.t:=by
 unfold T.f
 rw[pU,pU,su,e.h,f.h,Pg,Int.neg_mul,Int.one_mul];rfl
noncomputable def H.i (o:O)(e f:T c d):H c d:=⟨o.i e.v f.v,o,T.f o e f,e.v,f.v,Iff.rfl,T.Pc⟩
noncomputable def H.n (o:O)(e f:T c d):H c d:=match k:e.b&&f.b with
 |true=>⟨o.n e.n f.n,o,T.f o e f,e.v,f.v,by rw[e.hn (Bool.and_eq_true_iff.mp k).1,f.hn (Bool.and_eq_true_iff.mp k).2];exact O.cast,T.Pc⟩
 |false=>H.i o e f
noncomputable def den (g:H c d):List (Int×H c d)->Prop
 |[]=>g.P
 |h::l=>h.2.P->den g l
noncomputable def sum:List (Int×H c d)->List Int
 |[]=>[]
 |h::l=>pa (pm h.1 h.2.f) (sum l)
noncomputable def Su:List (Int×H c d)->Bool
 |[]=>true
 |h::l=>(h.2.o.two||decide (0<=h.1))&&Su l
noncomputable def neg:List Int->Nat->Bool
 |[],_=>true
 |a::p,0=>decide (a=0)&&neg p 0
 |a::p,n+1=>decide (a<=0)&&neg p n
theorem Qh:∀(p d:List Int),neg p 0=true->dt p d=0:=by
 intro z_
 induction z_ with
 |nil=>
  intro _ _
  exact rfl
 |cons a p ih=>
  intro c_ h
  cases c_ with
  |nil=>
   exact rfl
  |cons b d=>
   have h:=Bool.and_eq_true_iff.mp h
   show a*b+dt p d=0
   rw[ih d h.2,of_decide_eq_true h.1,Int.zero_mul];rfl
theorem Mc:∀(p:List Int)(c:List Nat)(d:List Int),neg p c.length=true->dt p (vals c d)<=0:=by
 intro z_
 induction z_ with
 |nil=>
  intro _ _ _
  exact Int.le_refl _
 |cons a p ih=>
  intro c_ d h
  cases c_ with
  |nil=>
   exact Int.le_of_eq (Qh _ d h)
  |cons b c=>
   have h:=Bool.and_eq_true_iff.mp h
   exact Int.add_nonpos (Int.mul_nonpos_of_nonpos_of_nonneg (of_decide_eq_true h.1) (Int.natCast_nonneg b)) (ih c d h.2)
noncomputable def Oi (n:Nat):List Int->Bool
 |a::p=>decide (a<=0)&&neg p n
 |[]=>true
theorem Ho {c:List Nat}{d:List Int}:∀{p:List Int},Oi c.length p=true->dt p (1::vals c d)<=0
 |[],_=>Int.le_refl _
 |a::p,h=>Int.add_nonpos ((Int.mul_one a).symm▸of_decide_eq_true (Bool.and_eq_true_iff.mp h).1) (Mc p c d (Bool.and_eq_true_iff.mp h).2)
noncomputable def R5 (g:H c d)(l:List (Int×H c d)):Bool:=!g.o.two&&(Su l&&Oi c.length (pa (sum l) (pm (-1) g.f)))
theorem LK {g:H c d}:∀{l:List (Int×H c d)},Su l=true->(0<=dt (sum l) (1::vals c d)->g.P)->den g l:=by
 intro z_
 induction z_ with
 |nil=>
  intro _ q
  exact q (Int.le_refl _)
 |cons h l ih=>
  intro o q
  exact λp=>by
   have o:=Bool.and_eq_true_iff.mp o
   have key:0<=h.1*dt h.2.f (1::vals c d):=by
    rw[h.2.hf]
    rcases Bool.or_eq_true_iff.mp o.1 with t|t
    ·rw[O.Yy t (h.2.h.mp p),Int.mul_zero];exact Int.le_refl _
    ·exact Int.mul_nonneg (of_decide_eq_true t) (O.ge (h.2.h.mp p))
   exact ih o.2 λr=>q (by
    show 0<=dt (pa (pm h.1 h.2.f) (sum l)) _
    rw[pU,su];exact Int.add_nonneg key r)
theorem MY {g:H c d}{l:List (Int×H c d)}(h:R5 g l=true):den g l:=by
 have h:=Bool.and_eq_true_iff.mp h
 have h2:=Bool.and_eq_true_iff.mp h.2
 have e:=Ho (d:=d) h2.2
 rw[pU,su,g.hf,Int.neg_mul,Int.one_mul] at e
 exact LK h2.1 λr=>g.h.mpr (O.no (Bool.not_inj (h.1:_=!false)) (Int.le_trans r (Int.le_of_sub_nonpos e)))
noncomputable def VJ (f:T c d->T c d->T c d):List (T c d)->List (T c d)
 |b::a::l=>f a b::l
 |l=>l
noncomputable def RA (f:T c d->T c d):List (T c d)->List (T c d)
 |a::l=>f a::l
 |l=>l
noncomputable def W6 (t j:Nat)(l:List (T c d)):List (T c d):=
 bif Nat.blt 63 t then l else bif Nat.blt t 13 then .x (t-1)::l else bif Nat.blt t 19 then .z (t-13)::l else bif Nat.beq t 19 then .k j::l else bif Nat.blt t 45 then .k (t-20)::l else
 bif Nat.beq t 45 then VJ .a l else bif Nat.beq t 46 then VJ .s l else bif Nat.beq t 47 then RA (.m j) l else RA .ca l
noncomputable def Nd (f:Int->Int):List (Int×H c d)->List (Int×H c d)
 |h::l=>(f h.1,h.2)::l
 |l=>l
noncomputable def VI (t:Nat):O:=bif Nat.beq t 0 then .le else bif Nat.beq t 1 then .lt else .eq
noncomputable def W7 (t:Nat)(e f:T c d):H c d:=bif Nat.blt t 52 then H.n (VI (t-49)) e f else H.i (VI (t-52)) e f
noncomputable def dec:Nat->Nat->Nat->List (T c d)->List (Int×H c d)->List (Int×H c d)
 |0,_,_,_,hs=>hs
 |fuel+1,n,j,l,hs=>bif Nat.beq n 0 then hs else
  bif Nat.beq (n%128) 56 then dec fuel (n/128) j l (Nd (λw=>-w) hs) else bif Nat.beq (n%128) 57 then dec fuel (n/128) j l (Nd (λw=>w+1) hs) else
  bif Nat.blt 48 (n%128)&&Nat.blt (n%128) 55 then(match l with
   |f::e::l=>dec fuel (n/128) j l ((1,W7 (n%128) e f)::hs)
   |l=>hs) else dec fuel (n/128) (bif Nat.blt 63 (n%128) then 64*j+(n%128-64) else 0) (W6 (n%128) j l) hs
noncomputable def dn (n:Nat)(c:List Nat)(d:List Int):Prop:=match dec (c:=c) (d:=d) 300 n 0 [] [] with
 |[]=>True
 |g::l=>den g.2 l
noncomputable def ck (n:Nat)(c:List Nat)(d:List Int):Bool:=match dec (c:=c) (d:=d) 300 n 0 [] [] with
 |[]=>true
 |g::l=>R5 g.2 l
end
end
end Mine.Li
namespace Mine
open Li
theorem tt:true=true:=rfl
theorem uU {a b:Int}(h:¬a<b):b<=a:=Int.not_lt.mp h
theorem Nv {a b:Int}(h:¬a<=b):b<a:=Int.lt_of_not_ge h
theorem ND {a b:Nat}(h:¬a<b):b<=a:=Nat.le_of_not_lt h
theorem Y5 {a b:Nat}(h:¬a<=b):b<a:=Nat.lt_of_not_le h
theorem Sl (a b:Nat):a<=a-b+b:=Nat.sub_le_iff_le_add.mp (Nat.le_refl _)
theorem dq (n:Nat)(c:List Nat)(d:List Int)(h:ck n c d=true):dn n c d:=by
 unfold ck at h
 unfold dn
 revert h
 cases dec (c:=c) (d:=d) 300 n 0 [] [] with
 |nil=>exact λ_=>trivial
 |cons g l=>exact MY
theorem a01 (n:Nat){y0:Int}(h:ck n [] [y0]=true):dn n [] [y0]:=dq n [] [y0] h
theorem a02 (n:Nat){y0 y1:Int}(h:ck n [] [y0,y1]=true):dn n [] [y0,y1]:=dq n [] [y0,y1] h
theorem a10 (n:Nat){x0:Nat}(h:ck n [x0] []=true):dn n [x0] []:=dq n [x0] [] h
theorem a11 (n:Nat){x0:Nat}{y0:Int}(h:ck n [x0] [y0]=true):dn n [x0] [y0]:=dq n [x0] [y0] h
theorem a12 (n:Nat){x0:Nat}{y0 y1:Int}(h:ck n [x0] [y0,y1]=true):dn n [x0] [y0,y1]:=dq n [x0] [y0,y1] h
theorem a20 (n:Nat){x0 x1:Nat}(h:ck n [x0,x1] []=true):dn n [x0,x1] []:=dq n [x0,x1] [] h
theorem a21 (n:Nat){x0 x1:Nat}{y0:Int}(h:ck n [x0,x1] [y0]=true):dn n [x0,x1] [y0]:=dq n [x0,x1] [y0] h
theorem a22 (n:Nat){x0 x1:Nat}{y0 y1:Int}(h:ck n [x0,x1] [y0,y1]=true):dn n [x0,x1] [y0,y1]:=dq n [x0,x1] [y0,y1] h
theorem a30 (n:Nat){x0 x1 x2:Nat}(h:ck n [x0,x1,x2] []=true):dn n [x0,x1,x2] []:=dq n [x0,x1,x2] [] h
theorem a40 (n:Nat){x0 x1 x2 x3:Nat}(h:ck n [x0,x1,x2,x3] []=true):dn n [x0,x1,x2,x3] []:=dq n [x0,x1,x2,x3] [] h
theorem a50 (n:Nat){x0 x1 x2 x3 x4:Nat}(h:ck n [x0,x1,x2,x3,x4] []=true):dn n [x0,x1,x2,x3,x4] []:=dq n [x0,x1,x2,x3,x4] [] h
end Mine
namespace Mine
theorem aQ {a b:Bool}(h:(a&&b)=true):a=true/\b=true:=Bool.and_eq_true_iff.mp h
theorem cM {a b c:Bool}(h:(a&&b&&c)=true):a=true/\b=true/\c=true:=⟨(aQ (aQ h).1).1,(aQ (aQ h).1).2,(aQ h).2⟩
theorem dF {a b c d:Bool}(h:(a&&b&&c&&d)=true):a=true/\b=true/\c=true/\d=true:=⟨(cM (aQ h).1).1,(cM (aQ h).1).2.1,(cM (aQ h).1).2.2,(aQ h).2⟩
theorem kO {α:Type} [BEq α] [LawfulBEq α]{a b:α}(h:(a==b)=true):a=b:=beq_iff_eq.mp h
noncomputable def eJ {α:Type}(o:Option α)(f:α->Bool):Bool:=match o with
 |none=>false
 |some a=>f a
theorem cf {α:Type}{o:Option α}{f:α->Bool}(h:eJ o f=true):∃a,o=some a/\f a=true:=by
 cases o with
 |none=>exact nomatch h
 |some a=>exact⟨a,rfl,h⟩
inductive N7 {α:Type}(P Q:α->Prop):Prop
 |mk (a:α):P a->Q a->N7 P Q
inductive GD {α β:Type}(P Q:α->β->Prop):Prop
 |mk (a:α) (b:β):P a b->Q a b->GD P Q
inductive uZ {α β γ:Type}(P Q:α->β->γ->Prop):Prop
 |mk (a:α) (b:β) (c:γ):P a b c->Q a b c->uZ P Q
inductive r8 {α β γ δ:Type}(P Q:α->β->γ->δ->Prop):Prop
 |mk (a:α) (b:β) (c:γ) (d:δ):P a b c d->Q a b c d->r8 P Q
inductive Kx {α β γ δ ε:Type}(P Q:α->β->γ->δ->ε->Prop):Prop
 |mk (a:α) (b:β) (c:γ) (d:δ) (e:ε):P a b c d e->Q a b c d e->Kx P Q
theorem Vt {α:Type}{n:Nat}:∀{l:List α},l.length=n+1->∃a t,t.length=n/\a::t=l
 |a::t,h=>⟨a,t,Nat.succ.inj h,rfl⟩
theorem Se {α:Type}{n:Nat}{l:List α}(h:l.length=n+2):∃a b t,t.length=n/\a::b::t=l:=by
 obtain⟨a,_,k,rfl⟩:=Vt h
 obtain⟨b,t,j,rfl⟩:=Vt k
 exact⟨a,b,t,j,rfl⟩
theorem Tw {α:Type}{l:List α}(h:l.length=2):∃a b,l=[a,b]:=by
 obtain⟨a,b,t,k,rfl⟩:=Se (n:=0) h
 cases List.eq_nil_of_length_eq_zero k
 exact⟨a,b,rfl⟩
theorem G2 {m:Int}(h:m%10=0):m.natAbs=(m/10).natAbs*10:=
 (congrArg Int.natAbs (Int.ediv_mul_cancel (Int.dvd_of_emod_eq_zero h)).symm).trans (Int.natAbs_mul _ _)
theorem fc {m:Int}{k:Nat}(hk:m.natAbs<=k)(h0:m≠0)(h:m%10=0):(m/10).natAbs<k:=by
 rw[G2 h] at hk
 have:0<(m/10).natAbs:=Nat.pos_of_ne_zero λz=>h0 (Int.natAbs_eq_zero.mp (by rw[G2 h,z]))
 exact Nat.lt_of_lt_of_le ((Nat.lt_mul_iff_one_lt_right this).mpr (by decide)) hk
theorem DK {n k:Nat}(h:n<=k+1):n/10<=k:=by omega
theorem MU {m:Int}(h0:m≠0)(h:m%10=0):m/10≠0:=λz=>h0 (Int.natAbs_eq_zero.mp (by rw[G2 h,z];rfl))
theorem Im {m:Int}(h:m%10=0):-m/10=-(m/10):=Int.neg_ediv_of_dvd (Int.dvd_of_emod_eq_zero h)
theorem AI {m:Int}:-m%10=0↔m%10=0:=⟨λh=>Int.emod_eq_zero_of_dvd (Int.dvd_neg.mp (Int.dvd_of_emod_eq_zero h)),λh=>Int.emod_eq_zero_of_dvd (Int.dvd_neg.mpr (Int.dvd_of_emod_eq_zero h))⟩
theorem yh {m:Int}(h:m<=0):-1*(m.natAbs:Int)=m:=by rw[Int.ofNat_natAbs_of_nonpos h,Int.neg_mul_neg,Int.one_mul]
theorem p5 {m:Int}(h:m≠0):0<m.natAbs:=Int.natAbs_pos.mpr h
theorem Qj {x:Int}{b:Nat}(h1:-(b:Int)<=x)(h2:x<=b):x.natAbs<=b:=by
 rcases Int.natAbs_eq x with e|e
 ·rw[e] at h2;exact Int.ofNat_le.mp h2
 ·rw[e] at h1;exact Int.ofNat_le.mp (Int.le_of_neg_le_neg h1)
theorem Dt {x:Int}{b:Int}(h0:0<=x)(h:x<b):(x.natAbs:Int)<b:=by rw[Int.natAbs_of_nonneg h0];exact h
theorem PT {x:Int}(h:0<=x):x=(x.toNat:Int):=(Int.toNat_of_nonneg h).symm
theorem jb {x:Int}(h:0<=x):∃k:Nat,x=k:=⟨x.toNat,PT h⟩
theorem Qf {x:Int}(h:¬0<=x):∃k:Nat,1<=k/\x=-(k:Int):=⟨(-x).toNat,by omega⟩
theorem WI {x:Int}(h:¬0<=x):(x.natAbs:Int)=-x:=Int.ofNat_natAbs_of_nonpos (Int.le_of_lt (Int.not_le.mp h))
theorem Ds {x:Int}(h:x<0):(x.natAbs:Int)=-x:=Int.ofNat_natAbs_of_nonpos (Int.le_of_lt h)
theorem Dr {x:Int}(h:¬x<0):(x.natAbs:Int)=x:=Int.natAbs_of_nonneg (Int.not_lt.mp h)
theorem Kz {x:Int}(h:x<=0):x.toNat=0:=Int.toNat_of_nonpos h
theorem Jr {m:Int}(h:0<=m):1*(m.natAbs:Int)=m:=(Int.one_mul _).trans (Int.natAbs_of_nonneg h)
theorem vn {x:Int}{b:Nat}(h1:0<=x+b)(h2:x<=b):x.natAbs<=b:=Qj (by omega) h2
theorem Jq (m:Int):(if m<0 then(-1:Int) else 1)*(m.natAbs:Int)=m:=by
 split
 ·exact yh (Int.le_of_lt (by assumption))
 ·exact Jr (Int.not_lt.mp (by assumption))
theorem yA {n:Nat}(h:n≠0):n/10<n:=Nat.div_lt_self (Nat.pos_of_ne_zero h) (by decide)
theorem Fh {a l:Nat}(h:a<l):min a l+(l-(a+1))<=l:=by
 rw[Nat.min_eq_left (Nat.le_of_lt h)]
 exact Nat.le_trans (Nat.add_le_add_left (Nat.sub_le_sub_left (Nat.le_succ a) l) a) (Nat.le_of_eq (Nat.add_sub_cancel' (Nat.le_of_lt h)))
theorem j6 {x:Int}{n:Nat}(h:x<=n):x.toNat<=n:=Int.toNat_le.mpr h
theorem xY (a b:Nat):((a:Int)-b).toNat=a-b:=Int.toNat_sub a b
theorem Mf {i:Int}{n:Nat}(h0:0<=i)(h:i.toNat<n):i<n:=(Int.toNat_lt h0).mp h
theorem Q5 {c:Nat}(h1:48<=c)(h2:c<=57):∃k,k<10/\c=48+k:=⟨c-48,Nat.sub_lt_left_of_lt_add h1 (Nat.lt_succ_of_le h2),(Nat.add_sub_cancel' h1).symm⟩
theorem uy {P:Nat->Prop}(h:∀k,k<10->P (48+k)){c:Nat}(h1:48<=c)(h2:c<=57):P c:=by
 obtain⟨k,hk,rfl⟩:=Q5 h1 h2
 exact h k hk
theorem k9 {a b c:Nat}(h:a<=b)(k:Nat.ble b c=true):a<=c:=Nat.le_trans h (Nat.le_of_ble_eq_true k)
theorem Nc {a b c d:Nat}(h:a<=b)(k:Nat.ble b c=true):a-d<=c:=Nat.le_trans (Nat.sub_le a d) (k9 h k)
theorem IM {a b c d e:Nat}(h:a<=b)(h':c<=d)(k:Nat.ble (b+d) e=true):a+c<=e:=k9 (Nat.add_le_add h h') k
theorem gV {l j n:Nat}(h:l-j<=n+1):l-(j+1)<=n:=Nat.sub_le_of_le_add (by rw[Nat.add_comm j 1,←Nat.add_assoc];exact Nat.sub_le_iff_le_add.mp h)
theorem zy {l j n:Nat}(h:l-j<=n+1):l-(j+2)<=n:=Nat.le_trans (Nat.sub_le_sub_left (Nat.le_succ _) l) (gV h)
theorem Bt {l i j a b:Nat}(hi:i<=j)(hj:j<=l)(h1:a+b=l-i)(h2:l-j=b):a=j-i:=by
 rw[←h2,show l-i=(j-i)+(l-j) from by rw[←Nat.sub_add_comm hi,Nat.add_sub_cancel' hj]] at h1
 exact Nat.add_right_cancel h1
open PySem PySem.W PySem.Calls PyProof.Rows
theorem aW:type_of% @PySem.wpAny_bind:=@PySem.wpAny_bind
theorem cC:type_of% @PySem.wpAny_pure:=@PySem.wpAny_pure
theorem dU:type_of% @PySem.wpAny_mono:=@PySem.wpAny_mono
theorem aA:type_of% @if_neg:=@if_neg
theorem aL:type_of% @if_pos:=@if_pos
theorem dM:type_of% @Nat.le_of_ble_eq_true:=@Nat.le_of_ble_eq_true
theorem cN:type_of% @List.length_append:=@List.length_append
theorem fm:type_of% @Nat.le_trans:=@Nat.le_trans
theorem eR:type_of% @Nat.le_refl:=@Nat.le_refl
theorem mX:type_of% @List.length_cons:=@List.length_cons
theorem iY:type_of% @Nat.lt_irrefl:=@Nat.lt_irrefl
theorem tC:type_of% @of_decide_eq_true:=@of_decide_eq_true
theorem o4:type_of% @List.size_toArray:=@List.size_toArray
theorem oD:type_of% @Int.le_antisymm:=@Int.le_antisymm
theorem pE:type_of% @List.length_drop:=@List.length_drop
theorem rW:type_of% @List.append_assoc:=@List.append_assoc
theorem xx:type_of% @Bool.false_ne_true:=@Bool.false_ne_true
theorem w1:PySem.Challenge.rw_no0270_01.row.wellSaid=true:=by kernel_rfl
theorem ws:PySem.Challenge.rw_no0270_01.wellSaid=true:=by
 unfold OpenLaw.wellSaid
 rw[w1]
 kernel_rfl
inductive V where
 |none|bool (b:Bool)|int (i:Int)|str (l:List Nat)|tup (l:List V)|ref (a:Addr)|ty (n:String)
 deriving Inhabited
abbrev Led:=List (Addr×Obj)
noncomputable def Kn (C:Frag)(D:Led)(a:Addr)(o:Obj):Prop:=(a,o)∈D∨C.lookup a=some o
mutual
inductive br (C:Frag)(D:Led):V->Value->Prop
 |none:br C D .none .none
 |bool (b:Bool):br C D (.bool b) (.bool b)
 |int (i:Int) (u:Tok):br C D (.int i) (.int i u)
 |str (l:List Nat) (u:Tok):br C D (.str l) (.str ⟨l.toArray⟩ u)
 |ref (a:Addr):br C D (.ref a) (.ref a)
 |ty (n:String):br C D (.ty n) (.type n)
 |tup {l:List V} {a:Addr} {o:Obj} {vs:Array Value} {n:Nat}:Kn C D a o->o.cls=.type "tuple"->o.data=.seq vs n->aY C D l vs.toList->br C D (.tup l) (.ref a)
inductive aY (C:Frag)(D:Led):List V->List Value->Prop
 |nil:aY C D [] []
 |cons {v:V} {c:Value} {vs:List V} {cs:List Value}:br C D v c->aY C D vs cs->aY C D (v::vs) (c::cs)
end
noncomputable def isTup (o:Obj):Prop:=o.cls=.type "tuple"/\∃vs n,o.data=.seq vs n
noncomputable def fN (o:Obj):Prop:=∃v,o.data=.cell v
noncomputable def j3 (o:Obj):Bool:=match o.data with
 |.cell _=>true
 |.fields _=>(match o.cls with|.ref _=>false|_=>true)
 |.seq _ _=>o.cls !=.type "list"
 |_=>false
theorem aY.dc {C:Frag}{D:Led}{v:V}{vs:List V}{cs:List Value}(h:aY C D (v::vs) cs):∃c r,cs=c::r/\br C D v c/\aY C D vs r:=by
 cases h with
 |cons a b=>exact⟨_,_,rfl,a,b⟩
theorem aY.fy {C:Frag}{D:Led}{cs:List Value}(h:aY C D [] cs):cs=[]:=by cases h;rfl
theorem br.mono {C:Frag}{D D':Led}(h:∀a o,(a,o)∈D->isTup o->(a,o)∈D'){v:V}{c:Value}(i:br C D v c):br C D' v c:=by
 refine br.rec (motive_1:=λv c _=>br C D' v c) (motive_2:=λvs cs _=>aY C D' vs cs) ?_ ?_ ?_ ?_ ?_ ?_ ?_ ?_ ?_ i
 ·exact .none
 ·exact .bool
 ·exact .int
 ·exact .str
 ·exact .ref
 ·exact .ty
 ·intro l a o vs n k hc hd _ ih;exact .tup (k.imp (λm=>h _ _ m ⟨hc,_,_,hd⟩) id) hc hd ih
 ·exact .nil
 ·intro v c vs cs _ _ a b;exact .cons a b
theorem aY.mono {C:Frag}{D D':Led}(h:∀a o,(a,o)∈D->isTup o->(a,o)∈D'){v:List V}{c:List Value}(i:aY C D v c):aY C D' v c:=by
 induction v generalizing c with
 |nil=>cases i.fy;exact .nil
 |cons a r ih=>obtain⟨_,_,rfl,i,is⟩:=i.dc;exact .cons (i.mono h) (ih is)
theorem aY.length {C:Frag}{D:Led}{v:List V}{c:List Value}(i:aY C D v c):c.length=v.length:=by
 induction v generalizing c with
 |nil=>cases i.fy;rfl
 |cons a r ih=>obtain⟨_,_,rfl,_,is⟩:=i.dc;exact congrArg (·+1) (ih is)
theorem aY.get {C:Frag}{D:Led}{v:List V}{c:List Value}(i:aY C D v c){k:Nat}{x:V}(e:v[k]?=some x):∃y,c[k]?=some y/\br C D x y:=by
 induction v generalizing c k with
 |nil=>exact nomatch List.getElem?_nil.symm.trans e
 |cons a r ih=>
  obtain⟨b,t,rfl,i,is⟩:=i.dc
  cases k with
  |zero=>exact⟨b,rfl,Option.some.inj e▸i⟩
  |succ k=>exact ih is e
theorem aY.append {C:Frag}{D:Led}{v:List V}{c:List Value}(i:aY C D v c){v':List V}{c':List Value}(h:aY C D v' c'):aY C D (v++v') (c++c'):=by
 induction v generalizing c with
 |nil=>cases i.fy;exact h
 |cons a r ih=>obtain⟨_,_,rfl,i,is⟩:=i.dc;exact .cons i (ih is)
theorem aY.snoc {C:Frag}{D:Led}{v:List V}{c:List Value}{x:V}{y:Value}(h:aY C D v c)(g:br C D x y):aY C D (v++[x]) (c++[y]):=h.append (.cons g .nil)
theorem aY.take {C:Frag}{D:Led}{v:List V}{c:List Value}(i:aY C D v c)(n:Nat):aY C D (v.take n) (c.take n):=by
 induction v generalizing c n with
 |nil=>cases i.fy;cases n<;>exact .nil
 |cons a r ih=>
  obtain⟨_,_,rfl,i,is⟩:=i.dc
  cases n with
  |zero=>exact .nil
  |succ n=>exact .cons i (ih is n)
theorem aY.drop {C:Frag}{D:Led}{v:List V}{c:List Value}(i:aY C D v c)(n:Nat):aY C D (v.drop n) (c.drop n):=by
 induction v generalizing c n with
 |nil=>cases i.fy;cases n<;>exact .nil
 |cons a r ih=>
  obtain⟨_,_,rfl,j,is⟩:=i.dc
  cases n with
  |zero=>exact i
  |succ n=>exact ih is n
theorem aY.rev {C:Frag}{D:Led}{v:List V}{c:List Value}(i:aY C D v c):aY C D v.reverse c.reverse:=by
 induction v generalizing c with
 |nil=>cases i.fy;exact .nil
 |cons a r ih=>
  obtain⟨_,_,rfl,i,is⟩:=i.dc
  rw[List.reverse_cons,List.reverse_cons];exact(ih is).snoc i
theorem fb {C:Frag}{D:Led}{v:V}{cs:List Value}(h:aY C D [v] cs):∃c,cs=[c]/\br C D v c:=by
 obtain⟨c,r,rfl,a,n⟩:=h.dc
 cases n.fy;exact⟨c,rfl,a⟩
theorem jl {C:Frag}{D:Led}{v w:V}{cs:List Value}(h:aY C D [v,w] cs):∃c d,cs=[c,d]/\br C D v c/\br C D w d:=by
 obtain⟨c,r,rfl,a,b⟩:=h.dc
 obtain⟨d,rfl,i⟩:=fb b;exact⟨c,d,rfl,a,i⟩
theorem str_is {C:Frag}{D:Led}{l:List Nat}{c:Value}(h:br C D (.str l) c):∃u,c=.str ⟨l.toArray⟩ u:=by cases h;exact⟨_,rfl⟩
theorem bH {C:Frag}{D:Led}{a:Addr}{c:Value}(h:br C D (.ref a) c):c=.ref a:=by cases h;rfl
theorem int_is {C:Frag}{D:Led}{a:Int}{c:Value}(h:br C D (.int a) c):∃u,c=.int a u:=by cases h;exact⟨_,rfl⟩
theorem iq {C:Frag}{D:Led}{a:Bool}{c:Value}(h:br C D (.bool a) c):c=.bool a:=by cases h;rfl
theorem jI {C:Frag}{D:Led}{c:Value}(h:br C D .none c):c=.none:=by cases h;rfl
inductive TupIs (C:Frag)(D:Led)(l:List V)(c:Value):Prop
 |mk (a:Addr) (o:Obj) (vs:Array Value) (n:Nat):c=.ref a->Kn C D a o->o.cls=.type "tuple"->o.data=.seq vs n->aY C D l vs.toList->l.length=vs.size->TupIs C D l c
theorem tup_is {C:Frag}{D:Led}{l:List V}{c:Value}(h:br C D (.tup l) c):TupIs C D l c:=by
 cases h with
 |tup h1 h2 h3 h4=>exact⟨_,_,_,_,rfl,h1,h2,h3,h4,by rw[←h4.length,Array.length_toList]⟩
inductive b9 (C:Frag)(D:Led):List (Str×V)->List DictEntry->Prop
 |nil:b9 C D [] []
 |cons {x:Str} {v:V} {h:Int} {u:Tok} {c:Value} {fs:List (Str×V)} {es:List DictEntry}:br C D v c->b9 C D fs es->b9 C D ((x,v)::fs) (⟨h,.str x u,c⟩::es)
theorem b9.mono {C:Frag}{D D':Led}(h:∀a o,(a,o)∈D->isTup o->(a,o)∈D'){fs:List (Str×V)}{es:List DictEntry}(i:b9 C D fs es):b9 C D' fs es:=by
 induction i with
 |nil=>exact .nil
 |cons a _ ih=>exact .cons (a.mono h) ih
noncomputable def hU (x:Str):List (Str×V)->Option V
 |[]=>none
 |(y,v)::r=>if y=x then some v else hU x r
noncomputable def gx (x:Str)(v:V):List (Str×V)->List (Str×V)
 |[]=>[(x,v)]
 |(y,u)::r=>if y=x then(y,v)::r else(y,u)::gx x v r
theorem sP {x y:Str}{u:Tok}:(Value.str y u).isStr x=decide (y=x):=by
 show(y==x)=_
 by_cases h:y=x<;>simp[h]
theorem b9.find {C:Frag}{D:Led}{x:Str}{fs:List (Str×V)}{es:List DictEntry}(i:b9 C D fs es):(∀v,hU x fs=some v->∃e,es.find? (·.key.isStr x)=some e/\br C D v e.val)/\(hU x fs=none->es.find? (·.key.isStr x)=none):=by
 induction i with
 |nil=>exact⟨λ_ e=>(nomatch e),λ_=>rfl⟩
 |@cons y v hh u c fs es a b ih=>
  rw[List.find?_cons,show(DictEntry.mk hh (.str y u) c).key.isStr x=decide (y=x) from sP]
  unfold hU
  by_cases hy:y=x
  ·rw[aL hy,decide_eq_true hy]
   exact⟨λw e=>⟨_,rfl,Option.some.inj e▸a⟩,λe=>nomatch e⟩
  ·rw[aA hy,decide_eq_false hy]
   exact ih
theorem b9.noRef {C:Frag}{D:Led}{fs:List (Str×V)}{es:List DictEntry}(i:b9 C D fs es):es.any (·.refKey)=false:=by
 induction i with
 |nil=>rfl
 |cons _ _ ih=>rw[List.any_cons,ih];rfl
theorem b9.get {C:Frag}{D:Led}{x:Str}{fs:List (Str×V)}{es:List DictEntry}(i:b9 C D fs es){v:V}(h:hU x fs=some v):∃c,getL x es=some (some c)/\br C D v c:=by
 obtain⟨e,h1,h2⟩:=i.find.1 v h
 exact⟨e.val,by unfold getL;rw[h1],h2⟩
theorem b9.AQ {C:Frag}{D:Led}{x:Str}{fs:List (Str×V)}{es:List DictEntry}(i:b9 C D fs es)(h:hU x fs=none):getL x es=some none:=by
 unfold getL
 rw[i.find.2 h,i.noRef];rfl
theorem b9.uu {C:Frag}{D:Led}{x:Str}{fs:List (Str×V)}{es:List DictEntry}(h:b9 C D fs es):(getL x es).isSome=true:=by
 cases e:hU x fs with
 |none=>rw[h.AQ e];rfl
 |some v=>obtain⟨c,hc,_⟩:=h.get e;rw[hc];rfl
theorem b9.put {C:Frag}{D:Led}{x:Str}{hs:Int}{u:Tok}{v:V}{c:Value}(hv:br C D v c){fs:List (Str×V)}{es:List DictEntry}(i:b9 C D fs es):b9 C D (gx x v fs) (putL x hs (.str x u) c es):=by
 induction i with
 |nil=>exact .cons hv .nil
 |@cons y w h u' c' fs es a b ih=>
  unfold gx putL
  rw[show(DictEntry.mk h (.str y u') c').key.isStr x=decide (y=x) from sP]
  by_cases hy:y=x
  ·rw[aL hy,aL (decide_eq_true hy)];cases hy;exact .cons hv b
  ·rw[aA hy,aA (by rw[decide_eq_false hy];decide)];exact .cons a ih
theorem b9.length {C:Frag}{D:Led}{fs:List (Str×V)}{es:List DictEntry}(i:b9 C D fs es):es.length=fs.length:=by
 induction i with
 |nil=>rfl
 |cons _ _ ih=>exact congrArg (·+1) ih
inductive AO where
 |list (l:List V)
 |inst (c dx:Addr) (fs:List (Str×V))
 |bare (c:Addr)
 |exc (n:Nat) (c dx:Addr) (fs:List (Str×V))
noncomputable def AO.dx:AO->Option Addr
 |.inst _ d _=>some d
 |.exc _ _ d _=>some d
 |_=>none
abbrev ba (c:Addr)(dx:Option Addr)(vs:Array Value):Obj:={ cls:=.ref c,dict:=dx,data:=.fields vs,slots:=#[] }
abbrev ag:=Addr->Option AO
inductive PB (C:Frag)(D:Led)(a:Addr)(l:List V):Prop
 |mk (vs:Array Value) (n:Nat):(a,listOf vs n)∈D->aY C D l vs.toList->vs.size<2^24->PB C D a l
inductive PC (C:Frag)(fo:List (Addr×Obj))(D:Led)(a c dx:Addr)(fs:List (Str×V)):Prop
 |mk (es:List DictEntry) (n:Nat):(a,instObj c dx)∈D->(dx,dictOf es n)∈D->b9 C D fs es->(∀p∈fo,p.1≠dx)->fs.length<=500->PC C fo D a c dx fs
inductive PE (D:Led)(a c:Addr):Prop
 |mk (vs:Array Value):(a,ba c none vs)∈D->6<=vs.size/\vs[2]?=some .none/\vs[1]?=some .none->PE D a c
inductive PD (C:Frag)(fo:List (Addr×Obj))(D:Led)(a:Addr)(k:Nat)(c dx:Addr)(fs:List (Str×V)):Prop
 |mk (es:List DictEntry) (n:Nat) (vs:Array Value):(a,ba c (some dx) vs)∈D->(dx,dictOf es n)∈D->b9 C D fs es->(∀p∈fo,p.1≠dx)->fs.length<=500/\6<=vs.size/\(1<=k->vs[2]?=some .none)/\(2<=k->vs[1]?=some .none)->PD C fo D a k c dx fs
noncomputable def gE (C:Frag)(fo:List (Addr×Obj))(D:Led)(a:Addr):AO->Prop
 |.list l=>PB C D a l
 |.inst c dx fs=>PC C fo D a c dx fs
 |.bare c=>PE D a c
 |.exc k c dx fs=>PD C fo D a k c dx fs
theorem gE.yi {C:Frag}{fo Wu:List (Addr×Obj)}{D D':Led}{a:Addr}{ao:AO}(h:gE C fo D a ao)(tup:∀b o,(b,o)∈D->isTup o->(b,o)∈D')
  (hl:∀vs n,(a,listOf vs n)∈D->(a,listOf vs n)∈D') (hi:∀c dx,(a,instObj c dx)∈D->(a,instObj c dx)∈D') (he:∀c dx vs,(a,ba c dx vs)∈D->(a,ba c dx vs)∈D')
  (hd:∀d es n,ao.dx=some d->(∀p∈fo,p.1≠d)->(d,dictOf es n)∈D->(d,dictOf es n)∈D'/\∀p∈Wu,p.1≠d):gE C Wu D' a ao:=by
 cases ao with
 |list l=>obtain⟨vs,n,h1,h2,h3⟩:=h;exact⟨vs,n,hl _ _ h1,h2.mono tup,h3⟩
 |inst c dx fs=>obtain⟨es,n,h1,h2,h3,h4,h5⟩:=h;obtain⟨k1,k2⟩:=hd _ _ _ rfl h4 h2;exact⟨es,n,hi _ _ h1,k1,h3.mono tup,k2,h5⟩
 |bare c=>obtain⟨vs,h1,h2⟩:=h;exact⟨vs,he _ _ _ h1,h2⟩
 |exc k c dx fs=>obtain⟨es,n,vs,h1,h2,h3,h4,h5⟩:=h;obtain⟨k1,k2⟩:=hd _ _ _ rfl h4 h2;exact⟨es,n,vs,he _ _ _ h1,k1,h3.mono tup,k2,h5⟩
theorem gE.move {C:Frag}{fo:List (Addr×Obj)}{D D':Led}{a:Addr}{ao:AO}(h:gE C fo D a ao)(tup:∀b o,(b,o)∈D->isTup o->(b,o)∈D')
  (hl:∀vs n,(a,listOf vs n)∈D->(a,listOf vs n)∈D') (hi:∀c dx,(a,instObj c dx)∈D->(a,instObj c dx)∈D') (he:∀c dx vs,(a,ba c dx vs)∈D->(a,ba c dx vs)∈D')
  (hd:∀d es n,ao.dx=some d->(∀p∈fo,p.1≠d)->(d,dictOf es n)∈D->(d,dictOf es n)∈D'):gE C fo D' a ao:=h.yi tup hl hi he λd es n e h1 h2=>⟨hd d es n e h1 h2,h1⟩
theorem gE.some_at {C:Frag}{fo:List (Addr×Obj)}{D:Led}{a:Addr}{ao:AO}(h:gE C fo D a ao):∃o,(a,o)∈D:=by
 cases ao with
 |list l=>obtain⟨vs,n,h1,_⟩:=h;exact⟨_,h1⟩
 |inst c dx fs=>obtain⟨es,n,h1,_⟩:=h;exact⟨_,h1⟩
 |bare c=>obtain⟨vs,h1,_⟩:=h;exact⟨_,h1⟩
 |exc k c dx fs=>obtain⟨es,n,vs,h1,_⟩:=h;exact⟨_,h1⟩
structure GC where
 prog:Program
 w:World
 K:Frag
 C:Frag
 p:Program
 loose:List Str
 xI:ExcName->Option Value
 mg:Str->Option Value
 mb:Str->Option Value
 os:OsState
structure FC where
 h₀:Heap
 env:Env
 frames:List Env
 fo:List (Addr×Obj)
 own:List Addr
 hd:Option Value
 names:List Str
abbrev FC.L (F:FC):Addr:=F.env.locals
structure bK (G:GC)(F:FC):Prop where
 X:G.K.In F.h₀
 XC:G.C.In F.h₀
 T:Top G.p G.loose G.xI G.mg G.mb F.h₀
 kind:F.env.scope.kind=.function
 glob:F.env.globals=mainGlobals
 N3:F.env.builtins=builtinsNs
 top:∃e r,F.frames=e::r/\e.frame=F.env.frame
 each:∀e∈F.frames,e.scope.kind≠.module/\∃P,e.frame=some P/\(P=F.L∨∃o,(P,o)∈F.fo)
 z6:∀p∈F.fo,(∃es n,p.2.data=.dict es n)/\j3 p.2=false
 nm:F.names.Nodup
 Nt:(F.env.cells.map (·.2)).Nodup
structure St where
 loc:List (Option V)
 aa:ag
noncomputable def Ao (F:FC)(D:Led)(m:Str->Option Value)(x:Str)(c:Value):Prop:=
 (F.env.kindOf x=some .local/\m x=some c)∨
 (∃ca o,(F.env.kindOf x=some .cell∨F.env.kindOf x=some .free)/\F.env.cells.lookup x=some ca/\(ca,o)∈D/\o.data=.cell (some c))
noncomputable def lO (G:GC)(F:FC)(loc:List (Option V))(D:Led)(m:Str->Option Value):Prop:=
 ∀(i:Nat) (x:Str) (v:V),(F.names[i]?:Option Str)=some x->(loc[i]?:Option (Option V))=some (some v)->∃c,Ao F D m x c/\br G.C D v c
structure Sat (G:GC)(F:FC)(σ:St)(s:Shared)(D:Led):Prop where
 fr:∃m,Fr F.h₀ F.L s.heap m/\lO G F σ.loc D m
 news:News F.h₀ F.L s.heap D
 nd:(D.map (·.1)).Nodup
 aa:∀a o,σ.aa a=some o->gE G.C F.fo D a o
 inj:∀a b d o o',σ.aa a=some o->σ.aa b=some o'->o.dx=some d->o'.dx=some d->a=b
 fo:∀p∈F.fo,∃sl,(p.1,{ p.2 with slots:=sl })∈D
 gens:s.gens=#[]
 os:s.os=G.os
 cells:∀x ca,F.env.cells.lookup x=some ca->∃o v,(ca,o)∈D/\o.data=.cell v
noncomputable def aO (F:FC)(D D':Led):Prop:=∀p∈D,j3 p.2=true->(fN p.2->p.1∉F.own)->p∈D'
structure iW (F:FC)(af:Nat)(A:Around):Prop where
 frames:A.frames=some F.frames
 depth:A.depth+af<recursionLimit
 units:A.units+20*af<cLine
 hd:A.handled=F.hd
theorem eB {o:Obj}(h:isTup o):j3 o=true:=by
 obtain⟨h1,vs,n,h2⟩:=h
 unfold j3;rw[h2,h1]
 show(Value.type "tuple" !=Value.type "list")=true
 decide
theorem wc {o:Obj}(h:fN o):j3 o=true:=by
 obtain⟨v,h⟩:=h
 unfold j3;rw[h]
theorem isTup.D8 {o:Obj}(h:isTup o):¬fN o:=λ⟨v,hv⟩=>by obtain⟨_,vs,n,h2⟩:=h;rw[h2] at hv;cases hv
theorem FE (vs:Array Value)(n:Nat):j3 (listOf vs n)=false:=by
 show(Value.type "list" !=Value.type "list")=false
 decide
theorem FF (es:List DictEntry)(n:Nat):j3 (dictOf es n)=false:=by simp[j3]
theorem m7 {o:Obj}(h:isTup o∨fN o):j3 o=true:=h.elim eB wc
theorem aO.refl {F:FC}{D:Led}:aO F D D:=λ_ h _ _=>h
theorem aO.trans {F:FC}{D D' I6:Led}(a:aO F D D')(b:aO F D' I6):aO F D I6:=λp h f g=>b p (a p h f g) f g
theorem aO.tup {F:FC}{D D':Led}(k:aO F D D'):∀a o,(a,o)∈D->isTup o->(a,o)∈D':=λa o h c=>k (a,o) h (eB c) λq=>absurd q c.D8
theorem aO.cons {F:FC}{D:Led}(p:Addr×Obj):aO F D (p::D):=λ_ h _ _=>.tail _ h
theorem br.keep {C:Frag}{F:FC}{D D':Led}{v:V}{c:Value}(h:br C D v c)(k:aO F D D'):br C D' v c:=h.mono k.tup
theorem aY.keep {C:Frag}{F:FC}{D D':Led}{v:List V}{c:List Value}(h:aY C D v c)(k:aO F D D'):aY C D' v c:=h.mono k.tup
theorem aY.lW {C:Frag}{D:Led}{v:List V}{c:List Value}(h:aY C D v c)(p:Addr×Obj):aY C (p::D) v c:=h.mono λ_ _ m _=>.tail _ m
theorem iW.mono {F:FC}{l l':Nat}{A:Around}(h:iW F l A)(k:l'<=l):iW F l' A:=
 ⟨h.frames,by have:=h.depth;exact a30 0x3227a27ad020d88202c89e89eb4103 tt k this,by have:=h.units;omega,h.hd⟩
noncomputable def upd (d:Addr)(o':Obj)(D:Led):Led:=D.map λp=>if p.1=d then(d,o') else p
theorem gM (d:Addr)(o':Obj)(D:Led):(upd d o' D).map (·.1)=D.map (·.1):=by
 unfold upd
 rw[List.map_map]
 refine List.map_congr_left λp _=>?_
 show(if p.1=d then(d,o') else p).1=p.1
 split
 ·rename_i h;exact h.symm
 ·rfl
theorem av {d:Addr}{o':Obj}{D:Led}{p:Addr×Obj}(h:p∈D)(n:p.1≠d):p∈upd d o' D:=
 List.mem_map.mpr ⟨p,h,by simp[n]⟩
theorem bY {d:Addr}{o o':Obj}{D:Led}(h:(d,o)∈D):(d,o')∈upd d o' D:=List.mem_map.mpr ⟨(d,o),h,by simp⟩
theorem ph {d:Addr}{o':Obj}{D:Led}{p:Addr×Obj}(h:p∈upd d o' D):p=(d,o')∨(p∈D/\p.1≠d):=by
 obtain⟨q,hq,rfl⟩:=List.mem_map.mp h
 by_cases e:q.1=d
 ·left;simp[e]
 ·right;simp[e,hq]
theorem Upd.nf {d:Addr}{o o':Obj}:∀{D:Led},(D.map (·.1)).Nodup->(d,o)∈D->Upd d o o' D (upd d o' D):=by
 intro D
 induction D with
 |nil=>intro _ h;cases h
 |cons p r ih=>
  intro hn h
  rw[List.map_cons,List.nodup_cons] at hn
  show Upd d o o' (p::r) ((if p.1=d then(d,o') else p)::upd d o' r)
  by_cases e:p.1=d
  ·rw[aL e]
   have hp:p=(d,o):=by
    rcases List.mem_cons.mp h with h|h
    ·exact h.symm
    ·exact absurd (List.mem_map_of_mem (f:=(·.1)) h) (e▸hn.1)
   subst hp
   have hr:upd d o' r=r:=by
    unfold upd
    refine(List.map_congr_left (g:=id) λq hq=>?_).trans (List.map_id r)
    have:q.1≠d:=λz=>hn.1 (by rw[show(d,o).1=q.1 from z.symm];exact List.mem_map_of_mem (f:=(·.1)) hq)
    simp[this]
   rw[hr]
   exact .head λq hq z=>hn.1 (by rw[show(d,o).1=q.1 from z.symm];exact List.mem_map_of_mem (f:=(·.1)) hq)
  ·rw[aA e]
   refine .tail e (ih hn.2 ?_)
   rcases List.mem_cons.mp h with h|h
   ·exact absurd (by rw[←h]) e
   ·exact h
theorem bq {D:Led}(hn:(D.map (·.1)).Nodup){a:Addr}{o o':Obj}(h:(a,o)∈D)(h':(a,o')∈D):o=o':=by
 induction D with
 |nil=>cases h
 |cons p r ih=>
  rw[List.map_cons,List.nodup_cons] at hn
  rcases List.mem_cons.mp h with h|h<;>rcases List.mem_cons.mp h' with h'|h'
  ·rw[←h'] at h;exact(Prod.mk.inj h).2
  ·exact absurd (List.mem_map_of_mem (f:=(·.1)) h') (by rw[←h] at hn;exact hn.1)
  ·exact absurd (List.mem_map_of_mem (f:=(·.1)) h) (by rw[←h'] at hn;exact hn.1)
  ·exact ih hn.2 h h'
noncomputable def put (aa:ag)(a:Addr)(o:AO):ag:=λb=>if b=a then some o else aa b
@[simp] theorem ab (aa:ag) (a:Addr) (o:AO):put aa a o a=some o:=by simp[put]
theorem ai {aa:ag}{a b:Addr}{o:AO}(h:b≠a):put aa a o b=aa b:=by simp[put,h]
theorem ud {aa:ag}{a:Addr}{ao:AO}{P:Addr->AO->Prop}(h1:P a ao)(h2:∀b o,b≠a->aa b=some o->P b o){b:Addr}{o:AO}(e:put aa a ao b=some o):P b o:=by
 by_cases q:b=a
 ·rw[q,ab] at e;rw[q,←Option.some.inj e];exact h1
 ·rw[ai q] at e;exact h2 b o q e
abbrev Inj (aa:ag):Prop:=∀a b d o o',aa a=some o->aa b=some o'->o.dx=some d->o'.dx=some d->a=b
theorem ue {aa:ag}{a:Addr}{ao:AO}(inj:Inj aa)(h:∀b o d,b≠a->aa b=some o->ao.dx=some d->o.dx≠some d):Inj (put aa a ao):=λx y d o o' e e' q q'=>by
 by_cases w:x=a<;>by_cases w':y=a
 ·rw[w,w']
 ·rw[w,ab] at e;rw[ai w'] at e';cases e;exact absurd q' (h y o' d w' e' q)
 ·rw[w',ab] at e';rw[ai w] at e;cases e';exact absurd q (h x o d w e q')
 ·rw[ai w] at e;rw[ai w'] at e';exact inj _ _ _ _ _ e e' q q'
theorem gE.mono {C:Frag}{fo:List (Addr×Obj)}{D D':Led}{a:Addr}{o:AO}(h:gE C fo D a o)(k:∀p∈D,p∈D'):gE C fo D' a o:=by
 exact h.move (λ_ _ m _=>k _ m) (λ_ _ m=>k _ m) (λ_ _ m=>k _ m) (λ_ _ _ m=>k _ m) λ_ _ _ _ _ m=>k _ m
section
variable {G:GC}{F:FC}{σ:St}{s s':Shared}{D D':Led}
theorem Sat.da (S:Sat G F σ s D):∀p∈D,p.1<s.heap.objs.size:=λp hp=>Heap.lt_size (S.news p hp).1
theorem Sat.fresh (S:Sat G F σ s D):σ.aa s.heap.objs.size=none:=by
 cases e:σ.aa s.heap.objs.size with
 |none=>rfl
 |some o=>
  obtain⟨ob,h1⟩:=(S.aa _ _ e).some_at
  exact absurd (S.da _ h1) (iY _)
noncomputable def tc (o:Obj):Prop:=isTup o∨fN o
theorem Ao.keep {m:Str->Option Value}{x:Str}{c:Value}(h:Ao F D m x c)(k:∀p∈D,tc p.2->p∈D'):Ao F D' m x c:=by
 rcases h with h|⟨ca,o,h1,h2,h3,h5⟩
 ·exact .inl h
 ·exact .inr ⟨ca,o,h1,h2,k _ h3 (.inr ⟨_,h5⟩),h5⟩
theorem lO.keep {loc:List (Option V)}{m:Str->Option Value}(h:lO G F loc D m)(kt:∀p∈D,tc p.2->p∈D'):lO G F loc D' m:=λi x v e1 e2=>by
 obtain⟨c,h1,h2⟩:=h i x v e1 e2
 exact⟨c,h1.keep kt,h2.mono λa o hm hc=>kt _ hm (.inl hc)⟩
theorem Sat.step {m:Str->Option Value}{led':ag}(Fm:Fr F.h₀ F.L s'.heap m)(bz:lO G F σ.loc D m)(N':News F.h₀ F.L s'.heap D')(Xc:(D'.map (·.1)).Nodup)
  (kt:∀p∈D,tc p.2->p∈D') (hl:∀a o,led' a=some o->gE G.C F.fo D' a o)
  (hi:∀a b d o o',led' a=some o->led' b=some o'->o.dx=some d->o'.dx=some d->a=b)
  (hf:∀p∈F.fo,∃sl,(p.1,{ p.2 with slots:=sl })∈D') (hg:s'.gens=#[]) (ho:s'.os=G.os)
  (hc:∀x ca,F.env.cells.lookup x=some ca->∃o v,(ca,o)∈D/\o.data=.cell v):Sat G F { σ with aa:=led' } s' D':=
 ⟨⟨m,Fm,bz.keep kt⟩,N',Xc,hl,hi,hf,hg,ho,λx ca e=>let ⟨o,v,h1,h3⟩:=hc x ca e;⟨o,v,kt _ h1 (.inr ⟨_,h3⟩),h3⟩⟩
theorem Sat.same (S:Sat G F σ s D)(hh:s'.heap=s.heap)(hg:s'.gens=s.gens)(ho:s'.os=s.os):Sat G F σ s' D:=
 ⟨by rw[hh];exact S.fr,by rw[hh];exact S.news,S.nd,S.aa,S.inj,S.fo,hg.trans S.gens,ho.trans S.os,S.cells⟩
theorem Sat.forget (S:Sat G F σ s D){led':ag}(h:∀a o,led' a=some o->σ.aa a=some o):Sat G F { σ with aa:=led' } s D:=
 ⟨S.fr,S.news,S.nd,λa o e=>S.aa a o (h a o e),λa b d o o' e e'=>S.inj a b d o o' (h _ _ e) (h _ _ e'),S.fo,S.gens,S.os,S.cells⟩
theorem Sat.fv (S:Sat G F σ s D)(o:Obj)(QM:o.isFreed=false:=by rfl):Sat G F σ { s with heap:=s.heap.push o } ((s.heap.objs.size,o)::D):=by
 obtain⟨m,Fm,hm⟩:=S.fr
 exact Sat.step (led':=σ.aa) (σ:=σ) (Fm.push o) hm (S.news.push Fm o QM) (by
   rw[List.map_cons,List.nodup_cons]
   refine⟨λh=>?_,S.nd⟩
   obtain⟨p,hp,e⟩:=List.mem_map.mp h
   exact absurd (S.da p hp) (by rw[show p.1=s.heap.objs.size from e];exact iY _))
  (λp hp _=>.tail _ hp) (λa o' e=>(S.aa a o' e).mono λp hp=>.tail _ hp) S.inj
  (λp hp=>let ⟨sl,h⟩:=S.fo p hp;⟨sl,.tail _ h⟩) S.gens S.os S.cells
theorem Sat.jG (S:Sat G F σ s D){a:Addr}{l:List V}{vs:Array Value}{n:Nat}(hm:(a,listOf vs n)∈D)(hv:aY G.C D l vs.toList)(hz:vs.size<2^24):
  Sat G F { σ with aa:=put σ.aa a (.list l) } s D:=
 ⟨S.fr,S.news,S.nd,λb o e=>ud (a:=a) (ao:=.list l) (P:=gE G.C F.fo D) ⟨vs,n,hm,hv,hz⟩ (λb o _ e=>S.aa b o e) e,ue S.inj λ_ _ _ _ _ q=>(nomatch q),S.fo,S.gens,S.os,S.cells⟩
theorem Sat.tY (S:Sat G F σ s D){a:Addr}{l l':List V}(ha:σ.aa a=some (.list l)){m:Str->Option Value}(bz:lO G F σ.loc D m){vs':Array Value}{n':Nat}
  (Fm:Fr F.h₀ F.L s'.heap m) (N':News F.h₀ F.L s'.heap (upd a (listOf vs' n') D)) (hv:aY G.C D l' vs'.toList) (hz:vs'.size<2^24) (f9:∀p∈F.fo,∃es n,p.2.data=.dict es n)
  (hg:s'.gens=#[]) (ho:s'.os=G.os):Sat G F { σ with aa:=put σ.aa a (.list l') } s' (upd a (listOf vs' n') D)/\aO F D (upd a (listOf vs' n') D):=by
 obtain⟨vs,n,hm,_,_⟩:=S.aa _ _ ha
 have kt:∀p∈D,j3 p.2=true->p∈upd a (listOf vs' n') D:=λp hp hz=>av hp λq=>by
  have:p.2=listOf vs n:=bq S.nd (a:=a) (by rw[←q];exact hp) hm
  rw[this] at hz;exact absurd hz (by rw[FE];decide)
 have tup:∀b o,(b,o)∈D->isTup o->(b,o)∈upd a (listOf vs' n') D:=λ_ _ hm hc=>kt _ hm (eB hc)
 refine⟨Sat.step (σ:=σ) Fm bz N' (by rw[gM];exact S.nd) (λp hp hz=>kt p hp (m7 hz)) (λb o e=>ud (a:=a) (ao:=.list l') (P:=gE G.C F.fo (upd a (listOf vs' n') D)) ⟨vs',n',bY hm,hv.mono tup,hz⟩ (λb o q e=>?_) e) (ue S.inj λ_ _ _ _ _ q=>nomatch q) (λp hp=>?_) hg ho S.cells,λp hp hz _=>kt p hp hz⟩
 ·refine(S.aa b o e).move tup (λ_ _ h=>av h q) (λ_ _ h=>av h q) (λ_ _ _ h=>av h q) λd oE k _ _ h2=>av h2 λz=>?_
  exact nomatch congrArg Obj.data (bq S.nd (a:=a) (o:=dictOf oE k) (o':=listOf vs n) (by rw[←z];exact h2) hm)
 ·obtain⟨sl,h⟩:=S.fo p hp
  refine⟨sl,av h λz=>?_⟩
  obtain⟨es,k,hd⟩:=f9 p hp
  have k2:=congrArg Obj.data (bq S.nd (a:=a) (o:={ p.2 with slots:=sl }) (o':=listOf vs n) (by rw[←z];exact h) hm)
  exact nomatch (hd.symm.trans k2:Data.dict es k=Data.seq vs n)
theorem HS:Value.type "list"≠Value.type "dict":=by simp
theorem Sat.Ap (S:Sat G F σ s D){a dx:Addr}{ao R7:AO}(ha:σ.aa a=some ao)(Nm:ao.dx=some dx)(Uv:R7.dx=some dx){es:List DictEntry}{n:Nat}(hd:(dx,dictOf es n)∈D)(f9:∀p∈F.fo,p.1≠dx)
  {m:Str->Option Value} (bz:lO G F σ.loc D m) {oE:List DictEntry} {n':Nat}
  (Fm:Fr F.h₀ F.L s'.heap m) (N':News F.h₀ F.L s'.heap (upd dx (dictOf oE n') D))
  (hr:(∀b o,(b,o)∈D->isTup o->(b,o)∈upd dx (dictOf oE n') D)->(∀o,(a,o)∈D->o.cls≠.type "dict"->(a,o)∈upd dx (dictOf oE n') D)->gE G.C F.fo (upd dx (dictOf oE n') D) a R7)
  (hg:s'.gens=#[]) (ho:s'.os=G.os):Sat G F { σ with aa:=put σ.aa a R7 } s' (upd dx (dictOf oE n') D)/\aO F D (upd dx (dictOf oE n') D):=by
 have kt:∀p∈D,j3 p.2=true->p∈upd dx (dictOf oE n') D:=λp hp hz=>av hp λq=>by
  have:p.2=dictOf es n:=bq S.nd (a:=dx) (by rw[←q];exact hp) hd
  rw[this] at hz;exact absurd hz (by rw[FF];decide)
 have ne:∀{b:Addr} {o:Obj},(b,o)∈D->o.cls≠.type "dict"->b≠dx:=λ{b o} hb hc z=>by
  have:=bq S.nd (a:=dx) (by rw[←z];exact hb) hd
  exact hc (congrArg Obj.cls this)
 have tup:∀b o,(b,o)∈D->isTup o->(b,o)∈upd dx (dictOf oE n') D:=λa o hm hc=>kt _ hm (eB hc)
 refine⟨Sat.step (σ:=σ) Fm bz N' (by rw[gM];exact S.nd) (λp hp hz=>kt p hp (m7 hz)) (λb o e=>ud (a:=a) (ao:=R7) (P:=gE G.C F.fo (upd dx (dictOf oE n') D)) (hr tup λo hm hc=>av hm (ne hm hc)) (λb o q e=>?_) e)
  (ue S.inj λb o d q e w w'=>q (S.inj _ _ _ _ _ e ha (Option.some.inj (Uv.symm.trans w)▸w') Nm)) (λp hp=>?_) hg ho S.cells,λp hp hz _=>kt p hp hz⟩
 ·exact(S.aa b o e).move tup (λ_ _ h=>av h (ne h HS)) (λ_ _ h=>av h (ne h λz=>nomatch z)) (λ_ _ _ h=>av h (ne h λz=>nomatch z)) λd es n w _ h2=>av h2 λz=>q (S.inj _ _ _ _ _ e ha (z▸w) Nm)
 ·obtain⟨sl,h⟩:=S.fo p hp
  exact⟨sl,av h (f9 p hp)⟩
theorem Sat.Hl (S:Sat G F σ s D){a c dx:Addr}{fs I1:List (Str×V)}(ha:σ.aa a=some (.inst c dx fs)){m:Str->Option Value}(bz:lO G F σ.loc D m){oE:List DictEntry}{n':Nat}
  (Fm:Fr F.h₀ F.L s'.heap m) (N':News F.h₀ F.L s'.heap (upd dx (dictOf oE n') D)) (hv:b9 G.C D I1 oE) (hz:I1.length<=500)
  (hg:s'.gens=#[]) (ho:s'.os=G.os):Sat G F { σ with aa:=put σ.aa a (.inst c dx I1) } s' (upd dx (dictOf oE n') D)/\aO F D (upd dx (dictOf oE n') D):=by
 obtain⟨es,n,hm,hd,_,f9,_⟩:=S.aa _ _ ha
 exact S.Ap ha rfl rfl hd f9 bz Fm N' (λtup k=>⟨oE,n',k _ hm (by simp),bY hd,hv.mono tup,f9,hz⟩) hg ho
theorem Sat.DS (S:Sat G F σ s D){k:Nat}{a c dx:Addr}{fs I1:List (Str×V)}(ha:σ.aa a=some (.exc k c dx fs)){m:Str->Option Value}(bz:lO G F σ.loc D m){oE:List DictEntry}{n':Nat}
  (Fm:Fr F.h₀ F.L s'.heap m) (N':News F.h₀ F.L s'.heap (upd dx (dictOf oE n') D)) (hv:b9 G.C D I1 oE) (hz:I1.length<=500)
  (hg:s'.gens=#[]) (ho:s'.os=G.os):Sat G F { σ with aa:=put σ.aa a (.exc k c dx I1) } s' (upd dx (dictOf oE n') D)/\aO F D (upd dx (dictOf oE n') D):=by
 obtain⟨es,n,vs,hm,hd,_,f9,_,h6⟩:=S.aa _ _ ha
 exact S.Ap ha rfl rfl hd f9 bz Fm N' (λtup k=>⟨oE,n',vs,k _ hm (by simp),bY hd,hv.mono tup,f9,hz,h6⟩) hg ho
theorem Sat.heap (S:Sat G F σ s D){h':Heap}(hk:∀b o,s.heap.get? b=some o->((∃p∈D,p.1=b)∨b=F.L∨F.h₀.get? b=some o)->h'.get? b=some o):Sat G F σ { s with heap:=h' } D:=by
 obtain⟨m,Fm,hm⟩:=S.fr
 obtain⟨oL,es,ep,hL,r⟩:=Fm.ns
 exact⟨⟨m,⟨⟨oL,es,ep,hk _ _ hL (.inr (.inl rfl)),r⟩,λb o e=>hk b o (Fm.keep b o e) (.inr (.inr e)),Fm.above⟩,hm⟩,
  λp hp=>⟨hk _ _ (S.news p hp).1 (.inl ⟨p,hp,rfl⟩),(S.news p hp).2⟩,S.nd,S.aa,S.inj,S.fo,S.gens,S.os,S.cells⟩
theorem Sat.DM (S:Sat G F σ s D):F.h₀.get? F.L=none:=by
 obtain⟨m,Fm,_⟩:=S.fr
 cases e:F.h₀.get? F.L with
 |none=>rfl
 |some o=>exact absurd (Nat.lt_of_lt_of_le (Heap.lt_size e) Fm.above) (iY _)
theorem Sat.slots (S:Sat G F σ s D){h':Heap}{Ls:List Addr}(hs:Heap.SlotsOnly Ls s.heap h')(hL:∀P∈Ls,P=F.L∨∃o,(P,o)∈F.fo)(f9:∀p∈F.fo,(∃es n,p.2.data=.dict es n)/\j3 p.2=false):
  ∃D',Sat G F σ { s with heap:=h' } D'/\(∀p∈D,(∀q∈F.fo,q.1≠p.1)->p∈D')/\D'.map (·.1)=D.map (·.1)/\∀p∈D,j3 p.2=true->p∈D':=by
 obtain⟨m,Fm,hm⟩:=S.fr
 have out:∀p∈D,(∀q∈F.fo,q.1≠p.1)->p.1∉Ls:=λp hp hq Gs=>by
  rcases hL _ Gs with e|⟨o,ho⟩
  ·exact(S.news p hp).2.1 e
  ·exact hq _ ho rfl
 have same:∀p∈D,p.1∉Ls->h'.get? p.1=some p.2:=λp hp hn=>(hs.2.1 _ hn).trans (S.news p hp).1
 let D':Led:=D.map λp=>(p.1,(h'.get? p.1).getD p.2)
 have Np:∀p∈D,p.1∉Ls->p∈D':=λp hp hn=>List.mem_map.mpr ⟨p,hp,by rw[same p hp hn];rfl⟩
 have OW:D'.map (·.1)=D.map (·.1):=by show(D.map _).map _=_;rw[List.map_map];rfl
 have O0:∀p∈D,∀q∈F.fo,q.1=p.1->∃sl,p.2={ q.2 with slots:=sl }:=λp hp q hq e=>by
  obtain⟨sl,h1⟩:=S.fo q hq
  exact⟨sl,bq S.nd (a:=p.1) hp (by rw[←e];exact h1)⟩
 have uz:∀p∈D,(∀es n,p.2.data≠.dict es n)->p.1∉Ls:=λp hp hd=>out p hp λq hq e=>by
  obtain⟨sl,h1⟩:=O0 p hp q hq e
  obtain⟨es,n,h2⟩:=(f9 q hq).1
  exact hd es n (by rw[h1];exact h2)
 have Et:∀p∈D,j3 p.2=true->p∈D':=λp hp hf=>Np p hp <| out p hp λq hq e=>by
  obtain⟨sl,h1⟩:=O0 p hp q hq e
  have:j3 p.2=j3 q.2:=by rw[h1];rfl
  rw[this,(f9 q hq).2] at hf;cases hf
 have KA:∀p∈D,tc p.2->p∈D':=λp hp h=>Et p hp (m7 h)
 have tup:∀a o,(a,o)∈D->isTup o->(a,o)∈D':=λa o h c=>KA _ h (.inl c)
 have real:∀a o,σ.aa a=some o->gE G.C F.fo D' a o:=λa o e=>by
  exact(S.aa a o e).move tup (λ_ _ h=>Np _ h (uz _ h (by simp))) (λ_ _ h=>Np _ h (uz _ h (by simp))) (λ_ _ _ h=>Np _ h (uz _ h (by simp))) λ_ _ _ _ h4 h2=>Np _ h2 (out _ h2 h4)
 have N':News F.h₀ F.L h' D':=λp hp=>by
  obtain⟨q,hq,rfl⟩:=List.mem_map.mp hp
  obtain⟨sl,h1⟩:=hs.2.2 _ _ (S.news q hq).1
  exact⟨by dsimp only;rw[h1];rfl,(S.news q hq).2⟩
 obtain⟨oL,es,ep,Yj,hr⟩:=Fm.ns
 obtain⟨Sj,UE⟩:=hs.2.2 _ _ Yj
 have N6:Fr F.h₀ F.L h' m:=⟨⟨_,es,ep,UE,hr⟩,λb o e=>by
  have hb:b∉Ls:=λGs=>by
   rcases hL _ Gs with q|⟨o',lC⟩
   ·rw[q,S.DM] at e;cases e
   ·obtain⟨sl,h1⟩:=S.fo _ lC
    have:=(S.news _ h1).2.2
    dsimp only at this
    rw[this] at e;cases e
  exact(hs.2.1 b hb).trans (Fm.keep b o e),Fm.above⟩
 refine⟨D',⟨⟨m,N6,hm.keep KA⟩,N',by rw[OW];exact S.nd,real,S.inj,λp hp=>?_,S.gens,S.os,λx ca e=>let ⟨o,v,h1,h3⟩:=S.cells x ca e;⟨o,v,KA _ h1 (.inr ⟨_,h3⟩),h3⟩⟩,λp hp hq=>Np p hp (out p hp hq),OW,Et⟩
 obtain⟨sl,h1⟩:=S.fo p hp
 obtain⟨VD,h2⟩:=hs.2.2 _ _ (S.news _ h1).1
 exact⟨VD,List.mem_map.mpr ⟨_,h1,by dsimp only at h2 ⊢;rw[h2];rfl⟩⟩
theorem Sat.store (S:Sat G F σ s D)(Kl:F.names.Nodup){i:Nat}{x:Str}{v:V}{c:Value}{m:Str->Option Value}(bz:lO G F σ.loc D m)(hx:(F.names[i]?:Option Str)=some x)
  (Fm:Fr F.h₀ F.L s'.heap (λy=>if y=x then some c else m y)) (N':News F.h₀ F.L s'.heap D) (hk:F.env.kindOf x=some .local) (hv:br G.C D v c)
  (hg:s'.gens=#[]) (ho:s'.os=G.os):Sat G F { σ with loc:=σ.loc.set i (some v) } s' D:=by
 refine⟨⟨_,Fm,λj y u e1 e2=>?_⟩,N',S.nd,S.aa,S.inj,S.fo,hg,ho,S.cells⟩
 by_cases hj:j=i
 ·subst hj
  rw[hx] at e1;cases e1
  rw[List.getElem?_set] at e2
  by_cases hl:j<σ.loc.length
  ·simp[hl] at e2;subst e2;exact⟨c,.inl ⟨hk,by simp⟩,hv⟩
  ·simp[hl] at e2
 ·rw[List.getElem?_set_ne (Ne.symm hj)] at e2
  obtain⟨c',h1,h2⟩:=bz j y u e1 e2
  refine⟨c',?_,h2⟩
  rcases h1 with⟨k1,k2⟩|h1
  ·refine .inl ⟨k1,?_⟩
   have:y≠x:=λz=>by
    subst z
    obtain⟨a1,b1⟩:=List.getElem?_eq_some_iff.mp e1
    obtain⟨a2,b2⟩:=List.getElem?_eq_some_iff.mp hx
    exact hj ((List.getElem?_inj a1 Kl).mp (e1.trans hx.symm))
   simp[this,k2]
  ·exact .inr h1
end
section
variable {G:GC}{F:FC}{σ:St}{s s':Shared}{D D':Led}
theorem mem_lookup {x:Str}{ca:Addr}:∀{l:List (Str×Addr)},l.lookup x=some ca->(x,ca)∈l:=by
 intro l
 induction l with
 |nil=>intro h;cases h
 |cons p r ih=>
  intro h
  obtain⟨y,b⟩:=p
  rw[List.lookup_cons] at h
  split at h
  ·rename_i e;cases h;rw[beq_iff_eq] at e;rw[e];exact .head _
  ·exact .tail _ (ih h)
theorem Aw {x y:Str}{a:Addr}:∀{l:List (Str×Addr)},(l.map (·.2)).Nodup->(x,a)∈l->(y,a)∈l->x=y:=by
 intro l
 induction l with
 |nil=>intro _ h;cases h
 |cons r t ih=>
  intro hn h h'
  rw[List.map_cons,List.nodup_cons] at hn
  rcases List.mem_cons.mp h with h|h<;>rcases List.mem_cons.mp h' with h'|h'
  ·rw[←h'] at h;exact(Prod.mk.inj h).1
  ·exact absurd (List.mem_map_of_mem (f:=(·.2)) h') (by rw[←h] at hn;exact hn.1)
  ·exact absurd (List.mem_map_of_mem (f:=(·.2)) h) (by rw[←h'] at hn;exact hn.1)
  ·exact ih hn.2 h h'
theorem Sat.Bx (S:Sat G F σ s D)(ok:bK G F){i:Nat}{x:Str}{v:V}{c:Value}{ca:Addr}{m:Str->Option Value}(bz:lO G F σ.loc D m)(hx:(F.names[i]?:Option Str)=some x)
  (hk:F.env.kindOf x=some .cell) (hc:F.env.cells.lookup x=some ca) {o':Obj} (gZ:o'.data=.cell (some c))
  (Fm:Fr F.h₀ F.L s'.heap m) (N':News F.h₀ F.L s'.heap (upd ca o' D)) (hv:br G.C D v c) (hg:s'.gens=#[]) (ho:s'.os=G.os) (tH:ca∈F.own):
  Sat G F { σ with loc:=σ.loc.set i (some v) } s' (upd ca o' D)/\aO F D (upd ca o' D):=by
 obtain⟨o,w,hm,GL⟩:=S.cells _ _ hc
 have ne:∀{b:Addr} {ob:Obj},(b,ob)∈D->¬fN ob->b≠ca:=λ{b ob} hb hn e=>by
  subst e
  exact hn (by rw[bq S.nd hb hm];exact⟨_,GL⟩)
 have tup:∀a ob,(a,ob)∈D->isTup ob->(a,ob)∈upd ca o' D:=λa ob hb hn=>av hb (ne hb hn.D8)
 have UU:∀y,F.env.cells.lookup y=some ca->y=x:=λy hy=>Aw ok.Nt (mem_lookup hy) (mem_lookup hc)
 refine⟨⟨⟨m,Fm,λj y u e1 e2=>?_⟩,N',by rw[gM];exact S.nd,λa ao e=>?_,S.inj,λp hp=>?_,hg,ho,λy cb e=>?_⟩,λp hp hz Uz=>av hp λe=>?_⟩
 ·by_cases hj:j=i
  ·subst hj
   rw[hx] at e1;cases e1
   rw[List.getElem?_set] at e2
   by_cases hl:j<σ.loc.length
   ·simp[hl] at e2;subst e2;exact⟨c,.inr ⟨ca,o',.inl hk,hc,bY hm,gZ⟩,hv.mono tup⟩
   ·simp[hl] at e2
  ·rw[List.getElem?_set_ne (Ne.symm hj)] at e2
   obtain⟨c',h1,h2⟩:=bz j y u e1 e2
   refine⟨c',?_,h2.mono tup⟩
   rcases h1 with h1|⟨cb,ob,k1,k2,k3,k5⟩
   ·exact .inl h1
   ·refine .inr ⟨cb,ob,k1,k2,av k3 λe=>?_,k5⟩
    have:y=x:=UU y (by rw[k2];exact congrArg some e)
    subst this
    obtain⟨a1,b1⟩:=List.getElem?_eq_some_iff.mp e1
    exact hj ((List.getElem?_inj a1 ok.nm).mp (e1.trans hx.symm))
 ·exact(S.aa a ao e).move tup (λ_ _ h=>av h (ne h (by simp[fN]))) (λ_ _ h=>av h (ne h (by simp[fN]))) (λ_ _ _ h=>av h (ne h (by simp[fN]))) λ_ _ _ _ _ h=>av h (ne h (by simp[fN]))
 ·obtain⟨sl,h⟩:=S.fo p hp
  refine⟨sl,av h (ne h ?_)⟩
  rintro⟨u,q⟩
  obtain⟨es,n,q'⟩:=(ok.z6 p hp).1
  rw[show({ p.2 with slots:=sl }:Obj).data=p.2.data from rfl,q'] at q;cases q
 ·by_cases NX:cb=ca
  ·subst NX;exact⟨o',_,bY hm,gZ⟩
  ·obtain⟨ob,w',h1,h3⟩:=S.cells y cb e
   exact⟨ob,w',av h1 NX,h3⟩
 ·have:p.2=o:=bq S.nd (a:=ca) (by rw[←e];exact hp) hm
  exact Uz (by rw[this];exact⟨_,GL⟩) (e▸tH)
end
section
structure Ex where
 cls:Addr
 fs:List (Str×V)
 nc:Bool:=false
inductive Df (h₀:Heap)(L:Addr)(D:Led)(h:Heap)(ea:Addr)(vs:Array Value)(p:Option Value->Prop):Prop
 |mk (T:Addr) (oT:Obj) (ts:Array Value):vs[1]?=some (.ref T)->h.get? T=some oT->oT.data=.fields ts->(∀p∈D,p.1≠T)->h₀.get? T=none->T≠L->T≠ea->p ts[3]?->Df h₀ L D h ea vs p
noncomputable def U8 (F:FC)(D:Led)(h:Heap)(ea:Addr)(P:Addr)(vs:Array Value):Prop:=
 vs[1]?=some .none∨Df F.h₀ F.L D h ea vs λx=>x=some .none∨x=some (rawInt P)
structure xy (G:GC)(F:FC)(D:Led)(h:Heap)(aa:ag)(ex:Ex)(ea dx:Addr)(oe:Obj)(vs:Array Value)(P:Addr):Prop where
 frame:F.env.frame=some P
 at_:h.get? ea=some oe
 cls:oe.cls=.ref ex.cls
 dict:oe.dict=some dx
 data:oe.data=.fields vs
 sz:6<=vs.size
 fs:∃es n,b9 G.C D ex.fs es/\(dx,dictOf es n)∈D
 fo:∀p∈F.fo,p.1≠dx
 aa:∀a o,aa a=some o->o.dx≠some dx
 out:∀p∈D,p.1≠ea
 base:F.h₀.get? ea=none
 kH:ea≠F.L
 tb:U8 F D h ea P vs
 ctx:ex.nc=true->vs[2]?=some .none
 sl:oe.slots=#[]
inductive Lp (G:GC)(F:FC)(D:Led)(h:Heap)(aa:ag)(ex:Ex)(e:Value):Prop
 |mk (ea dx:Addr) (oe:Obj) (vs:Array Value) (P:Addr):e=.ref ea->xy G F D h aa ex ea dx oe vs P->Lp G F D h aa ex e
inductive fg (G:GC)(F:FC)(X:Ex->St->Prop)(D:Led)(e:Value)(s:Shared):Prop
 |mk (ex:Ex) (σ:St) (D':Led):Sat G F σ s D'->aO F D D'->Lp G F D' s.heap σ.aa ex e->X ex σ->fg G F X D e s
theorem fg.keep {G:GC}{F:FC}{X:Ex->St->Prop}{D D':Led}(k:aO F D D'){e:Value}{s:Shared}(h:fg G F X D' e s):fg G F X D e s:=
 let ⟨ex,σ,I6,a,b,c,d⟩:=h;⟨ex,σ,I6,a,k.trans b,c,d⟩
inductive j4 (G:GC)(F:FC){α β:Type}(rel:Led->β->α->Prop)(Q:β->St->Prop)(D:Led)(a:α)(s:Shared):Prop
 |mk (b:β) (σ:St) (D':Led):Sat G F σ s D'->aO F D D'->rel D' b a->Q b σ->j4 G F rel Q D a s
inductive R8 (G:GC)(F:FC)(Q:St->Prop)(D:Led)(s:Shared):Prop
 |mk (σ:St) (D':Led):Sat G F σ s D'->aO F D D'->Q σ->R8 G F Q D s
theorem j4.keep {G:GC}{F:FC}{α β:Type}{rel:Led->β->α->Prop}{Q:β->St->Prop}{D D':Led}(k:aO F D D'){a:α}{s:Shared}(h:j4 G F rel Q D' a s):j4 G F rel Q D a s:=
 let ⟨b,σ,I6,x,y,z,q⟩:=h;⟨b,σ,I6,x,k.trans y,z,q⟩
abbrev bT (G:GC):Model:=model G.prog G.w
noncomputable def J (G:GC)(F:FC)(af:Nat){α β:Type}(rel:Led->β->α->Prop)(t:Sem α)(σ:St)(Q:β->St->Prop)(X:Ex->St->Prop):Prop:=
 ∀A s D,iW F af A->Sat G F σ s D->wpAny (bT G) A t (j4 G F rel Q D) (fg G F X D) s
noncomputable def aE (G:GC)(D:Led)(v:V)(c:Value):Prop:=br G.C D v c
noncomputable def iD (G:GC)(D:Led)(v:List V)(c:List Value):Prop:=aY G.C D v c
noncomputable def c8 (_:Led)(b:Bool)(c:Bool):Prop:=b=c
inductive Fl where|next|brk|cont|ret (v:V)
inductive bA (G:GC)(D:Led):Fl->Flow->Prop
 |next:bA G D .next .next
 |brk:bA G D .brk .brk
 |cont:bA G D .cont .cont
 |ret {v:V} {c:Value}:br G.C D v c->bA G D (.ret v) (.ret c)
theorem bA.keep {G:GC}{F:FC}{D D':Led}{a:Fl}{b:Flow}(h:bA G D a b)(k:aO F D D'):bA G D' a b:=by
 cases h with
 |next=>exact .next
 |brk=>exact .brk
 |cont=>exact .cont
 |ret i=>exact .ret (i.keep k)
section
variable {G:GC}{F:FC}{af:Nat}{α β γ δ:Type}{rel:Led->β->α->Prop}{t:Sem α}{σ:St}{Q Q':β->St->Prop}{X X':Ex->St->Prop}{A:Around}{s:Shared}{D:Led}
theorem J.mono (h:J G F af rel t σ Q X)(hQ:∀b σ,Q b σ->Q' b σ)(hX:∀e σ,X e σ->X' e σ):J G F af rel t σ Q' X':=λA s D hA S=>
 dU (h A s D hA S) (λ_ _ ⟨b,σ,D',x,y,z,q⟩=>⟨b,σ,D',x,y,z,hQ _ _ q⟩) λ_ _ ⟨ex,σ,D',a,b,c,d⟩=>⟨ex,σ,D',a,b,c,hX _ _ d⟩
theorem J.go (h:J G F af rel t σ Q X)(hA:iW F af A)(S:Sat G F σ s D){P:α->Shared->Prop}
  (k:∀b a ae ak aI,Sat G F ae ak aI->aO F D aI->rel aI b a->Q b ae->P a ak):wpAny (bT G) A t P (fg G F X D) s:=
 dU (h A s D hA S) (λ_ _ ⟨_,_,_,x,y,z,q⟩=>k _ _ _ _ _ x y z q) λ_ _ e=>e
theorem J.r5 {D₀:Led}(h:J G F af rel t σ Q X)(hA:iW F af A)(S:Sat G F σ s D)(K:aO F D₀ D){P:α->Shared->Prop}
  (k:∀b a ae ak aI,Sat G F ae ak aI->aO F D aI->rel aI b a->Q b ae->P a ak):wpAny (bT G) A t P (fg G F X D₀) s:=
 dU (h.go hA S k) (λ_ _ x=>x) λ_ _ e=>e.keep K
theorem J.last {D₀:Led}(h:J G F af rel t σ Q X)(hA:iW F af A)(S:Sat G F σ s D)(K:aO F D₀ D):wpAny (bT G) A t (j4 G F rel Q D₀) (fg G F X D₀) s:=
 dU (h A s D hA S) (λ_ _ x=>x.keep K) λ_ _ e=>e.keep K
end
section names
variable {G:GC}{F:FC}{af:Nat}{σ:St}{X:Ex->St->Prop}
theorem Fo (ok:bK G F){i:Nat}{x:Str}{v:V}{pos:Pos}{Q:V->St->Prop}(hx:(F.names[i]?:Option Str)=some x)(hv:(σ.loc[i]?:Option (Option V))=some (some v))
  (hd:(x==("__debug__":Str))=false) (hc:(x==("__classdict__":Str))=false) (q:Q v σ):J G F af (aE G) (eval (.Name x pos) F.env) σ Q X:=λA s D hA S=>by
 obtain⟨m,Fm,hl⟩:=S.fr
 obtain⟨c,h1,h2⟩:=hl i x v hx hv
 have fin:j4 G F (aE G) Q D c s:=⟨v,σ,D,S,.refl,h2,q⟩
 rcases h1 with⟨hk,hm⟩|⟨ca,o,hk|hk,h3,h4,h6⟩
 ·exact wpAny_Name (wpAny_loadName_local ok.kind hk Fm.ns hm fin) hd
 ·exact wpAny_Name (wpAny_loadName_cell ok.kind hk h3 ⟨o,(S.news _ h4).1,h6⟩ fin) hd
 ·exact wpAny_Name (wpAny_loadName_free ok.kind hk h3 ⟨o,(S.news _ h4).1,h6⟩ fin hc) hd
theorem B9 (ok:bK G F){x:Str}{pos:Pos}{c:Value}{v:V}{Q:V->St->Prop}(e:nsIn G.K mainGlobals x=some (some c))(hk:F.env.kindOf x=some .globalImplicit)
  (hd:(x==("__debug__":Str))=false) (hv:br G.C [] v c) (q:Q v σ):J G F af (aE G) (eval (.Name x pos) F.env) σ Q X:=λA s D hA S=>by
 obtain⟨m,Fm,hl⟩:=S.fr
 exact Name_function_global ok.kind hk (loadGlobal_global (by rw[ok.glob];exact ok.T.g.keeps Fm.keep) (mg_of ok.X ok.T.g e) ⟨v,σ,D,S,.refl,hv.mono (λ_ _ h _=>absurd h List.not_mem_nil),q⟩) hd
theorem eg (ok:bK G F){x:Str}{pos:Pos}{c:Value}{A:Around}{s:Shared}{D:Led}{P E:Value->Shared->Prop}(S:Sat G F σ s D)(e:nsIn G.K mainGlobals x=some none)(hk:F.env.kindOf x=some .globalImplicit)
  (hd:(x==("__debug__":Str))=false) (hn:x≠"__name__") (hb:bootBuiltins x=some c) (q:P c s):wpAny (bT G) A (eval (.Name x pos) F.env) P E s:=by
 obtain⟨m,Fm,hl⟩:=S.fr
 exact Name_function_global ok.kind hk (loadGlobal_builtin (by rw[ok.glob];exact ok.T.g.keeps Fm.keep) (mg_none_of ok.X ok.T.g e) (by rw[ok.N3];exact ok.T.b.keeps Fm.keep) ((ok.T.builtins x hn).trans hb) q) hd
end names
section exprs
variable {G:GC}{F:FC}{af:Nat}{σ:St}{X:Ex->St->Prop}{env:Env}
theorem q7 {i:Int}{k:Nat}{pos:Pos}{Q:V->St->Prop}(q:Q (.int i) σ):J G F af (aE G) (eval (.Constant (.int i) k pos) env) σ Q X:=λA s D hA S=>
 wpAny_Constant_int ⟨_,σ,D,S.same rfl rfl rfl,.refl,.int i _,q⟩
theorem oQ {b:Bool}{k:Nat}{pos:Pos}{Q:V->St->Prop}(q:Q (.bool b) σ):J G F af (aE G) (eval (.Constant (.bool b) k pos) env) σ Q X:=λA s D hA S=>
 wpAny_Constant_bool ⟨_,σ,D,S,.refl,.bool b,q⟩
theorem oP {k:Nat}{pos:Pos}{Q:V->St->Prop}(q:Q .none σ):J G F af (aE G) (eval (.Constant .none k pos) env) σ Q X:=λA s D hA S=>
 wpAny_Constant_none ⟨_,σ,D,S,.refl,.none,q⟩
theorem q6 {x:Str}{l:List Nat}{k:Nat}{pos:Pos}{Q:V->St->Prop}(hx:x=⟨l.toArray⟩)(q:Q (.str l) σ):J G F af (aE G) (eval (.Constant (.str x) k pos) env) σ Q X:=λA s D hA S=>
 wpAny_Constant_str ⟨_,σ,D,S.same rfl rfl rfl,.refl,hx▸.str l _,q⟩
noncomputable def z7 (G:GC)(F:FC)(af:Nat)(f:Value->Value->Sem Value)(rv pG:V)(σ:St)(Q:V->St->Prop)(X:Ex->St->Prop):Prop:=
 ∀A s D eu cj,iW F af A->Sat G F σ s D->br G.C D rv eu->br G.C D pG cj->wpAny (bT G) A (f eu cj) (j4 G F (aE G) Q D) (fg G F X D) s
noncomputable def WG (G:GC)(F:FC)(af:Nat)(f:Value->Sem Value)(v:V)(σ:St)(Q:V->St->Prop)(X:Ex->St->Prop):Prop:=
 ∀A s D c,iW F af A->Sat G F σ s D->br G.C D v c->wpAny (bT G) A (f c) (j4 G F (aE G) Q D) (fg G F X D) s
noncomputable def WC (G:GC)(F:FC)(af:Nat)(v:V)(σ:St)(Q:Bool->St->Prop)(X:Ex->St->Prop):Prop:=
 ∀A s D c,iW F af A->Sat G F σ s D->br G.C D v c->wpAny (bT G) A (truthy c) (j4 G F c8 Q D) (fg G F X D) s
theorem Ge {l r:Expr}{op:Operator}{pos:Pos}{Q:V->St->Prop}
  (h:J G F af (aE G) (eval l env) σ (λrv ae=>J G F af (aE G) (eval r env) ae (λpG ar=>z7 G F af (binaryOp op) rv pG ar Q X) X) X):
  J G F af (aE G) (eval (.BinOp l op r pos) env) σ Q X:=λA s D hA S=>
 wpAny_BinOp (h.go hA S λrv eu ae ak aI az aB aJ au=>au.r5 hA az aB λpG cj ar aT bb aG aU bL aS=>
  dU (aS A aT bb eu cj hA aG (br.keep aJ aU) bL) (λ_ _ x=>x.keep (aB.trans aU)) λ_ _ x=>x.keep (aB.trans aU))
theorem F5 {l r:Expr}{op:CmpOp}{pos:Pos}{Q:V->St->Prop}(hm:behindInMarks op r=false)
  (h:J G F af (aE G) (eval l env) σ (λrv ae=>J G F af (aE G) (eval r env) ae (λpG ar=>z7 G F af (compareOp op) rv pG ar Q X) X) X):
  J G F af (aE G) (eval (.Compare l [op] [r] pos) env) σ Q X:=λA s D hA S=>
 wpAny_Compare1 (h.go hA S λrv eu ae ak aI az aB aJ au=>au.r5 hA az aB λpG cj ar aT bb aG aU bL aS=>
  dU (aS A aT bb eu cj hA aG (br.keep aJ aU) bL) (λ_ _ x=>x.keep (aB.trans aU)) λ_ _ x=>x.keep (aB.trans aU)) hm
theorem Bq {l r:Expr}{op:CmpOp}{pos:Pos}{whole:Sem Value}{Q:Bool->St->Prop}(hm:behindInMarks op r=false)
  (h:J G F af (aE G) (eval l env) σ (λrv ae=>J G F af (aE G) (eval r env) ae (λpG ar=>z7 G F af (compareOp op) rv pG ar (λv cn=>∃b,v=.bool b/\Q b cn) X) X) X):
  J G F af c8 (isTrue (.Compare l [op] [r] pos) env whole) σ Q X:=λA s D hA S=>
 wpAny_isTrue_Compare1 (h.go hA S λrv eu ae ak aI az aB aJ au=>au.r5 hA az aB λpG cj ar aT bb aG aU bL aS=>
  dU (aS A aT bb eu cj hA aG (br.keep aJ aU) bL) (λc bQ x=>by
   obtain⟨v,bJ,cU,cF,bO,hJ,b,rfl,q⟩:=x
   have hJ:br G.C cU (.bool b) c:=hJ
   cases hJ
   exact wpAny_truthy_bool ⟨b,bJ,cU,cF,(aB.trans aU).trans bO,rfl,q⟩) λ_ _ x=>x.keep (aB.trans aU)) hm
theorem wA {e:Expr}{whole:Sem Value}{Q:Bool->St->Prop}(he:isTrue e env whole=(do let v ←whole;standAt e.pos;holding [v] (truthy v)))
  (h:J G F af (aE G) whole σ (λv ae=>WC G F af v ae Q X) X):J G F af c8 (isTrue e env whole) σ Q X:=λA s D hA S=>
 isTrue_plain (h.go hA S λv c ae ak aI az aB aJ au=>dU (au A ak aI c hA az aJ) (λ_ _ x=>x.keep aB) λ_ _ x=>x.keep aB) he
theorem Bp {x:Expr}{pos:Pos}{whole:Sem Value}{Q:Bool->St->Prop}(h:J G F af c8 (isTrue x env (eval x env)) σ (λb ae=>Q (!b) ae) X):
  J G F af c8 (isTrue (.UnaryOp .Not x pos) env whole) σ Q X:=λA s D hA S=>
 isTrue_not (h.go hA S λb c ae ak aI az aB aJ au=>⟨!b,ae,aI,az,aB,by rw[c8] at aJ ⊢;rw[aJ],au⟩)
theorem qy {op:BoolOp}{values:List Expr}{pos:Pos}{whole:Sem Value}{Q:Bool->St->Prop}(h:J G F af c8 (allTrue op values env) σ Q X):
  J G F af c8 (isTrue (.BoolOp op values pos) env whole) σ Q X:=λA s D hA S=>wpAny_isTrue_BoolOp (h A s D hA S)
theorem uT {Q:Bool->St->Prop}(q:Q true σ):J G F af c8 (allTrue .And [] env) σ Q X:=λA s D hA S=>wpAny_allTrue_And_nil ⟨true,σ,D,S,.refl,rfl,q⟩
theorem wL {Q:Bool->St->Prop}(q:Q false σ):J G F af c8 (allTrue .Or [] env) σ Q X:=λA s D hA S=>wpAny_allTrue_Or_nil ⟨false,σ,D,S,.refl,rfl,q⟩
theorem rU {x:Expr}{rest:List Expr}{Q:Bool->St->Prop}
  (h:J G F af c8 (isTrue x env (eval x env)) σ (λb ae=>if b then J G F af c8 (allTrue .And rest env) ae Q X else Q false ae) X):J G F af c8 (allTrue .And (x::rest) env) σ Q X:=λA s D hA S=>by
 refine wpAny_allTrue_And_cons (h.go hA S λb c ae ak aI az aB aJ au=>?_)
 rw[c8] at aJ;subst aJ
 cases b
 ·exact⟨false,ae,aI,az,aB,rfl,au⟩
 ·exact J.last au hA az aB
theorem uJ {x:Expr}{rest:List Expr}{Q:Bool->St->Prop}
  (h:J G F af c8 (isTrue x env (eval x env)) σ (λb ae=>if b then Q true ae else J G F af c8 (allTrue .Or rest env) ae Q X) X):J G F af c8 (allTrue .Or (x::rest) env) σ Q X:=λA s D hA S=>by
 refine wpAny_allTrue_Or_cons (h.go hA S λb c ae ak aI az aB aJ au=>?_)
 rw[c8] at aJ;subst aJ
 cases b
 ·exact J.last au hA az aB
 ·exact⟨true,ae,aI,az,aB,rfl,au⟩
theorem zq {test body orelse:Expr}{pos:Pos}{Q:V->St->Prop}
  (h:J G F af c8 (isTrue test env (eval test env)) σ (λb ae=>if b then J G F af (aE G) (eval body env) ae Q X else J G F af (aE G) (eval orelse env) ae Q X) X):
  J G F af (aE G) (eval (.IfExp test body orelse pos) env) σ Q X:=λA s D hA S=>by
 refine IfExp_ (h.go hA S λb c ae ak aI az aB aJ au=>?_)
 rw[c8] at aJ;subst aJ
 cases b<;>exact J.last au hA az aB
theorem Hm {op:UnaryOp}{x:Expr}{pos:Pos}{Q:V->St->Prop}(h:J G F af (aE G) (eval x env) σ (λv ae=>WG G F af (unaryOp op) v ae Q X) X):
  J G F af (aE G) (eval (.UnaryOp op x pos) env) σ Q X:=λA s D hA S=>
 wpAny_UnaryOp (h.go hA S λv c ae ak aI az aB aJ au=>dU (au A ak aI c hA az aJ) (λ_ _ x=>x.keep aB) λ_ _ x=>x.keep aB)
theorem fF {pos:Pos}{Q:List V->St->Prop}(q:Q [] σ):J G F af (iD G) (spliced (backTo pos (starEach [] env))) σ Q X:=λA s D hA S=>
 wpAny_items_nil ⟨[],σ,D,S,.refl,.nil,q⟩
end exprs
end
section
variable {G:GC}{F:FC}
theorem zt (ok:bK G F){σ:St}{s:Shared}{D:Led}(S:Sat G F σ s D):s.heap.FunFrames {} F.frames:=by
 have key:∀l:List Env,(∀e∈l,e.scope.kind≠.module/\∃P,e.frame=some P/\(P=F.L∨∃o,(P,o)∈F.fo))->s.heap.FunFrames {} l:=by
  intro l
  induction l with
  |nil=>intro _;trivial
  |cons e r ih=>
   intro h
   obtain⟨hk,P,hf,hP⟩:=h e (.head _)
   refine⟨hk,⟨P,?_⟩,ih λe' xv=>h e' (.tail _ xv)⟩
   rcases hP with rfl|⟨o,ho⟩
   ·obtain⟨m,Fm,_⟩:=S.fr
    obtain⟨oL,es,ep,hL,hd,_⟩:=Fm.ns
    exact⟨oL,hf,rfl,hL,λvs q=>by rw[hd] at q;cases q⟩
   ·obtain⟨sl,h1⟩:=S.fo _ ho
    obtain⟨es,n,h2⟩:=(ok.z6 _ ho).1
    exact⟨_,hf,rfl,(S.news _ h1).1,λvs q=>by rw[show({ o with slots:=sl }:Obj).data=o.data from rfl,h2] at q;cases q⟩
 exact key _ ok.each
theorem wU (ok:bK G F):∃e r,F.frames=e::r/\e.frame=F.env.frame/\PySem.frameOf F.env=PySem.frameOf e:=by
 obtain⟨e,r,h1,h2⟩:=ok.top
 refine⟨e,r,h1,h2,?_⟩
 unfold PySem.frameOf
 rw[h2]
noncomputable def yG (F:FC)(D:Led)(h:Heap)(ea:Addr)(P:Addr)(vs:Array Value):Prop:=
 Df F.h₀ F.L D h ea vs λx=>x=some (rawInt P)
inductive J8 (G:GC)(F:FC)(D:Led)(h:Heap)(aa:ag)(ex:Ex)(e:Value)(p:Addr->Option Value->Prop):Prop
 |mk (ea dx:Addr) (oe:Obj) (vs:Array Value) (P:Addr):e=.ref ea->xy G F D h aa ex ea dx oe vs P->Df F.h₀ F.L D h ea vs (p P)->J8 G F D h aa ex e p
inductive Lu (p:Addr->Option Value->Prop)(G:GC)(F:FC)(X:Ex->St->Prop)(D:Led)(e:Value)(s:Shared):Prop
 |mk (ex:Ex) (σ:St) (D':Led):Sat G F σ s D'->aO F D D'->J8 G F D' s.heap σ.aa ex e p->X ex σ->Lu p G F X D e s
noncomputable abbrev i9:=Lu λP x=>x=some (rawInt P)
noncomputable abbrev Bl:=Lu λ_ x=>x=some .none
theorem i9.exp {X:Ex->St->Prop}{D:Led}{e:Value}{s:Shared}(h:i9 G F X D e s):fg G F X D e s:=
 let ⟨ex,σ,D',a,b,⟨ea,dx,oe,vs,P,c,d,_⟩,f⟩:=h;⟨ex,σ,D',a,b,⟨ea,dx,oe,vs,P,c,d⟩,f⟩
theorem tb_mem {D:Led}{a:Addr}(h:∀p∈D,p.1≠a){D':Led}(k:D'.map (·.1)=D.map (·.1)):∀p∈D',p.1≠a:=λp hp e=>by
 have:p.1∈D.map (·.1):=by rw[←k];exact List.mem_map_of_mem (f:=(·.1)) hp
 obtain⟨q,hq,e'⟩:=List.mem_map.mp this
 exact h q hq (e'.trans e)
theorem Ey {M:Model}{A:Around}{E:Value->Shared->Prop}{X:Ex->St->Prop}{D₀ D:Led}{σ:St}{s:Shared}{ex:Ex}{ea dx:Addr}{oe:Obj}{vs:Array Value}{P:Addr}{head:Value}{H7:Bool}{Q:Unit->Shared->Prop}
  (ok:bK G F) (tF:A.frames=some F.frames) (S:Sat G F σ s D) (K:aO F D₀ D) (ho:xy G F D s.heap σ.aa ex ea dx oe vs P) (hX:X ex σ)
  (hQ:∀s',i9 G F X D₀ (.ref ea) s'->Q () s'):
  wpAny M A (do let a ←PySem.frameOf F.env;let pl ←entryPlaceOf P H7;let b ←EntryCells.newEntry head a .none (rawInt P) .none pl;setField (.ref ea) 1 b) Q E s:=by
 obtain⟨e0,r,hF,NV,f9⟩:=wU ok
 rw[f9]
 refine aW (wpAny_frameOf_fun (L:=P) (tF.trans (by rw[hF])) (hF▸zt ok S) (NV.trans ho.frame) λaN bh=>?_)
 have Wk:∀P'∈(e0::r).filterMap (·.frame),P'=F.L∨∃o,(P',o)∈F.fo:=λP' Yi=>by
  obtain⟨e,he,hf⟩:=List.mem_filterMap.mp Yi
  obtain⟨_,Zd,h1,h2⟩:=ok.each e (hF▸he)
  rw[hf] at h1;cases h1;exact h2
 obtain⟨aI,az,i8,QL,O6⟩:=S.slots bh Wk ok.z6
 have TS:∀b,(∀p∈D,p.1≠b)->b≠F.L->b∉(e0::r).filterMap (·.frame):=λb hb hL Gs=>by
  rcases Wk b Gs with e|⟨o,h1⟩
  ·exact hL e
  ·obtain⟨sl,h2⟩:=S.fo _ h1
   exact hb _ h2 rfl
 have JH:aN.get? ea=some oe:=(bh.2.1 _ (TS _ ho.out ho.kH)).trans ho.at_
 have D2:=tb_mem ho.out QL
 refine aW (wpAny_entryPlaceOf λpl Gp=>?_)
 unfold EntryCells.newEntry newFields
 refine aW (wpAny_newObj_type ?_ (Gp.sizeOk5 _ _ _ _ _))
 have JG:=Heap.get?_push_of_some (h:=aN) { cls:=.type "traceback",dict:=none,data:=.fields ([head,.ref P,.none,rawInt P,.none]++(if pl.isEmpty then List.replicate 6 Value.none else pl)).toArray } JH
 refine wpAny_setField JG ho.data (by have:=ho.sz;exact a10 0x19012ac409a tt this) (hQ _ ?_)
 have pF:aN.objs.size≠ea:=Nat.ne_of_gt (Heap.lt_size JH)
 have fq:=Obj.data_mapFields ho.data (·.setIfInBounds 1 (Value.ref aN.objs.size))
 have QN:=Heap.get?_update_self (Obj.mapFields (·.setIfInBounds 1 (Value.ref aN.objs.size))) JG (Obj.isFreed_of_fields fq)
 have lS:=(Heap.get?_update_other (aN.push { cls:=.type "traceback",dict:=none,data:=.fields ([head,.ref P,.none,rawInt P,.none]++(if pl.isEmpty then List.replicate 6 Value.none else pl)).toArray })
  (Obj.mapFields (·.setIfInBounds 1 (Value.ref aN.objs.size))) (Ne.symm pF)).trans (Heap.get?_push_size aN rfl)
 have TD:∀p∈aI,p.1≠aN.objs.size:=λp hp e=>iY _ (e▸az.da p hp)
 have aG:=az.heap (h':=(aN.push { cls:=.type "traceback",dict:=none,data:=.fields ([head,.ref P,.none,rawInt P,.none]++(if pl.isEmpty then List.replicate 6 Value.none else pl)).toArray }).update ea (Obj.mapFields (·.setIfInBounds 1 (Value.ref aN.objs.size))))
  λb o hb hw=>by
   have Kt:ea≠b:=λq=>by
    subst q
    rcases hw with⟨p,hp,e⟩|e|e
    ·exact D2 p hp e
    ·exact ho.kH e
    ·rw[ho.base] at e;cases e
   rw[Heap.get?_update_other _ _ Kt]
   exact Heap.get?_push_of_some _ hb
 obtain⟨es,n,f1,f2⟩:=ho.fs
 have uX:aN.objs.size≠F.L:=λq=>by
  obtain⟨m,Fm,_⟩:=az.fr
  exact iY _ (q▸Fm.ns.lt)
 have rm:F.h₀.get? aN.objs.size=none:=by
  obtain⟨m,Fm,_⟩:=az.fr
  cases q:F.h₀.get? aN.objs.size with
  |none=>rfl
  |some o=>exact absurd (Heap.lt_size (Fm.keep _ _ q)) (iY _)
 have tb:yG F aI _ ea P (vs.setIfInBounds 1 (Value.ref aN.objs.size)):=
  ⟨aN.objs.size,_,_,by have:=ho.sz;rw[Array.getElem?_setIfInBounds];simp;exact a10 0x19012ac409a tt this,lS,rfl,TD,rm,uX,pF,by first|(simp;done)|(rcases Gp with rfl|⟨_,_,_,_,_,_,_,rfl⟩<;>simp)⟩
 refine⟨ex,σ,aI,aG,λp hp hz hc=>O6 p (K p hp hz hc) hz,⟨ea,dx,_,_,P,rfl,⟨ho.frame,QN,by rw[Obj.cls_mapFields];exact ho.cls,by
   rw[show(Obj.mapFields (λx=>x.setIfInBounds 1 (Value.ref aN.objs.size)) oe).dict=oe.dict from by unfold Obj.mapFields;split<;>rfl];exact ho.dict,fq,by simpa using ho.sz,
   ⟨es,n,f1.mono λa o hm hc=>O6 _ hm (eB hc),i8 _ f2 ho.fo⟩,ho.fo,ho.aa,D2,ho.base,ho.kH,?_,λq=>by rw[Array.getElem?_setIfInBounds_ne (by decide)];exact ho.ctx q,by unfold Obj.mapFields;split<;>exact ho.sl⟩,tb⟩,hX⟩
 obtain⟨T,oT,ts,t1,t2,t3,t4,t5,t6,t7,t8⟩:=tb
 exact .inr ⟨T,oT,ts,t1,t2,t3,t4,t5,t6,t7,.inr t8⟩
theorem Ac {M:Model}{A:Around}{E:Value->Shared->Prop}{X:Ex->St->Prop}{D:Led}{s:Shared}{e:Value}{Q:Unit->Shared->Prop}
  (ok:bK G F) (tF:A.frames=some F.frames) (h:fg G F X D e s) (hQ:∀s',i9 G F X D e s'->Q () s'):wpAny M A (noteFrame e F.env) Q E s:=by
 obtain⟨ex,σ,D',S,K,⟨ea,dx,oe,vs,P,rfl,ho⟩,hX⟩:=h
 unfold noteFrame
 simp only[ho.frame]
 rcases ho.tb with h1|⟨T,oT,ts,h1,hT,uW,r3,rm,uX,pF,h3⟩
 ·refine aW (wpAny_field ho.at_ ho.data h1 ?_)
  rw[aA (by decide)]
  exact Ey ok tF S K ho hX hQ
 ·refine aW (wpAny_field ho.at_ ho.data h1 ?_)
  rw[aL (show(Value.ref T !=Value.none)=true from by simp)]
  rcases h3 with h3|h3
  ·refine aW (wpAny_field hT uW h3 ?_)
   rw[aA (show ¬((Value.none==rawInt P)=true) from by simp[rawInt])]
   refine aW (wpAny_setField hT uW (Array.getElem?_eq_some_iff.mp h3).1 ?_)
   have fq:=Obj.data_mapFields uW (·.setIfInBounds 3 Value.none)
   have aG:=S.heap (h':=s.heap.update T (Obj.mapFields (·.setIfInBounds 3 Value.none))) λb o hb hw=>by
    have Kt:T≠b:=λq=>by
     subst q
     rcases hw with⟨p,hp,e⟩|e|e
     ·exact r3 p hp e
     ·exact uX e
     ·rw[rm] at e;cases e
    rw[Heap.get?_update_other _ _ Kt];exact hb
   refine Ey ok tF aG K ⟨ho.frame,(Heap.get?_update_other _ _ pF).trans ho.at_,ho.cls,ho.dict,ho.data,ho.sz,ho.fs,ho.fo,ho.aa,ho.out,ho.base,ho.kH,?_,ho.ctx,ho.sl⟩ hX hQ
   exact .inr ⟨T,_,_,h1,Heap.get?_update_self _ hT (Obj.isFreed_of_fields fq),fq,r3,rm,uX,pF,.inl (by have:=(Array.getElem?_eq_some_iff.mp h3).1;simp[this])⟩
  ·refine aW (wpAny_field hT uW h3 ?_)
   rw[aL (show(rawInt P==rawInt P)=true from by simp)]
   exact cC (hQ _ ⟨ex,σ,D',S,K,⟨ea,dx,oe,vs,P,rfl,ho,⟨T,oT,ts,h1,hT,uW,r3,rm,uX,pF,h3⟩⟩,hX⟩)
theorem pq {M:Model}{A:Around}{E:Value->Shared->Prop}{X:Ex->St->Prop}{D:Led}{s:Shared}{e:Value}{Q:Unit->Shared->Prop}{fr:Option Addr}
  (h:i9 G F X D e s) (hf:fr=none∨fr=F.env.frame) (hQ:∀s',fg G F X D e s'->(fr=F.env.frame->i9 G F X D e s')->(fr=none->Bl G F X D e s')->Q () s'):wpAny M A (setFlight e fr) Q E s:=by
 obtain⟨ex,σ,D',S,K,⟨ea,dx,oe,vs,P,rfl,ho,⟨T,oT,ts,h1,hT,uW,r3,rm,uX,pF,h3⟩⟩,hX⟩:=h
 unfold setFlight
 refine aW (wpAny_field ho.at_ ho.data h1 ?_)
 rw[aL (show(Value.ref T !=Value.none)=true from by simp)]
 have hz:=(Array.getElem?_eq_some_iff.mp h3).1
 refine wpAny_setField hT uW hz ?_
 generalize hx:(fr.elim Value.none λf=>rawInt f)=x
 have fq:=Obj.data_mapFields uW (·.setIfInBounds 3 x)
 have aG:=S.heap (h':=s.heap.update T (Obj.mapFields (·.setIfInBounds 3 x))) λb o hb hw=>by
  have Kt:T≠b:=λq=>by
   subst q
   rcases hw with⟨p,hp,e⟩|e|e
   ·exact r3 p hp e
   ·exact uX e
   ·rw[rm] at e;cases e
  rw[Heap.get?_update_other _ _ Kt];exact hb
 have lS:=Heap.get?_update_self (Obj.mapFields (·.setIfInBounds 3 x)) hT (Obj.isFreed_of_fields fq)
 have xs:(ts.setIfInBounds 3 x)[3]?=some x:=by simp[hz]
 have xr:x=.none∨x=rawInt P:=by
  rcases hf with rfl|rfl
  ·exact .inl hx.symm
  ·rw[ho.frame] at hx;exact .inr hx.symm
 have lC:xy G F D' (s.heap.update T (Obj.mapFields (·.setIfInBounds 3 x))) σ.aa ex ea dx oe vs P:=⟨ho.frame,(Heap.get?_update_other _ _ pF).trans ho.at_,ho.cls,ho.dict,ho.data,ho.sz,ho.fs,ho.fo,ho.aa,ho.out,ho.base,ho.kH,
  .inr ⟨T,_,_,h1,lS,fq,r3,rm,uX,pF,xr.imp (λ(e:x=.none)=>xs.trans (by rw[e])) λ(e:x=rawInt P)=>xs.trans (by rw[e])⟩,ho.ctx,ho.sl⟩
 refine hQ _ ⟨ex,σ,D',aG,K,⟨ea,dx,oe,vs,P,rfl,lC⟩,hX⟩ (λe=>⟨ex,σ,D',aG,K,⟨ea,dx,oe,vs,P,rfl,lC,⟨T,_,_,h1,lS,fq,r3,rm,uX,pF,?_⟩⟩,hX⟩)
  λe=>⟨ex,σ,D',aG,K,⟨ea,dx,oe,vs,P,rfl,lC,⟨T,_,_,h1,lS,fq,r3,rm,uX,pF,?_⟩⟩,hX⟩
 ·rw[xs,←hx,e,ho.frame];rfl
 ·rw[xs,←hx,e];rfl
theorem Rh {M:Model}{A:Around}{X:Ex->St->Prop}{D:Led}{s:Shared}{e:Value}(h:i9 G F X D e s):cameBackBy M A F.env (i9 G F X D) e s:=by
 have h':=h
 obtain⟨ex,σ,D',S,K,⟨ea,dx,oe,vs,P,rfl,ho,⟨T,oT,ts,h1,_⟩⟩,hX⟩:=h'
 unfold cameBackBy
 refine aW (wpAny_field ho.at_ ho.data h1 ?_)
 rw[aA (show ¬((Value.ref T==Value.none)=true) from by simp)]
 exact pq h (.inr rfl) λs' _ hT _=>hT rfl
theorem yF {M:Model}{A:Around}{X:Ex->St->Prop}{D:Led}{s:Shared}{e:Value}(h:i9 G F X D e s):cameBackBy M A F.env (fg G F X D) e s:=
 dU (Rh h) (λ_ _ x=>x.exp) λ_ _ x=>x.exp
theorem yf {M:Model}{A:Around}{X:Ex->St->Prop}{D:Led}{s:Shared}{e:Value}(ok:bK G F)(tF:A.frames=some F.frames)(h:fg G F X D e s):notedBy M A F.env (i9 G F X D) e s:=by
 unfold notedBy
 exact Ac ok tF h λs' h'=>h'
end
noncomputable def iQ (i:Nat)(v:V)(σ:St):St:={ σ with loc:=σ.loc.set i (some v) }
noncomputable def eD (F:FC)(i:Nat)(x:Str):Prop:=
 (F.names[i]?:Option Str)=some x/\(F.env.kindOf x=some .local∨(F.env.kindOf x=some .cell/\∃ca,F.env.cells.lookup x=some ca/\ca∈F.own))
section
variable {G:GC}{F:FC}{af:Nat}{σ:St}{X:Ex->St->Prop}
theorem eC (ok:bK G F){A:Around}{E:Value->Shared->Prop}{s:Shared}{D:Led}{i:Nat}{x:Str}{v:V}{c:Value}{Q:Unit->Shared->Prop}(S:Sat G F σ s D)(hs:eD F i x)(hv:br G.C D v c)
  (q:∀s' D',Sat G F (iQ i v σ) s' D'->aO F D D'->Q () s'):wpAny (bT G) A (storeName F.env x c) Q E s:=by
 obtain⟨m,Fm,hm⟩:=S.fr
 obtain⟨hx,hk|⟨hk,ca,hc,tH⟩⟩:=hs
 ·refine wpAny_storeName_local hk Fm.ns (λh' hn rq=>?_) (by rw[ok.kind];rfl)
  exact q _ D (S.store ok.nm hm hx (Fm.set hn rq) (S.news.set rq) hk hv S.gens S.os) .refl
 ·obtain⟨o,w,lN,hd⟩:=S.cells _ _ hc
  have Wf:=(S.news _ lN).2.1
  have NX:=(S.news _ lN).2.2
  refine wpAny_storeName_cell ok.kind hk hc ⟨o,(S.news _ lN).1,hd⟩ λh' Xy rq=>?_
  obtain⟨o',lC,gZ⟩:=Xy
  have N':News F.h₀ F.L h' (upd ca o' D):=λp hp=>by
   rcases ph hp with rfl|⟨hp,dT⟩
   ·exact⟨lC,Wf,NX⟩
   ·exact⟨(rq.2 _ dT).trans (S.news p hp).1,(S.news p hp).2⟩
  have N6:Fr F.h₀ F.L h' m:=⟨Fm.ns.sameBut rq (Ne.symm Wf),λb ob e=>(rq.2 b λz=>by subst z;rw[NX] at e;cases e).trans (Fm.keep b ob e),Fm.above⟩
  obtain⟨S',K'⟩:=S.Bx (s':={ s with heap:=h' }) ok hm hx hk hc gZ N6 N' hv S.gens S.os tH
  exact q _ _ S' K'
theorem q5 {Q:Fl->St->Prop}(q:Q .next σ):J G F af (bA G) (execs [] F.env) σ Q X:=λA s D hA S=>wpAny_execs_nil ⟨.next,σ,D,S,.refl,.next,q⟩
theorem oO {st:Stmt}{rest:List Stmt}{Q:Fl->St->Prop}
  (h:J G F af (bA G) (exec st F.env) σ (λfl ae=>match fl with|.next=>J G F af (bA G) (execs rest F.env) ae Q X|f=>Q f ae) X):
  J G F af (bA G) (execs (st::rest) F.env) σ Q X:=λA s D hA S=>
 wpAny_execs_cons (h.go hA S λfl f ae ak aI az aB aJ au=>by
  cases aJ with
  |next=>exact J.last au hA az aB
  |brk=>exact⟨_,ae,aI,az,aB,.brk,au⟩
  |cont=>exact⟨_,ae,aI,az,aB,.cont,au⟩
  |ret i=>exact⟨_,ae,aI,az,aB,.ret i,au⟩)
theorem wK {e:Expr}{pos:Pos}{Q:Fl->St->Prop}(h:J G F af (aE G) (eval e F.env) σ (λv ae=>Q (.ret v) ae) X):
  J G F af (bA G) (exec (.Return (some e) pos) F.env) σ Q X:=λA s D hA S=>
 wpAny_Return_some (h.go hA S λv c ae ak aI az aB aJ au=>⟨.ret v,ae,aI,az,aB,.ret aJ,au⟩)
theorem rK {pos:Pos}{Q:Fl->St->Prop}(q:Q .cont σ):J G F af (bA G) (exec (.Continue pos) F.env) σ Q X:=λA s D hA S=>
 wpAny_Continue ⟨.cont,σ,D,S,.refl,.cont,q⟩
theorem H6 {test:Expr}{body orelse:List Stmt}{pos:Pos}{Q:Fl->St->Prop}
  (h:J G F af c8 (isTrue test F.env (eval test F.env)) σ (λb ae=>if b then J G F af (bA G) (execs body F.env) ae Q X else J G F af (bA G) (execs orelse F.env) ae Q X) X):
  J G F af (bA G) (exec (.If test body orelse pos) F.env) σ Q X:=λA s D hA S=>by
 refine wpAny_If (h.go hA S λb c ae ak aI az aB aJ au=>?_)
 rw[c8] at aJ;subst aJ
 cases b<;>exact J.last au hA az aB
theorem inter (ok:bK G F):interactive F.env=false:=by unfold interactive;rw[ok.kind];rfl
theorem Cd (ok:bK G F){e:Expr}{pos:Pos}{Q:Fl->St->Prop}(hs:swapsWith e none pos.line F.env=pure false)(h:J G F af (aE G) (eval e F.env) σ (λ_ ae=>Q .next ae) X):
  J G F af (bA G) (exec (.Expr e pos) F.env) σ Q X:=λA s D hA S=>
 wpAny_Expr_any (h.go hA S λv c ae ak aI az aB aJ au=>⟨.next,ae,aI,az,aB,.next,au⟩) (inter ok) hs
theorem nP (ok:bK G F){x:Str}{i:Nat}{pos' pos:Pos}{value:Expr}{Q:Fl->St->Prop}(hs:swapsWith value (some (.Name x pos')) pos.line F.env=pure false)(rk:eD F i x)
  (h:J G F af (aE G) (eval value F.env) σ (λv ae=>Q .next (iQ i v ae)) X):J G F af (bA G) (exec (.Assign [.Name x pos'] value pos) F.env) σ Q X:=λA s D hA S=>
 wpAny_Assign_Name (h.go hA S λv c ae ak aI az aB aJ au=>eC ok az rk aJ λs' D' S' K'=>⟨.next,_,D',S',aB.trans K',.next,au⟩) hs
theorem rS (ok:bK G F){x:Str}{i:Nat}{GU:V}{pos' pos:Pos}{op:Operator}{value:Expr}{Q:Fl->St->Prop}(rk:eD F i x)(hv:(σ.loc[i]?:Option (Option V))=some (some GU))
  (hd:(x==("__debug__":Str))=false) (xC:(x==("__classdict__":Str))=false)
  (h:J G F af (aE G) (eval value F.env) σ (λv ae=>z7 G F af (inplaceOp op) GU v ae (λr ar=>Q .next (iQ i r ar)) X) X):
  J G F af (bA G) (exec (.AugAssign (.Name x pos') op value pos) F.env) σ Q X:=λA s D hA S=>by
 refine wpAny_AugAssign_Name ?_
 obtain⟨m,Fm,hl⟩:=S.fr
 obtain⟨Pl,h1,h2⟩:=hl i x GU rk.1 hv
 have rest:wpAny (bT G) A (eval value F.env) (λv aT=>wpAny (bT G) A (inplaceOp op Pl v)
   (λr bQ=>wpAny (bT G) A (storeName F.env x r) (λ_=>j4 G F (bA G) Q D .next) (fg G F X D) bQ) (fg G F X D) aT) (fg G F X D) s:=
  h.go hA S λv c ae ak aI az aB aJ au=>dU (au A ak aI Pl c hA az (br.keep h2 aB) aJ) (λr aT ⟨pG,ar,bb,aG,aU,bL,aS⟩=>
   eC ok aG rk bL λs' D' S' K'=>⟨.next,_,D',S',(aB.trans aU).trans K',.next,aS⟩) λ_ _ e=>e.keep aB
 rcases h1 with⟨hk,hm⟩|⟨ca,o,hk|hk,h3,h4,h6⟩
 ·exact wpAny_loadName_local ok.kind hk Fm.ns hm rest
 ·exact wpAny_loadName_cell ok.kind hk h3 ⟨o,(S.news _ h4).1,h6⟩ rest
 ·exact wpAny_loadName_free ok.kind hk h3 ⟨o,(S.news _ h4).1,h6⟩ rest xC
noncomputable def attrOk (K:Frag)(c:Addr)(x:Str):Bool:=plainGet K c x&&hasDictIn K c&&eJ (findIn K (.ref c) x) (noGet K)
noncomputable def setOk (K:Frag)(c:Addr)(x:Str):Bool:=findIn K (.ref c) "__setattr__"==some (some (.builtin "object.__setattr__"))&&plainOver K c&&takerIn K c x==some none&&hasDictIn K c
theorem br.handed {C:Frag}{D:Led}{v:V}{c:Value}(h:br C D v c):handedIn c=true:=by cases h<;>rfl
theorem Cz (ok:bK G F){A:Around}{E:Value->Shared->Prop}{s:Shared}{D:Led}{a c dx:Addr}{fs:List (Str×V)}{x:Str}{v:V}{expr:Bool}{Q:Value->Shared->Prop}(S:Sat G F σ s D)
  (hl:σ.aa a=some (.inst c dx fs)) (hx:hU x fs=some v) (kG:attrOk G.K c x=true) (q:∀y,br G.C D v y->Q y { s with toks:=s.toks+1 }):wpAny (bT G) A (getAttr (.ref a) x expr) Q E s:=by
 obtain⟨es,n,h1,h2,h3,_⟩:=S.aa _ _ hl
 obtain⟨y,hy,iy⟩:=h3.get hx
 obtain⟨m,Fm,_⟩:=S.fr
 have kG:=cM kG
 obtain⟨attr,e,k3⟩:=cf kG.2.2
 exact get_own Fm ok.X (InstAt.of_news S.news h1 h2) kG.1 kG.2.1 e k3 hy iy.handed (q y iy)
theorem EX (ok:bK G F){A:Around}{E:Value->Shared->Prop}{s:Shared}{D:Led}{a c dx:Addr}{fs:List (Str×V)}{x:Str}{v:V}{y:Value}{Q:Unit->Shared->Prop}(S:Sat G F σ s D)
  (hl:σ.aa a=some (.inst c dx fs)) (kG:setOk G.K c x=true) (hv:br G.C D v y) (hz:(gx x v fs).length<=500)
  (q:∀s' D',Sat G F { σ with aa:=put σ.aa a (.inst c dx (gx x v fs)) } s' D'->aO F D D'->Q () s'):wpAny (bT G) A (setAttr (.ref a) x y) Q E s:=by
 obtain⟨es,n,h1,h2,h3,_⟩:=S.aa _ _ hl
 obtain⟨m,Fm,hm⟩:=S.fr
 have kG:=dF kG
 have hp:=h3.put (hs:=PyData.keyHash G.w.params x) (u:=s.toks+1) (x:=x) hv
 refine set_dict Fm ok.X S.news (InstAt.of_news S.news h1 h2) rfl (kO kG.1) kG.2.1 (kO kG.2.2.1) kG.2.2.2 h3.uu rfl (Upd.nf S.nd h2) (by rw[hp.length];exact a10 0x1893d13c0b127d2381 tt hz) λh' F' N'=>?_
 obtain⟨S',K'⟩:=S.Hl (s':={ s with heap:=h',toks:=s.toks+2 }) hl hm F' N' hp hz S.gens S.os
 exact q _ _ S' K'
noncomputable def R9 (G:GC)(F:FC)(Q:Fl->St->Prop)(X:Ex->St->Prop)(D₀:Led)(r:Result)(s:Shared):Prop:=match r with
 |.ok f=>j4 G F (bA G) Q D₀ f s
 |.error e=>i9 G F X D₀ e s
noncomputable def nu (G:GC)(F:FC)(af:Nat)(test:Expr)(body:List Stmt)(σ:St)(Q:Fl->St->Prop)(X:Ex->St->Prop):Prop:=
 ∀A s D D₀,iW F af A->Sat G F σ s D->aO F D₀ D->codeAny (bT G) A (.whileLoop test body [] F.env) (R9 G F Q X D₀) s
theorem yJ (ok:bK G F){test:Expr}{body:List Stmt}{pos:Pos}{Q:Fl->St->Prop}(h:nu G F af test body σ Q X):J G F af (bA G) (exec (.While test body [] pos) F.env) σ Q X:=λA s D hA S=>
 wpAny_While (codeAny_mono (h A s D D hA S .refl) λr s' hr=>by
  cases r with
  |ok f=>exact hr
  |error e=>exact yF hr)
noncomputable def Af (R:St->Prop)(Q:Fl->St->Prop)(fl:Fl)(σ:St):Prop:=match fl with
 |.next=>R σ
 |.cont=>R σ
 |.brk=>Q .next σ
 |.ret v=>Q (.ret v) σ
theorem yI (ok:bK G F){test:Expr}{body:List Stmt}{Q:Fl->St->Prop}
  (h:J G F af c8 (isTrue test F.env (eval test F.env)) σ (λb ae=>if b then J G F af (bA G) (execs body F.env) ae (Af (λar=>nu G F af test body ar Q X) Q) X else Q .next ae) X):nu G F af test body σ Q X:=λA s D D₀ hA S K=>by
 have hn:∀e s',fg G F X D₀ e s'->notedBy (bT G) A F.env (λe s'=>R9 G F Q X D₀ (.error e) s') e s':=λe s' h'=>yf ok hA.frames h'
 refine codeAny_of_tree ?_
 rw[Around.under_of_weight (A:=A) (c:=.whileLoop test body [] F.env) rfl]
 show wpAny _ A ((whileTurn test body [] F.env).onRaise (λx=>do noteFrame x F.env;theTreesLotGoes x)) _ _ s
 refine wpAny_noted ?_
 simp only[whileTurn]
 refine aW (dU (h A s D hA S) (λb ak hb=>?_) λe s' he=>hn e s' (he.keep K))
 obtain⟨b',ae,aI,az,aB,aJ,au⟩:=hb
 rw[c8] at aJ;subst aJ
 cases b' with
 |false=>
  simp only[Bool.false_eq_true,if_false] at au ⊢
  refine aW (wpAny_execs_nil (cC ?_))
  exact⟨.next,ae,aI,az,K.trans aB,.next,au⟩
 |true=>
  simp only[if_true] at au ⊢
  refine aW (dU (au A ak aI hA az) (λf aT hf=>?_) λe s' he=>hn e s' (he.keep (K.trans aB)))
  obtain⟨fl,ar,bb,aG,aU,bL,aS⟩:=hf
  have bO:=(K.trans aB).trans aU
  cases bL with
  |next=>exact cC ⟨rfl,aS A aT bb D₀ hA aG bO⟩
  |brk=>exact cC ⟨.next,ar,bb,aG,bO,.next,aS⟩
  |cont=>exact cC ⟨rfl,aS A aT bb D₀ hA aG bO⟩
  |ret i=>exact cC ⟨_,ar,bb,aG,bO,.ret i,aS⟩
end
inductive kh (C:Frag)(D:Led):List (Str×V)->List (Str×Value)->Prop
 |nil:kh C D [] []
 |cons {x:Str} {v:V} {c:Value} {kw:List (Str×V)} {ks:List (Str×Value)}:br C D v c->kh C D kw ks->kh C D ((x,v)::kw) ((x,c)::ks)
noncomputable def Tn (P E:Value->Shared->Prop)(r:Result)(s':Shared):Prop:=match r with
 |.ok (.ret v)=>P v s'
 |.ok _=>False
 |.error e=>E e s'
theorem Tn.is {P E:Value->Shared->Prop}{r:Result}{s':Shared}(h:Tn P E r s'):(∃v,r=.ok (.ret v)/\P v s')∨∃e,r=.error e/\E e s':=by
 cases r with
 |error e=>exact .inr ⟨e,rfl,h⟩
 |ok fl=>
  cases fl with
  |ret v=>exact .inl ⟨v,rfl,h⟩
  |_=>exact h.elim
noncomputable def b5 (G:GC)(H:Option Value->Prop)(af:Nat)(f:Addr)(vs:List V)(kw:List (Str×V))(aa:ag)(Q:V->ag->Prop)(X:Ex->ag->Prop):Prop:=
 ∀(F:FC) (σ:St) (A:Around) (s:Shared) (D:Led) (cs:List Value) (ks:List (Str×Value)),bK G F->H F.hd->σ.aa=aa->iW F af A->Sat G F σ s D->aY G.C D vs cs->kh G.C D kw ks->
  codeAny (bT G) A (.call (.ref f) ⟨cs,ks⟩) (Tn (j4 G F (aE G) (λv cn=>cn.loc=σ.loc/\Q v cn.aa) D) (fg G F (λex cn=>cn.loc=σ.loc/\X ex cn.aa) D)) s
theorem b5.lift {G:GC}{H:Option Value->Prop}{af l':Nat}{f:Addr}{vs:List V}{kw:List (Str×V)}{aa:ag}{Q:V->ag->Prop}{X:Ex->ag->Prop}(h:b5 G H af f vs kw aa Q X)(k:af<=l'):
  b5 G H l' f vs kw aa Q X:=λF σ A s D cs ks ok hh hl hA=>h F σ A s D cs ks ok hh hl (hA.mono k)
theorem b5.here {G:GC}{H:Option Value->Prop}{af:Nat}{f:Addr}{vs:List V}{kw:List (Str×V)}{F:FC}{σ:St}{Q:V->St->Prop}{X:Ex->St->Prop}(h:b5 G H af f vs kw σ.aa (λv led'=>Q v ⟨σ.loc,led'⟩) (λex led'=>X ex ⟨σ.loc,led'⟩))
  {A:Around} {s:Shared} {D D₀:Led} {cs:List Value} {ks:List (Str×Value)} (ok:bK G F) (hh:H F.hd) (hA:iW F af A) (S:Sat G F σ s D) (K:aO F D₀ D) (i:aY G.C D vs cs) (k:kh G.C D kw ks):
  wpAny (bT G) A (call (.ref f) cs ks) (j4 G F (aE G) Q D₀) (fg G F X D₀) s:=by
 refine wpAny_call (codeAny_mono (h F σ A s D cs ks ok hh rfl hA S i k) λr s' z=>?_)
 rcases z.is with⟨v,rfl,⟨u,ar,bb,aG,aU,bL,iT,aS⟩⟩|⟨e,rfl,⟨ex,ar,bb,aG,aU,bL,iT,aS⟩⟩
 ·exact⟨u,ar,bb,aG,K.trans aU,bL,by rw[←iT] at aS;exact aS⟩
 ·exact⟨ex,ar,bb,aG,K.trans aU,bL,by rw[←iT] at aS;exact aS⟩
theorem xm {kindOf:Str->Option NameKind}{x:Str}:∀{l:List (Str×Value)}{m:Str->Option Value},(∀p∈l,p.1≠x)->bindL kindOf l m x=m x:=by
 intro z_
 induction z_ with
 |nil=>
  intro _ _
  exact rfl
 |cons A8 r ih=>
  intro m h
  obtain⟨n,v⟩:=A8
  unfold bindL
  rw[ih λp hp=>h p (.tail _ hp)]
  split
  ·have:x≠n:=λe=>h (n,v) (.head _) e.symm
   simp[this]
  ·rfl
theorem Cv {kindOf:Str->Option NameKind}{x:Str}{v:Value}(hk:kindOf x=some .local):∀{l:List (Str×Value)}{m:Str->Option Value},(l.map (·.1)).Nodup->(x,v)∈l->bindL kindOf l m x=some v:=by
 intro l
 induction l with
 |nil=>intro _ _ h;cases h
 |cons p r ih=>
  intro m hn h
  obtain⟨n,u⟩:=p
  rw[List.map_cons,List.nodup_cons] at hn
  unfold bindL
  rcases List.mem_cons.mp h with h|h
  ·cases h
   rw[xm λp hp e=>hn.1 (by rw[←e];exact List.mem_map_of_mem (f:=(·.1)) hp),aL hk]
   simp
  ·exact ih hn.2 h
theorem xn {kindOf:Str->Option NameKind}{x:Str}:∀{l:List (Str×Value)}{m:Str->Option Value},(∀p∈l,p.1≠x)->bindC kindOf l m x=m x:=by
 intro z_
 induction z_ with
 |nil=>
  intro _ _
  exact rfl
 |cons A8 r ih=>
  intro m h
  obtain⟨n,v⟩:=A8
  unfold bindC
  rw[ih λp hp=>h p (.tail _ hp)]
  split
  ·rfl
  ·have:x≠n:=λe=>h (n,v) (.head _) e.symm
   simp[this]
theorem Cw {kindOf:Str->Option NameKind}{x:Str}{v:Value}(hk:kindOf x≠some .local):∀{l:List (Str×Value)}{m:Str->Option Value},(l.map (·.1)).Nodup->(x,v)∈l->bindC kindOf l m x=some v:=by
 intro l
 induction l with
 |nil=>intro _ _ h;cases h
 |cons p r ih=>
  intro m hn h
  obtain⟨n,u⟩:=p
  rw[List.map_cons,List.nodup_cons] at hn
  unfold bindC
  rcases List.mem_cons.mp h with h|h
  ·cases h
   rw[xn λp hp e=>hn.1 (by rw[←e];exact List.mem_map_of_mem (f:=(·.1)) hp),aA hk]
   simp
  ·exact ih hn.2 h
theorem zip_get {xs:List Str}{cs:List Value}{i:Nat}{x:Str}{c:Value}(h:xs[i]?=some x)(h':cs[i]?=some c):(x,c)∈xs.zip cs:=List.mem_of_getElem? (List.getElem?_zip_eq_some.mpr ⟨h,h'⟩)
theorem Hj {xs:List Str}{cs:List Value}(h:xs.length=cs.length):(xs.zip cs).map (·.1)=xs:=List.map_fst_zip (Nat.le_of_eq h)
theorem QW {a l c:Nat}(h:a+20*(l+1)<c):a+3+20*l<c:=by
 refine Nat.lt_of_le_of_lt ?_ h
 rw[Nat.add_assoc,Nat.mul_succ,Nat.add_comm 3]
 exact Nat.add_le_add_left (Nat.add_le_add_left (by decide) _) _
theorem MK {a l c:Nat}(h:a+(l+1)<c):a+1+l<c:=by rw[Nat.add_assoc,Nat.add_comm 1];exact h
structure Lr (G:GC)(f:Addr)(fd:FuncData)(body:List Stmt)(names:List Str)(j8:Nat):Prop where
 at_:∃o,G.K.lookup f=some o/\o.data=.func fd
 body:fd.body=.stmts body
 glob:fd.globals=mainGlobals
 N3:fd.builtins=builtinsNs
 uY:fd.closure=[]
 co:fd.scope.isCoroutine=false
 gen:fd.scope.isGenerator=false
 kind:fd.scope.kind=.function
 code:codeIn G.K fd.code fd.qualname=true
 nm:names.Nodup
 na:j8<=names.length
 kinds:∀x∈names.take j8,fd.scope.names.lookup x=some .local∨(fd.scope.names.lookup x=some .cell/\x∈(cellsFrom 0 fd.scope.names []).map (·.1))
 Nt:((cellsFrom 0 fd.scope.names []).map (·.1)).Nodup
abbrev pS (fd:FuncData)(L f:Addr):Env:=newEnv fd.scope L mainGlobals (cellsFrom (L+1) fd.scope.names []) (fd.qualname++".<locals>.") (some f) fd.code none builtinsNs
noncomputable def Rr (G:GC)(H:Option Value->Prop)(af:Nat)(f:Addr)(fd:FuncData)(body:List Stmt)(names:List Str)(vs:List V)(aa:ag)(Q:V->ag->Prop)(X:Ex->ag->Prop):Prop:=
 ∀(F':FC) (L:Addr),bK G F'->H F'.hd->F'.names=names->F'.env=pS fd L f->F'.own=(cellsFrom (L+1) fd.scope.names []).map (·.2)->
  J G F' af (bA G) (execs body F'.env) ⟨vs.map some++List.replicate (names.length-vs.length) none,aa⟩ (λfl cn=>match fl with|.ret v=>Q v cn.aa|.next=>Q .none cn.aa|_=>False) (λex cn=>X ex cn.aa)
theorem fe {names:List (Str×NameKind)}{x:Str}(h:x∈(cellsFrom 0 names []).map (·.1))(n:Nat):((cellsFrom n names []).lookup x).isSome=true:=by
 rw[cellsFrom_names names 0 n [] [] rfl] at h
 obtain⟨p,hp,rfl⟩:=List.mem_map.mp h
 generalize cellsFrom n names []=l at hp
 induction l with
 |nil=>cases hp
 |cons q r ih=>
  rw[List.lookup_cons]
  split
  ·rfl
  ·rename_i e
   rcases List.mem_cons.mp hp with rfl|hp
   ·simp at e
   ·exact ih hp
theorem Sat.hidden {G:GC}{F:FC}{σ:St}{s:Shared}{D:Led}(S:Sat G F σ s D):F.h₀.StaysIn (hideAll s.heap (F.L::D.map (·.1))):=λb o e=>by
 obtain⟨m,Fm,_⟩:=S.fr
 refine hideAll_get _ (Fm.keep b o e) λhm=>?_
 rcases List.mem_cons.mp hm with rfl|hm
 ·rw[S.DM] at e;cases e
 ·obtain⟨p,hp,rfl⟩:=List.mem_map.mp hm
  rw[(S.news p hp).2.2] at e;cases e
theorem pop {G:GC}{F F':FC}{σ ru:St}{s jD:Shared}{D aI bb:Led}{oL:Obj}(S:Sat G F σ s D)(hL:s.heap.get? F.L=some oL)(stays:F.h₀.StaysIn F'.h₀)(f9:F'.fo=(F.L,oL)::F.fo)
  (m9:∀p∈D,p.1∉F'.own) (inD:∀p∈D,p∈aI) (aG:Sat G F' ru jD bb) (aU:aO F' aI bb):
  ∃cU,Sat G F ⟨σ.loc,ru.aa⟩ jD cU/\aO F D cU/\(∀p,p∈cU↔p∈bb/\p.1≠F.L)/\(∀v c,br G.C bb v c->br G.C cU v c)/\(∀fs es,b9 G.C bb fs es->b9 G.C cU fs es)/\∃sl,(F.L,{ oL with slots:=sl })∈bb:=by
 obtain⟨m,Fm,hm⟩:=S.fr
 obtain⟨Y4,R0,R1,Wl,z4,Tb⟩:=id Fm.ns
 rw[hL] at Wl;cases Wl
 have NY:∀p∈D,p.1≠F.L:=λp hp=>(S.news p hp).2.1
 obtain⟨Sj,lT⟩:=aG.fo (F.L,oL) (by rw[f9];exact .head _)
 dsimp only at lT
 have kH:∀{a:Addr} {o:Obj},(a,o)∈bb->(∀es n,o.data≠.dict es n)->a≠F.L:=λ{a o} h hn e=>by
  subst e
  exact hn R0 R1 (by rw[bq aG.nd h lT];exact z4)
 have dI:∀p,p∈bb.filter (λp=>decide (p.1≠F.L))↔p∈bb/\p.1≠F.L:=λp=>by simp[List.mem_filter]
 have xX:∀a o,(a,o)∈bb->isTup o->(a,o)∈bb.filter (λp=>decide (p.1≠F.L)):=λa o h ht=>(dI _).mpr ⟨h,kH h λes n e=>by obtain⟨_,_,_,q⟩:=ht;rw[q] at e;cases e⟩
 have HY:∀p∈D,j3 p.2=true->p∈bb:=λp hp hf=>aU p (inD p hp) hf λ_=>m9 p hp
 have uo:∀p∈D,j3 p.2=true->p∈bb.filter (λp=>decide (p.1≠F.L)):=λp hp hf=>(dI _).mpr ⟨HY p hp hf,NY p hp⟩
 obtain⟨T2,DQ,_⟩:=aG.fr
 have Ro:jD.heap.Ns F.L m:=⟨_,R0,R1,(aG.news _ lT).1,z4,Tb⟩
 refine⟨_,⟨⟨m,⟨Ro,λb o e=>DQ.keep b o (stays b o e),Fm.above⟩,hm.keep λp hp ht=>uo p hp (m7 ht)⟩,λp hp=>?_,?_,λa o e=>?_,aG.inj,λp hp=>?_,aG.gens,aG.os,λy ca e=>?_⟩,λp hp hf _=>uo p hp hf,dI,λv c h=>h.mono xX,λfs es h=>h.mono xX,Sj,lT⟩
 ·obtain⟨h1,h2⟩:=(dI p).mp hp
  refine⟨(aG.news p h1).1,h2,?_⟩
  cases q:F.h₀.get? p.1 with
  |none=>rfl
  |some o=>have:=stays _ _ q;rw[(aG.news p h1).2.2] at this;cases this
 ·exact aG.nd.sublist (List.filter_sublist.map _)
 ·exact(aG.aa a o e).yi xX (λ_ _ h=>(dI _).mpr ⟨h,kH h (by simp)⟩) (λ_ _ h=>(dI _).mpr ⟨h,kH h (by simp)⟩) (λ_ _ _ h=>(dI _).mpr ⟨h,kH h (by simp)⟩)
   λd es n _ h4 h2=>⟨(dI _).mpr ⟨h2,Ne.symm (h4 (F.L,oL) (by rw[f9];exact .head _))⟩,λp hp=>h4 p (by rw[f9];exact .tail _ hp)⟩
 ·obtain⟨sl,h⟩:=aG.fo p (by rw[f9];exact .tail _ hp)
  obtain⟨VD,h'⟩:=S.fo p hp
  have Wo:=NY _ h'
  exact⟨sl,(dI _).mpr ⟨h,Wo⟩⟩
 ·obtain⟨o,w,h1,h2⟩:=S.cells y ca e
  exact⟨o,w,uo _ h1 (wc ⟨_,h2⟩),h2⟩
theorem Jk {G:GC}{F F':FC}{s:Shared}{D bb cU:Led}{oL:Obj}{sl:Array (Option Value)}{h:Heap}{aa:ag}{ex:Ex}{ea dx:Addr}{oe:Obj}{ws:Array Value}{P P₀:Addr}{fl:Value}{T:Addr}{oT:Obj}{ts:Array Value}
  (stays:F.h₀.StaysIn F'.h₀) (f9:F'.fo=(F.L,oL)::F.fo) (lT:(F.L,({ oL with slots:=sl }:Obj))∈bb) (dI:∀p,p∈cU↔p∈bb/\p.1≠F.L) (IX:∀fs es,b9 G.C bb fs es->b9 G.C cU fs es)
  (ho:xy G F' bb h aa ex ea dx oe ws P) (DE:F.env.frame=some P₀) (h1:ws[1]?=some (.ref T)) (hT:h.get? T=some oT) (uW:oT.data=.fields ts) (r3:∀p∈bb,p.1≠T) (rm:F'.h₀.get? T=none) (pF:T≠ea) (h3:ts[3]?=some fl)
  (X2:fl=.none∨fl=rawInt P₀):xy G F cU h aa ex ea dx oe ws P₀/\(fl=rawInt P₀->yG F cU h ea P₀ ws):=by
 have base:∀{b:Addr},F'.h₀.get? b=none->F.h₀.get? b=none:=λ{b} q=>by
  cases e:F.h₀.get? b with
  |none=>rfl
  |some o=>have:=stays _ _ e;rw[q] at this;cases this
 obtain⟨es,n,f1,f2⟩:=ho.fs
 have Ja:∀p∈cU,p.1≠T:=λp hp=>r3 p ((dI p).mp hp).1
 have tL:T≠F.L:=λe=>r3 _ lT e.symm
 refine⟨⟨DE,ho.at_,ho.cls,ho.dict,ho.data,ho.sz,⟨es,n,IX _ _ f1,(dI _).mpr ⟨f2,Ne.symm (ho.fo (F.L,oL) (by rw[f9];exact .head _))⟩⟩,λp hp=>ho.fo p (by rw[f9];exact .tail _ hp),ho.aa,λp hp=>ho.out p ((dI p).mp hp).1,base ho.base,
   λe=>ho.out _ lT e.symm,.inr ⟨T,oT,ts,h1,hT,uW,Ja,base rm,tL,pF,?_⟩,ho.ctx,ho.sl⟩,λe=>⟨T,oT,ts,h1,hT,uW,Ja,base rm,tL,pF,e▸h3⟩⟩
 rcases X2 with e|e
 ·exact .inl (e▸h3)
 ·exact .inr (e▸h3)
theorem bK.place {G:GC}{F:FC}(ok:bK G F):∃P₀,F.env.frame=some P₀:=by
 obtain⟨e,r,hr,he⟩:=ok.top
 obtain⟨_,P₀,h1,_⟩:=ok.each e (hr▸.head _)
 exact⟨P₀,he▸h1⟩
section
variable {G:GC}{f:Addr}{fd:FuncData}{body:List Stmt}{names:List Str}{vs:List V}{af:Nat}{aa:ag}{Q:V->ag->Prop}{X:Ex->ag->Prop}{H:Option Value->Prop}
theorem bK.keeps {F:FC}(ok:bK G F){h:Heap}(k:F.h₀.StaysIn h):G.K.In h/\G.C.In h/\Top G.p G.loose G.xI G.mg G.mb h:=
 ⟨ok.X.keeps k,λa o e=>k a o (ok.XC a o e),ok.T.keeps k⟩
noncomputable def yH (G:GC)(fd:FuncData)(names:List Str)(us:List V)(kw:List (Str×V))(vs:List V):Prop:=
 ∀s D cs ks,G.K.In s.heap->aY G.C D us cs->kh G.C D kw ks->∃Nr,aY G.C D vs Nr/\BindsTo s fd ⟨cs,ks⟩ ((names.take vs.length).zip Nr)
theorem tq {cm:Str->Option Value}{cs:List (Str×Addr)}{cells:List (Addr×Obj)}(Y:CellsAre cm cs cells):cells.map (·.1)=cs.map (·.2):=by
 induction Y with
 |nil=>rfl
 |cons _ _ ih=>rw[List.map_cons,List.map_cons,ih]
theorem wu {cm:Str->Option Value}{cs:List (Str×Addr)}{cells:List (Addr×Obj)}(Y:CellsAre cm cs cells){n:Str}{c:Addr}(h:(n,c)∈cs):∃o,(c,o)∈cells/\o.data=.cell (cm n):=by
 induction Y with
 |nil=>cases h
 |cons hd _ ih=>
  rcases List.mem_cons.mp h with h|h
  ·cases h;exact⟨_,.head _,hd⟩
  ·obtain⟨o,h1,h2⟩:=ih h;exact⟨o,.tail _ h1,h2⟩
theorem Na {vs:List V}{n i:Nat}{v:V}(h:(vs.map some++List.replicate n (none:Option V))[i]?=some (some v)):i<vs.length/\vs[i]?=some v:=by
 rcases Nat.lt_or_ge i vs.length with k|k
 ·rw[List.getElem?_append_left (by rw[List.length_map];exact k),List.getElem?_map] at h
  obtain⟨u,e1,e2⟩:=Option.map_eq_some_iff.mp h
  exact⟨k,Option.some.inj e2▸e1⟩
 ·rw[List.getElem?_append_right (by rw[List.length_map];exact k),List.getElem?_replicate] at h
  split at h<;>cases h
theorem wd {us:List Value}{ks:List (Str×Value)}{cs:List Value}{s:Shared}{A:Around}{D₀:Led}{fo₀:List (Addr×Obj)}{fr₀:List Env}{hd:Option Value}{R:Result->Shared->Prop}
  (iC:Lr G f fd body names vs.length) (Gv:aY G.C D₀ vs cs) (vw:BindsTo s fd ⟨us,ks⟩ ((names.take vs.length).zip cs))
  (hX:G.K.In (hideAll s.heap (D₀.map (·.1)))) (hC:G.C.In (hideAll s.heap (D₀.map (·.1)))) (hT:Top G.p G.loose G.xI G.mg G.mb (hideAll s.heap (D₀.map (·.1))))
  (Be:∀p∈D₀,s.heap.get? p.1=some p.2) (XK:(D₀.map (·.1)).Nodup) (xN:∀a o,aa a=some o->gE G.C fo₀ D₀ a o) (Ut:∀a b d o o',aa a=some o->aa b=some o'->o.dx=some d->o'.dx=some d->a=b)
  (f9:∀p∈fo₀,∃sl,(p.1,{ p.2 with slots:=sl })∈D₀) (Uu:∀p∈fo₀,(∃es n,p.2.data=.dict es n)/\j3 p.2=false) (each:∀e∈fr₀,e.scope.kind≠.module/\∃P,e.frame=some P/\∃o,(P,o)∈fo₀)
  (hg:s.gens=#[]) (ho:s.os=G.os) (tF:A.frames=some fr₀) (RT:A.depth+(af+1)<recursionLimit) (SN:A.units+20*(af+1)<cLine) (Gu:A.handled=hd)
  (k:∀(F':FC) (L:Addr) (ak:Shared) (aI:Led),bK G F'->F'.hd=hd->F'.names=names->F'.env=pS fd L f->F'.own=(cellsFrom (L+1) fd.scope.names []).map (·.2)->F'.fo=fo₀->F'.h₀=hideAll s.heap (D₀.map (·.1))->
   (∀p∈D₀,p.1∉F'.own)->(∀p∈D₀,p∈aI)->iW F' af (A.deeper F'.env)->Sat G F' ⟨vs.map some++List.replicate (names.length-vs.length) none,aa⟩ ak aI->
   wpAny (bT G) (A.deeper F'.env) (execs body F'.env) (λfl s'=>R (.ok (.ret (match fl with|.ret v=>v|_=>.none))) s')
    (λe s'=>wpAny (bT G) (A.deeper F'.env) (leaving F'.env e) (λ_ jD=>R (.error e) jD) (λe' jD=>R (.error e') jD) s') ak):
  codeAny (bT G) A (.call (.ref f) ⟨us,ks⟩) R s:=by
 obtain⟨Yu,X4,X3⟩:=iC.at_
 have hlen:=Gv.length
 have Ux:(names.take vs.length).length=cs.length:=by rw[List.length_take,hlen];have:=iC.na;omega
 have up:∀b o,(hideAll s.heap (D₀.map (·.1))).get? b=some o->s.heap.get? b=some o:=λb o e=>of_hideAll _ e
 have o5:s.heap.get? f=some Yu:=up _ _ (hX _ _ X4)
 refine codeAny_call_function (by exact a20 0x1913d13c0b227a27ad5a54101 tt RT) o5 X3 iC.co iC.gen iC.body (codeRec_of (λa o e=>up a o (hX a o e)) iC.code) (vw _ _ _ _ ?_)
 rw[iC.uY,iC.glob,iC.N3]
 have N9:=Hj Ux
 have Vh:(((names.take vs.length).zip cs).map (·.1)).Nodup:=by rw[N9];exact iC.nm.sublist (List.take_sublist _ _)
 refine wpAny_newFunctionEnv_cells iC.kind (λx hx=>?_) λenv he ak x=>?_
 ·have:x.1∈names.take vs.length:=by rw[←N9];exact List.mem_map_of_mem (f:=(·.1)) hx
  rcases iC.kinds _ this with q|⟨q,r⟩
  ·exact .inl q
  ·exact .inr ⟨q,fe r _⟩
 subst he
 obtain⟨aN,tk,rfl⟩:=x.toInCall.same
 have l9:∀b o,s.heap.get? b=some o->aN.get? b=some o:=x.toInCall.keep
 refine⟨(hT.nolimit.keeps up).keeps l9,codeAny_func ?_⟩
 let L':=s.heap.objs.size
 let cl:=cellsFrom (L'+1) fd.scope.names []
 let F':FC:=⟨hideAll s.heap (D₀.map (·.1)),pS fd L' f,pS fd L' f::fr₀,fo₀,cl.map (·.2),hd,names⟩
 have T1:(cl.map (·.1)).Nodup:=by
  show((cellsFrom (L'+1) fd.scope.names []).map (·.1)).Nodup
  rw[cellsFrom_names fd.scope.names (L'+1) 0 [] [] rfl];exact iC.Nt
 have CM:bK G F':=by
  refine⟨hX,hC,hT,iC.kind,rfl,rfl,⟨_,_,rfl,rfl⟩,λe he=>?_,Uu,iC.nm,?_⟩
  ·rcases List.mem_cons.mp he with rfl|he
   ·exact⟨by show fd.scope.kind≠_;rw[iC.kind];decide,L',rfl,.inl rfl⟩
   ·obtain⟨k,P,h1,h2⟩:=each e he
    exact⟨k,P,h1,.inr h2⟩
  ·have:=x.apart
   rw[List.nodup_iff_pairwise_ne,List.pairwise_map]
   exact this
 obtain⟨cells,NC,Y⟩:=Cl.news (h:=aN) (h₀:=s.heap) (L:=L') (cm:=bindC (pS fd L' f).kindOf ((names.take vs.length).zip cs) λ_=>none) (cs:=cl) (eR _) λn c hm=>⟨x.cell n c (lookup_of_mem_nodup T1 hm),x.above n c hm⟩
 let aI:Led:=cells++D₀
 have Iz:∀p∈cells,s.heap.objs.size<p.1:=λp hp=>by
  have:p.1∈cl.map (·.2):=by rw[←tq Y];exact List.mem_map_of_mem (f:=(·.1)) hp
  obtain⟨q,hq,e⟩:=List.mem_map.mp this
  rw[←e];exact x.above q.1 q.2 hq
 have oldLt:∀p∈D₀,p.1<s.heap.objs.size:=λp hp=>Heap.lt_size (Be p hp)
 have Qi:(aI.map (·.1)).Nodup:=by
  show((cells++D₀).map (·.1)).Nodup
  rw[List.map_append,List.nodup_append]
  refine⟨by rw[tq Y];exact CM.Nt,XK,λa ha b hb e=>?_⟩
  obtain⟨p,hp,rfl⟩:=List.mem_map.mp ha
  obtain⟨q,hq,rfl⟩:=List.mem_map.mp hb
  exact Nat.lt_asymm (oldLt q hq) (e▸Iz p hp)
 have Vb:News F'.h₀ F'.L aN aI:=λp hp=>by
  rcases List.mem_append.mp hp with hp|hp
  ·refine⟨(NC p hp).1,(NC p hp).2.1,?_⟩
   cases q:F'.h₀.get? p.1 with
   |none=>rfl
   |some o=>have:=of_hideAll _ q;rw[(NC p hp).2.2] at this;cases this
  ·exact⟨l9 _ _ (Be p hp),Nat.ne_of_lt (oldLt p hp),hideAll_none _ (List.mem_map_of_mem (f:=(·.1)) hp)⟩
 have Rp:Fr F'.h₀ F'.L aN (bindL (pS fd L' f).kindOf ((names.take vs.length).zip cs) λ_=>none):=
  ⟨x.toInCall.ns,λb o e=>l9 b o (of_hideAll _ e),Nat.le_of_eq (hideAll_size _ _)⟩
 have inD:∀p∈D₀,p∈aI:=λp hp=>List.mem_append_right _ hp
 have I8:∀a o,(a,o)∈D₀->isTup o->(a,o)∈aI:=λa o h _=>inD _ h
 have az:Sat G F' ⟨vs.map some++List.replicate (names.length-vs.length) none,aa⟩ { s with heap:=aN,toks:=tk } aI:=by
  refine⟨⟨_,Rp,λi y v e1 e2=>?_⟩,Vb,Qi,λa o e=>(xN a o e).move I8 (λ_ _ h=>inD _ h) (λ_ _ h=>inD _ h) (λ_ _ _ h=>inD _ h) λd es n _ _ h2=>inD _ h2,Ut,λp hp=>?_,hg,ho,λy ca e=>?_⟩
  ·obtain⟨hi,Yz⟩:=Na e2
   obtain⟨c,hc,ic⟩:=Gv.get Yz
   have hy:(names.take vs.length)[i]?=some y:=by rw[List.getElem?_take,aL hi];exact e1
   have lN:=zip_get hy hc
   refine⟨c,?_,ic.mono I8⟩
   have Xv:y∈names.take vs.length:=List.mem_of_getElem? hy
   rcases iC.kinds y Xv with q|⟨q,r⟩
   ·exact .inl ⟨q,Cv q Vh lN⟩
   ·obtain⟨ca,We⟩:=Option.isSome_iff_exists.mp (fe r (L'+1))
    obtain⟨o,ho,SS⟩:=wu Y (mem_lookup We)
    refine .inr ⟨ca,o,.inl q,We,List.mem_append_left _ ho,?_⟩
    rw[SS,Cw (by show fd.scope.names.lookup y≠_;rw[q];simp) Vh lN]
  ·obtain⟨sl,h⟩:=f9 p hp;exact⟨sl,inD _ h⟩
  ·obtain⟨o,ho,SS⟩:=wu Y (mem_lookup e)
   exact⟨o,_,List.mem_append_left _ ho,SS⟩
 have GO:iW F' af (A.deeper (pS fd L' f)):=by
  refine⟨by show A.frames.map _=_;rw[tF];rfl,?_,?_,Gu⟩
  ·exact MK RT
  ·exact QW SN
 have m9:∀p∈D₀,p.1∉F'.own:=λp hp Gs=>by
  obtain⟨q,hq,e⟩:=List.mem_map.mp Gs
  exact Nat.lt_asymm (oldLt p hp) (e▸x.above q.1 q.2 hq)
 exact k F' L' _ aI CM rfl rfl rfl rfl rfl rfl m9 inD GO az
theorem Sat.Dn {F:FC}{σ:St}{s:Shared}{D:Led}{oL:Obj}{es:Array DictEntry}{n:Nat}(S:Sat G F σ s D)(ok:bK G F)(hL:s.heap.get? F.L=some oL)(z4:oL.data=.dict es n):
  (∀p∈(F.L,oL)::D,s.heap.get? p.1=some p.2)/\(((F.L,oL)::D).map (·.1)).Nodup/\(∀a o,σ.aa a=some o->gE G.C ((F.L,oL)::F.fo) ((F.L,oL)::D) a o)/\(∀p∈(F.L,oL)::F.fo,∃sl,(p.1,{ p.2 with slots:=sl })∈(F.L,oL)::D)/\
  (∀p∈(F.L,oL)::F.fo,(∃es n,p.2.data=.dict es n)/\j3 p.2=false)/\∀e∈F.frames,e.scope.kind≠.module/\∃P,e.frame=some P/\∃o,(P,o)∈(F.L,oL)::F.fo:=by
 have NY:∀p∈D,p.1≠F.L:=λp hp=>(S.news p hp).2.1
 have inD:∀p∈D,p∈(F.L,oL)::D:=λp hp=>.tail _ hp
 refine⟨λp hp=>?_,List.nodup_cons.mpr ⟨λhm=>?_,S.nd⟩,λa o e=>?_,λp hp=>?_,λp hp=>?_,λe he=>?_⟩
 ·rcases List.mem_cons.mp hp with hp|hp
  ·rw[hp];exact hL
  ·exact(S.news p hp).1
 ·obtain⟨p,hp,e⟩:=List.mem_map.mp hm
  exact NY p hp e
 ·refine(S.aa a o e).yi (λ_ _ h _=>inD _ h) (λ_ _ h=>inD _ h) (λ_ _ h=>inD _ h) (λ_ _ _ h=>inD _ h) λd es n _ h4 h2=>⟨inD _ h2,λp hp=>?_⟩
  rcases List.mem_cons.mp hp with hp|hp
  ·rw[hp];exact Ne.symm (NY _ h2)
  ·exact h4 p hp
 ·rcases List.mem_cons.mp hp with hp|hp
  ·rw[hp];exact⟨oL.slots,.head _⟩
  ·obtain⟨sl,h⟩:=S.fo p hp;exact⟨sl,inD _ h⟩
 ·rcases List.mem_cons.mp hp with hp|hp
  ·rw[hp];exact⟨⟨es,n,z4⟩,by unfold j3;rw[z4]⟩
  ·exact ok.z6 p hp
 ·obtain⟨k,P,h1,h2⟩:=ok.each e he
  exact⟨k,P,h1,h2.elim (λe=>⟨oL,e▸.head _⟩) λ⟨o,ho⟩=>⟨o,.tail _ ho⟩⟩
theorem F7 {us:List V}{kw:List (Str×V)}(iC:Lr G f fd body names vs.length)(vw:yH G fd names us kw vs)(h:Rr G H af f fd body names vs aa Q X):
  b5 G H (af+1) f us kw aa Q X:=by
 intro F σ A s D Q7 ks ok Gu xN hA S MI NS
 subst xN
 obtain⟨cs,Gv,vw⟩:=vw s D Q7 ks (by obtain⟨m,Fm,hm⟩:=S.fr;exact ok.X.keeps Fm.keep) MI NS
 obtain⟨m,Fm,hm⟩:=S.fr
 obtain⟨oL,R0,R1,hL,z4,Tb⟩:=id Fm.ns
 have stays:F.h₀.StaysIn (hideAll s.heap (F.L::D.map (·.1))):=S.hidden
 obtain⟨kX,kC,kT⟩:=ok.keeps stays
 have w:=S.Dn ok hL z4
 refine wd (D₀:=(F.L,oL)::D) (fo₀:=(F.L,oL)::F.fo) (fr₀:=F.frames) (hd:=F.hd) (aa:=σ.aa) (af:=af) iC (Gv.lW _) vw kX kC kT w.1 w.2.1 w.2.2.1 S.inj w.2.2.2.1 w.2.2.2.2.1 w.2.2.2.2.2 S.gens S.os hA.frames hA.depth hA.units hA.hd
  λF' L' ak aI CM gZ Kl xO tH G6 DC m9 inD GO az=>?_
 have xZ:F.h₀.StaysIn F'.h₀:=DC▸stays
 have OG:∀p∈D,p.1∉F'.own:=λp hp=>m9 p (.tail _ hp)
 have O2:∀p∈D,p∈aI:=λp hp=>inD p (.tail _ hp)
 refine dU (h F' L' CM (gZ▸Gu) Kl xO tH _ _ aI GO az) (λfl jD hb=>?_) (λe jD he=>?_)
 ·obtain⟨b,ru,bb,aG,aU,bL,aS⟩:=hb
  obtain⟨cU,cF,bO,_,hv,_,_⟩:=pop (F':=F') S hL xZ G6 OG O2 aG aU
  cases bL with
  |next=>exact⟨.none,_,cU,cF,bO,.none,rfl,aS⟩
  |ret i=>exact⟨_,_,cU,cF,bO,hv _ _ i,rfl,aS⟩
  |brk=>exact aS.elim
  |cont=>exact aS.elim
 ·unfold leaving
  refine aW (Ac CM GO.frames he λbQ fG=>?_)
  refine pq fG (.inl rfl) λcY _ _ kK=>?_
  obtain⟨ex,ru,bb,aG,aU,⟨ea,dx,oe,ws,P,rfl,ho,⟨T,oT,ts,h1,hT,uW,r3,rm,uX,pF,h3⟩⟩,hX⟩:=kK rfl
  obtain⟨cU,cF,bO,dI,_,IX,sl,lT⟩:=pop (F':=F') S hL xZ G6 OG O2 aG aU
  obtain⟨P₀,DE⟩:=ok.place
  exact⟨ex,_,cU,cF,bO,⟨ea,dx,oe,ws,P₀,rfl,(Jk (s:=s) (D:=D) xZ G6 lT dI IX ho DE h1 hT uW r3 rm pF h3 (.inl rfl)).1⟩,rfl,hX⟩
end
noncomputable def noStar (e:Expr):Bool:=!(Nat.beq e.ctorIdx 22)
theorem gp {e:Expr}{rest:List Expr}{env:Env}(h:noStar e=true):starEach (e::rest) env=(false,eval e env)::starEach rest env:=by
 cases e<;>first|rfl|cases h
theorem bM {env:Env}{pos:Pos}:∀{es:List Expr},es.all noStar=true->(backTo pos (starEach es env)).any (·.1)=false:=by
 intro z_
 induction z_ with
 |nil=>
  intro _
  exact rfl
 |cons e r ih=>
  intro h
  rw[List.all_cons,Bool.and_eq_true] at h
  rw[gp h.1]
  show(false||(backTo pos (starEach r env)).any (·.1))=false
  rw[ih h.2];rfl
theorem cz {M:Model}{A:Around}{E:Value->Shared->Prop}{s:Shared}{env:Env}{f:Value}{es:List Expr}{pos:Pos}{Q:Args->Shared->Prop}(hs:es.all noStar=true)
  (h:wpAny M A (spliced (backTo pos (starEach es env))) (λvs s'=>Q ⟨vs,[]⟩ s') E s):wpAny M A (evalArgs f true (backTo pos (starEach es env)) []) Q E s:=by
 cases es with
 |nil=>
  unfold evalArgs
  show wpAny M A (spliced []>>=_) Q E s
  refine aW (dU h (λvs s' h'=>?_) λ_ _ x=>x)
  refine aW (cC (wpAny_holding ?_))
  exact aW (cC (aW (cC (cC h'))))
 |cons e r=>
  rw[List.all_cons,Bool.and_eq_true] at hs
  rw[gp hs.1] at h ⊢
  exact evalArgs_plain h
noncomputable def BP (G:GC)(F:FC)(af:Nat)(c:Value)(vs:List V)(σ:St)(Q:V->St->Prop)(X:Ex->St->Prop):Prop:=
 ∀A s D cs,iW F af A->Sat G F σ s D->aY G.C D vs cs->wpAny (bT G) A (call c cs) (j4 G F (aE G) Q D) (fg G F X D) s
section
variable {G:GC}{F:FC}{af:Nat}{σ:St}{X:Ex->St->Prop}{H:Option Value->Prop}
theorem iH {e:Expr}{rest:List Expr}{pos:Pos}{Q:List V->St->Prop}(hs:noStar e=true)
  (h:J G F af (aE G) (eval e F.env) σ (λv ae=>J G F af (iD G) (spliced (backTo pos (starEach rest F.env))) ae (λvs ar=>Q (v::vs) ar) X) X):
  J G F af (iD G) (spliced (backTo pos (starEach (e::rest) F.env))) σ Q X:=λA s D hA S=>
 wpAny_items_cons (h.go hA S λv c ae ak aI az aB aJ au=>au.r5 hA az aB λvs cs ar aT bb aG aU bL aS=>⟨v::vs,ar,bb,aG,aB.trans aU,.cons (br.keep aJ aU) bL,aS⟩) (gp hs)
theorem Cr (ok:bK G F){id:Str}{p pos:Pos}{es:List Expr}{f:Addr}{Q:V->St->Prop}(hn:nsIn G.K mainGlobals id=some (some (.ref f)))(hk:F.env.kindOf id=some .globalImplicit)
  (hd:(id==("__debug__":Str))=false) (DB:keepIn G.K (.ref f)=true) (hs:es.all noStar=true) (hH:H F.hd)
  (h:J G F af (iD G) (spliced (backTo pos (starEach es F.env))) σ (λvs ae=>b5 G H af f vs [] ae.aa (λv led'=>Q v ⟨ae.loc,led'⟩) (λex led'=>X ex ⟨ae.loc,led'⟩)) X):
  J G F af (aE G) (eval (.Call (.Name id p) es [] pos) F.env) σ Q X:=λA s D hA S=>by
 obtain⟨m,Fm,hm⟩:=S.fr
 refine wpAny_Call_Name_kw (Name_function_global ok.kind hk (loadGlobal_global (by rw[ok.glob];exact ok.T.g.keeps Fm.keep) (mg_of ok.X ok.T.g hn) ?_) hd)
 refine callWith_of (P:=G.K.In) (by rw[bM hs];rfl) (keeps_K DB) (cz hs ?_)
 refine h.go hA S λvs cs ae ak aI az aB aJ au=>?_
 obtain⟨KX,pV,_⟩:=az.fr
 refine⟨ok.X.keeps pV.keep,?_⟩
 exact au.here ok hH hA az aB aJ .nil
theorem zW (ok:bK G F){id:Str}{p pos:Pos}{es:List Expr}{c:Value}{Q:V->St->Prop}(hn:nsIn G.K mainGlobals id=some none)(hk:F.env.kindOf id=some .globalImplicit)
  (hd:(id==("__debug__":Str))=false) (Kk:id≠"__name__") (hb:bootBuiltins id=some c) (hc:(∃i,c=.builtin i)∨∃T,c=.type T) (hs:es.all noStar=true)
  (h:J G F af (iD G) (spliced (backTo pos (starEach es F.env))) σ (λvs ae=>BP G F af c vs ae Q X) X):
  J G F af (aE G) (eval (.Call (.Name id p) es [] pos) F.env) σ Q X:=λA s D hA S=>by
 refine wpAny_Call_Name_kw (eg ok S hn hk hd Kk hb ?_)
 have go:wpAny (bT G) A (evalArgs c true (backTo pos (starEach es F.env)) []) (λa ak=>wpAny (bT G) A (call c ([]++a.pos) a.kw) (j4 G F (aE G) Q D) (fg G F X D) ak) (fg G F X D) s:=
  cz hs (h.go hA S λvs cs ae ak aI az aB aJ au=>dU (au A ak aI cs hA az aJ) (λ_ _ x=>x.keep aB) λ_ _ x=>x.keep aB)
 rcases hc with⟨i,rfl⟩|⟨T,rfl⟩
 ·exact callWith_builtin (bM hs) go
 ·exact PyProof.Rows.callWith_type (bM hs) go
noncomputable def dz (e:Expr):Bool:=!(Nat.beq e.ctorIdx 16)
theorem Gg {o:Expr}{name:Str}{env:Env}{m:Sem Value}(h:dz o=true):attributeBase o name env m=m:=by
 cases o with
 |Call=>cases h
 |_=>rfl
theorem A2 {o:Expr}{name:Str}{env:Env}(h:dz o=true):attributeBase o name env (eval o env)=eval o env:=Gg h
theorem iB {o:Expr}{name:Str}{apos pos:Pos}{es:List Expr}{env:Env}(hb:dz o=true)(hs:es.all noStar=true)(hl:(apos.endLine==pos.line)=true)(hn:es.length<29):
  ∃pl:Sem Bool,eval (.Call (.Attribute o name apos) es [] pos) env=(do
   let ov ←eval o env
   standAt apos.atName
   let (f,first) ←holding [ov] (getMethod ov name pl)
   callWith pos f first (backTo pos (starEach es env)) (backToKw pos (keywordEach [] env))):=by
 refine⟨do return (←importBound o env).getD true,?_⟩
 rw[arm_eval_Call,A2 hb]
 have C7:(backTo pos (starEach es env)).all (λx=>!x.1)=true:=by
  have:=bM (env:=env) (pos:=pos) hs
  rw[List.any_eq_false] at this
  rw[List.all_eq_true]
  intro x hx
  simpa using this x hx
 have Yw:methodCallForm (es.length+([]:List Keyword).length) (backTo pos (starEach es env)) (backToKw pos (keywordEach [] env))=true:=by
  unfold methodCallForm
  rw[C7]
  show(true&&true&&decide (es.length+0+0<30))=true
  simp;exact a10 0x644ef01644ee81 tt hn
 unfold methodCall
 rw[Yw]
 have hp:methodCallPos true o env apos pos=pure pos:=by unfold methodCallPos;rw[hl];rfl
 rw[hp]
 rfl
noncomputable def PK (G:GC)(F:FC)(v:V)(σ:St)(name:Str)(id:String):Prop:=
 ∀A s D c (pl:Sem Bool) (P:Value×List Value->Shared->Prop) (E:Value->Shared->Prop),Sat G F σ s D->br G.C D v c->P (.builtin id,[c]) s->wpAny (bT G) A (getMethod c name pl) P E s
theorem zT {o:Expr}{name:Str}{id:String}{apos pos:Pos}{es:List Expr}{Q:V->St->Prop}(hb:dz o=true)(hs:es.all noStar=true)(hl:(apos.endLine==pos.line)=true)(hn:es.length<29)
  (h:J G F af (aE G) (eval o F.env) σ (λv ae=>PK G F v ae name id/\J G F af (iD G) (spliced (backTo pos (starEach es F.env))) ae (λvs ar=>BP G F af (.builtin id) (v::vs) ar Q X) X) X):
  J G F af (aE G) (eval (.Call (.Attribute o name apos) es [] pos) F.env) σ Q X:=λA s D hA S=>by
 obtain⟨pl,he⟩:=iB (o:=o) (name:=name) (apos:=apos) (pos:=pos) (es:=es) (env:=F.env) hb hs hl hn
 rw[he]
 refine aW (h.go hA S λv c ae ak aI az aB aJ au=>aW (wpAny_standAt (aW (wpAny_holding (au.1 A ak aI c pl _ _ az aJ ?_)))))
 refine callWith_builtin (bM hs) (cz hs (au.2.r5 hA az aB λvs cs ar aT bb aG aU bL aS=>?_))
 exact dU (aS A aT bb (c::cs) hA aG (.cons (br.keep aJ aU) bL)) (λ_ _ x=>x.keep (aB.trans aU)) λ_ _ x=>x.keep (aB.trans aU)
noncomputable def p6 (K:Frag)(c:Addr)(x:Str)(f:Addr):Bool:=plainGet K c x&&findIn K (.ref c) x==some (some (.ref f))&&isFn K (.ref f)&&keepIn K (.ref f)
theorem zo (ok:bK G F){o:Expr}{name:Str}{f:Addr}{apos pos:Pos}{es:List Expr}{Q:V->St->Prop}(hb:dz o=true)(hs:es.all noStar=true)(hl:(apos.endLine==pos.line)=true)(hn:es.length<29)(hH:H F.hd)
  (h:J G F af (aE G) (eval o F.env) σ (λv ae=>∃a c dx fs,v=.ref a/\ae.aa a=some (.inst c dx fs)/\hU name fs=none/\p6 G.K c name f=true/\
   J G F af (iD G) (spliced (backTo pos (starEach es F.env))) ae (λvs ar=>b5 G H af f (v::vs) [] ar.aa (λv led'=>Q v ⟨ar.loc,led'⟩) (λex led'=>X ex ⟨ar.loc,led'⟩)) X) X):
  J G F af (aE G) (eval (.Call (.Attribute o name apos) es [] pos) F.env) σ Q X:=λA s D hA S=>by
 obtain⟨pl,he⟩:=iB (o:=o) (name:=name) (apos:=apos) (pos:=pos) (es:=es) (env:=F.env) hb hs hl hn
 rw[he]
 refine aW (h.go hA S λv c ae ak aI az aB aJ au=>aW (wpAny_standAt (aW (wpAny_holding ?_))))
 obtain⟨a,cc,dx,fs,rfl,xN,hg,hm,au⟩:=au
 cases bH aJ
 obtain⟨KX,pV,_⟩:=az.fr
 obtain⟨oE,n,h1,h2,h3,_⟩:=az.aa _ _ xN
 have hm:=dF hm
 refine method_inst pV ok.X (InstAt.of_news az.news h1 h2) hm.1 (kO hm.2.1) hm.2.2.1 (h3.AQ hg) ?_
 refine callWith_of (P:=G.K.In) (by rw[bM hs];rfl) (keeps_K hm.2.2.2) (cz hs ?_)
 refine au.r5 hA az aB λvs cs ar aT bb aG aU bL aS=>?_
 obtain⟨T2,DQ,_⟩:=aG.fr
 refine⟨ok.X.keeps DQ.keep,?_⟩
 exact aS.here ok hH hA aG (aB.trans aU) (.cons (.ref a) bL) .nil
theorem yL {es:List Expr}{k:Nat}{pos:Pos}{Q:V->St->Prop}
  (h:J G F af (iD G) (spliced (backTo pos (starEach es F.env))) σ (λvs ae=>vs.length<=1000/\Q (.tup vs) ae) X):J G F af (aE G) (eval (.Tuple es k pos) F.env) σ Q X:=λA s D hA S=>
 wpAny_Tuple_spliced (h.go hA S λvs cs ae ak aI az aB aJ au=>by
  refine⟨by rw[aY.length aJ,sizeLine_eq];have:=au.1;exact a10 0x31270204081040b127a2781 tt au.1,?_⟩
  exact⟨.tup vs,ae,_,az.fv _,aB.trans (aO.cons _),.tup (.inl (.head _)) rfl rfl (by simpa using aY.lW aJ _),au.2⟩)
theorem BV {es:List Expr}{pos:Pos}{Q:V->St->Prop}
  (h:J G F af (iD G) (spliced (backTo pos (starEach es F.env))) σ (λvs ae=>vs.length<=1000/\∀a,ae.aa a=none->Q (.ref a) ⟨ae.loc,put ae.aa a (.list vs)⟩) X):J G F af (aE G) (eval (.List es pos) F.env) σ Q X:=λA s D hA S=>
 wpAny_List_spliced (h.go hA S λvs cs ae ak aI az aB aJ au=>by
  refine⟨by rw[aY.length aJ,sizeLine_eq];have:=au.1;exact a10 0x31270204081040b127a2781 tt au.1,?_⟩
  have aG:=az.fv { cls:=.type "list",data:=.seq cs.toArray }
  refine⟨.ref ak.heap.objs.size,_,_,aG.jG (n:=0) (vs:=cs.toArray) (.head _) (by simpa using aY.lW aJ _) ?_,aB.trans (aO.cons _),.ref _,au.2 _ az.fresh⟩
  rw[o4,aY.length aJ];have:=au.1;exact a10 0x32270204081040b127a2781 tt au.1)
end
section
variable {G:GC}{F:FC}{σ:St}{s:Shared}{D:Led}
noncomputable def isRec (o:Obj):Prop:=∃vs ty,o.data=.fields vs/\o.cls=.type ty
theorem Vn {o:Obj}{n:String}(h:o.cls=.type n):∀c,o.cls≠.ref c:=λc e=>nomatch h.symm.trans e
theorem isRec.off {o:Obj}(h:isRec o):(∀c,o.cls≠.ref c)/\¬tc o:=by
 obtain⟨vs,ty,d,c⟩:=h
 refine⟨Vn c,λk=>?_⟩
 rcases k with⟨_,_,_,q⟩|⟨_,q⟩<;>exact nomatch q.symm.trans d
theorem isRec.j3 {o:Obj}(h:isRec o):Mine.j3 o=true/\¬fN o:=by
 obtain⟨vs,ty,d,c⟩:=h
 exact⟨by unfold Mine.j3;rw[d,c],λ⟨_,q⟩=>nomatch q.symm.trans d⟩
theorem Sat.fields (S:Sat G F σ s D){it:Addr}{o o':Obj}{vs:Array Value}{h':Heap}{tk:Nat}(hm:(it,o)∈D)(hd:o.data=.fields vs)(GL:∀c,o.cls≠.ref c)(hs:Heap.SameBut it s.heap h')(lC:h'.get? it=some o')(f9:∀p∈F.fo,∃es n,p.2.data=.dict es n):
  Sat G F σ { s with heap:=h',toks:=tk } (upd it o' D):=by
 obtain⟨m,Fm,bz⟩:=S.fr
 have N:=S.news _ hm
 have ne:∀{b:Addr} {ob:Obj},(b,ob)∈D->(∀ws,ob.data≠.fields ws)->b≠it:=λ{b ob} hb hn e=>by
  subst e
  exact hn vs (by rw[bq S.nd hb hm];exact hd)
 have kt:∀p∈D,tc p.2->p∈upd it o' D:=λp hp ht=>av hp (ne hp λws e=>by
  rcases ht with⟨_,_,_,q⟩|⟨_,q⟩<;>rw[q] at e<;>cases e)
 refine Sat.step (σ:=σ) (m:=m) ⟨Fm.ns.sameBut hs (Ne.symm N.2.1),λb ob e=>(hs.2 b λz=>by subst z;rw[N.2.2] at e;cases e).trans (Fm.keep b ob e),Fm.above⟩ bz (λp hp=>?_) (by rw[gM];exact S.nd) kt (λb ob e=>?_) S.inj (λp hp=>?_) S.gens S.os S.cells
 ·rcases ph hp with rfl|⟨hp,dT⟩
  ·exact⟨lC,N.2⟩
  ·exact⟨(hs.2 _ dT).trans (S.news p hp).1,(S.news p hp).2⟩
 ·exact(S.aa b ob e).move (λa o hm hc=>kt _ hm (.inl hc)) (λ_ _ h=>av h (ne h (by simp))) (λ_ _ h=>av h (ne h (by simp))) (λc _ _ h=>av h λz=>GL c (by subst z;rw[←bq S.nd h hm])) λ_ _ _ _ _ h=>av h (ne h (by simp))
 ·obtain⟨sl,h⟩:=S.fo p hp
  refine⟨sl,av h (ne h λws e=>?_)⟩
  obtain⟨es,n,q⟩:=f9 p hp
  rw[show({ p.2 with slots:=sl }:Obj).data=p.2.data from rfl,q] at e;cases e
theorem Sat.ux (S:Sat G F σ s D){W:List Addr}{h':Heap}{tk:Nat}(hW:∀a∈W,∃o,(a,o)∈D/\isRec o)(hs:∀b o,b∉W->s.heap.get? b=some o->h'.get? b=some o)(f9:∀p∈F.fo,∃es n,p.2.data=.dict es n):
  Sat G F σ { s with heap:=h',toks:=tk } (D.filter λp=>decide (p.1∉W)):=by
 obtain⟨m,Fm,bz⟩:=S.fr
 have mem:∀{p:Addr×Obj},p∈D->p.1∉W->p∈D.filter λp=>decide (p.1∉W):=λh k=>List.mem_filter.mpr ⟨h,decide_eq_true k⟩
 have ne:∀{b:Addr} {ob:Obj},(b,ob)∈D->¬isRec ob->b∉W:=λ{b ob} hb hn e=>by
  obtain⟨o,hm,hd⟩:=hW b e
  exact hn (by rw[bq S.nd hb hm];exact hd)
 have kt:∀p∈D,tc p.2->p∈D.filter (λp=>decide (p.1∉W)):=λp hp ht=>mem hp (ne hp λk=>k.off.2 ht)
 obtain⟨oL,es,ep,hL,r⟩:=Fm.ns
 have LW:F.L∉W:=λe=>by obtain⟨o,hm,_⟩:=hW _ e;exact(S.news _ hm).2.1 rfl
 refine Sat.step (σ:=σ) (m:=m) ⟨⟨oL,es,ep,hs _ _ LW hL,r⟩,λb ob e=>hs _ _ (λz=>by obtain⟨o,hm,_⟩:=hW _ z;exact nomatch (S.news _ hm).2.2.symm.trans e) (Fm.keep b ob e),Fm.above⟩ bz (λp hp=>?_) (S.nd.sublist (List.filter_sublist.map _)) kt (λb ob e=>?_) S.inj (λp hp=>?_) S.gens S.os S.cells
 ·obtain⟨h1,h2⟩:=List.mem_filter.mp hp
  exact⟨hs _ _ (tC h2) (S.news p h1).1,(S.news p h1).2⟩
 ·exact(S.aa b ob e).move (λa o hm hc=>kt _ hm (.inl hc)) (λ_ _ h=>mem h (ne h λ⟨_,_,d,_⟩=>nomatch d)) (λ_ _ h=>mem h (ne h λ⟨_,_,d,_⟩=>nomatch d)) (λc _ _ h=>mem h (ne h λk=>k.off.1 c rfl)) λ_ _ _ _ _ h=>mem h (ne h λ⟨_,_,d,_⟩=>nomatch d)
 ·obtain⟨sl,h⟩:=S.fo p hp
  refine⟨sl,mem h (ne h λ⟨_,_,d,_⟩=>?_)⟩
  obtain⟨es,n,q⟩:=f9 p hp
  exact nomatch q.symm.trans (d:p.2.data=_)
theorem Sat.add (S:Sat G F σ s D){b:Addr}{ob:Obj}(hb:s.heap.get? b=some ob)(hD:∀p∈D,p.1≠b)(hL:b≠F.L)(h0:F.h₀.get? b=none):Sat G F σ s ((b,ob)::D):=by
 obtain⟨m,Fm,bz⟩:=S.fr
 refine Sat.step (σ:=σ) (m:=m) Fm bz (λp hp=>?_) (by
   rw[List.map_cons,List.nodup_cons]
   exact⟨λhm=>by obtain⟨p,hp,e⟩:=List.mem_map.mp hm;exact hD p hp e,S.nd⟩) (λp hp _=>.tail _ hp) (λa o e=>(S.aa a o e).mono λp hp=>.tail _ hp) S.inj
  (λp hp=>let ⟨sl,h⟩:=S.fo p hp;⟨sl,.tail _ h⟩) S.gens S.os S.cells
 rcases List.mem_cons.mp hp with rfl|hp
 ·exact⟨hb,hL,h0⟩
 ·exact S.news p hp
noncomputable def Out (F:FC)(D₀:Led)(W:List Addr):Prop:=∀p∈D₀,j3 p.2=true->(fN p.2->p.1∉F.own)->p.1∉W
theorem Out.one {D₀:Led}{it:Addr}(h:Out F D₀ [it]):∀p∈D₀,j3 p.2=true->(fN p.2->p.1∉F.own)->p.1≠it:=λp hp a b=>by have:=h p hp a b;simpa using this
theorem Fv {D₀:Led}{it:Addr}{o':Obj}(K:aO F D₀ D)(h:∀p∈D₀,j3 p.2=true->(fN p.2->p.1∉F.own)->p.1≠it):aO F D₀ (upd it o' D):=λp hp hz hc=>av (K p hp hz hc) (h p hp hz hc)
theorem vX {D₀:Led}{W:List Addr}(K:aO F D₀ D)(h:Out F D₀ W):aO F D₀ (D.filter λp=>decide (p.1∉W)):=λp hp hz hc=>
 List.mem_filter.mpr ⟨K p hp hz hc,decide_eq_true (h p hp hz hc)⟩
end
inductive It where
 |list (l:Addr) (i:Nat)
 |seq (vs:List V) (i:Nat)
 |mW (x:Int) (n:Nat)
 |enum (l:Addr) (i:Nat) (j:Addr)
abbrev LS (x:Int)(n:Nat):Obj:={ cls:=.type "range_iterator",dict:=none,data:=.fields #[rawInt x,rawInt n,rawInt 1],slots:=#[] }
abbrev Ak (h:Value)(j:Addr)(i:Int)(old:Value):Obj:={ cls:=.type "enumerate",dict:=none,data:=.fields #[h,.bool false,.ref j,rawInt i,.none,old],slots:=#[] }
inductive It.at (G:GC)(D:Led)(it:Addr):It->Prop
 |list {l:Addr} {i:Nat} {o:Obj}:(it,o)∈D->o.cls=.type "list_iterator"->o.data=.fields #[.ref l,.int i 0]->It.at G D it (.list l i)
 |txt {x:Str} {t:Tok} {ty:String} {i:Nat} {o:Obj}:(ty="str_ascii_iterator"∨ty="str_iterator")->(it,o)∈D->o.cls=.type ty->o.data=.fields #[.str x t,.int i 0]->It.at G D it (.seq (x.cps.toList.map λc=>V.str [c]) i)
 |tup {vs:List V} {i:Nat} {o to:Obj} {t:Addr} {items:Array Value} {n:Nat}:(it,o)∈D->o.cls=.type "tuple_iterator"->o.data=.fields #[.ref t,.int i 0]->Kn G.C D t to->to.cls=.type "tuple"->to.data=.seq items n->aY G.C D vs items.toList->It.at G D it (.seq vs i)
 |mW {x:Int} {n:Nat}:(it,LS x n)∈D->It.at G D it (.mW x n)
 |enum {l:Addr} {i:Nat} {j:Addr} {o:Obj} {old:Value}:j≠it->(j,o)∈D->o.cls=.type "list_iterator"->o.data=.fields #[.ref l,.int i 0]->(it,Ak .none j i old)∈D->It.at G D it (.enum l i j)
noncomputable def It.gb (it:Addr):It->List Addr
 |.enum _ _ j=>[it,j]
 |_=>[it]
theorem It.at.mono {G:GC}{D D':Led}(k:∀p∈D,isRec p.2∨isTup p.2->p∈D'){it:Addr}{I:It}(h:I.at G D it):I.at G D' it:=by
 cases h with
 |list m c d=>exact .list (k _ m (.inl ⟨_,_,d,c⟩)) c d
 |txt t m c d=>exact .txt t (k _ m (.inl ⟨_,_,d,c⟩)) c d
 |tup m c d kn tc td vs=>exact .tup (k _ m (.inl ⟨_,_,d,c⟩)) c d (kn.imp (λm=>k _ m (.inr ⟨tc,_,_,td⟩)) id) tc td (vs.mono λ_ _ m h=>k _ m (.inr h))
 |mW m=>exact .mW (k _ m (.inl ⟨_,_,rfl,rfl⟩))
 |enum n m c d e=>exact .enum n (k _ m (.inl ⟨_,_,d,c⟩)) c d (k _ e (.inl ⟨_,_,rfl,rfl⟩))
theorem It.at.keep {G:GC}{F:FC}{D D':Led}(k:aO F D D'){it:Addr}{I:It}(h:I.at G D it):I.at G D' it:=
 h.mono λp hp r=>r.elim (λr=>k p hp r.j3.1 λq=>absurd q r.j3.2) λr=>k.tup _ _ hp r
theorem It.at.recs {G:GC}{D:Led}{it:Addr}{I:It}(h:I.at G D it):∀a∈I.gb it,∃o,(a,o)∈D/\isRec o:=by
 cases h with
 |list m c d=>intro a ha;cases List.mem_singleton.mp ha;exact⟨_,m,_,_,d,c⟩
 |txt t m c d=>intro a ha;cases List.mem_singleton.mp ha;exact⟨_,m,_,_,d,c⟩
 |tup m c d=>intro a ha;cases List.mem_singleton.mp ha;exact⟨_,m,_,_,d,c⟩
 |mW m=>intro a ha;cases List.mem_singleton.mp ha;exact⟨_,m,_,_,rfl,rfl⟩
 |enum n m c d e=>
  intro a ha
  rcases List.mem_cons.mp ha with ha|ha
  ·cases ha;exact⟨_,e,_,_,rfl,rfl⟩
  ·cases List.mem_singleton.mp ha;exact⟨_,m,_,_,d,c⟩
noncomputable def gj (o:Option (Option (V×It)))(A:Prop)(B:V->It->Prop):Prop:=match o with
 |none=>False
 |some p=>(match p with
  |none=>A
  |some q=>B q.1 q.2)
theorem jR {o:Option (Option (V×It))}{A:Prop}{B:V->It->Prop}(h:gj o A B):(o=some none/\A)∨∃v I',o=some (some (v,I'))/\B v I':=by
 cases o with
 |none=>exact h.elim
 |some p=>
  cases p with
  |none=>exact .inl ⟨rfl,h⟩
  |some q=>exact .inr ⟨q.1,q.2,rfl,h⟩
theorem aY.none {C:Frag}{D:Led}{vs:List V}{ws:Array Value}(h:aY C D vs ws.toList){β:Type}{f:V->β}{i:Nat}(e:vs[i]?.map f=none):ws[i]?=none:=by
 rw[←Array.getElem?_toList,List.getElem?_eq_none_iff,h.length]
 exact List.getElem?_eq_none_iff.mp (Option.map_eq_none_iff.mp e)
noncomputable def vk (o:Option AO)(g:List V->Option (V×It)):Option (Option (V×It)):=match o with
 |none=>none
 |some ao=>(match ao with
  |.list vs=>some (g vs)
  |_=>none)
noncomputable def It.next (aa:ag):It->Option (Option (V×It))
 |.list l i=>vk (aa l) λvs=>vs[i]?.map λv=>(v,.list l (i+1))
 |.seq vs i=>some (vs[i]?.map λv=>(v,.seq vs (i+1)))
 |.mW x n=>some (match n with|0=>none|k+1=>some (.int x,.mW (x+1) k))
 |.enum l i j=>vk (aa l) λvs=>vs[i]?.map λv=>(.tup [.int i,v],.enum l (i+1) j)
theorem It.my {aa:ag}{l:Addr}{i:Nat}{vs:List V}(h:aa l=some (.list vs)):It.next aa (.list l i)=some (vs[i]?.map λv=>(v,.list l (i+1))):=by
 show vk (aa l) _=_
 rw[h];rfl
theorem It.jU {aa:ag}{l j:Addr}{i:Nat}{vs:List V}(h:aa l=some (.list vs)):It.next aa (.enum l i j)=some (vs[i]?.map λv=>(.tup [.int i,v],.enum l (i+1) j)):=by
 show vk (aa l) _=_
 rw[h];rfl
theorem mv {o:Option AO}{g:List V->Option (V×It)}{r:Option (V×It)}(h:vk o g=some r):∃vs,o=some (.list vs)/\g vs=r:=by
 cases o with
 |none=>exact nomatch h
 |some ao=>
  cases ao with
  |list vs=>exact⟨vs,rfl,Option.some.inj h⟩
  |_=>exact nomatch h
theorem An {vs:List V}{i:Nat}{f:V->V×It}{v:V}{I':It}(h:vs[i]?.map f=some (v,I')):∃u,vs[i]?=some u/\(f u).1=v/\(f u).2=I':=by
 obtain⟨u,h1,h2⟩:=Option.map_eq_some_iff.mp h
 exact⟨u,h1,congrArg Prod.fst h2,congrArg Prod.snd h2⟩
section
variable {G:GC}{F:FC}{σ:St}{s:Shared}{D D₀:Led}{A:Around}{E:Value->Shared->Prop}
noncomputable def lg (e:Expr):Bool:=Nat.beq e.ctorIdx 25
noncomputable def jK (e:Expr):Bool:=Nat.beq e.ctorIdx 23
theorem B4 {e:Expr}(h:lg e=true):∃a b c,e=.Tuple a b c:=Expr.Tuple.elim (motive_1:=λe=>∃a b c,e=.Tuple a b c) e (Nat.eq_of_beq_eq_true h) λa b c=>⟨a,b,c,rfl⟩
theorem zm {e:Expr}(h:jK e=true):∃a b,e=.Name a b:=Expr.Name.elim (motive_1:=λe=>∃a b,e=.Name a b) e (Nat.eq_of_beq_eq_true h) λa b=>⟨a,b,rfl⟩
theorem Er {p:Pos}{it:Addr}{c:Value}{o:Obj}{vs:Array Value}{n:String}{Q:Unit->Shared->Prop}(ho:s.heap.get? it=some o)(hc:o.cls=.type n)(hd:o.data=.fields vs)
  (hn:["enumerate","zip","dict_itemiterator","dict_reverseitemiterator","odict_iterator","itertools.zip_longest","itertools.pairwise"].contains n=false) (q:Q () s):
  wpAny (bT G) A (letOwnedTupleGo (.List [] p) (.ref it) c) Q E s:=by
 cases c with
 |ref a=>
  refine aW (wpAny_load ho ?_)
  obtain⟨oc,od,dt,sl⟩:=o
  cases(hc:oc=_)
  cases(hd:dt=_)
  refine(congrArg (λb=>wpAny (bT G) A (if(b&&(vs[0]?==some (rawInt a)))=true then _ else _) Q E s) hn).mpr ?_
  exact cC q
 |_=>exact cC q
theorem FA {target:Expr}{it:Addr}{o:Obj}{vs:Array Value}{n:String}{c:Value}{Q:Unit->Shared->Prop}(ho:s.heap.get? it=some o)(hc:o.cls=.type n)(hd:o.data=.fields vs)
  (hn:["enumerate","zip","dict_itemiterator","dict_reverseitemiterator","odict_iterator","itertools.zip_longest","itertools.pairwise"].contains n=false) (q:Q () s):
  wpAny (bT G) A (letOwnedTupleGo target (.ref it) c) Q E s:=by
 cases target with
 |Tuple a b p=>exact Er (p:=p) ho hc hd hn q
 |List a p=>exact Er (p:=p) ho hc hd hn q
 |_=>exact cC q
noncomputable def DP (G:GC)(F:FC)(A:Around)(target:Expr)(it:Addr)(σ:St)(D₀:Led)(I I':It)(v:V)(c:Value)(ak:Shared):Prop:=
 ∀(P:Unit->Shared->Prop) (E':Value->Shared->Prop),(∀s' D',Sat G F σ s' D'->aO F D₀ D'->I'.at G D' it->I'.gb it=I.gb it->br G.C D' v c->P () s')->wpAny (bT G) A (letOwnedTupleGo target (.ref it) c) P E' ak
theorem gT {I I':It}{v:V}{c:Value}{target:Expr}{it:Addr}{o o':Obj}{ws WM:Array Value}{n:String}{h':Heap}{tk:Nat}(f9:∀p∈F.fo,∃es n,p.2.data=.dict es n)(S:Sat G F σ s D)(K:aO F D₀ D)(hm:(it,o)∈D)(hc:o.cls=.type n)(hd:o.data=.fields ws)
  (hO:Out F D₀ [it]) (fL:Heap.SameBut it s.heap h') (lC:h'.get? it=some o') (mY:o'.cls=.type n) (gZ:o'.data=.fields WM) (hn:["enumerate","zip","dict_itemiterator","dict_reverseitemiterator","odict_iterator","itertools.zip_longest","itertools.pairwise"].contains n=false)
  (hI:(it,o')∈upd it o' D->(∀a ob,(a,ob)∈D->isTup ob->(a,ob)∈upd it o' D)->I'.at G (upd it o' D) it/\I'.gb it=I.gb it/\br G.C (upd it o' D) v c):DP G F A target it σ D₀ I I' v c { s with heap:=h',toks:=tk }:=λP E' hP=>by
 obtain⟨h1,h2,h3⟩:=hI (bY hm) λa ob hb ht=>av hb λe=>by
  cases e
  cases bq S.nd hb hm
  exact isRec.off ⟨_,_,hd,hc⟩ |>.2 (.inl ht)
 exact FA (s:={ s with heap:=h',toks:=tk }) lC mY gZ hn (hP _ _ (S.fields (tk:=tk) hm hd (Vn hc) fL lC f9) (Fv K hO.one) h1 h2 h3)
theorem jU (ok:bK G F){it l j:Addr}{i:Nat}{o:Obj}{old:Value}{elts:List Expr}{k:Nat}{eY:Pos}(S:Sat G F σ s D)(K:aO F D₀ D)(GK:j≠it)(CO:(j,o)∈D)(IY:o.cls=.type "list_iterator")(vb:o.data=.fields #[.ref l,.int i 0])(Gq:(it,Ak .none j i old)∈D)(i8:Out F D₀ [it,j])
  {vs:List V} (hl:σ.aa l=some (.list vs)) {u:V} (hv:vs[i]?=some u) {Q:Option Value->Shared->Prop} (q:∀c ak,DP G F A (.Tuple elts k eY) it σ D₀ (.enum l i j) (.enum l (i+1) j) (.tup [.int i,u]) c ak->Q (some c) ak):wpAny (bT G) A (pyNext (.ref it)) Q E s:=by
 have f9:∀p∈F.fo,∃es n,p.2.data=.dict es n:=λp hp=>(ok.z6 p hp).1
 obtain⟨ws,n,h1,h2,h3⟩:=S.aa _ _ hl
 obtain⟨c,NW,ic⟩:=h2.get hv
 refine wpAny_pyNext_enum_item (S.news _ Gq).1 ⟨o,(S.news _ CO).1,IY,vb⟩ ⟨_,(S.news _ h1).1,rfl,n,rfl⟩ (x:=c) (by rw[←Array.getElem?_toList];exact NW) (Ne.symm GK) λh' xv G5 Yg V6 hk=>?_
 obtain⟨W8,Uo,UA,Uw⟩:=G5
 obtain⟨m,Fm,_⟩:=S.fr
 have off:∀{p:Addr×Obj},p∈D.filter (λp=>decide (p.1∉[it,j]))->p∈D/\p.1∉[it,j]:=λh=>⟨(List.mem_filter.mp h).1,tC (List.mem_filter.mp h).2⟩
 have S0:=S.ux (W:=[it,j]) (h':=h') (tk:=s.toks+1) (It.at.recs (G:=G) (.enum GK CO IY vb Gq)) (λb o hb e=>hk b o (λz=>hb (z▸.head _)) (λz=>hb (z▸.tail _ (.head _))) e) f9
 have S1:=S0.add (b:=it) xv (λp hp e=>(off hp).2 (e▸.head _)) (S.news _ Gq).2.1 (S.news _ Gq).2.2
 have S2:=S1.add (b:=j) Uo (λp hp=>by
  rcases List.mem_cons.mp hp with hp|hp
  ·rw[hp];exact Ne.symm GK
  ·exact λe=>(off hp).2 (e▸.tail _ (.head _))) (S.news _ CO).2.1 (S.news _ CO).2.2
 have Jt:it<s.heap.objs.size:=S.da _ Gq
 have T5:j<s.heap.objs.size:=S.da _ CO
 have S3:=S2.add (b:=s.heap.objs.size) Yg (λp hp=>by
  rcases List.mem_cons.mp hp with hp|hp
  ·rw[hp];exact Nat.ne_of_lt T5
  ·rcases List.mem_cons.mp hp with hp|hp
   ·rw[hp];exact Nat.ne_of_lt Jt
   ·exact Nat.ne_of_lt (S.da p (off hp).1)) (λe=>iY _ (e▸Fm.ns.lt)) (by
  cases q':F.h₀.get? s.heap.objs.size with
  |none=>rfl
  |some o=>exact absurd (Heap.lt_size (Fm.keep _ _ q')) (iY _))
 refine q _ _ λP E' hP=>wpAny_letOwnedTupleGo_enum xv λcT iT P1=>?_
 have S4:=S3.fields (tk:=s.toks+1) (it:=it) (.tail _ (.tail _ (.head _))) rfl (λc e=>nomatch e) P1 iT f9
 have Ju:∀p∈D,p.1∉[it,j]->p∈upd it (Ak .none j ((i:Int)+1) c) ((s.heap.objs.size,({ cls:=.type "tuple",data:=.seq #[.int i s.toks,c] }:Obj))::(j,W8)::(it,Ak (rawInt s.heap.objs.size) j ((i:Int)+1) c)::D.filter λp=>decide (p.1∉[it,j])):=λp hp h1=>av (.tail _ (.tail _ (.tail _ (List.mem_filter.mpr ⟨hp,decide_eq_true h1⟩)))) λe=>h1 (e▸.head _)
 have Tu:∀a ob,(a,ob)∈D->isTup ob->a∉[it,j]:=λa ob hb ht e=>by
  obtain⟨o',NR,r⟩:=It.at.recs (G:=G) (.enum GK CO IY vb Gq) a e
  cases bq S.nd hb NR
  exact r.off.2 (.inl ht)
 exact hP _ _ S4 (λp hp hz GL=>Ju p (K p hp hz GL) (i8 p hp hz GL)) (.enum GK (av (.tail _ (.head _)) GK) UA Uw (bY (.tail _ (.tail _ (.head _))))) rfl
  (.tup (.inl (av (.head _) (Nat.ne_of_gt Jt))) rfl rfl (.cons (.int _ _) (.cons (ic.mono λa o hm ht=>Ju _ hm (Tu a o hm ht)) .nil)))
theorem next_item (ok:bK G F)(hh:A.handled=none){it:Addr}{I I':It}{v:V}{target:Expr}(S:Sat G F σ s D)(K:aO F D₀ D)(hit:I.at G D it)(i8:Out F D₀ (I.gb it))
  (hn:I.next σ.aa=some (some (v,I'))) (ht:∀l i j,I=.enum l i j->lg target=true) {Q:Option Value->Shared->Prop} (q:∀c ak,DP G F A target it σ D₀ I I' v c ak->Q (some c) ak):
  wpAny (bT G) A (pyNext (.ref it)) Q E s:=by
 have f9:∀p∈F.fo,∃es n,p.2.data=.dict es n:=λp hp=>(ok.z6 p hp).1
 cases hit with
 |@list l i o hm hc hd=>
  obtain⟨vs,hl,hn⟩:=mv hn
  obtain⟨u,hv,rfl,rfl⟩:=An hn
  obtain⟨ws,n,h1,h2,h3⟩:=S.aa _ _ hl
  obtain⟨c,NW,ic⟩:=h2.get hv
  refine wpAny_pyNext_list_item ⟨o,(S.news _ hm).1,hc,hd⟩ ⟨_,(S.news _ h1).1,rfl,n,rfl⟩ (x:=c) (by rw[←Array.getElem?_toList];exact NW) λh' ⟨o',lC,mY,gZ⟩ fL=>?_
  exact q c _ (gT f9 S K hm hc hd i8 fL lC mY gZ (by decide) λm t=>⟨.list m mY gZ,rfl,ic.mono t⟩)
 |@txt x t ty i o u3 hm hc hd=>
  obtain⟨u,hv,rfl,rfl⟩:=An (Option.some.inj hn)
  rw[List.getElem?_map] at hv
  obtain⟨cp,hx,rfl⟩:=Option.map_eq_some_iff.mp hv
  have xr:x.cps[i]?=some cp:=by rw[←Array.getElem?_toList];exact hx
  rcases u3 with u3|u3
  ·cases u3
   refine wpAny_pyNext_ascii_item ⟨o,(S.news _ hm).1,hc,hd⟩ xr λh' ⟨o',lC,mY,gZ⟩ fL=>?_
   exact q _ _ (gT f9 S K hm hc hd i8 fL lC mY gZ (by decide) λm t=>⟨.txt (.inl rfl) m mY gZ,rfl,.str [cp] _⟩)
  ·cases u3
   refine wpAny_pyNext_wide_item ⟨o,(S.news _ hm).1,hc,hd⟩ xr λh' ⟨o',lC,mY,gZ⟩ fL=>?_
   exact q _ _ (gT f9 S K hm hc hd i8 fL lC mY gZ (by decide) λm t=>⟨.txt (.inr rfl) m mY gZ,rfl,.str [cp] _⟩)
 |@tup vs i o to t items n hm hc hd RO NO NN Nj=>
  obtain⟨u,hv,rfl,rfl⟩:=An (Option.some.inj hn)
  obtain⟨c,NW,ic⟩:=Nj.get hv
  obtain⟨m,Fm,_⟩:=S.fr
  have SO:s.heap.get? t=some to:=RO.elim (λm=>(S.news _ m).1) λm=>Fm.keep _ _ (ok.XC _ _ m)
  refine next_tuple_item ⟨o,(S.news _ hm).1,hc,hd⟩ ⟨to,SO,NO,n,NN⟩ (x:=c) (by rw[←Array.getElem?_toList];exact NW) λh' ⟨o',lC,mY,gZ⟩ fL=>?_
  exact q c _ (gT f9 S K hm hc hd i8 fL lC mY gZ (by decide) λm t=>⟨.tup m mY gZ (RO.imp (λm=>t _ _ m ⟨NO,_,_,NN⟩) id) NO NN (Nj.mono t),rfl,ic.mono t⟩)
 |@mW x n hm=>
  cases n with
  |zero=>exact nomatch hn
  |succ k=>
   cases hn
   refine wpAny_pyNext_range_item (S.news _ hm).1 (Int.natCast_pos.mpr (Nat.succ_pos k)) λh' G5 fL=>?_
   rw[show((k+1:Nat):Int)-1=(k:Int) from Int.add_sub_cancel (k:Int) 1] at G5
   exact q _ _ (gT f9 S K hm rfl rfl i8 fL G5 rfl rfl (by decide) λm t=>⟨.mW m,rfl,.int x _⟩)
 |enum GK CO IY vb Gq=>
  obtain⟨vs,hl,hn⟩:=mv hn
  obtain⟨u,hv,rfl,rfl⟩:=An hn
  obtain⟨a,b,c,rfl⟩:=B4 (ht _ _ _ rfl)
  exact jU ok S K GK CO IY vb Gq i8 hl hv q
theorem next_end (ok:bK G F)(hh:A.handled=none){it:Addr}{I:It}(S:Sat G F σ s D)(K:aO F D₀ D)(hit:I.at G D it)(i8:Out F D₀ (I.gb it))
  (hn:I.next σ.aa=some none) {Q:Option Value->Shared->Prop} (q:∀s' D',Sat G F σ s' D'->aO F D₀ D'->Q none s'):wpAny (bT G) A (pyNext (.ref it)) Q E s:=by
 have off:∀{W:List Addr} {a:Addr} {h':Heap} {tk:Nat},(∀a∈W,∃o,(a,o)∈D/\isRec o)->a∈W->Out F D₀ W->Heap.ExtBut a s.heap h'->Q none { s with heap:=h',toks:=tk }:=λhW ha hO he=>
  q _ _ (S.ux hW (λb o hb e=>he b o (λz=>hb (z▸ha)) e) λp hp=>(ok.z6 p hp).1) (vX K hO)
 have hW:=hit.recs
 cases hit with
 |@list l i o hm hc hd=>
  obtain⟨vs,hl,hn⟩:=mv hn
  obtain⟨ws,n,h1,h2,h3⟩:=S.aa _ _ hl
  exact wpAny_pyNext_list_end hh ⟨o,(S.news _ hm).1,hc,hd⟩ ⟨_,(S.news _ h1).1,rfl,n,rfl⟩ (h2.none hn) λh' xv=>off hW (.head _) i8 xv
 |@txt x t ty i o u3 hm hc hd=>
  have hv:=Option.map_eq_none_iff.mp (Option.some.inj hn)
  rw[List.getElem?_map] at hv
  have xr:x.cps[i]?=none:=by rw[←Array.getElem?_toList];exact Option.map_eq_none_iff.mp hv
  rcases u3 with u3|u3
  ·cases u3;exact wpAny_pyNext_ascii_end hh ⟨o,(S.news _ hm).1,hc,hd⟩ xr λh' xv=>off hW (.head _) i8 xv
  ·cases u3;exact wpAny_pyNext_wide_end hh ⟨o,(S.news _ hm).1,hc,hd⟩ xr λh' xv=>off hW (.head _) i8 xv
 |@tup vs i o to t items n hm hc hd RO NO NN Nj=>
  obtain⟨m,Fm,_⟩:=S.fr
  have SO:s.heap.get? t=some to:=RO.elim (λm=>(S.news _ m).1) λm=>Fm.keep _ _ (ok.XC _ _ m)
  exact next_tuple_end hh ⟨o,(S.news _ hm).1,hc,hd⟩ ⟨to,SO,NO,n,NN⟩ (Nj.none (Option.some.inj hn)) λh' xv=>off hW (.head _) i8 xv
 |@mW x n hm=>
  cases n with
  |succ k=>exact nomatch hn
  |zero=>exact wpAny_pyNext_range_end hh (S.news _ hm).1 (Int.le_refl 0) λh' xv=>off hW (.head _) i8 xv
 |@enum l i j o old GK CO IY vb Gq=>
  obtain⟨vs,hl,hn⟩:=mv hn
  obtain⟨ws,n,h1,h2,h3⟩:=S.aa _ _ hl
  refine wpAny_pyNext_enum_end hh (S.news _ Gq).1 ⟨o,(S.news _ CO).1,IY,vb⟩ ⟨_,(S.news _ h1).1,rfl,n,rfl⟩ (h2.none hn) λh' xv=>?_
  exact off (W:=[j]) (λa ha=>by cases List.mem_singleton.mp ha;exact⟨o,CO,_,_,vb,IY⟩) (.head _) (λp hp a b e=>i8 p hp a b (List.mem_singleton.mp e▸.tail _ (.head _))) xv
end
noncomputable def gc (G:GC)(F:FC)(af:Nat)(target:Expr)(v:V)(σ:St)(Q:St->Prop)(X:Ex->St->Prop):Prop:=
 ∀A s D c,iW F af A->Sat G F σ s D->br G.C D v c->wpAny (bT G) A (assign target F.env c) (λ_=>R8 G F Q D) (fg G F X D) s
noncomputable def vJ (G:GC)(F:FC)(af:Nat)(ts:List Expr)(vs:List V)(σ:St)(Q:St->Prop)(X:Ex->St->Prop):Prop:=
 ∀A s D cs,iW F af A->Sat G F σ s D->aY G.C D vs cs->wpAny (bT G) A (assignInOrder ((assignEach ts F.env).map (·.2)) cs) (λ_=>R8 G F Q D) (fg G F X D) s
section
variable {G:GC}{F:FC}{af:Nat}{σ:St}{X:Ex->St->Prop}
theorem gc.mono {target:Expr}{v:V}{Q Q':St->Prop}(h:gc G F af target v σ Q X)(f:∀σ,Q σ->Q' σ):gc G F af target v σ Q' X:=λA s D c hA S i=>
 dU (h A s D c hA S i) (λ_ _ ⟨σ,D',a,b,q⟩=>⟨σ,D',a,b,f _ q⟩) λ_ _ e=>e
theorem Gi (ok:bK G F){i:Nat}{x:Str}{pos:Pos}{v:V}{Q:St->Prop}(rk:eD F i x)(q:Q (iQ i v σ)):gc G F af (.Name x pos) v σ Q X:=λA s D c hA S iv=>
 PyProof.Rows.assign_Name (eC ok S rk iv λs' D' S' K'=>⟨_,D',S',K',q⟩)
theorem Gh {Q:St->Prop}(q:Q σ):vJ G F af [] [] σ Q X:=λA s D cs hA S iv=>by
 cases iv
 exact assignInOrder_nil ⟨σ,D,S,.refl,q⟩
theorem iO {t:Expr}{ts:List Expr}{env:Env}(h:noStar t=true):assignEach (t::ts) env=(false,assign t env)::assignEach ts env:=by
 cases t<;>first|rfl|cases h
theorem CA {t:Expr}{ts:List Expr}{v:V}{vs:List V}{Q:St->Prop}(hs:noStar t=true)(h:gc G F af t v σ (λae=>vJ G F af ts vs ae Q X) X):vJ G F af (t::ts) (v::vs) σ Q X:=λA s D cs hA S iv=>by
 cases iv with
 |cons i is=>
  rw[iO hs]
  refine assignInOrder_cons (dU (h A s D _ hA S i) (λ_ ak ⟨ae,aI,az,aB,au⟩=>?_) λ_ _ e=>e)
  exact dU (au A ak aI _ hA az (is.keep aB)) (λ_ aT ⟨ar,bb,aG,aU,aS⟩=>⟨ar,bb,aG,aB.trans aU,aS⟩) λ_ _ e=>e.keep aB
theorem Sat.ext {s:Shared}{D:Led}(S:Sat G F σ s D){h':Heap}(he:Heap.ExtBut s.heap.objs.size s.heap h'):Sat G F σ { s with heap:=h' } D:=
 S.heap λb o hb _=>he b o (Nat.ne_of_lt (Heap.lt_size hb)) hb
theorem dG (ok:bK G F){s:Shared}{D:Led}(S:Sat G F σ s D){t:Addr}{o:Obj}{vs:Array Value}{n:Nat}(k:Kn G.C D t o)(hc:o.cls=.type "tuple")(hd:o.data=.seq vs n):IsTup s.heap t vs:=by
 obtain⟨m,Fm,_⟩:=S.fr
 exact⟨o,k.elim (λm=>(S.news _ m).1) λm=>Fm.keep _ _ (ok.XC _ _ m),hc,n,hd⟩
set_option tactic.hygienic true in
theorem CB (ok:bK G F)(hh:F.hd=none){ts:List Expr}{k:Nat}{pos:Pos}{vs:List V}{Q:St->Prop}(hs:ts.all noStar=true)(hl:ts.length=vs.length)(h:vJ G F af ts vs σ Q X):
  gc G F af (.Tuple ts k pos) (.tup vs) σ Q X:=λA s D c hA S iv=>by
 cases iv with
 |tup kn hc hd is=>
  rename_i a o ws n
  have each:∀ts:List Expr,ts.all noStar=true->(assignEach ts F.env).length=ts.length/\(assignEach ts F.env).findIdx? (·.1)=none:=by
   intro ts
   induction ts with
   |nil=>intro _;exact⟨rfl,rfl⟩
   |cons t r ih=>
    intro h
    rw[List.all_cons,Bool.and_eq_true] at h
    rw[iO h.1]
    obtain⟨h1,h2⟩:=ih h.2
    exact⟨congrArg (·+1) h1,by simp[List.findIdx?_cons,h2]⟩
  refine assign_Tuple_tuple (by rw[hA.hd,hh]) (dG ok S kn hc hd) ?_ (each ts hs).2 λh' he=>?_
  ·rw[(each ts hs).1,hl,←is.length];simp
  ·exact h A _ D _ hA (S.ext he) is
theorem mU (ok:bK G F){ts:List Expr}{k:Nat}{eY pos:Pos}{value:Expr}{Q:Fl->St->Prop}(hw:swappedStores [.Tuple ts k eY] value F.env=pure none)(hs:swapsWithSole [.Tuple ts k eY] value pos.line F.env=pure false)
  (h:J G F af (aE G) (eval value F.env) σ (λv ae=>gc G F af (.Tuple ts k eY) v ae (λar=>Q .next ar) X) X):J G F af (bA G) (exec (.Assign [.Tuple ts k eY] value pos) F.env) σ Q X:=λA s D hA S=>
 Assign_Tuple (h.go hA S λv c ae ak aI az aB aJ au=>dU (au A ak aI c hA az aJ) (λ_ aT ⟨ar,bb,aG,aU,aS⟩=>⟨.next,ar,bb,aG,aB.trans aU,.next,aS⟩) λ_ _ e=>e.keep aB) hs hw
noncomputable def lY:List (Nat×V)->St->St
 |[],σ=>σ
 |(i,v)::r,σ=>lY r (iQ i v σ)
theorem zV (ok:bK G F){E:Value->Shared->Prop}{A:Around}{P:Unit->Shared->Prop}(ns:List Str):∀(is:List Nat)(vs:List V)(cs:List Value)(σ:St)(s:Shared)(D:Led),Sat G F σ s D->aY G.C D vs cs->ns.length=vs.length->is.length=vs.length->
  (∀(j i:Nat) (x:Str),is[j]?=some i->ns[j]?=some x->eD F i x)->(∀s' D',Sat G F (lY (is.zip vs) σ) s' D'->aO F D D'->P () s')->wpAny (bT G) A (assignInOrder (ns.map λn=>bindName F.env n) cs) P E s:=by
 induction ns with
 |nil=>
  intro is vs cs σ s D S hv e1 e2 rk q
  cases vs with
  |cons _ _=>cases e1
  |nil=>
   cases is with
   |cons _ _=>cases e2
   |nil=>
    cases hv
    exact assignInOrder_nil (q s D S .refl)
 |cons n ns ih=>
  intro is vs cs σ s D S hv e1 e2 rk q
  cases vs with
  |nil=>cases e1
  |cons v vs=>
   cases is with
   |nil=>cases e2
   |cons i is=>
    cases hv with
    |cons h hs=>
     refine assignInOrder_cons (wpAny_bindName (eC ok S (rk 0 i n rfl rfl) h λs' D' S' K'=>?_))
     exact ih is vs _ _ s' D' S' (hs.keep K') (by simpa using e1) (by simpa using e2) (λj i' x h1 h2=>rk (j+1) i' x (by simpa using h1) (by simpa using h2)) λjD I6 GR YR=>q jD I6 GR (K'.trans YR)
set_option tactic.hygienic true in
theorem j0 (ok:bK G F)(hh:F.hd=none){ts:List Expr}{k:Nat}{eY pos:Pos}{value:Expr}{names:List Str}{is:List Nat}{Q:Fl->St->Prop}(hw:swappedStores [.Tuple ts k eY] value F.env=pure (some names))
  (hs:swapsWithSole [.Tuple ts k eY] value pos.line F.env=pure false) (hi:is.length=names.length) (rk:∀(j i:Nat) (x:Str),is[j]?=some i->names[j]?=some x->eD F i x)
  (h:J G F af (aE G) (eval value F.env) σ (λv ae=>∃vs,v=.tup vs/\vs.length=names.length/\Q .next (lY (is.reverse.zip vs.reverse) ae)) X):J G F af (bA G) (exec (.Assign [.Tuple ts k eY] value pos) F.env) σ Q X:=λA s D hA S=>
 Assign_Tuple_swapped (h.go hA S λv c ae ak aI az aB aJ au=>by
  rcases au with⟨vs,rfl,hl,q⟩
  cases aJ with
  |tup kn hc hd RJ=>
   rename_i a o ws n
   have hz:names.length=ws.size:=by rw[←hl,←RJ.length];simp
   rw[hz]
   refine unpackItems_tuple (by rw[hA.hd,hh]) (dG ok az kn hc hd) λh' he=>?_
   refine zV ok names.reverse is.reverse _ _ _ _ aI (az.ext he) RJ.rev (by simp[hl]) (by simp[hl,hi]) (λj i x h1 h2=>?_) λs' D' S' K'=>⟨.next,_,D',S',aB.trans K',.next,q⟩
   have hj:j<names.length:=by
    have:=(List.getElem?_eq_some_iff.mp h2).1;simpa using this
   rw[List.getElem?_reverse (by rw[hi];exact hj)] at h1
   rw[List.getElem?_reverse hj] at h2
   rw[hi] at h1
   exact rk _ i x h1 h2) hs hw
inductive Tj (G:GC)(F:FC)(D:Led)(Q:It->St->Prop)(Ke:Value)(s:Shared):Prop
 |mk (it:Addr) (I:It) (σ:St) (D':Led):Ke=.ref it->Sat G F σ s D'->aO F D D'->Out F D (I.gb it)->I.at G D' it->Q I σ->Tj G F D Q Ke s
noncomputable def jf (G:GC)(F:FC)(af:Nat)(iter:Expr)(σ:St)(Q:It->St->Prop)(X:Ex->St->Prop):Prop:=
 ∀A s D,iW F af A->Sat G F σ s D->wpAny (bT G) A (eval iter F.env) (λx ak=>wpAny (bT G) A (pyIter x) (Tj G F D Q) (fg G F X D) ak) (fg G F X D) s
inductive He (aa:ag):V->It->Prop
 |str (l:List Nat):He aa (.str l) (.seq (l.map λc=>.str [c]) 0)
 |tup (vs:List V):He aa (.tup vs) (.seq vs 0)
 |ref {a:Addr} {l:List V}:aa a=some (.list l)->He aa (.ref a) (.list a 0)
theorem B0 (ok:bK G F){iter:Expr}{Q:It->St->Prop}(h:J G F af (aE G) (eval iter F.env) σ (λv ae=>∃I,He ae.aa v I/\Q I ae) X):jf G F af iter σ Q X:=λA s D hA S=>
 h.go hA S λv c ae ak aI az aB aJ au=>by
  obtain⟨I,hI,q⟩:=au
  have out:Out F D [ak.heap.objs.size]:=λp hp a b e=>iY _ (List.mem_singleton.mp e▸az.da p (aB p hp a b))
  have fin:∀o:Obj,o.isFreed=false->I.gb ak.heap.objs.size=[ak.heap.objs.size]->I.at G ((ak.heap.objs.size,o)::aI) ak.heap.objs.size->Tj G F D Q (.ref ak.heap.objs.size) { ak with heap:=ak.heap.push o }:=
   λo hf e hi=>⟨_,I,ae,_,rfl,az.fv o hf,aB.trans (aO.cons _),e▸out,hi,q⟩
  cases hI with
  |str l=>
   obtain⟨u,rfl⟩:=str_is aJ
   cases ha:(⟨l.toArray⟩:Str).cps.all (·<128)
   ·exact wpAny_pyIter_wide ha (fin _ rfl rfl (.txt (x:=⟨l.toArray⟩) (.inr rfl) (.head _) rfl rfl))
   ·exact wpAny_pyIter_ascii ha (fin _ rfl rfl (.txt (x:=⟨l.toArray⟩) (.inl rfl) (.head _) rfl rfl))
  |ref hl=>
   cases bH aJ
   obtain⟨ws,n,h1,h2,h3⟩:=az.aa _ _ hl
   exact wpAny_pyIter_list ⟨_,(az.news _ h1).1,rfl,n,rfl⟩ (fin _ rfl rfl (.list (.head _) rfl rfl))
  |tup vs=>
   obtain⟨a,o,ws,n,rfl,kn,hc,hd,RJ,_⟩:=tup_is aJ
   exact iter_tuple (dG ok az kn hc hd) (fin _ rfl rfl (.tup (.head _) rfl rfl (kn.imp (λm=>.tail _ m) id) hc hd (RJ.lW _)))
noncomputable def Hf (G:GC)(F:FC)(af:Nat)(target:Expr)(body:List Stmt)(I:It)(σ:St)(Q:Fl->St->Prop)(X:Ex->St->Prop):Prop:=
 ∀A s D D₀ it,iW F af A->Sat G F σ s D->aO F D₀ D->Out F D₀ (I.gb it)->I.at G D it->codeAny (bT G) A (.forLoop target (.ref it) body [] F.env) (R9 G F Q X D₀) s
theorem FH (ok:bK G F){target iter:Expr}{body:List Stmt}{pos:Pos}{Q:Fl->St->Prop}(hs:∀x,foldedSetIterable iter F.env x=pure x)(h:jf G F af iter σ (λI ae=>Hf G F af target body I ae Q X) X):
  J G F af (bA G) (exec (.For target iter body [] pos) F.env) σ Q X:=λA s D hA S=>
 wpAny_For (dU (h A s D hA S) (λx ak aN=>dU aN (λKe aT ⟨it,I,ar,bb,e,aG,aU,o,ha,q⟩=>by
  subst e
  exact codeAny_mono (q A aT bb D it hA aG aU o ha) λr s' hr=>by
   cases r with
   |ok f=>exact hr
   |error e=>exact yF hr) λ_ _ e=>e) λ_ _ e=>e) hs
theorem FG (ok:bK G F)(hh:F.hd=none){target:Expr}{body:List Stmt}{I:It}{Q:Fl->St->Prop}(ht:∀l i j,I=.enum l i j->lg target=true)
  (h:gj (I.next σ.aa) (Q .next σ) λv I'=>gc G F af target v σ (λae=>J G F af (bA G) (execs body F.env) ae (Af (λar=>Hf G F af target body I' ar Q X) Q) X) X):Hf G F af target body I σ Q X:=λA s D D₀ it hA S K hO hI=>by
 have hn:∀e s',fg G F X D₀ e s'->notedBy (bT G) A F.env (λe s'=>R9 G F Q X D₀ (.error e) s') e s':=λe s' h'=>yf ok hA.frames h'
 refine codeAny_of_tree ?_
 rw[Around.under_of_weight (A:=A) (c:=.forLoop target (.ref it) body [] F.env) rfl]
 show wpAny _ A ((forTurn target (.ref it) body [] F.env).onRaise (λx=>do noteFrame x F.env;theTreesLotGoes x)) _ _ s
 refine wpAny_noted ?_
 simp only[forTurn]
 refine aW (wpAny_standAt (aW (wpAny_onRaise ?_)))
 rcases jR h with⟨GJ,h⟩|⟨v,I',GJ,h⟩
 ·refine next_end ok (by rw[hA.hd,hh]) S K hI hO GJ λs' D' S' K'=>?_
  refine cC ⟨rfl,codeAny_block (wpAny_execs_nil ?_)⟩
  exact⟨.next,σ,D',S',K',.next,h⟩
 ·refine next_item (target:=target) ok (by rw[hA.hd,hh]) S K hI hO GJ ht λc ak S6=>?_
  refine aW (S6 _ _ λaT bb aG aU Aj DD iv=>?_)
  refine aW (dU (h A aT bb c hA aG iv) (λ_ bQ ⟨bJ,cU,cF,bO,i6⟩=>?_) λe s' he=>hn e s' (he.keep aU))
  refine aW (dU (i6 A bQ cU hA cF) (λf cY hf=>?_) λe s' he=>hn e s' (he.keep (aU.trans bO)))
  obtain⟨fl,j5,kQ,gD,eI,pK,lJ⟩:=hf
  have pO:=(aU.trans bO).trans eI
  have PH:=Aj.keep (bO.trans eI)
  rw[←DD] at hO
  cases pK with
  |next=>exact cC ⟨rfl,lJ A cY kQ D₀ it hA gD pO hO PH⟩
  |brk=>exact cC ⟨.next,j5,kQ,gD,pO,.next,lJ⟩
  |cont=>exact cC ⟨rfl,lJ A cY kQ D₀ it hA gD pO hO PH⟩
  |ret i=>exact cC ⟨_,j5,kQ,gD,pO,.ret i,lJ⟩
end
noncomputable def ip (env:Env)(acc:List (Str×Addr))(x:Str×NameKind):List (Str×Addr):=if x.2==.free then(x.1,(env.cells.lookup x.1).getD 0)::acc else acc
noncomputable def uY (env:Env)(names:List (Str×NameKind)):List (Str×Addr):=names.foldl (ip env) []
theorem zu {α β:Type}{f:α->β->Sem (ForInStep β)}(g:β->α->β):∀{l:List α}{b:β},(∀x∈l,∀b,f x b=pure (.yield (g b x)))->forIn l b f=(pure (l.foldl g b):Sem β):=by
 intro z_
 induction z_ with
 |nil=>
  intro b _
  exact rfl
 |cons x r ih=>
  intro b h
  rw[List.forIn_cons,h x (.head _)]
  show forIn r (g b x) f=_
  exact ih λy hy=>h y (.tail _ hy)
theorem zC {env:Env}{scope:Scope}(h:∀x∈scope.names,x.2=.free->(env.cells.lookup x.1).isSome=true):closureFor scope env=pure (uY env scope.names):=by
 simp only[closureFor]
 rw[zu (ip env) λx hx b=>?_]
 ·rfl
 ·obtain⟨n,k⟩:=x
  unfold ip
  cases hk:k==NameKind.free with
  |false=>simp only[Bool.false_eq_true,if_false]
  |true=>
   obtain⟨a,ha⟩:=Option.isSome_iff_exists.mp (h (n,k) hx (by simpa using hk))
   simp only[if_true]
   have hc:cellOf env n=pure a:=by unfold cellOf;rw[ha]
   rw[hc,ha];rfl
theorem AY {env:Env}:∀{names:List (Str×NameKind)}{acc:List (Str×Addr)}{p:Str×Addr},p∈names.foldl (ip env) acc->p∈acc∨((p.1,NameKind.free)∈names/\p.2=(env.cells.lookup p.1).getD 0):=by
 intro z_
 induction z_ with
 |nil=>
  intro acc p h
  exact .inl h
 |cons x r ih=>
  intro acc p h
  rcases ih h with h|⟨h1,h2⟩
  ·unfold ip at h
   split at h
   ·rename_i hk
    rcases List.mem_cons.mp h with rfl|h
    ·refine .inr ⟨?_,rfl⟩
     obtain⟨n,k⟩:=x
     have:k=.free:=by simpa using hk
     subst this;exact .head _
    ·exact .inl h
   ·exact .inl h
  ·exact .inr ⟨.tail _ h1,h2⟩
theorem AZ {env:Env}:∀(names:List (Str×NameKind))(acc:List (Str×Addr)),(names.foldl (ip env) acc).map (·.1)=((names.filter (·.2==.free)).map (·.1)).reverse++acc.map (·.1):=by
 intro z_
 induction z_ with
 |nil=>
  intro acc
  exact rfl
 |cons x r ih=>
  intro acc
  rw[List.foldl_cons,ih]
  unfold ip
  cases hk:x.2==NameKind.free with
  |true=>simp[List.filter_cons,hk]
  |false=>simp[List.filter_cons,hk]
noncomputable def nK (M:Model)(A:Around)(E:Value->Shared->Prop)(use:Option (Value->Sem Unit))(Q:Value->Shared->Prop)(acc:Value)(cenv:Env)(r:Result)(s':Shared):Prop:=
 match r with
 |.ok _=>(match use with
  |none=>∃m,s'.heap.Ns cenv.locals m/\∀h',Heap.SameBut cenv.locals s'.heap h'->Q acc { s' with heap:=h' }
  |some u=>wpAny M A (u acc) (λ_ jD=>∃m,jD.heap.Ns cenv.locals m/\∀h',Heap.SameBut cenv.locals jD.heap h'->Q .none { jD with heap:=h' }) E s')
 |.error x=>∃m,s'.heap.Ns cenv.locals m/\∀h',Heap.SameBut cenv.locals s'.heap h'->wpAny M A (PySem.passOn "comprehension.variables-let-go" x cenv:Sem Value) (λ_ _=>False) E { s' with heap:=h' }
theorem Co {M:Model}{A:Around}{E:Value->Shared->Prop}{s:Shared}{env:Env}{e:Expr}{scope:Scope}{pos:Pos}{D9 first:Sem Value}{g:Comprehension}{gs:List Comprehension}{cl:List (Str×Addr)}{use:Option (Value->Sem Unit)}
  {Q:Value->Shared->Prop} (GL:clausesOf e=g::gs) (hs:∀x,foldedSetIterable g.iter env x=pure x) (QO:closureFor scope env=pure cl)
  (DA:scope.kind=.function) (MG:∀x∈scope.names,x.2=.local->scope.names.lookup x.1=some .local)
  (h:wpAny M A first (λx ak=>wpAny M A (pyIter x) (λit aT=>wpAny M A D9 (λacc bQ=>
   wpAny M A (newFunctionEnv scope env.globals cl [] env.qual none .none (some env)) (λcenv cY=>
    codeAny M A (.compStart e 0 it acc { cenv with scope:=relabel scope env }) (nK M A E use Q acc { cenv with scope:=relabel scope env }) cY) E bQ) E aT) E ak) E s):
  wpAny M A (comprehension e scope env pos D9 false first use) Q E s:=by
 have loc:∀cenv:Env,∀vs:List (Str×NameKind),(∀x∈vs,x∈scope.names)->∀x∈vs,x.2=.local->Env.kindOf { cenv with scope:=relabel scope env } x.1=some .local:=
  λcenv vs hv x hx hl=>lookup_relabel_local (MG x (hv x hx) hl)
 unfold comprehension
 rw[QO,GL]
 refine aW (dU h (λx ak aN=>?_) λ_ _ z=>z)
 refine aW (wpAny_standAt (aW (wpAny_of_eq (hs x) (aW (wpAny_holding (dU aN (λit aT cT=>?_) λ_ _ z=>z))))))
 refine wpAny_standIf (aW (dU cT (λacc bQ fG=>?_) λ_ _ z=>z))
 refine aW (cC (aW (dU fG (λcenv cY kK=>?_) λ_ _ z=>z)))
 dsimp only
 refine wpAny_holding (aW (wpAny_attempt (wpAny_holding (wpAny_run (codeAny_mono kK λr s' hr=>?_)))))
 have RL:∀x∈(scope.names.filter λx=>(x.2==.local||x.2==.cell)&&x.1 !=(".0":Str)).reverse,x∈scope.names:=λx hx=>(List.mem_filter.mp (List.mem_reverse.mp hx)).1
 cases r with
 |ok f=>
  cases use with
  |none=>
   obtain⟨m,hn,hr⟩:=hr
   exact aW (wpAny_holding (wpAny_comp_letGo (cenv:={ cenv with scope:=relabel scope env }) DA _ s' m (loc cenv _ RL) hn λh' m' _ fL=>cC (hr h' fL)))
  |some u=>
   refine aW (wpAny_rule (aW (wpAny_holding (dU hr (λ_ jD z0=>?_) λ_ _ z=>z))))
   obtain⟨m,hn,z0⟩:=z0
   refine aW (wpAny_comp_letGo (cenv:={ cenv with scope:=relabel scope env }) DA _ jD m (loc cenv _ λx hx=>?_) hn λh' m' _ fL=>cC (z0 h' fL))
   rcases List.mem_append.mp hx with hx|hx
   ·exact RL x (List.mem_of_mem_drop hx)
   ·exact RL x (List.mem_of_mem_take hx)
 |error x=>
  obtain⟨m,hn,hr⟩:=hr
  exact aW (wpAny_holding (wpAny_comp_letGo (cenv:={ cenv with scope:=relabel scope env }) DA _ s' m (loc cenv _ RL) hn λh' m' _ fL=>dU (hr h' fL) (λ_ _ f=>f.elim) λ_ _ y=>y))
section
variable {G:GC}{F:FC}{af:Nat}{σ:St}{X:Ex->St->Prop}
theorem oB (ok:bK G F){A:Around}{E:Value->Shared->Prop}{s:Shared}{D:Led}{a:Addr}{l:List V}{v:V}{c:Value}{P:Value->Shared->Prop}(S:Sat G F σ s D)(hl:σ.aa a=some (.list l))(iv:br G.C D v c)(hz:l.length<10000000)
  (q:∀s' D',Sat G F { σ with aa:=put σ.aa a (.list (l++[v])) } s' D'->aO F D D'->P .none s'):wpAny (bT G) A (call (.builtin "list.append") [.ref a,c]) P E s:=by
 obtain⟨vs,n,h1,h2,h3⟩:=S.aa _ _ hl
 obtain⟨m,Fm,hm⟩:=S.fr
 have V0:vs.size=l.length:=by have:=h2.length;simpa using this
 refine append_K Fm S.news (Upd.nf S.nd h1) (λh' F' N'=>?_) (by rw[sizeLine_eq];exact a20 0x189381020408209913816a4e602cc082 tt hz V0)
 obtain⟨S',K'⟩:=S.tY (s':={ s with heap:=h' }) (l':=l++[v]) hl hm F' N' (by simpa using h2.snoc iv) (by rw[Array.size_push];exact a20 0x644e04081020ad2a09913816a4e602cc082 tt hz V0) (λp hp=>(ok.z6 p hp).1) S.gens S.os
 exact q _ _ S' K'
theorem It.self (ok:bK G F){A:Around}{E:Value->Shared->Prop}{s:Shared}{D:Led}{it:Addr}{I:It}{P:Value->Shared->Prop}(hh:A.handled=none)(S:Sat G F σ s D)(h:I.at G D it)(q:P (.ref it) s):wpAny (bT G) A (pyIter (.ref it)) P E s:=by
 cases h with
 |list hm hc hd=>exact wpAny_pyIter_listiter ⟨_,(S.news _ hm).1,hc,hd⟩ q
 |txt u3 hm hc hd=>
  rcases u3 with u3|u3
  ·cases u3;exact wpAny_pyIter_striter_ascii ⟨_,(S.news _ hm).1,hc,hd⟩ q
  ·cases u3;exact wpAny_pyIter_striter_wide ⟨_,(S.news _ hm).1,hc,hd⟩ q
 |tup hm hc hd=>exact wpAny_pyIter_tupleiter ⟨_,(S.news _ hm).1,hc,hd⟩ q
 |mW hm=>exact wpAny_pyIter_rangeiter (S.news _ hm).1 q
 |enum _ _ _ _ hm=>exact wpAny_pyIter_enum (S.news _ hm).1 q
noncomputable def WE (G:GC)(F:FC)(Q:St->Prop)(X:Ex->St->Prop)(D₀:Led)(r:Result)(s:Shared):Prop:=match r with
 |.ok _=>R8 G F Q D₀ s
 |.error e=>i9 G F X D₀ e s
noncomputable def sA (G:GC)(F:FC)(af:Nat)(elt target iter:Expr)(ifs:List Expr)(scope:Scope)(pos:Pos)(I:It)(acc:Addr)(σ:St)(Q:St->Prop)(X:Ex->St->Prop):Prop:=
 ∀A s D D₀ it,iW F af A->Sat G F σ s D->aO F D₀ D->Out F D₀ (I.gb it)->I.at G D it->
  codeAny (bT G) A (.compLoop (.ListComp elt [⟨target,iter,ifs,0⟩] scope pos) 0 (.ref it) (.ref acc) F.env) (WE G F Q X D₀) s
noncomputable def PJ (G:GC)(F:FC)(af:Nat)(ifs:List Expr)(σ:St)(Q:Bool->St->Prop)(X:Ex->St->Prop):Prop:=match ifs with
 |[]=>Q true σ
 |c::r=>(match r with
  |[]=>J G F af c8 (isTrue c F.env (eval c F.env)) σ Q X
  |_::_=>False)
inductive c3 (acc:Addr)(R:St->Prop)(y:V)(σ:St):Prop
 |mk (ys:List V):σ.aa acc=some (.list ys)->ys.length<10000000->R ⟨σ.loc,put σ.aa acc (.list (ys++[y]))⟩->c3 acc R y σ
noncomputable def J' (G:GC)(F:FC)(af:Nat)(elt target iter:Expr)(ifs:List Expr)(scope:Scope)(pos:Pos)(I:It)(acc:Addr)(Q:St->Prop)(X:Ex->St->Prop)(b:Bool)(σ:St):Prop:=match b with
 |true=>J G F af (aE G) (eval elt F.env) σ (λy bJ=>c3 acc (λbJ=>sA G F af elt target iter ifs scope pos I acc bJ Q X) y bJ) X
 |false=>sA G F af elt target iter ifs scope pos I acc σ Q X
theorem th (ok:bK G F){elt target iter:Expr}{ifs:List Expr}{scope:Scope}{pos:Pos}{I:It}{acc it:Addr}{Q:St->Prop}{A:Around}{s:Shared}{D D₀:Led}{b:Bool}(hA:iW F af A)(S:Sat G F σ s D)(K:aO F D₀ D)(hO:Out F D₀ (I.gb it))(hI:I.at G D it)
  (hn:∀e s',fg G F X D₀ e s'->notedBy (bT G) A F.env (i9 G F X D₀) e s') {P:PySem.Fin->Shared->Prop} (hP:∀g9,codeAny (bT G) A (.compLoop (.ListComp elt [⟨target,iter,ifs,0⟩] scope pos) 0 (.ref it) (.ref acc) F.env) (WE G F Q X D₀) g9->P (.again (.compLoop (.ListComp elt [⟨target,iter,ifs,0⟩] scope pos) 0 (.ref it) (.ref acc) F.env)) g9)
  (q:J' G F af elt target iter ifs scope pos I acc Q X b σ):wpAny (bT G) A (do
   if b=true then
    (do let _ ←call (.builtin "list.append") [.ref acc,←eval elt F.env])
   again (.compLoop (.ListComp elt [⟨target,iter,ifs,0⟩] scope pos) 0 (.ref it) (.ref acc) F.env)) P (notedBy (bT G) A F.env (i9 G F X D₀)) s:=by
 cases b with
 |false=>exact cC (hP _ (q A s D D₀ it hA S K hO hI))
 |true=>
  refine aW (aW (dU (q A s D hA S) (λy Ba ⟨w,PM,Hi,xU,pO,C4,ys,rX,hz,KP⟩=>?_) λe s' he=>hn e s' (he.keep K)))
  refine aW (oB ok xU rX C4 hz λg9 Hh Dg Bk=>?_)
  exact cC (cC (hP _ (KP A g9 Hh D₀ it hA Dg ((K.trans pO).trans Bk) hO (hI.keep (pO.trans Bk)))))
theorem Cm (ok:bK G F)(hh:F.hd=none){elt target iter:Expr}{ifs:List Expr}{scope:Scope}{pos:Pos}{I:It}{acc:Addr}{Q:St->Prop}(ht:∀l i j,I=.enum l i j->lg target=true)
  (h:gj (I.next σ.aa) (Q σ) λv I'=>gc G F af target v σ (λae=>PJ G F af ifs ae (J' G F af elt target iter ifs scope pos I' acc Q X) X) X):
  sA G F af elt target iter ifs scope pos I acc σ Q X:=λA s D D₀ it hA S K hO hI=>by
 have hn:∀e s',fg G F X D₀ e s'->notedBy (bT G) A F.env (i9 G F X D₀) e s':=λe s' h'=>yf ok hA.frames h'
 refine codeAny_of_tree ?_
 rw[Around.under_of_weight (A:=A) (c:=.compLoop (.ListComp elt [⟨target,iter,ifs,0⟩] scope pos) 0 (.ref it) (.ref acc) F.env) rfl]
 refine wpAny_noted (m:=compTurn (.ListComp elt [⟨target,iter,ifs,0⟩] scope pos) 0 (.ref it) (.ref acc) F.env) ?_
 rw[compTurn_list]
 refine aW (wpAny_standAt (aW ?_))
 rcases jR h with⟨GJ,h⟩|⟨v,I',GJ,h⟩
 ·exact next_end ok (by rw[hA.hd,hh]) S K hI hO GJ λs' D' S' K'=>cC ⟨σ,D',S',K',h⟩
 ·refine next_item (target:=target) ok (by rw[hA.hd,hh]) S K hI hO GJ ht λc ak S6=>?_
  refine aW (S6 _ _ λaT bb aG aU Aj DD iv=>?_)
  refine aW (dU (h A aT bb c hA aG iv) (λ_ bQ ⟨bJ,cU,cF,bO,i6⟩=>?_) λe s' he=>hn e s' (he.keep aU))
  rw[←DD] at hO
  cases ifs with
  |nil=>exact aW (cC (th ok hA cF (aU.trans bO) hO (Aj.keep bO) hn (λg9 kJ=>⟨rfl,kJ⟩) i6))
  |cons c r=>
   cases r with
   |nil=>
    refine aW ?_
    rw[List.forIn_cons]
    refine aW (aW (dU (i6 A bQ cU hA cF) (λb cY ⟨b',j5,kQ,gD,eI,pK,lJ⟩=>?_) λe s' he=>hn e s' (he.keep (aU.trans bO))))
    cases(pK:b'=b)
    exact cC (cC (th ok hA gD ((aU.trans bO).trans eI) hO (Aj.keep (bO.trans eI)) hn (λg9 kJ=>⟨rfl,kJ⟩) lJ))
   |cons=>exact i6.elim
end
structure lX (F:FC)(scope:Scope)(names:List Str)(nl:Nat)(cD:List Nat):Prop where
 nm:names.Nodup
 len:names.length=nl+cD.length
 YN:∀(j i:Nat) (x:Str),cD[j]?=some i->names[nl+j]?=some x->(F.names[i]?:Option Str)=some x/\(x,NameKind.free)∈scope.names/\F.env.kindOf x=some .cell/\(relabel scope F.env).names.lookup x=some .cell
 free:∀x∈scope.names,x.2=.free->(F.env.cells.lookup x.1).isSome=true
 Ma:∀x∈scope.names,x.2≠.cell
 kind:scope.kind=.function
 locs:∀x∈scope.names,x.2=.local->scope.names.lookup x.1=some .local
 Yv:((scope.names.filter (·.2==.free)).map (·.1)).Nodup
noncomputable def gn (nl:Nat)(cD:List Nat)(loc:List (Option V)):List (Option V):=List.replicate nl none++cD.map λi=>(loc[i]?).join
noncomputable def mH (G:GC)(F:FC)(af:Nat)(elt target iter:Expr)(ifs:List Expr)(scope:Scope)(pos:Pos)(names:List Str)(nl:Nat)(cD:List Nat)(I:It)(ae:St)(Q:V->St->Prop)(X:Ex->St->Prop):Prop:=
 ∀(F':FC) (C acc:Addr),bK G F'->F'.hd=F.hd->F'.names=names->F'.env=compEnvC scope (uY F.env scope.names) C F.env->F'.own=[]->ae.aa acc=none->
  sA G F' af elt target iter ifs scope pos I acc ⟨gn nl cD ae.loc,put ae.aa acc (.list [])⟩ (λcn=>Q (.ref acc) ⟨ae.loc,cn.aa⟩) (λex cn=>X ex ⟨ae.loc,cn.aa⟩)
section
variable {G:GC}{F:FC}{af:Nat}{σ:St}{X:Ex->St->Prop}
theorem zD {env:Env}{x:Str}{names:List (Str×NameKind)}(h:(x,NameKind.free)∈names):(uY env names).lookup x=some ((env.cells.lookup x).getD 0):=by
 have hm:x∈(uY env names).map (·.1):=by
  unfold uY
  rw[AZ]
  simp only[List.map_nil,List.append_nil,List.mem_reverse]
  exact List.mem_map.mpr ⟨(x,.free),List.mem_filter.mpr ⟨h,rfl⟩,rfl⟩
 have all:∀p∈uY env names,p.2=(env.cells.lookup p.1).getD 0:=λp hp=>by
  rcases AY hp with h|⟨_,h⟩
  ·cases h
  ·exact h
 generalize uY env names=l at hm all
 induction l with
 |nil=>cases hm
 |cons p r ih=>
  rw[List.lookup_cons]
  split
  ·rename_i e
   have e:x=p.1:=by simpa using e
   rw[all p (.head _),e]
  ·rename_i e
   refine ih ?_ λq hq=>all q (.tail _ hq)
   rcases List.mem_cons.mp hm with h'|h'
   ·rw[h'] at e;simp at e
   ·exact h'
theorem yC {scope:Scope}{names:List Str}{nl:Nat}{cD:List Nat}(hc:lX F scope names nl cD):∀p∈uY F.env scope.names,(p.1,NameKind.free)∈scope.names/\F.env.cells.lookup p.1=some p.2:=λp hp=>by
 rcases AY hp with h|⟨h1,h2⟩
 ·cases h
 ·obtain⟨a,e⟩:=Option.isSome_iff_exists.mp (hc.free _ h1 rfl)
  exact⟨h1,by rw[h2,e];rfl⟩
theorem BS {l:List (Str×Addr)}(n:(l.map (·.1)).Nodup)(inj:∀p∈l,∀q∈l,p.2=q.2->p.1=q.1):(l.map (·.2)).Nodup:=by
 induction l with
 |nil=>exact List.nodup_nil
 |cons p r ih=>
  rw[List.map_cons,List.nodup_cons] at n ⊢
  refine⟨λhm=>?_,ih n.2 λa ha b hb=>inj a (.tail _ ha) b (.tail _ hb)⟩
  obtain⟨q',V7,e⟩:=List.mem_map.mp hm
  exact n.1 (by rw[←inj q' (.tail _ V7) p (.head _) e];exact List.mem_map_of_mem (f:=(·.1)) V7)
theorem Cq {scope:Scope}{names:List Str}{nl:Nat}{cD:List Nat}(ok:bK G F)(hc:lX F scope names nl cD):((uY F.env scope.names).map (·.2)).Nodup:=by
 refine BS (by unfold uY;rw[AZ,List.map_nil,List.append_nil];exact(List.reverse_perm _).nodup_iff.mpr hc.Yv) λp hp q hq e=>?_
 have h1:=mem_lookup (yC hc p hp).2
 rw[e] at h1
 exact Aw ok.Nt h1 (mem_lookup (yC hc q hq).2)
noncomputable def G' (F:FC)(h:Heap)(D:Led)(scope:Scope)(C:Addr)(oL:Obj)(names:List Str):FC:=
 ⟨hideAll h (F.L::D.map (·.1)),compEnvC scope (uY F.env scope.names) C F.env,F.frames,(F.L,oL)::F.fo,[],F.hd,names⟩
theorem bK.block {scope:Scope}{names:List Str}{nl:Nat}{cD:List Nat}{s:Shared}{D:Led}{C:Addr}{oL:Obj}{es:Array DictEntry}{n:Nat}(ok:bK G F)(S:Sat G F σ s D)(hc:lX F scope names nl cD)(hL:s.heap.get? F.L=some oL)(z4:oL.data=.dict es n):bK G (G' F s.heap D scope C oL names):=by
 obtain⟨kX,kC,kT⟩:=ok.keeps S.hidden
 have w:=(S.Dn ok hL z4).2.2.2.2
 exact⟨kX,kC,kT,hc.kind,ok.glob,ok.N3,ok.top,λe he=>⟨(w.2 e he).1,(w.2 e he).2.elim λP h=>⟨P,h.1,.inr h.2⟩⟩,w.1,hc.nm,Cq ok hc⟩
theorem M1 {nl i:Nat}{cD:List Nat}{loc:List (Option V)}{v:V}(h:(gn nl cD loc)[i]?=some (some v)):∃j k,i=nl+j/\cD[j]?=some k/\(loc[k]?:Option (Option V))=some (some v):=by
 unfold gn at h
 have hi:nl<=i:=by
  rcases Nat.lt_or_ge i nl with k|k
  ·rw[List.getElem?_append_left (by rw[List.length_replicate];exact k),List.getElem?_replicate,aL k] at h
   cases h
  ·exact k
 rw[List.getElem?_append_right (by rw[List.length_replicate];exact hi),List.length_replicate,List.getElem?_map] at h
 obtain⟨k,h1,h2⟩:=Option.map_eq_some_iff.mp h
 refine⟨i-nl,k,(Nat.add_sub_cancel' hi).symm,h1,?_⟩
 cases q:(loc[k]?:Option (Option V)) with
 |none=>rw[q] at h2;cases h2
 |some u=>rw[q] at h2;exact congrArg some h2
theorem Sat.block {scope:Scope}{names:List Str}{nl:Nat}{cD:List Nat}{s:Shared}{D:Led}{C:Addr}{oL:Obj}{aN:Heap}{tk:Nat}{KY:Str->Option Value}{es:Array DictEntry}{n:Nat}(S:Sat G F σ s D)(ok:bK G F)(hc:lX F scope names nl cD)(hL:s.heap.get? F.L=some oL)(z4:oL.data=.dict es n)(hC:s.heap.objs.size<=C)
  (SU:aN.Ns C KY) (keep:∀b o,s.heap.get? b=some o->aN.get? b=some o):Sat G (G' F s.heap D scope C oL names) ⟨gn nl cD σ.loc,σ.aa⟩ { s with heap:=aN,toks:=tk } ((F.L,oL)::D):=by
 obtain⟨m,Fm,hm⟩:=S.fr
 have inD:∀p∈D,p∈(F.L,oL)::D:=λp hp=>.tail _ hp
 have lt:∀{b:Addr},b<s.heap.objs.size->b≠C:=λh=>Nat.ne_of_lt (Nat.lt_of_lt_of_le h hC)
 obtain⟨w1,w2,w3,w4,_⟩:=S.Dn ok hL z4
 refine⟨⟨_,⟨SU,λb o e=>keep _ _ (of_hideAll _ e),fm (Nat.le_of_eq (hideAll_size _ _)) hC⟩,λi y v e1 e2=>?_⟩,λp hp=>⟨keep _ _ (w1 p hp),lt (Heap.lt_size (w1 p hp)),hideAll_none _ (List.mem_map_of_mem (f:=(·.1)) hp)⟩,w2,w3,S.inj,w4,S.gens,S.os,λy ca e=>?_⟩
 ·obtain⟨j,k,rfl,hj,hk⟩:=M1 e2
  obtain⟨c1,c2,c3,c4⟩:=hc.YN _ _ _ hj e1
  obtain⟨c,hl,iv⟩:=hm k y v c1 hk
  refine⟨c,?_,iv.mono λ_ _ h _=>inD _ h⟩
  rcases hl with⟨q1,_⟩|⟨ca,o,q1,q2,q3,q4⟩
  ·rw[c3] at q1;cases q1
  ·refine .inr ⟨ca,o,.inl c4,?_,inD _ q3,q4⟩
   show(uY F.env scope.names).lookup y=some ca
   rw[zD c2,q2];rfl
 ·obtain⟨o,v,h1,h2⟩:=S.cells y ca (yC hc _ (mem_lookup e)).2
  exact⟨o,v,inD _ h1,h2⟩
theorem Sat.letGo {s:Shared}{D:Led}{C:Addr}{h':Heap}(S:Sat G F σ s D)(hs:Heap.SameBut C s.heap h')(CI:C≠F.L)(Kv:∀p∈D,p.1≠C)(CS:F.h₀.get? C=none):Sat G F σ { s with heap:=h' } D:=
 S.heap λb o hb hw=>(hs.2 b λe=>by
  cases e
  rcases hw with⟨p,hp,e⟩|e|e
  ·exact Kv p hp e
  ·exact CI e
  ·exact nomatch CS.symm.trans e).trans hb
theorem Cp {A:Around}{s:Shared}{D D₀:Led}{C:Addr}{env:Env}{ex:Ex}{ea dx:Addr}{oe:Obj}{ws:Array Value}{P:Addr}{h':Heap}(S:Sat G F σ s D)(K:aO F D₀ D)(hs:Heap.SameBut C s.heap h')(CI:C≠F.L)(Kv:∀p∈D,p.1≠C)(CS:F.h₀.get? C=none)(tF:env.frame=F.env.frame)
  (ho:xy G F D s.heap σ.aa ex ea dx oe ws P) (hb:yG F D s.heap ea P ws) (X6:ea≠C) (Ye:∀T,ws[1]?=some (.ref T)->T≠C) (hX:X ex σ):
  wpAny (bT G) A (PySem.passOn "comprehension.variables-let-go" (.ref ea) env:Sem Value) (λ_ _=>False) (fg G F X D₀) { s with heap:=h' }:=by
 obtain⟨T,oT,ts,g1,g2,g3,g4,g5,g6,g7,g8⟩:=hb
 have Wq:h'.get? T=some oT:=(hs.2 _ (Ye T g1)).trans g2
 have lC:xy G F D h' σ.aa ex ea dx oe ws P:={ ho with at_:=(hs.2 _ X6).trans ho.at_,tb:=.inr ⟨T,oT,ts,g1,Wq,g3,g4,g5,g6,g7,.inr g8⟩ }
 have hT:i9 G F X D₀ (.ref ea) { s with heap:=h' }:=⟨ex,σ,D,S.letGo hs CI Kv CS,K,⟨ea,dx,oe,ws,P,rfl,lC,⟨T,oT,ts,g1,Wq,g3,g4,g5,g6,g7,g8⟩⟩,hX⟩
 unfold PySem.passOn
 refine aW (wpAny_field lC.at_ lC.data g1 ?_)
 rw[aA (show ¬((Value.ref T==Value.none)=true) from by simp),tF]
 exact aW (pq hT (.inr rfl) λg9 kJ _ _=>wpAny_throw kJ)
noncomputable def Py (G:GC)(F:FC)(D:Led)(X:Ex->St->Prop)(A:Around)(use:Option (Value->Sem Unit))(P:Value->Shared->Prop)(acc C:Addr)(s':Shared):Prop:=match use with
 |none=>∀h',Heap.SameBut C s'.heap h'->P (.ref acc) { s' with heap:=h' }
 |some u=>wpAny (bT G) A (u (.ref acc)) (λ_ jD=>∃m,jD.heap.Ns C m/\∀h',Heap.SameBut C jD.heap h'->P .none { jD with heap:=h' }) (fg G F X D) s'
theorem F4 (ok:bK G F)(hh:F.hd=none){elt target iter:Expr}{ifs:List Expr}{scope:Scope}{pos:Pos}{names:List Str}{nl:Nat}{cD:List Nat}{use:Option (Value->Sem Unit)}{Q:V->St->Prop}{P:Value->Shared->Prop}
  {A:Around} {s:Shared} {D₀ D:Led} {it acc:Addr} {I:It} {aN:Heap} {tk:Nat} {KY:Str->Option Value} {TR:Obj} (hA:iW F af A) (S:Sat G F σ s D) (K:aO F D₀ D) (o:Out F D₀ (I.gb it)) (ha:I.at G D it) (hc:lX F scope names nl cD)
  (SU:aN.Ns s.heap.objs.size KY) (rq:Heap.SameBut s.heap.objs.size (s.heap.push TR) aN)
  (q:∀F':FC,bK G F'->F'.hd=F.hd->F'.names=names->F'.env=compEnvC scope (uY F.env scope.names) s.heap.objs.size F.env->F'.own=[]->
   sA G F' af elt target iter ifs scope pos I acc ⟨gn nl cD σ.loc,σ.aa⟩ (λcn=>Q (.ref acc) ⟨σ.loc,cn.aa⟩) (λex cn=>X ex ⟨σ.loc,cn.aa⟩))
  (hP:∀cn s' D' m,Sat G F cn s' D'->aO F D₀ D'->Q (.ref acc) cn->s'.heap.Ns s.heap.objs.size m->s.heap.objs.size≠F.L->(∀p∈D',p.1≠s.heap.objs.size)->F.h₀.get? s.heap.objs.size=none->Py G F D₀ X A use P acc s.heap.objs.size s'):
  codeAny (bT G) A (.compStart (.ListComp elt [⟨target,iter,ifs,0⟩] scope pos) 0 (.ref it) (.ref acc) (compEnvC scope (uY F.env scope.names) s.heap.objs.size F.env))
   (nK (bT G) A (fg G F X D₀) use P (.ref acc) (compEnvC scope (uY F.env scope.names) s.heap.objs.size F.env)) { s with heap:=aN,toks:=tk }:=by
 obtain⟨m,Fm,hm⟩:=S.fr
 obtain⟨oL,R0,R1,hL,z4,Tb⟩:=id Fm.ns
 have l9:∀b o,s.heap.get? b=some o->aN.get? b=some o:=λb o e=>rq.extBut b o (Nat.ne_of_lt (Heap.lt_size e)) (Heap.get?_push_of_some _ e)
 have CM:=ok.block (C:=s.heap.objs.size) S hc hL z4
 have az:=S.block (tk:=tk) ok hc hL z4 (eR _) SU l9
 have stays:=S.hidden
 have f9:∀p∈F.fo,∃es n,p.2.data=.dict es n:=λp hp=>(ok.z6 p hp).1
 have Sf:=S.ux (W:=I.gb it) (h':=s.heap) (tk:=s.toks) ha.recs (λb o _ e=>e) f9
 have Kf:aO F D₀ (D.filter λp=>decide (p.1∉I.gb it)):=vX K o
 have O1:∀p∈D.filter (λp=>decide (p.1∉I.gb it)),p∈((F.L,oL)::D).filter λp=>decide (p.1∉I.gb it):=λp hp=>by
  obtain⟨h1,h2⟩:=List.mem_filter.mp hp
  exact List.mem_filter.mpr ⟨.tail _ h1,h2⟩
 have CI:s.heap.objs.size≠F.L:=Nat.ne_of_gt (Heap.lt_size hL)
 have CS:F.h₀.get? s.heap.objs.size=none:=by
  cases e:F.h₀.get? s.heap.objs.size with
  |none=>rfl
  |some o=>exact absurd (Heap.lt_size (Fm.keep _ _ e)) (iY _)
 have GO:iW (G' F s.heap D scope s.heap.objs.size oL names) af A:=⟨hA.frames,hA.depth,hA.units,hA.hd⟩
 have PI:I.at G ((F.L,oL)::D) it:=ha.mono λp hp _=>.tail _ hp
 generalize hF:G' F s.heap D scope s.heap.objs.size oL names=F' at CM az GO
 have Td:F'.fo=(F.L,oL)::F.fo:=hF▸rfl
 have Wn:F'.own=[]:=hF▸rfl
 have Wm:F'.env=compEnvC scope (uY F.env scope.names) s.heap.objs.size F.env:=hF▸rfl
 have Tc:F.h₀.StaysIn F'.h₀:=hF▸stays
 have Yl:F'.hd=F.hd:=hF▸rfl
 have Yk:F'.names=names:=hF▸rfl
 have Va:Out F' (((F.L,oL)::D).filter λp=>decide (p.1∉I.gb it)) (I.gb it):=λp hp _ _=>tC (List.mem_filter.mp hp).2
 have aB:aO F' (((F.L,oL)::D).filter λp=>decide (p.1∉I.gb it)) ((F.L,oL)::D):=λp hp _ _=>(List.mem_filter.mp hp).1
 have noOwn:∀p∈D.filter (λp=>decide (p.1∉I.gb it)),p.1∉F'.own:=λ_ _=>by rw[Wn];exact List.not_mem_nil
 have body:=q F' CM Yl Yk Wm Wn A _ _ _ it GO az aB Va PI
 rw[←Wm]
 have eL:F'.L=s.heap.objs.size:=hF▸rfl
 have tF:F'.env.frame=F.env.frame:=hF▸rfl
 rw[←eL] at hP CI CS
 have JZ:codeAny (bT G) A (.compLoop (.ListComp elt [⟨target,iter,ifs,0⟩] scope pos) 0 (.ref it) (.ref acc) F'.env) (nK (bT G) A (fg G F X D₀) use P (.ref acc) F'.env) { s with heap:=aN,toks:=tk }:=codeAny_mono body λr s' hr=>by
  cases r with
  |ok f=>
   obtain⟨cn,D',S',K',q'⟩:=hr
   obtain⟨kQ,gD,eI,tO,_⟩:=pop (F':=F') Sf hL Tc Td noOwn O1 S' K'
   obtain⟨mC,Sa,_⟩:=S'.fr
   have u:=hP ⟨σ.loc,cn.aa⟩ s' kQ mC gD (Kf.trans eI) q' Sa.ns CI (λp hp=>(S'.news p ((tO p).mp hp).1).2.1) CS
   cases use with
   |none=>exact⟨mC,Sa.ns,u⟩
   |some v=>exact u
  |error e=>
   obtain⟨ex,cn,D',S',K',⟨ea,dx,oe,ws,P',rfl,ho,⟨T,oT,ts,h1,hT,uW,r3,rm,uX,pF,h3⟩⟩,hX⟩:=hr
   obtain⟨kQ,gD,eI,tO,_,IX,Sj,QU⟩:=pop (F':=F') Sf hL Tc Td noOwn O1 S' K'
   obtain⟨mC,Sa,_⟩:=S'.fr
   obtain⟨QE,QP⟩:=Jk (s:=s) (D:=D) (P₀:=P') Tc Td QU tO IX ho (tF.symm.trans ho.frame) h1 hT uW r3 rm pF h3 (.inr rfl)
   exact⟨mC,Sa.ns,λh' fL=>Cp gD (Kf.trans eI) fL CI (λp hp=>(S'.news p ((tO p).mp hp).1).2.1) CS tF QE (QP rfl) ho.kH (λT' e=>by cases h1.symm.trans e;exact uX) hX⟩
 exact codeAny_compStart_list JZ (It.self CM (by rw[hA.hd,hh]) az PI JZ)
theorem ti (ok:bK G F)(hh:F.hd=none){elt target iter:Expr}{ifs:List Expr}{scope:Scope}{pos:Pos}{names:List Str}{nl:Nat}{cD:List Nat}{use:Option (Value->Sem Unit)}{Q:V->St->Prop}{P:Value->Shared->Prop}
  {A:Around} {s:Shared} {D:Led} (hA:iW F af A) (S:Sat G F σ s D) (hs:∀x,foldedSetIterable iter F.env x=pure x) (hc:lX F scope names nl cD)
  (h:jf G F af iter σ (λI ae=>mH G F af elt target iter ifs scope pos names nl cD I ae Q X) X)
  (hP:∀(acc C:Addr) cn s' D' m,Sat G F cn s' D'->aO F D D'->Q (.ref acc) cn->s'.heap.Ns C m->C≠F.L->(∀p∈D',p.1≠C)->F.h₀.get? C=none->Py G F D X A use P acc C s'):
  wpAny (bT G) A (comprehension (.ListComp elt [⟨target,iter,ifs,0⟩] scope pos) scope F.env iter.pos (newList []) false (eval iter F.env) use) P (fg G F X D) s:=by
 refine Co (g:=⟨target,iter,ifs,0⟩) (gs:=[]) rfl hs (zC hc.free) hc.kind hc.locs ?_
 refine dU (h A s D hA S) (λx ak aN=>dU aN (λKe aT ⟨it,I,ar,bb,e,aG,aU,o,ha,q⟩=>?_) λ_ _ e=>e) λ_ _ e=>e
 cases e
 refine wpAny_newObj_type (wpAny_newFunctionEnv hc.Ma (λ_ hy=>nomatch hy) (λaN MF MC=>?_) hc.kind)
 have cF:=(aG.fv { cls:=.type "list",data:=.seq ([]:List Value).toArray }).jG (a:=aT.heap.objs.size) (l:=[]) (vs:=#[]) (n:=0) (.head _) .nil (by decide)
 exact F4 ok hh hA cF (aU.trans (aO.cons _)) o (ha.mono λ_ hp _=>.tail _ hp) hc MF MC (λF' h1 h2 h3 h4 h5=>q F' _ _ h1 h2 h3 h4 h5 aG.fresh) λcn s' D' m=>hP _ _ cn s' D' m
theorem Cn (ok:bK G F)(hh:F.hd=none){elt target iter:Expr}{ifs:List Expr}{scope:Scope}{pos:Pos}{names:List Str}{nl:Nat}{cD:List Nat}{Q:V->St->Prop}(hs:∀x,foldedSetIterable iter F.env x=pure x)(hc:lX F scope names nl cD)
  (h:jf G F af iter σ (λI ae=>mH G F af elt target iter ifs scope pos names nl cD I ae Q X) X):J G F af (aE G) (eval (.ListComp elt [⟨target,iter,ifs,0⟩] scope pos) F.env) σ Q X:=λA s D hA S=>by
 rw[eval_ListComp]
 refine ti (use:=none) ok hh hA S hs hc h λacc C cn s' D' m S' K' q' hn CI Kv CS h' fL=>?_
 refine⟨.ref acc,cn,D',S'.heap λb o hb hw=>(fL.2 b λe=>?_).trans hb,K',.ref acc,q'⟩
 subst e
 rcases hw with⟨p,hp,e⟩|e|e
 ·exact Kv p hp e
 ·exact CI e
 ·rw[CS] at e;cases e
theorem nN (ok:bK G F)(hh:F.hd=none){elt target iter:Expr}{ifs:List Expr}{scope:Scope}{pos Ou py:Pos}{y:Str}{i:Nat}{names:List Str}{nl:Nat}{cD:List Nat}{Q:Fl->St->Prop}(hs:∀x,foldedSetIterable iter F.env x=pure x)(hc:lX F scope names nl cD)
  (SR:swapsWith (.ListComp elt [⟨target,iter,ifs,0⟩] scope pos) (some (.Name y py)) Ou.line F.env=pure true) (hy:(F.names[i]?:Option Str)=some y) (hk:F.env.kindOf y=some .local)
  (h:jf G F af iter σ (λI ae=>mH G F af elt target iter ifs scope pos names nl cD I ae (λv cn=>Q .next (iQ i v cn)) X) X):
  J G F af (bA G) (exec (.Assign [.Name y py] (.ListComp elt [⟨target,iter,ifs,0⟩] scope pos) Ou) F.env) σ Q X:=λA s D hA S=>by
 rw[exec_Assign_Name_used _ _ _ _ SR]
 refine aW (wpAny_standAt (aW ?_))
 show wpAny _ A (do let _ ←comprehension (.ListComp elt [⟨target,iter,ifs,0⟩] scope pos) scope F.env _ (newList []) false (eval iter F.env) (some (assign (.Name y py) F.env))) _ _ s
 refine aW (dU (ti (use:=some (assign (.Name y py) F.env)) (P:=λ_ s'=>j4 G F (bA G) Q D .next s') ok hh hA S hs hc h λacc C cn s' D' m S' K' q' hn CI Kv CS=>?_) (λ_ s' hq=>cC (cC hq)) λ_ _ e=>e)
 refine PyProof.Rows.assign_Name ?_
 obtain⟨mL,Fm,XQ⟩:=S'.fr
 refine wpAny_storeName_local hk Fm.ns (λh' SX rq=>?_) (by rw[ok.kind];rfl)
 have aG:=S'.store (s':={ s' with heap:=h',toks:=s'.toks+1 }) ok.nm XQ hy (Fm.set SX rq) (S'.news.set rq) hk (.ref acc) S'.gens S'.os
 refine⟨m,hn.sameBut rq CI,λWo Um=>?_⟩
 refine⟨.next,_,D',aG.heap λb o hb hw=>(Um.2 b λe=>?_).trans hb,K',.next,q'⟩
 subst e
 rcases hw with⟨p,hp,e⟩|e|e
 ·exact Kv p hp e
 ·exact CI e
 ·rw[CS] at e;cases e
end
section
open Builtin Builtin.ObjectAttr Builtin.Getset_descriptor
open Sem (wp)
noncomputable def md (K:Frag)(C:Addr):Bool:=match K.lookup C with
 |some ⟨_,_,.cls cd,sl⟩=>!cd.abstract&&!cd.hasDel&&(sl.toList[4]?).join==some (.builtin "Exception.__new__")&&!cd.mro.isEmpty&&cd.mro.contains (.ref C)&&cd.mro.contains (.type "Exception")&&
   !cd.mro.contains (.type "AttributeError")&&!cd.mro.contains (.type "NameError")&&
   specialIn K (.ref C) "__call__"==some (some (.builtin "type.__call__"))&&instIn K (.ref C) (.type "type")==some true
 |_=>false
structure uC (M:Model)(h:Heap)(C:Addr):Prop where
 obj:∃oc od cd sl,h.get? C=some ⟨oc,od,.cls cd,sl⟩/\cd.abstract=false/\cd.hasDel=false/\cd.mro.isEmpty=false
 made:Looks M h (Bind.madeBy (.ref C)) (some "Exception.__new__")
 base:Looks M h (Bind.staticBase (.ref C)) (.ref C)
 self:Looks M h (isSubtype (.ref C) (.ref C)) true
 exc:Looks M h (isSubtype (.ref C) (.type "Exception")) true
 VQ:Looks M h (isSubtype (.ref C) (.type "AttributeError")) false
 VP:Looks M h (isSubtype (.ref C) (.type "NameError")) false
 call:Looks M h (specialOf (.ref C) "__call__") (some (.builtin "type.__call__"))
 typ:Looks M h (isInstance (.ref C) (.type "type")) true
set_option tactic.hygienic true in
theorem zw {K:Frag}{M:Model}{h:Heap}(X:K.In h){C:Addr}(e:md K C=true):uC M h C:=by
 unfold md at e
 split at e
 ·rename_i oc od cd sl ho
  simp only[Bool.and_eq_true,Bool.not_eq_true',beq_iff_eq] at e
  obtain⟨⟨⟨⟨⟨⟨⟨⟨⟨e1,e2⟩,e3⟩,e4⟩,e5⟩,e6⟩,ea⟩,en⟩,e7⟩,e8⟩:=e
  have hc:clsIn K C=some cd:=by unfold clsIn;rw[ho]
  have hm:Looks M h (mroOf (.ref C)) cd.mro:=(looks_clsIn X hc).andThen .now
  obtain⟨c,l,hl⟩:∃c l,cd.mro=c::l:=by cases q:cd.mro with|nil=>rw[q] at e4;cases e4|cons c l=>exact⟨c,l,rfl⟩
  have made:Looks M h (Bind.madeBy (.ref C)) (some "Exception.__new__"):=by
   intro A Q E s k q
   unfold Bind.madeBy
   refine aW (hm A _ E s k ?_)
   rw[hl,List.forIn_cons]
   refine aW (aW (aW (aW (wpAny_loadPart (k _ _ (X _ _ ho)) (cC ?_)))))
   dsimp only
   rw[←Array.getElem?_toList,e3]
   exact cC (cC (cC q))
  have sub:∀t b,cd.mro.contains t=b->Looks M h (isSubtype (.ref C) t) b:=λt b e=>looks_mroIn X (by unfold mroIn;rw[hc,Option.bind_some,aA (by rw[e4];decide),e])
  refine⟨⟨oc,od,cd,sl,X _ _ ho,e1,e2,e4⟩,made,?_,sub _ _ e5,sub _ _ e6,sub _ _ ea,sub _ _ en,looks_specialIn X e7,looks_instIn X e8⟩
  intro A Q E s k q
  unfold Bind.staticBase
  refine aW (hm A _ E s k ?_)
  rw[hl,List.forIn_cons]
  exact aW (aW (aW (made A _ E s k (cC (cC (cC q))))))
 ·cases e
section
variable {prog:Program}{w:World}{A:Around}{K:Frag}{C:Addr}{R:Result->Shared->Prop}{h:Heap}{g:Array GenState}{d:Drawn}{t:Nat}{os:OsState}
theorem Ih {rest:List Value}(Y:uC (model prog w) h C)(hz:rest.length<=sizeLine)
  (hq:R (.ok (.ret (.ref (h.objs.size+1)))) ⟨(h.push { cls:=.type "tuple",data:=.seq rest.toArray }).push (ba C none #[.ref h.objs.size,.none,.none,.none,.bool false,.none]),g,d,t,os⟩):
  codeAny (model prog w) A (.call (.builtin "Exception.__new__") ⟨.ref C::rest,[]⟩) R ⟨h,g,d,t,os⟩:=by
 obtain⟨⟨oc,od,cd,sl,hC,e1,e2,e4⟩,made,base,self,exc,VQ,VP,call,typ⟩:=Y
 have F:=PySem.F.excBase_Exception
 refine codeAny_call_builtin_code (Code.quiet_builtin _ F.quiet) ?_
 have here:Looks (model prog w) h (Bind.madeHere "BaseException.__new__" (.ref C)) ():=base.andThen (made.andThen (Looks.of_pure (by simp only[Option.map_some,F.canon,bne_self_eq_false,Bool.false_eq_true,if_false])))
 have QB:=F.noStar
 simp only[checkBuiltinCall,F.newKind,F.newSplit,F.newRow]
 have WJ:=F.ends
 have ro:Looks (model prog w) h (isType (.ref C)) true:=by
  first
   |exact typ
   |exact(Looks.ld (part:=some headPart) hC).andThen .now
 repeat (first|simp only[bne_self_eq_false,Bool.false_eq_true,if_false]|lk)
 refine codeAny_builtinAt F.entry ?_
 unfold Builtin.«BaseException.__new__»
 refine PySem.wpAt_bind ?_
 show PySem.wpAt _ _ _ (stack>>=_) _ _ _
 refine PySem.wpAt_bind (PySem.wpAt_stack λp below=>PySem.wpAt_of_wpAny ?_)
 wp_walk
 refine PySem.wpAt_of_wpAny ?_
 rw[F.owner]
 repeat (first|simp only[bne_self_eq_false,Bool.false_eq_true,if_false]|lk)
 rw[aA (by rw[o4];exact Nat.not_lt.mpr (a10 0x624e0408102081624e0408102081 tt hz))]
 unfold newObjAsIs classHasDel
 refine aW (wpAny_alloc (aW (cC ?_)))
 refine cC ?_
 rw[show ∀x:Value,(#[x,Value.none,Value.none,Value.none,Value.bool false,Value.none]++(List.replicate 0 (rawInt 0)).toArray)=#[x,Value.none,Value.none,Value.none,Value.bool false,Value.none] from λ_=>rfl]
 unfold newObj newObjAsIs classHasDel
 dsimp only
 rw[aA (by rw[sizeLine_eq];show ¬(6>_);exact Nat.not_lt.mpr (dq 0x18ad2c4e040810209a [] [] tt))]
 refine aW (aW (wpAny_alloc (aW (aW (wpAny_load (Heap.get?_push_of_some _ (Heap.get?_push_of_some _ hC)) (cC ?_))))))
 dsimp only
 rw[e2]
 refine cC (cC ?_)
 show R _ _
 rw[Heap.size_push]
 exact hq
theorem wV {rest:List Value}{init:Value}(Y:uC (model prog w) h C)(hi:Looks (model prog w) h (typeLookup (.ref C) "__init__") (some init))
  (hb:∀self,Looks (model prog w) h (bindSpecial init self) (init,[self])) (hz:rest.length<=sizeLine)
  (hq:codeAny (model prog w) (A.under (.builtin "type.__call__" ⟨.ref C::rest,[]⟩)) (.call init ⟨.ref (h.objs.size+1)::rest,[]⟩) (InitBack (h.objs.size+1) R)
   ⟨(h.push { cls:=.type "tuple",data:=.seq rest.toArray }).push (ba C none #[.ref h.objs.size,.none,.none,.none,.bool false,.none]),g,d,t,os⟩):
  codeAny (model prog w) A (.call (.ref C) ⟨rest,[]⟩) R ⟨h,g,d,t,os⟩:=by
 have Y':=Y
 obtain⟨⟨oc,od,cd,sl,hC,e1,e2,e4⟩,made,base,self,exc,VQ,VP,call,typ⟩:=Y
 refine codeAny_of_tree ?_
 show wpAny _ _ (callAny (.ref C) _) _ _ _
 refine nd_load hC ?_
 show wpAny _ _ (callAny.viaDunder (.ref C) _) _ _ _
 unfold callAny.viaDunder
 refine aW (call.at ?_)
 dsimp only
 rw[tc_bind]
 refine aW (cC (aW (cC ?_)))
 refine cC (a:=Fin.again (.call (.builtin "type.__call__") ⟨.ref C::rest,[]⟩)) (And.intro rfl ?_)
 refine codeAny_call_builtin_at (Code.quiet_builtin _ (by decide+kernel)) entry_typeCall (check_slot tc_kind tc_split typ (tc_args _ _ _) ?_)
 unfold Builtin.«type.__call__»
 have hm:Looks (model prog w) h (mroOf (.ref C)) cd.mro:=((Looks.ld (part:=none) hC).andThen .now).andThen .now
 repeat (first|simp only[e4,Bool.false_eq_true,if_false]|with_reducible refine wpAny_call ?_|lk)
 refine Ih Y' hz ?_
 generalize V':ba C none #[.ref h.objs.size,.none,.none,.none,.bool false,.none]=ob at *
 have W9:ob.cls=.ref C:=by rw[←V']
 have k:∀b o,h.get? b=some o->((h.push { cls:=.type "tuple",data:=.seq rest.toArray }).push ob).get? b=some o:=λb o e=>Heap.get?_push_of_some _ (Heap.get?_push_of_some _ e)
 have hx:((h.push { cls:=.type "tuple",data:=.seq rest.toArray }).push ob).get? (h.objs.size+1)=some ob:=by
  rw[←Heap.size_push (h:=h) (o:={ cls:=.type "tuple",data:=.seq rest.toArray })]
  exact Heap.get?_push_at rfl (by rw[←V'];rfl)
 have t1:Looks (model prog w) ((h.push { cls:=.type "tuple",data:=.seq rest.toArray }).push ob) (typeOf (.ref (h.objs.size+1))) (.ref C):=(Looks.ld hx).andThen (by rw[W9];exact .now)
 have s1:=self.keeps k
 have i1:=hi.keeps k
 have b1:=(hb (.ref (h.objs.size+1))).keeps k
 unfold isInstance callSpecial? specialOf
 repeat (first|with_reducible refine wpAny_call ?_|lk)
 refine codeAny_mono hq λr s' z=>?_
 rcases r with e|(v|_|_|_)<;>first|exact z|exact z.elim|skip
 obtain⟨rfl,z⟩:=z
 exact cC (cC z)
end
end
section
variable {G:GC}{F:FC}{af:Nat}{σ:St}{A:Around}{s:Shared}{D:Led}
theorem Aq (a:Args):(Code.builtin "type.__call__" a).cUnits<=20:=by
 have:(Code.builtin "type.__call__" a).cUnits=(Code.builtin "type.__call__" ⟨[],[]⟩).cUnits:=rfl
 rw[this];decide
theorem iW.under {c:Code}(h:iW F (af+1) A)(hw:c.weight<=1)(he:c.envs=[])(hu:c.cUnits<=20):iW F af (A.under c):=by
 refine⟨?_,?_,?_,h.hd⟩
 ·show pushEnvs c.envs A.frames=_
  rw[he]
  show _=some F.frames
  rw[←h.frames]
  rfl
 ·have:=h.depth;show A.depth+c.weight+af<_;exact a30 0x3227a27ad06b408262540b227a27ad5a54182 tt hw this
 ·have:=h.units;show A.units+c.cUnits+20*af<_;exact a30 0xc89ecb5096afa80d68104c5401644f65a84b57d45a54182 tt hu this
theorem Sat.HK (S:Sat G F σ s D){x dx C:Addr}{h':Heap}{m:Str->Option Value}(bz:lO G F σ.loc D m)(Fm:Fr F.h₀ F.L h' m)(N:News F.h₀ F.L h' ((x,instObj C dx)::(dx,emptyDict)::D))(lt:∀p∈D,p.1<dx)(hx:dx<x):
  Sat G F { σ with aa:=put σ.aa x (.inst C dx []) } { s with heap:=h' } ((x,instObj C dx)::(dx,emptyDict)::D)/\σ.aa x=none/\(∀b o,σ.aa b=some o->o.dx≠some dx):=by
 have fresh:∀a,dx<=a->σ.aa a=none:=λa ha=>by
  cases e:σ.aa a with
  |none=>rfl
  |some o=>
   obtain⟨ob,h1⟩:=(S.aa _ _ e).some_at
   exact absurd (lt _ h1) (Nat.not_lt.mpr ha)
 have Ng:∀b o,σ.aa b=some o->o.dx≠some dx:=λb o e q=>by
  have r:=S.aa _ _ e
  cases o with
  |list l=>cases q
  |bare c=>cases q
  |inst c d fs=>cases q;obtain⟨es,n,_,h2,_⟩:=r;exact absurd (lt _ h2) (iY _)
  |exc k c d fs=>cases q;obtain⟨es,n,vs,_,h2,_⟩:=r;exact absurd (lt _ h2) (iY _)
 refine⟨Sat.step (σ:=σ) (D:=D) Fm bz N ?_ (λp hp _=>.tail _ (.tail _ hp)) (λa o e=>?_) (λa b d o o' e e' q q'=>?_) (λp hp=>?_) S.gens S.os S.cells,fresh x (Nat.le_of_lt hx),Ng⟩
 ·rw[List.map_cons,List.map_cons,List.nodup_cons,List.nodup_cons]
  refine⟨λh=>?_,λh=>?_,S.nd⟩
  ·rcases List.mem_cons.mp h with h|h
   ·exact absurd h.symm (Nat.ne_of_lt hx)
   ·obtain⟨p,hp,e⟩:=List.mem_map.mp h
    have:=lt p hp
    rw[show p.1=x from e] at this
    exact Nat.lt_asymm this hx
  ·obtain⟨p,hp,e⟩:=List.mem_map.mp h
   have:=lt p hp
   rw[show p.1=dx from e] at this
   exact iY _ this
 ·by_cases q:a=x
  ·subst q;rw[ab] at e;cases e
   refine⟨[],0,.head _,.tail _ (.head _),.nil,λp hp e=>?_,by simp⟩
   obtain⟨sl,h⟩:=S.fo p hp
   have:=lt _ h
   exact absurd this (by rw[show(p.1,({ p.2 with slots:=sl }:Obj)).1=dx from e];exact iY _)
  ·rw[ai q] at e;exact(S.aa _ _ e).mono λp hp=>.tail _ (.tail _ hp)
 ·by_cases w:a=x<;>by_cases w':b=x
  ·rw[w,w']
  ·rw[w,ab] at e;cases e;cases q;rw[ai w'] at e';exact absurd q' (Ng _ _ e')
  ·rw[w',ab] at e';cases e';cases q';rw[ai w] at e;exact absurd q (Ng _ _ e)
  ·rw[ai w] at e;rw[ai w'] at e';exact S.inj _ _ _ _ _ e e' q q'
 ·obtain⟨sl,h⟩:=S.fo p hp;exact⟨sl,.tail _ (.tail _ h)⟩
theorem Sat.HL (S:Sat G F σ s D){x C:Addr}{vs:Array Value}(hm:(x,ba C none vs)∈D)(h6:6<=vs.size)(h2:vs[2]?=some .none)(h1:vs[1]?=some .none):Sat G F { σ with aa:=put σ.aa x (.bare C) } s D:=by
 refine⟨S.fr,S.news,S.nd,λa o e=>?_,λa b d o o' e e' q q'=>?_,S.fo,S.gens,S.os,S.cells⟩
 ·change put _ _ _ _=_ at e
  by_cases q:a=x
  ·subst q;rw[ab] at e;cases e;exact⟨vs,hm,h6,h2,h1⟩
  ·rw[ai q] at e;exact S.aa _ _ e
 ·change put _ _ _ _=_ at e
  change put _ _ _ _=_ at e'
  have w:a≠x:=λw=>by rw[w,ab] at e;cases e;cases q
  have w':b≠x:=λw=>by rw[w,ab] at e';cases e';cases q'
  rw[ai w] at e;rw[ai w'] at e';exact S.inj _ _ _ _ _ e e' q q'
end
section
variable {G:GC}{af:Nat}{H:Option Value->Prop}{C fI:Addr}{vs:List V}{kw:List (Str×V)}{aa:ag}{Q:V->ag->Prop}{X:Ex->ag->Prop}
theorem jV (hm:makesIn G.K C=true)(hi:findIn G.K (.ref C) "__init__"=some (some (.ref fI)))(hf:typeIn G.K (.ref fI)=some (.type "function"))
  (h:∀a dx,aa a=none->(∀b o,aa b=some o->o.dx≠some dx)->b5 G H af fI (.ref a::vs) kw (put aa a (.inst C dx [])) (λv led'=>v=.none/\Q (.ref a) led') X):
  b5 G H (af+1) C vs kw aa Q X:=by
 intro F σ A s D cs ks ok hH hl hA S Gv NS
 subst hl
 obtain⟨m,Fm,bz⟩:=S.fr
 refine make_K Fm S.news (ok.X.keeps Fm.keep) hm hi hf λx dx h' F' N' lt hx=>?_
 obtain⟨S',f1,f2⟩:=S.HK bz F' N' lt hx
 have K':aO F D ((x,instObj C dx)::(dx,emptyDict)::D):=(aO.cons _).trans (aO.cons _)
 refine codeAny_mono (h x dx f1 f2 F { σ with aa:=put σ.aa x (.inst C dx []) } _ _ _ (.ref x::cs) ks ok hH rfl (hA.under (eR _) rfl (Aq _)) S' (.cons (.ref x) (Gv.keep K')) ?_) λr s' z=>?_
 ·clear h
  induction NS with
  |nil=>exact .nil
  |cons a _ ih=>exact .cons (a.keep K') ih
 ·rcases z.is with⟨w,rfl,⟨v,ar,bb,aG,aU,bL,iT,C8,aS⟩⟩|⟨e,rfl,⟨ex,ar,bb,aG,aU,bL,iT,aS⟩⟩
  ·cases C8
   cases jI bL
   exact⟨rfl,.ref x,ar,bb,aG,K'.trans aU,.ref x,iT,aS⟩
  ·exact⟨ex,ar,bb,aG,K'.trans aU,bL,iT,aS⟩
theorem ju (hm:md G.K C=true)(hi:findIn G.K (.ref C) "__init__"=some (some (.ref fI)))(hf:typeIn G.K (.ref fI)=some (.type "function"))(hz:vs.length<=1000)
  (h:∀a,aa a=none->b5 G H af fI (.ref a::vs) [] (put aa a (.bare C)) (λv led'=>v=.none/\Q (.ref a) led') X):
  b5 G H (af+1) C vs [] aa Q X:=by
 intro F σ A s D cs ks ok hH hl hA S Gv NS
 subst hl
 cases NS
 obtain⟨m,Fm,bz⟩:=S.fr
 have gC:=ok.X.keeps Fm.keep
 have az:=S.fv ({ cls:=.type "tuple",data:=.seq cs.toArray }:Obj)
 have aG:=az.fv (ba C none #[.ref s.heap.objs.size,.none,.none,.none,.bool false,.none])
 have cF:=aG.HL (x:=(s.heap.push ({ cls:=.type "tuple",data:=.seq cs.toArray }:Obj)).objs.size) (.head _) (eR 6) rfl rfl
 have hx:(s.heap.push ({ cls:=.type "tuple",data:=.seq cs.toArray }:Obj)).objs.size=s.heap.objs.size+1:=Heap.size_push _ _
 have f1:σ.aa (s.heap.objs.size+1)=none:=by rw[←hx];exact az.fresh
 have K':aO F D (((s.heap.push ({ cls:=.type "tuple",data:=.seq cs.toArray }:Obj)).objs.size,ba C none #[.ref s.heap.objs.size,.none,.none,.none,.bool false,.none])::(s.heap.objs.size,({ cls:=.type "tuple",data:=.seq cs.toArray }:Obj))::D):=(aO.cons _).trans (aO.cons _)
 dsimp only at cF K'
 rw[hx] at cF
 refine wV (zw gC hm) (looks_findIn gC hi) (λself=>bind_fn gC self hf) (by rw[Gv.length,sizeLine_eq];exact a10 0x31270204081040b127a2781 tt hz) ?_
 refine codeAny_mono (h _ f1 F { σ with aa:=put σ.aa (s.heap.objs.size+1) (.bare C) } _ _ _ (.ref (s.heap.objs.size+1)::cs) [] ok hH rfl (hA.under (eR _) rfl (Aq _)) cF (.cons (.ref _) (Gv.mono λ_ _ m _=>.tail _ (.tail _ m))) .nil) λr s' z=>?_
 rw[hx] at K'
 rcases z.is with⟨w,rfl,⟨v,ar,bb,aG,aU,bL,iT,C8,aS⟩⟩|⟨e,rfl,⟨ex,ar,bb,aG,aU,bL,iT,aS⟩⟩
 ·cases C8
  cases jI bL
  exact⟨rfl,.ref _,ar,bb,aG,K'.trans aU,.ref _,iT,aS⟩
 ·exact⟨ex,ar,bb,aG,K'.trans aU,bL,iT,aS⟩
end
section
open Builtin Builtin.ObjectAttr Builtin.Getset_descriptor
noncomputable def vp (s:String)(v:Value):Bool:=match v with
 |.type a=>a==s
 |_=>false
theorem qn {s:String}{v:Value}(h:vp s v=true):v=.type s:=by
 cases v with
 |type a=>exact congrArg Value.type (beq_iff_eq.mp h)
 |_=>exact nomatch h
noncomputable def FQ (l:List Value):Bool:=match l with
 |[]=>false
 |v::r=>vp "object" v&&r.isEmpty
noncomputable def qs (l:List Value):Bool:=match l with
 |[]=>false
 |v::r=>vp "BaseException" v&&FQ r
noncomputable def jL:List Value->Bool
 |[]=>false
 |v::r=>match v with
  |.ref _=>jL r
  |v=>vp "Exception" v&&qs r
inductive Hg:List Value->Prop
 |base:Hg [.type "Exception",.type "BaseException",.type "object"]
 |cons {c:Addr} {r:List Value}:Hg r->Hg (.ref c::r)
theorem wX {l:List Value}(h:qs l=true):l=[.type "BaseException",.type "object"]:=by
 cases l with
 |nil=>exact nomatch h
 |cons v r=>
  obtain⟨h1,h2⟩:=Bool.and_eq_true_iff.mp h
  cases qn h1
  cases r with
  |nil=>exact nomatch h2
  |cons w t=>
   obtain⟨h3,h4⟩:=Bool.and_eq_true_iff.mp h2
   cases qn h3
   cases List.isEmpty_iff.mp h4
   rfl
theorem lB {l:List Value}(h:jL l=true):Hg l:=by
 induction l with
 |nil=>exact nomatch h
 |cons v r ih=>
  cases v with
  |ref c=>exact .cons (ih h)
  |type a=>
   obtain⟨h1,h2⟩:=Bool.and_eq_true_iff.mp (show(vp "Exception" (.type a)&&qs r)=true from h)
   cases qn h1
   cases wX h2
   exact .base
  |_=>exact nomatch h
theorem yZ (self:Value){l:List Value}(h:jL l=true):refuseLoop self "__setattr__" l=pure ():=by
 induction lB h with
 |base=>exact PySem.F.store_Exception.passes self
 |cons e ih=>rw[refuseLoop_ref];exact ih h
theorem zx {l:List Value}(h:jL l=true):l.contains (.type "object")=true:=by
 induction lB h with
 |base=>rfl
 |cons e ih=>rw[List.contains_cons,ih h,Bool.or_true]
theorem we {l:List Value}(h:jL l=true):l.contains (.type "BaseException")=true/\l.contains (.type "type")=false:=by
 induction lB h with
 |base=>exact⟨rfl,by decide+kernel⟩
 |cons e ih=>
  rw[List.contains_cons,List.contains_cons,(ih h).1,(ih h).2]
  exact⟨Bool.or_true _,rfl⟩
noncomputable def jM (K:Frag)(C:Addr):Bool:=(clsIn K C).any λcd=>jL cd.mro
noncomputable def hY (K:Frag)(c:Addr)(x:Str):Bool:=findIn K (.ref c) "__setattr__"==some (some (.builtin "object.__setattr__"))&&jM K c&&takerIn K c x==some none&&hasDictIn K c
section
variable {prog:Program}{w:World}{A:Around}{K:Frag}{C x:Addr}{s:Shared}{h₀:Heap}{L:Addr}{m:Str->Option Value}{R:Result->Shared->Prop}{E:Value->Shared->Prop}
theorem qz {ox:Obj}{od:Option Obj}{name:Str}{v:Value}{Q:Unit->Shared->Prop}(X:K.In s.heap)(I:InstAt s.heap x ox C od)
  (hs:findIn K (.ref C) "__setattr__"=some (some (.builtin "object.__setattr__"))) (hp:jM K C=true) (ht:takerIn K C name=some none)
  (h:∀b tk,wpAny (model prog w) A.in1 (storeInOwnDict (.ref x) (.ref C) (.str name tk) name v b) (λfin s'=>fin=.done (.ret .none)/\Q () s') E { s with toks:=s.toks+1 }):
  wpAny (model prog w) A (setAttr (.ref x) name v) Q E s:=by
 refine set_plain X I hs ?_
 have SF:=PySem.F.store_object
 obtain⟨cd,hc,ho⟩:=any_some hp
 have ne:cd.mro.isEmpty=false:=by cases q:cd.mro with|nil=>rw[q] at ho;cases ho|cons _ _=>rfl
 have sub:Looks (model prog w) s.heap (isInstance (.ref x) (.type "object")) true:=I.type.andThen (looks_mroIn X (by unfold mroIn;rw[hc,Option.bind_some,aA (by rw[ne];decide),zx ho]))
 refine codeAny_call_builtin SF.slot.plain SF.entry (@check_slot (model prog w) _ _ _ "object.__setattr__" "object" "__setattr__" (.ref x) [.str name s.toks,v] [] _ SF.kind SF.split sub (SF.args (.ref x) (.str name s.toks) v) ?_)
 obtain⟨attr,ha,hr⟩:=Option.bind_eq_some_iff.mp ht
 have hm:Looks (model prog w) s.heap (mroOf (.ref C)) cd.mro:=(looks_clsIn X hc).andThen .now
 have L3:Looks (model prog w) s.heap (storeTaker? attr) none:=by
  cases attr with
  |none=>exact .now
  |some a=>
   obtain⟨b,hb,e⟩:=Option.map_eq_some_iff.mp hr
   cases b with
   |true=>cases e
   |false=>exact(looks_takesIn X hb).andThen .now
 rw[osa_eq,refuse_eq]
 refine aW (aW (I.type.here (s:={ s with toks:=s.toks+1 }) (aW (hm.here (s:={ s with toks:=s.toks+1 }) ?_))))
 rw[yZ _ ho]
 refine cC (aW (I.type.here (s:={ s with toks:=s.toks+1 }) (aW ((looks_findIn X ha).here (s:={ s with toks:=s.toks+1 }) (aW (L3.here (s:={ s with toks:=s.toks+1 }) ?_))))))
 refine dU (h _ _) (λfin s' z=>?_) λ_ _ z=>z
 obtain⟨rfl,z⟩:=z
 exact z
set_option tactic.hygienic true in
theorem nU {dx:Addr}{name:Str}{tk:Tok}{v:Value}{pre post:List (Addr×Obj)}{es:List DictEntry}{n:Nat}{Q:Fin->Shared->Prop}(F:Fr h₀ L s.heap m)(N:News h₀ L s.heap (pre++(dx,dictOf es n)::post))
  (hl:(getL name es).isSome=true) (h1:∀p∈pre,p.1≠dx) (h2:∀p∈post,p.1≠dx) (hz:(putL name (PyData.keyHash w.params name) (.str name s.toks) v es).length<=1000)
  (h:∀h',Fr h₀ L h' m->News h₀ L h' (pre++(dx,dictOf (putL name (PyData.keyHash w.params name) (.str name s.toks) v es) (putN name es n))::post)->Q (.done (.ret .none)) { s with heap:=h',toks:=s.toks+1 }):
  wpAny (model prog w) A (storeInDict dx (.str name tk) name v) Q E s:=by
 obtain⟨U1,U2⟩:=news_upd (f:=Obj.putName name (PyData.keyHash w.params name) (.str name s.toks) v) F N h1 h2 (putName_dict _ _ _ _ _ _) rfl
 have Dd:=(N (dx,dictOf es n) (by simp)).1
 have YT:=(U2 (dx,dictOf (putL name (PyData.keyHash w.params name) (.str name s.toks) v es) (putN name es n)) (by simp)).1
 unfold storeInDict newKeyGuard
 refine aW (cC (aW ?_))
 unfold nsSet
 refine aW (aW (wpAny_askSetting (cC (aW (wpAny_mkText (aW (wpAny_loadPart Dd ?_)))))))
 have c:aRefKeyMayBeTheName name es.toArray=false:=by
  rw[aRefKeyMayBeTheName_at,←Array.any_toList,←Array.any_toList]
  unfold getL at hl
  split at hl
  ·rename_i en he
   rw[List.any_eq_true.mpr ⟨en,List.mem_of_find?_eq_some he,List.find?_some he⟩];rfl
  ·split at hl
   ·cases hl
   ·rename_i z
    rw[Bool.not_eq_true] at z
    rw[z,Bool.and_false]
 dsimp only
 rw[c]
 refine wpAny_updatePart Dd ?_
 refine aW (wpAny_lookBehind YT (pastItsLine_dict (by rw[o4,sizeLine_eq];exact a10 0xc5695270204081040b127a2781 tt hz)) ?_)
 exact cC (h _ U1 U2)
end
section
variable {G:GC}{F:FC}{σ:St}{s:Shared}{D:Led}{A:Around}{E:Value->Shared->Prop}
theorem Sat.IC (S:Sat G F σ s D){a c dx:Addr}{vs:Array Value}(ha:σ.aa a=some (.bare c))(hm:(a,ba c none vs)∈D)(h6:6<=vs.size)(h2:vs[2]?=some .none)(h1:vs[1]?=some .none)(hd:(dx,emptyDict)∈D)(f9:∀p∈F.fo,p.1≠dx)(S7:∀p∈F.fo,p.1≠a)
  (Ng:∀b o,σ.aa b=some o->o.dx≠some dx) {h':Heap} {tk:Nat} (hs:Heap.SameBut a s.heap h') (ho:h'.get? a=some (ba c (some dx) vs)):
  Sat G F { σ with aa:=put σ.aa a (.exc 2 c dx []) } { s with heap:=h',toks:=tk } (upd a (ba c (some dx) vs) D)/\aO F D (upd a (ba c (some dx) vs) D):=by
 obtain⟨m,Fm,bz⟩:=S.fr
 have N:=S.news _ hm
 have kt:∀p∈D,j3 p.2=true->p∈upd a (ba c (some dx) vs) D:=λp hp hz=>av hp λq=>by
  have:p.2=ba c none vs:=bq S.nd (a:=a) (by rw[←q];exact hp) hm
  rw[this] at hz;cases hz
 have tup:∀b o,(b,o)∈D->isTup o->(b,o)∈upd a (ba c (some dx) vs) D:=λb o hb ht=>kt _ hb (eB ht)
 have ne:∀{b:Addr} {o:Obj},(b,o)∈D->o.cls≠.ref c->b≠a:=λ{b o} hb hc z=>by
  have:=bq S.nd (a:=a) (by rw[←z];exact hb) hm
  exact hc (by rw[this])
 refine⟨Sat.step (σ:=σ) (D:=D) ⟨Fm.ns.sameBut hs (Ne.symm N.2.1),λb ob e=>(hs.2 b λz=>by subst z;rw[N.2.2] at e;cases e).trans (Fm.keep b ob e),Fm.above⟩ bz (λp hp=>?_) (by rw[gM];exact S.nd) (λp hp hz=>kt p hp (m7 hz))
  (λb o e=>?_) (λx y d o o' e e' q q'=>?_) (λp hp=>?_) S.gens S.os S.cells,λp hp hz _=>kt p hp hz⟩
 ·rcases ph hp with rfl|⟨hp,dT⟩
  ·exact⟨ho,N.2⟩
  ·exact⟨(hs.2 _ dT).trans (S.news p hp).1,(S.news p hp).2⟩
 ·by_cases q:b=a
  ·subst q;rw[ab] at e;cases e
   exact⟨[],0,vs,bY hm,av hd (ne hd (by simp)),.nil,f9,by simp,h6,λ_=>h2,λ_=>h1⟩
  ·rw[ai q] at e
   exact(S.aa b o e).move tup (λ_ _ h=>av h q) (λ_ _ h=>av h q) (λ_ _ _ h=>av h q) λd es n _ _ h2=>av h2 (ne h2 (by simp))
 ·by_cases w:x=a<;>by_cases w':y=a
  ·rw[w,w']
  ·rw[w,ab] at e;cases e;cases q;rw[ai w'] at e';exact absurd q' (Ng _ _ e')
  ·rw[w',ab] at e';cases e';cases q';rw[ai w] at e;exact absurd q (Ng _ _ e)
  ·rw[ai w] at e;rw[ai w'] at e';exact S.inj _ _ _ _ _ e e' q q'
 ·obtain⟨sl,h⟩:=S.fo p hp;exact⟨sl,av h (S7 p hp)⟩
theorem EY (ok:bK G F){k:Nat}{a c dx:Addr}{fs:List (Str×V)}{x:Str}{v:V}{y:Value}{Q:Unit->Shared->Prop}(S:Sat G F σ s D)
  (hl:σ.aa a=some (.exc k c dx fs)) (kG:hY G.K c x=true) (hv:br G.C D v y) (hz:(gx x v fs).length<=500)
  (q:∀s' D',Sat G F { σ with aa:=put σ.aa a (.exc k c dx (gx x v fs)) } s' D'->aO F D D'->Q () s'):wpAny (bT G) A (setAttr (.ref a) x y) Q E s:=by
 obtain⟨es,n,vs,h1,h2,h3,_⟩:=S.aa _ _ hl
 obtain⟨m,Fm,hm⟩:=S.fr
 have kG:=dF kG
 have gC:=ok.X.keeps Fm.keep
 have I:InstAt s.heap a (ba c (some dx) vs) c (some (dictOf es n)):=⟨(S.news _ h1).1,rfl,rfl,(S.news _ h2).1⟩
 refine qz gC I (kO kG.1) kG.2.1 (kO kG.2.2.1) λb tk=>?_
 obtain⟨cd,hc,gZ⟩:=any_some kG.2.2.2
 refine aW (cC (aW (aW (wpAny_loadPart (s:={ s with toks:=s.toks+1 }) (S.news _ h1).1 (aW ((looks_clsIn gC hc).here (s:={ s with toks:=s.toks+1 }) ?_))))))
 rw[gZ]
 refine cC (a:=some dx) ?_
 dsimp only
 have hp:=h3.put (hs:=PyData.keyHash G.w.params x) (u:=s.toks+1) (x:=x) hv
 have U:=Upd.nf (o':=dictOf (putL x (PyData.keyHash G.w.params x) (.str x (s.toks+1)) y es) (putN x es n)) S.nd h2
 obtain⟨pre,post,e1,e2,n1,n2⟩:=U.split
 refine nU (s:={ s with toks:=s.toks+1 }) (F:=Fm) (N:=by rw[←e1];exact S.news) h3.uu n1 n2 (by rw[hp.length];exact a10 0x1893d13c0b127d2381 tt hz) λh' F' N'=>⟨rfl,?_⟩
 rw[←e2] at N'
 obtain⟨S',K'⟩:=S.DS (s':={ s with heap:=h',toks:=s.toks+2 }) hl hm F' N' hp hz S.gens S.os
 exact q _ _ S' K'
theorem BC (ok:bK G F){a c:Addr}{x:Str}{v:V}{y:Value}{Q:Unit->Shared->Prop}(S:Sat G F σ s D)
  (hl:σ.aa a=some (.bare c)) (kG:hY G.K c x=true) (hv:br G.C D v y)
  (q:∀d s' D',Sat G F { σ with aa:=put σ.aa a (.exc 2 c d [(x,v)]) } s' D'->aO F D D'->Q () s'):wpAny (bT G) A (setAttr (.ref a) x y) Q E s:=by
 obtain⟨vs,h1,h6,NM,Ki⟩:=S.aa _ _ hl
 obtain⟨m,Fm,hm⟩:=S.fr
 have kG:=dF kG
 have gC:=ok.X.keeps Fm.keep
 have I:InstAt s.heap a (ba c none vs) c none:=⟨(S.news _ h1).1,rfl,rfl,trivial⟩
 refine qz gC I (kO kG.1) kG.2.1 (kO kG.2.2.1) λb tk=>?_
 obtain⟨cd,hc,gZ⟩:=any_some kG.2.2.2
 refine aW (cC (aW ?_))
 show wpAny _ _ (instanceDict a true) _ _ _
 unfold instanceDict
 refine aW (wpAny_loadPart (s:={ s with toks:=s.toks+1 }) (S.news _ h1).1 (aW ((looks_clsIn gC hc).here (s:={ s with toks:=s.toks+1 }) ?_)))
 rw[gZ]
 dsimp only
 rw[aA (by decide),aA (by simp[typeHasDict])]
 refine aW (wpAny_alloc ?_)
 have az:=S.fv emptyDict
 have lt:∀p∈D,p.1<s.heap.objs.size:=S.da
 have m1:(a,ba c none vs)∈(s.heap.objs.size,emptyDict)::D:=.tail _ h1
 have ga:=(az.news _ m1).1
 dsimp only at ga
 have gf:((s.heap.push emptyDict).update a λo=>{ cls:=o.cls,dict:=some s.heap.objs.size,data:=o.data,slots:=o.slots }).get? a=some (ba c (some s.heap.objs.size) vs):=Heap.get?_update_self _ ga rfl
 obtain⟨aG,aU⟩:=az.IC (dx:=s.heap.objs.size) (tk:=s.toks+1) (h':=(s.heap.push emptyDict).update a λo=>{ cls:=o.cls,dict:=some s.heap.objs.size,data:=o.data,slots:=o.slots }) hl m1 h6 NM Ki (.head _)
  (λp hp=>let ⟨sl,h⟩:=S.fo p hp;Nat.ne_of_lt (lt (p.1,{ p.2 with slots:=sl }) h))
  (λp hp e=>by
   obtain⟨sl,h⟩:=S.fo p hp
   have:=bq S.nd (a:=a) (by rw[←e];exact h) h1
   obtain⟨es,n,q⟩:=(ok.z6 p hp).1
   have:=congrArg Obj.data this
   rw[show({ p.2 with slots:=sl }:Obj).data=p.2.data from rfl,q] at this
   cases this)
  (λb o e q=>by
   have r:=S.aa _ _ e
   cases o with
   |list l=>cases q
   |bare c=>cases q
   |inst c d fs=>cases q;obtain⟨es,n,_,h2,_⟩:=r;exact absurd (lt _ h2) (iY _)
   |exc k c d fs=>cases q;obtain⟨es,n,vs,_,h2,_⟩:=r;exact absurd (lt _ h2) (iY _))
  (Heap.SameBut.update _ _ _) gf
 refine aW (wpAny_update ga ?_)
 refine cC (a:=some s.heap.objs.size) ?_
 dsimp only
 have Kd:aO F D (upd a (ba c (some s.heap.objs.size) vs) ((s.heap.objs.size,emptyDict)::D)):=(aO.cons _).trans aU
 have cF:=aG
 obtain⟨es,n,vs',g1,g2,g3,g4,g5,g6⟩:=aG.aa a _ (ab _ _ _)
 obtain⟨m',N6,NR⟩:=aG.fr
 have hp:=(g3.put (hs:=PyData.keyHash G.w.params x) (u:=s.toks+1) (x:=x) (hv.keep Kd))
 have U:=Upd.nf (o':=dictOf (putL x (PyData.keyHash G.w.params x) (.str x (s.toks+1)) y es) (putN x es n)) aG.nd g2
 obtain⟨pre,post,e1,e2,n1,n2⟩:=U.split
 refine nU (m:=m') (s:={ s with heap:=(s.heap.push emptyDict).update a λo=>{ cls:=o.cls,dict:=some s.heap.objs.size,data:=o.data,slots:=o.slots },toks:=s.toks+1 }) (F:=N6) (N:=by rw[←e1];exact aG.news) g3.uu n1 n2 (by rw[hp.length];simp[gx]) λh' F' N'=>⟨rfl,?_⟩
 rw[←e2] at N'
 obtain⟨S',K'⟩:=cF.DS (s':={ s with heap:=h',toks:=s.toks+2 }) (ab _ _ _) NR F' N' hp (by simp[gx]) S.gens S.os
 refine q s.heap.objs.size _ _ ?_ (Kd.trans K')
 have e:put (put σ.aa a (.exc 2 c s.heap.objs.size [])) a (.exc 2 c s.heap.objs.size (gx x v []))=put σ.aa a (.exc 2 c s.heap.objs.size [(x,v)]):=by
  funext b;unfold put;by_cases z:b=a<;>simp[z,gx]
 dsimp only at S'
 rw[e] at S'
 exact S'
end
end
section
open Builtin Builtin.ObjectAttr Builtin.Getset_descriptor
noncomputable def mi (K:Frag)(c:Addr)(x:Str):Bool:=findIn K (.ref c) "__getattribute__"==some (some (.builtin "BaseException.__getattribute__"))&&findIn K (.ref c) "__getattr__"==some none&&jM K c&&hasDictIn K c&&
 eJ (findIn K (.ref c) x) (noGet K)
theorem zX {K:Frag}{c:Addr}{x:Str}(h:mi K c x=true):findIn K (.ref c) "__getattribute__"=some (some (.builtin "BaseException.__getattribute__"))/\findIn K (.ref c) "__getattr__"=some none/\jM K c=true/\hasDictIn K c=true/\∃attr,findIn K (.ref c) x=some attr/\noGet K attr=true:=by
 have h4:=dF (aQ h).1
 exact⟨kO h4.1,kO h4.2.1,h4.2.2.1,h4.2.2.2,cf (aQ h).2⟩
section
variable {prog:Program}{w:World}{A:Around}{E:Value->Shared->Prop}{s:Shared}{K:Frag}{x C:Addr}{ox:Obj}{od:Option Obj}{name:Str}{expr:Bool}{Q:Value->Shared->Prop}
theorem zr {v:Value}(X:K.In s.heap)(I:InstAt s.heap x ox C od)(X1:findIn K (.ref C) "__getattribute__"=some (some (.builtin "BaseException.__getattribute__")))(X0:findIn K (.ref C) "__getattr__"=some none)
  (gA:mroIn K C (.type "BaseException")=some true)
  (hf:findObj K C od name=some (.value v)) (hh:handedIn v=true) (h:Q v { s with toks:=s.toks+1 }):wpAny (model prog w) A (getAttr (.ref x) name expr) Q E s:=by
 obtain⟨Kr,g,d,t,os⟩:=s
 have L0:=I.type (M:=model prog w)
 have L1:=looks_findIn (M:=model prog w) X X1
 have L2:=looks_findIn (M:=model prog w) X X0
 have L3:=looks_find (M:=model prog w) X I hf
 have L4:Looks (model prog w) Kr (isInstance (.ref x) (.type "BaseException")) true:=L0.andThen (looks_mroIn X gA)
 have SB:=PySem.F.attr_Exception.ga
 have L5:Looks (model prog w) Kr (bindSpecial (.builtin "BaseException.__getattribute__") (.ref x)) (.builtin "BaseException.__getattribute__",[.ref x]):=Looks.of_pure (SB.bind _)
 unfold getAttr getAttrBy
 refine aW (wpAny_mkText (wpAny_holding (aW (L0.at (aW (L1.at ?_))))))
 dsimp only
 rw[aA (by show ¬((onTheHeap (Value.ref C)&&Value.builtin "BaseException.__getattribute__"==Value.builtin "object.__getattribute__")=true);rw[show(Value.builtin "BaseException.__getattribute__"==Value.builtin "object.__getattribute__")=false by decide+kernel];simp)]
 unfold getAttrByItsOwn hookBefore callGetattribute boundAndCalled
 refine aW ?_
 show wpAny _ _ (typeLookup (.ref C) "__getattr__") _ _ _
 refine L2.at ?_
 refine aW (wpAny_attempt ?_)
 refine wpAny_holding ?_
 rw[aA (by show ¬((expr&&onTheHeap (Value.builtin "BaseException.__getattribute__"))=true);rw[show onTheHeap (Value.builtin "BaseException.__getattribute__")=false from rfl];simp)]
 refine aW (L5.at ?_)
 refine wpAny_call (codeAny_call_builtin SB.plain PySem.F.entry_bexc_ga (@check_slot (model prog w) _ _ _ "BaseException.__getattribute__" "BaseException" "__getattribute__" (.ref x) [.str name t] [] _ (by decide+kernel) (by decide+kernel) L4 (PySem.F.args_bexc_ga _ _) ?_))
 unfold Builtin.«object.__getattribute__»
 refine aW (cC (aW (cC (aW (L0.at (aW (L3.at ?_)))))))
 refine cC ?_
 show wpAny _ _ (handedOut v) _ _ _
 rw[handedOut_of hh]
 exact cC h
end
theorem Cb {G:GC}{F:FC}{σ:St}{s:Shared}{D:Led}{A:Around}{E:Value->Shared->Prop}(ok:bK G F){k:Nat}{a c dx:Addr}{fs:List (Str×V)}{x:Str}{v:V}{expr:Bool}{Q:Value->Shared->Prop}(S:Sat G F σ s D)
  (hl:σ.aa a=some (.exc k c dx fs)) (hx:hU x fs=some v) (kG:mi G.K c x=true) (q:∀y,br G.C D v y->Q y { s with toks:=s.toks+1 }):wpAny (bT G) A (getAttr (.ref a) x expr) Q E s:=by
 obtain⟨es,n,vs,h1,h2,h3,_⟩:=S.aa _ _ hl
 obtain⟨y,hy,iy⟩:=h3.get hx
 obtain⟨m,Fm,_⟩:=S.fr
 obtain⟨k1,k2,k3,k4,k5⟩:=zX kG
 have I:InstAt s.heap a (ba c (some dx) vs) c (some (dictOf es n)):=⟨(S.news _ h1).1,rfl,rfl,(S.news _ h2).1⟩
 have gA:mroIn G.K c (.type "BaseException")=some true:=by
  obtain⟨cd,hc,ho⟩:=any_some k3
  have ne:cd.mro.isEmpty=false:=by cases q:cd.mro with|nil=>rw[q] at ho;cases ho|cons _ _=>rfl
  unfold mroIn
  rw[hc,Option.bind_some,aA (by rw[ne];decide)]
  rw[(we ho).1]
 obtain⟨attr,e,k5⟩:=k5
 exact zr (ok.X.keeps Fm.keep) I k1 k2 gA (findObj_own k4 e k5 (by rw[lookIn_dict];exact hy)) iy.handed (q y iy)
end
section
open Builtin
noncomputable def vA (K:Frag)(c:Addr):Bool:=mroIn K c (.type "Exception")==some true
section
variable {G:GC}{F:FC}{af:Nat}{σ:St}{s:Shared}{D:Led}{A:Around}{E:Value->Shared->Prop}
theorem Sat.IB (S:Sat G F σ s D){a c:Addr}{vs vs':Array Value}(ha:σ.aa a=some (.bare c))(hm:(a,ba c none vs)∈D)(h6:6<=vs'.size)(h2:vs'[2]?=some .none)(h1:vs'[1]?=some .none)(S7:∀p∈F.fo,p.1≠a)
  {h':Heap} (hs:Heap.SameBut a s.heap h') (ho:h'.get? a=some (ba c none vs')):
  Sat G F σ { s with heap:=h' } (upd a (ba c none vs') D)/\aO F D (upd a (ba c none vs') D):=by
 obtain⟨m,Fm,bz⟩:=S.fr
 have N:=S.news _ hm
 have kt:∀p∈D,j3 p.2=true->p∈upd a (ba c none vs') D:=λp hp hz=>av hp λq=>by
  have:p.2=ba c none vs:=bq S.nd (a:=a) (by rw[←q];exact hp) hm
  rw[this] at hz;cases hz
 have tup:∀b o,(b,o)∈D->isTup o->(b,o)∈upd a (ba c none vs') D:=λb o hb ht=>kt _ hb (eB ht)
 have ne:∀{b:Addr} {o:Obj},(b,o)∈D->o.cls≠.ref c->b≠a:=λ{b o} hb hc z=>by
  have:=bq S.nd (a:=a) (by rw[←z];exact hb) hm
  exact hc (by rw[this])
 refine⟨Sat.step (σ:=σ) (D:=D) ⟨Fm.ns.sameBut hs (Ne.symm N.2.1),λb ob e=>(hs.2 b λz=>by subst z;rw[N.2.2] at e;cases e).trans (Fm.keep b ob e),Fm.above⟩ bz (λp hp=>?_) (by rw[gM];exact S.nd) (λp hp hz=>kt p hp (m7 hz))
  (λb o e=>?_) S.inj (λp hp=>?_) S.gens S.os S.cells,λp hp hz _=>kt p hp hz⟩
 ·rcases ph hp with rfl|⟨hp,dT⟩
  ·exact⟨ho,N.2⟩
  ·exact⟨(hs.2 _ dT).trans (S.news p hp).1,(S.news p hp).2⟩
 ·by_cases q:b=a
  ·subst q;rw[ha] at e;cases e
   exact⟨vs',bY hm,h6,h2,h1⟩
  ·exact(S.aa b o e).move tup (λ_ _ h=>av h q) (λ_ _ h=>av h q) (λ_ _ _ h=>av h q) λd es n _ _ h2=>av h2 (ne h2 (by simp))
 ·obtain⟨sl,h⟩:=S.fo p hp;exact⟨sl,av h (S7 p hp)⟩
theorem Sat.Pb (S:Sat G F σ s D)(ok:bK G F){a:Addr}{o:Obj}(h1:(a,o)∈D)(hd:∀es n,o.data≠.dict es n):∀p∈F.fo,p.1≠a:=λp hp e=>by
 obtain⟨sl,h⟩:=S.fo p hp
 have:=bq S.nd (a:=a) (by rw[←e];exact h) h1
 obtain⟨es,n,q⟩:=(ok.z6 p hp).1
 exact hd es n (by rw[←this];exact q)
theorem wW (ok:bK G F){a c:Addr}{cs:List Value}{P:Value->Shared->Prop}(S:Sat G F σ s D)(hl:σ.aa a=some (.bare c))(gA:vA G.K c=true)(hz:cs.length<=1000)
  (q:∀s' D',Sat G F σ s' D'->aO F D D'->P .none s'):wpAny (bT G) A (call (.builtin "Exception.__init__") (.ref a::cs)) P E s:=by
 obtain⟨vs,h1,h6,NM,Ki⟩:=S.aa _ _ hl
 obtain⟨m,Fm,hm⟩:=S.fr
 have gC:=ok.X.keeps Fm.keep
 have F':=PySem.F.excBase_Exception
 have ha:=(S.news _ h1).1
 have L0:Looks (bT G) s.heap (typeOf (.ref a)) (.ref c):=(Looks.ld ha).andThen .now
 have L1:Looks (bT G) s.heap (isInstance (.ref a) (.type "Exception")) true:=L0.andThen (looks_mroIn gC (by unfold vA at gA;exact beq_iff_eq.mp gA))
 refine wpAny_call (codeAny_call_builtin F'.init.plain F'.initEntry ?_)
 simp only[checkBuiltinCall,F'.initKind,F'.initSplit,F'.initRow]
 refine aW (L1.here ?_)
 rw[aA (by decide)]
 have QB:=F'.noStar
 have R5:∀Q:Unit->Shared->Prop,∀E':Value->Shared->Prop,Q () s->wpAny (bT G) A.in1 (Bind.checkArgs "Exception.__init__" ⟨.positional,"*","Exception",.self,[⟨"args",.varPos,false⟩]⟩ ⟨.ref a::cs,[]⟩) Q E' s:=by
  intro Q E' hq
  have hC:∃oc od cd sl,s.heap.get? c=some ⟨oc,od,.cls cd,sl⟩:=by
   unfold vA mroIn clsIn at gA
   cases q:G.K.lookup c with
   |none=>rw[q] at gA;cases gA
   |some o=>
    obtain⟨oc,od,dt,sl⟩:=o
    cases dt<;>first|(exact⟨oc,od,_,sl,gC _ _ q⟩)|(rw[q] at gA;cases gA)
  obtain⟨oc,od,cd,sl,hC⟩:=hC
  repeat (first|with_reducible refine wpAny_load hC ?_|with_reducible refine wpAny_load ha ?_|with_reducible refine wpAny_loadPart hC ?_|with_reducible refine wpAny_loadPart ha ?_|wp_step)
  refine wpAny_onRaise ?_
  rw[show ∀(a' b:String) (n:Nat),Bind.check ⟨.positional,"*","Exception",.self,[⟨"args",.varPos,false⟩]⟩ a' b n (List.map (λx=>x.fst) ({ pos:=Value.ref a::cs }:Args).kw)=pure () from
   λa' b n=>check_star_args _ _ _ _ _ _]
  exact cC hq
 refine R5 _ _ ?_
 unfold Builtin.«BaseException.__init__»
 have az:=S.fv ({ cls:=.type "tuple",data:=.seq cs.toArray }:Obj)
 have m1:(a,ba c none vs)∈(s.heap.objs.size,({ cls:=.type "tuple",data:=.seq cs.toArray }:Obj))::D:=.tail _ h1
 have ga:=(az.news _ m1).1
 dsimp only at ga
 obtain⟨v0,Xz⟩:∃v0,vs[0]?=some v0:=by
  cases q:vs[0]? with
  |none=>rw[Array.getElem?_eq_none_iff] at q;exact False.elim (iY 0 (a10 0x32285188134c4a01 tt h6 q))
  |some v=>exact⟨v,rfl⟩
 refine aW (wpAny_newTuple ?_ (by rw[sizeLine_eq];exact a10 0x31270204081040b127a2781 tt hz))
 have gf:((s.heap.push ({ cls:=.type "tuple",data:=.seq cs.toArray }:Obj)).update a (Obj.mapFields (·.setIfInBounds 0 (.ref s.heap.objs.size)))).get? a=some (ba c none (vs.setIfInBounds 0 (.ref s.heap.objs.size))):=Heap.get?_update_self _ ga rfl
 obtain⟨aG,aU⟩:=az.IB (vs':=vs.setIfInBounds 0 (.ref s.heap.objs.size)) hl m1 (by rw[Array.size_setIfInBounds];exact h6) (by rw[Array.getElem?_setIfInBounds_ne (by decide)];exact NM) (by rw[Array.getElem?_setIfInBounds_ne (by decide)];exact Ki) (az.Pb ok m1 (by simp)) (Heap.SameBut.update _ _ _) gf
 refine aW ?_
 unfold BaseException.bexcPut
 refine aW (wpAny_field ga rfl Xz (aW (wpAny_setField ga rfl (by exact a10 0x190128c409a tt h6) ?_)))
 have fin:=q _ _ aG ((aO.cons _).trans aU)
 split
 ·exact wpAny_letGo (cC fin)
 ·exact cC (cC fin)
end
end
section
variable {G:GC}{F:FC}{af:Nat}{σ:St}{X:Ex->St->Prop}{H:Option Value->Prop}
noncomputable def Dh (o:Option CFound):Option Value:=match o with
 |none=>none
 |some r=>(match r with
  |.val v=>some v
  |_=>none)
theorem vK {o:Option CFound}{v:Value}(h:Dh o=some v):o=some (.val v):=by
 cases o with
 |none=>exact nomatch h
 |some r=>
  cases r with
  |val u=>cases h;rfl
  |_=>exact nomatch h
noncomputable def il (K:Frag)(C:Addr)(x:Str)(f:Addr):Bool:=specialIn K (.ref C) "__getattribute__"==some (some (.builtin "type.__getattribute__"))&&typeIn K (.ref C)==some (.type "type")&&readsIn K C (.type "type")&&
 eJ (Dh (findCls K (.ref C) (.type "type") x)) (λv=>v==.ref f)&&keepIn K (.ref f)
theorem zB {K:Frag}{C:Addr}{x:Str}{f:Addr}(h:il K C x f=true):specialIn K (.ref C) "__getattribute__"=some (some (.builtin "type.__getattribute__"))/\typeIn K (.ref C)=some (.type "type")/\readsIn K C (.type "type")=true/\
  findCls K (.ref C) (.type "type") x=some (.val (.ref f))/\keepIn K (.ref f)=true:=by
 have h4:=dF (aQ h).1
 obtain⟨v,e,b⟩:=cf h4.2.2.2
 cases kO b
 exact⟨kO h4.1,kO h4.2.1,h4.2.2.1,vK e,(aQ h).2⟩
theorem zA (ok:bK G F){id name:Str}{C f:Addr}{p apos pos:Pos}{es:List Expr}{Q:V->St->Prop}(hn:nsIn G.K mainGlobals id=some (some (.ref C)))(hk:F.env.kindOf id=some .globalImplicit)
  (hd:(id==("__debug__":Str))=false) (hm:il G.K C name f=true) (hs:es.all noStar=true) (hl:(apos.endLine==pos.line)=true) (hlen:es.length<29) (hH:H F.hd)
  (h:J G F af (iD G) (spliced (backTo pos (starEach es F.env))) σ (λvs ae=>b5 G H af f vs [] ae.aa (λv led'=>Q v ⟨ae.loc,led'⟩) (λex led'=>X ex ⟨ae.loc,led'⟩)) X):
  J G F af (aE G) (eval (.Call (.Attribute (.Name id p) name apos) es [] pos) F.env) σ Q X:=λA s D hA S=>by
 obtain⟨m,Fm,bz⟩:=S.fr
 obtain⟨pl,he⟩:=iB (o:=.Name id p) (name:=name) (apos:=apos) (pos:=pos) (es:=es) (env:=F.env) rfl hs hl hlen
 rw[he]
 obtain⟨m1,m2,m3,e,m5⟩:=zB hm
 refine aW (Name_function_global ok.kind hk (loadGlobal_global (by rw[ok.glob];exact ok.T.g.keeps Fm.keep) (mg_of ok.X ok.T.g hn) ?_) hd)
 refine aW (wpAny_standAt (aW (wpAny_holding (method_of_cls Fm ok.X m1 (cls_val Fm ok.X m2 m3 e rfl ?_)))))
 refine callWith_of (P:=G.K.In) (by rw[bM hs];rfl) (keeps_K m5) (cz hs ?_)
 refine h.go (s:={ s with toks:=s.toks+1 }) hA (S.same rfl rfl rfl) λvs cs ae ak aI az aB aJ au=>?_
 obtain⟨KX,pV,_⟩:=az.fr
 exact⟨ok.X.keeps pV.keep,au.here ok hH hA az aB aJ .nil⟩
noncomputable def o7 (K:Frag)(T:String)(x:Str)(i:String):Bool:=!(Manifest.isStub T)&&handedIn (.builtin i)&&eJ (Dh (findCls K (.type T) (.type "type") x)) (λv=>v==.builtin i)
theorem yN {K:Frag}{T:String}{x:Str}{i:String}(h:o7 K T x i=true):Manifest.isStub T=false/\handedIn (.builtin i)=true/\findCls K (.type T) (.type "type") x=some (.val (.builtin i)):=by
 have h3:=cM h
 obtain⟨v,e,b⟩:=cf h3.2.2
 cases kO b
 exact⟨by rw[←Bool.not_eq_true'];exact h3.1,h3.2.1,vK e⟩
theorem yM (ok:bK G F){id name:Str}{T i:String}{p apos pos:Pos}{es:List Expr}{Q:V->St->Prop}(hn:nsIn G.K mainGlobals id=some none)(hk:F.env.kindOf id=some .globalImplicit)
  (hd:(id==("__debug__":Str))=false) (Kk:id≠"__name__") (hb:bootBuiltins id=some (.type T)) (ht:typeOf (.type T)=pure (.type "type")) (hm:o7 G.K T name i=true)
  (hs:es.all noStar=true) (hl:(apos.endLine==pos.line)=true) (hlen:es.length<29)
  (h:J G F af (iD G) (spliced (backTo pos (starEach es F.env))) σ (λvs ae=>BP G F af (.builtin i) vs ae Q X) X):
  J G F af (aE G) (eval (.Call (.Attribute (.Name id p) name apos) es [] pos) F.env) σ Q X:=λA s D hA S=>by
 obtain⟨m,Fm,bz⟩:=S.fr
 obtain⟨pl,he⟩:=iB (o:=.Name id p) (name:=name) (apos:=apos) (pos:=pos) (es:=es) (env:=F.env) rfl hs hl hlen
 rw[he]
 obtain⟨m1,mh,e⟩:=yN hm
 refine aW (eg ok S hn hk hd Kk hb ?_)
 refine aW (wpAny_standAt (aW (wpAny_holding (method_type Fm ok.X ht m1 e mh ?_))))
 exact callWith_builtin (bM hs) (cz hs (h.go (s:={ s with toks:=s.toks+1 }) hA (S.same rfl rfl rfl) λvs cs ae ak aI az aB aJ au=>
  dU (au A ak aI cs hA az aJ) (λ_ _ x=>x.keep aB) λ_ _ x=>x.keep aB))
noncomputable def Nu (G:GC)(F:FC)(af:Nat):List Keyword->St->(List (Str×V)->St->Prop)->(Ex->St->Prop)->Prop
 |[],σ,Q,_=>Q [] σ
 |⟨some x,e,_⟩::r,σ,Q,X=>J G F af (aE G) (eval e F.env) σ (λv ae=>Nu G F af r ae (λl ar=>Q ((x,v)::l) ar) X) X
 |_,_,_,_=>False
theorem Mv (ok:bK G F){pos:Pos}{A:Around}{X:Ex->St->Prop}(hA:iW F af A):∀(uV:List Keyword)(σ:St)(Q:List (Str×V)->St->Prop)(s:Shared)(D D₀:Led)(P:List Value->Shared->Prop),Sat G F σ s D->aO F D₀ D->Nu G F af uV σ Q X->
  (∀l ks cn s' D',Sat G F cn s' D'->aO F D D'->kh G.C D' l ks->((backToKw pos (keywordEach uV F.env)).filterMap (·.1))=ks.map (·.1)->Q l cn->P (ks.map (·.2)) s')->
  wpAny (bT G) A (evalAll ((backToKw pos (keywordEach uV F.env)).map (·.2))) P (fg G F X D₀) s:=by
 intro uV
 induction uV with
 |nil=>exact λσ Q s D D₀ P S K h k=>kwAll_nil (k [] [] σ s D S .refl .nil rfl h)
 |cons w r ih=>
  intro σ Q s D D₀ P S K h k
  obtain⟨_|x,e,p⟩:=w
  ·exact h.elim
  refine kwAll_cons (J.r5 h hA S K λv c ae ak aI az aB aJ au=>?_)
  refine ih ae _ ak aI D₀ _ az (K.trans aB) au λl ks cn s' D' S' K' i' e' q'=>?_
  have:=k ((x,v)::l) ((x,c)::ks) cn s' D' S' (aB.trans K') (.cons (br.keep aJ K') i') (by
   show x::((backToKw pos (keywordEach r F.env)).filterMap (·.1))=_
   rw[e'];rfl) q'
  exact this
theorem HV {env:Env}{pos:Pos}:∀(uV:List Keyword),uV.all (λk=>match k with|⟨some _,_,_⟩=>true|_=>false)=true->(backToKw pos (keywordEach uV env)).all (·.1.isSome)=true/\(backToKw pos (keywordEach uV env)).any (·.1.isNone)=false:=by
 intro uV
 induction uV with
 |nil=>exact λ_=>⟨rfl,rfl⟩
 |cons w r ih=>
  intro h
  rw[List.all_cons,Bool.and_eq_true] at h
  obtain⟨_|x,e,p⟩:=w
  ·cases h.1
  obtain⟨a,b⟩:=ih h.2
  constructor
  ·show(true&&(backToKw pos (keywordEach r env)).all (·.1.isSome))=true
   rw[a];rfl
  ·show(false||(backToKw pos (keywordEach r env)).any (·.1.isNone))=false
   rw[b];rfl
theorem zj (ok:bK G F){id:Str}{p pos:Pos}{uV:List Keyword}{f:Addr}{Q:V->St->Prop}(hn:nsIn G.K mainGlobals id=some (some (.ref f)))(hk:F.env.kindOf id=some .globalImplicit)
  (hd:(id==("__debug__":Str))=false) (DB:keepIn G.K (.ref f)=true) (hs:uV.all (λk=>match k with|⟨some _,_,_⟩=>true|_=>false)=true) (hH:H F.hd)
  (h:Nu G F af uV σ (λl ae=>b5 G H af f [] l ae.aa (λv led'=>Q v ⟨ae.loc,led'⟩) (λex led'=>X ex ⟨ae.loc,led'⟩)) X):
  J G F af (aE G) (eval (.Call (.Name id p) [] uV pos) F.env) σ Q X:=λA s D hA S=>by
 obtain⟨m,Fm,hm⟩:=S.fr
 obtain⟨k1,k2⟩:=HV (env:=F.env) (pos:=pos) uV hs
 refine wpAny_Call_Name_kw (Name_function_global ok.kind hk (loadGlobal_global (by rw[ok.glob];exact ok.T.g.keeps Fm.keep) (mg_of ok.X ok.T.g hn) ?_) hd)
 refine callWith_of (P:=G.K.In) (by show(false||(backToKw pos (keywordEach uV F.env)).any (·.1.isNone))=false;rw[k2];rfl) (keeps_K DB) (evalArgs_kw2_nil k1 ?_)
 refine Mv ok hA uV σ _ s D D _ S .refl h λl ks ae ak aI az aB aJ Bg au=>?_
 obtain⟨KX,pV,_⟩:=az.fr
 refine⟨ok.X.keeps pV.keep,?_⟩
 rw[Bg]
 have:(ks.map (·.1)).zip (ks.map (·.2))=ks:=by
  clear Bg aJ
  induction ks with
  |nil=>rfl
  |cons a r ih=>simp[ih]
 dsimp only
 rw[this]
 exact au.here ok hH hA az aB .nil aJ
end
noncomputable def rem (aa:ag)(a:Addr):ag:=λb=>if b=a then none else aa b
section
variable {G:GC}{F:FC}{af:Nat}{σ:St}{s:Shared}{D:Led}{A:Around}{E:Value->Shared->Prop}
theorem Sat.vO (ok:bK G F)(S:Sat G F σ s D){n:Nat}{a c dx:Addr}{fs:List (Str×V)}{vs vs':Array Value}{es:List DictEntry}{k:Nat}(ha:σ.aa a=some (.exc n c dx fs))
  (h1:(a,ba c (some dx) vs)∈D) (h2:(dx,dictOf es k)∈D) (h3:b9 G.C D fs es) (h4:∀p∈F.fo,p.1≠dx) (h6:6<=vs'.size) (hv:vs'[1]?=some .none) (nc:Bool) (hc:nc=true->vs'[2]?=some .none) {P:Addr} (hP:F.env.frame=some P)
  {h':Heap} (hs:Heap.SameBut a s.heap h') (ho:h'.get? a=some (ba c (some dx) vs')):
  ∃D',Sat G F ⟨σ.loc,rem σ.aa a⟩ { s with heap:=h' } D'/\aO F D D'/\Lp G F D' h' (rem σ.aa a) ⟨c,fs,nc⟩ (.ref a):=by
 obtain⟨m,Fm,bz⟩:=S.fr
 have N:=S.news _ h1
 let D':Led:=D.filter λp=>decide (p.1≠a)
 have mem:∀p,p∈D'↔p∈D/\p.1≠a:=λp=>by simp[D',List.mem_filter]
 have ne:∀{b:Addr} {o:Obj},(b,o)∈D->(o.cls≠.ref c∨∀ws,o.data≠.fields ws)->b≠a:=λ{b o} hb hn z=>by
  have:=bq S.nd (a:=a) (by rw[←z];exact hb) h1
  rcases hn with q|q
  ·exact q (by rw[this])
  ·exact q vs (by rw[this])
 have kt:∀p∈D,tc p.2->p∈D':=λp hp ht=>(mem p).mpr ⟨hp,ne hp (.inr λws e=>by
  rcases ht with⟨_,_,_,q⟩|⟨_,q⟩<;>rw[q] at e<;>cases e)⟩
 have tup:∀b o,(b,o)∈D->isTup o->(b,o)∈D':=λb o hb ht=>kt _ hb (.inl ht)
 refine⟨D',Sat.step (σ:=σ) (D:=D) ⟨Fm.ns.sameBut hs (Ne.symm N.2.1),λb ob e=>(hs.2 b λz=>by subst z;rw[N.2.2] at e;cases e).trans (Fm.keep b ob e),Fm.above⟩ bz (λp hp=>?_) (S.nd.sublist (List.filter_sublist.map _)) kt
  (λb o e=>?_) (λx y d o o' e e' q q'=>?_) (λp hp=>?_) S.gens S.os S.cells,λp hp hz _=>?_,a,dx,ba c (some dx) vs',vs',P,rfl,?_⟩
 ·obtain⟨q1,q2⟩:=(mem p).mp hp
  exact⟨(hs.2 _ q2).trans (S.news p q1).1,(S.news p q1).2⟩
 ·unfold rem at e
  by_cases q:b=a
  ·rw[aL q] at e;cases e
  ·rw[aA q] at e
   exact(S.aa b o e).move tup (λ_ _ h=>(mem _).mpr ⟨h,q⟩) (λ_ _ h=>(mem _).mpr ⟨h,q⟩) (λ_ _ _ h=>(mem _).mpr ⟨h,q⟩) λd es n _ _ h2=>(mem _).mpr ⟨h2,ne h2 (.inl (by simp))⟩
 ·unfold rem at e e'
  by_cases w:x=a
  ·rw[aL w] at e;cases e
  ·by_cases w':y=a
   ·rw[aL w'] at e';cases e'
   ·rw[aA w] at e;rw[aA w'] at e';exact S.inj _ _ _ _ _ e e' q q'
 ·obtain⟨sl,h⟩:=S.fo p hp
  exact⟨sl,(mem _).mpr ⟨h,S.Pb ok h1 (by simp) p hp⟩⟩
 ·refine(mem p).mpr ⟨hp,λe=>?_⟩
  have:p.2=ba c (some dx) vs:=bq S.nd (a:=a) (by rw[←e];exact hp) h1
  rw[this] at hz;cases hz
 ·refine⟨hP,ho,rfl,rfl,rfl,h6,⟨es,k,h3.mono tup,(mem _).mpr ⟨h2,ne h2 (.inl (by simp))⟩⟩,h4,λb o e q=>?_,λp hp=>((mem p).mp hp).2,N.2.2,N.2.1,.inl hv,hc,rfl⟩
  unfold rem at e
  by_cases w:b=a
  ·rw[aL w] at e;cases e
  ·rw[aA w] at e;exact w (S.inj _ _ _ _ _ e ha q rfl)
theorem rJ:entryFor table "proto.unchain"=some Builtin.«proto.unchain»:=entryFor_of_tree (by kernel_rfl)
noncomputable def pP (K:Frag)(c:Addr):Bool:=typeIn K (.ref c)==some (.type "type")&&jM K c
theorem oA {K:Frag}{M:Model}{h:Heap}(X:K.In h){c:Addr}(e:jM K c=true):Looks M h (isSubtype (.ref c) (.type "BaseException")) true/\Looks M h (isSubtype (.ref c) (.type "type")) false:=by
 obtain⟨cd,hc,ho⟩:=any_some e
 have ne:cd.mro.isEmpty=false:=by cases q:cd.mro with|nil=>rw[q] at ho;cases ho|cons _ _=>rfl
 obtain⟨h1,h2⟩:=we ho
 constructor
 ·exact looks_mroIn X (by unfold mroIn;rw[hc,Option.bind_some,aA (by rw[ne];decide),h1])
 ·exact looks_mroIn X (by unfold mroIn;rw[hc,Option.bind_some,aA (by rw[ne];decide),h2])
noncomputable def Lq (F:FC)(aa:ag)(a:Addr):Prop:=match F.hd with
 |none=>True
 |some (.ref eh)=>eh≠a/\∃k c dx fs,aa eh=some (.exc k c dx fs)/\1<=k
 |_=>False
theorem y4 (ok:bK G F)(hA:iW F af A)(S:Sat G F σ s D){n:Nat}{a c dx:Addr}{fs:List (Str×V)}(ha:σ.aa a=some (.exc n c dx fs))(hn:2<=n)(ht:pP G.K c=true)(hh:Lq F σ.aa a){Q:Flow->Shared->Prop}{X:Ex->St->Prop}
  (q:X ⟨c,fs,F.hd.isNone⟩ ⟨σ.loc,rem σ.aa a⟩):wpAny (bT G) A (raiseStmt F.env (some (pure (.ref a))) none) Q (fg G F X D) s:=by
 obtain⟨es,k,vs,h1,h2,h3,h4,h5,h6,NM,Ki⟩:=S.aa _ _ ha
 obtain⟨m,Fm,hm⟩:=S.fr
 obtain⟨P,hP⟩:=ok.place
 have gC:=ok.X.keeps Fm.keep
 have ga:=(S.news _ h1).1
 have t1:=kO (aQ ht).1
 have t2:=(aQ ht).2
 obtain⟨KG,Oq⟩:=oA (M:=bT G) gC t2
 have L0:Looks (bT G) s.heap (typeOf (.ref a)) (.ref c):=(Looks.ld ga).andThen .now
 have L1:Looks (bT G) s.heap (typeOf (.ref c)) (.type "type"):=looks_typeIn gC t1
 have Lb:Looks (bT G) s.heap (isInstance (.ref a) (.type "BaseException")) true:=L0.andThen KG
 unfold raiseStmt
 dsimp only
 refine aW (cC ?_)
 refine aW (cC ?_)
 have Lt:Looks (bT G) s.heap (isType (.ref a)) false:=(Looks.ld ga).andThen .now
 have Le:Looks (bT G) s.heap (isExcClass (.ref a)) false:=Lt.andThen .now
 refine aW (wpAny_holding ?_)
 unfold excFromValue
 refine aW (Le.here ?_)
 rw[aA (by decide)]
 refine aW (Lb.here ?_)
 rw[aL rfl]
 refine cC ?_
 dsimp only
 refine aW (Lt.here ?_)
 rw[aA (by decide)]
 unfold raisedInstance
 refine aW (aW (L0.here (aW (L1.here ?_))))
 rw[aL (by decide)]
 refine cC ?_
 unfold setFlight
 refine aW (aW (wpAny_field ga rfl (Ki hn) ?_))
 rw[aA (by decide)]
 refine cC ?_
 unfold raiseNew
 refine aW (wpAny_handled ?_)
 rw[hA.hd]
 cases Gu:F.hd with
 |none=>
  refine wpAny_throw ?_
  obtain⟨D',S',K',I'⟩:=S.vO ok ha h1 h2 h3 h4 h6 (Ki hn) true (λ_=>NM (by exact a10 0x18812ac4096 tt hn)) hP (h':=s.heap) (Heap.SameBut.refl _ _) ga
  exact⟨_,_,D',S',K',I',by rw[Gu] at q;exact q⟩
 |some hv=>
  unfold Lq at hh
  rw[Gu] at hh
  cases hv with
  |ref eh=>
   obtain⟨dT,k',c',R3,I1,gY,CP⟩:=hh
   obtain⟨oE,n',ws,g1,g2,g3,g4,g5,g6,Yr,Za⟩:=S.aa _ _ gY
   have gh:=(S.news _ g1).1
   dsimp only
   rw[aL (by simpa using dT)]
   refine aW (wpAny_holding (wpAny_runValue (codeAny_builtin rJ ?_)))
   unfold Builtin.«proto.unchain»
   dsimp only
   refine aW (wpAny_field gh rfl (Yr CP) ?_)
   rw[aL (by decide)]
   refine cC ?_
   show wpAny _ _ _ _ _ _
   unfold updateField
   refine aW (aW (wpAny_load ga ?_))
   dsimp only
   rw[aL (by exact a10 0x19012cc409a tt h6)]
   refine wpAny_update ga ?_
   refine wpAny_throw ?_
   have go:(s.heap.update a (Obj.mapFields (·.setIfInBounds 2 (.ref eh)))).get? a=some (ba c (some dx) (vs.setIfInBounds 2 (.ref eh))):=Heap.get?_update_self _ ga rfl
   obtain⟨D',S',K',I'⟩:=S.vO ok ha h1 h2 h3 h4 (vs':=vs.setIfInBounds 2 (.ref eh)) (by rw[Array.size_setIfInBounds];exact h6) (by rw[Array.getElem?_setIfInBounds_ne (by decide)];exact Ki hn) false (λe=>by cases e) hP (Heap.SameBut.update _ _ _) go
   exact⟨_,_,D',S',K',I',by rw[Gu] at q;exact q⟩
  |_=>exact hh.elim
end
section
variable {G:GC}{F:FC}{af:Nat}{σ:St}{X:Ex->St->Prop}
theorem E7 (env:Env)(x:Sem Value):raiseStmt env (some x) none=x>>=λv=>raiseStmt env (some (pure v)) none:=rfl
theorem y5 (ok:bK G F){e:Expr}{pos:Pos}{Q:Fl->St->Prop}
  (h:J G F af (aE G) (eval e F.env) σ (λv ae=>∃n a c dx fs,v=.ref a/\ae.aa a=some (.exc n c dx fs)/\2<=n/\pP G.K c=true/\Lq F ae.aa a/\X ⟨c,fs,F.hd.isNone⟩ ⟨ae.loc,rem ae.aa a⟩) X):
  J G F af (bA G) (exec (.Raise (some e) none pos) F.env) σ Q X:=λA s D hA S=>by
 rw[arm_exec_Raise]
 show wpAny _ _ (standAt pos>>=_) _ _ _
 refine aW (wpAny_standAt ?_)
 show wpAny _ _ (raiseStmt F.env (some (do let v ←eval e F.env;standAt pos;pure v)) none) _ _ _
 rw[E7]
 refine aW (aW (h.go hA S λv c ae ak aI az aB aJ au=>aW (wpAny_standAt (cC ?_))))
 obtain⟨n,a,cc,dx,fs,rfl,hl,hn,ht,hh,q⟩:=au
 cases bH aJ
 exact dU (y4 (Q:=λ_ _=>False) ok hA az hl hn ht hh q) (λ_ _ z=>z.elim) λ_ _ z=>z.keep aB
abbrev FC.held (F:FC)(ea:Addr):FC:={ F with hd:=some (.ref ea) }
theorem bK.held (ok:bK G F)(ea:Addr):bK G (F.held ea):=⟨ok.X,ok.XC,ok.T,ok.kind,ok.glob,ok.N3,ok.top,ok.each,ok.z6,ok.nm,ok.Nt⟩
theorem Sat.held {s:Shared}{D:Led}{ea:Addr}:Sat G (F.held ea) σ s D↔Sat G F σ s D:=⟨λS=>⟨S.fr,S.news,S.nd,S.aa,S.inj,S.fo,S.gens,S.os,S.cells⟩,λS=>⟨S.fr,S.news,S.nd,S.aa,S.inj,S.fo,S.gens,S.os,S.cells⟩⟩
theorem xy.held {D:Led}{h:Heap}{aa:ag}{ex:Ex}{ea dx:Addr}{oe:Obj}{vs:Array Value}{P eh:Addr}:xy G (F.held eh) D h aa ex ea dx oe vs P↔xy G F D h aa ex ea dx oe vs P:=
 ⟨λo=>⟨o.frame,o.at_,o.cls,o.dict,o.data,o.sz,o.fs,o.fo,o.aa,o.out,o.base,o.kH,o.tb,o.ctx,o.sl⟩,λo=>⟨o.frame,o.at_,o.cls,o.dict,o.data,o.sz,o.fs,o.fo,o.aa,o.out,o.base,o.kH,o.tb,o.ctx,o.sl⟩⟩
theorem fg.held {D:Led}{e:Value}{s:Shared}{eh:Addr}(h:fg G (F.held eh) X D e s):fg G F X D e s:=by
 obtain⟨ex,σ,D',S,K,⟨ea,dx,oe,vs,P,rfl,o⟩,q⟩:=h
 exact⟨ex,σ,D',Sat.held.mp S,K,⟨ea,dx,oe,vs,P,rfl,xy.held.mp o⟩,q⟩
theorem Sat.tV {s:Shared}{D:Led}{ex:Ex}{ea dx:Addr}{oe:Obj}{vs:Array Value}{P:Addr}(S:Sat G F σ s D)(o:xy G F D s.heap σ.aa ex ea dx oe vs P)(hz:ex.fs.length<=500):
  Sat G F ⟨σ.loc,put σ.aa ea (.exc (if ex.nc then 1 else 0) ex.cls dx ex.fs)⟩ s ((ea,oe)::D)/\σ.aa ea=none/\oe=ba ex.cls (some dx) vs:=by
 have e:oe=ba ex.cls (some dx) vs:=by
  have h1:=o.cls;have h2:=o.dict;have h3:=o.data;have h4:=o.sl
  obtain⟨a,b,c,d⟩:=oe
  dsimp only at h1 h2 h3 h4
  subst h1 h2 h3 h4
  rfl
 have az:=S.add (b:=ea) o.at_ o.out o.kH o.base
 obtain⟨es,n,f1,f2⟩:=o.fs
 have fresh:σ.aa ea=none:=by
  cases q:σ.aa ea with
  |none=>rfl
  |some ao=>obtain⟨ob,h1⟩:=(S.aa _ _ q).some_at;exact absurd rfl (o.out _ h1)
 refine⟨⟨az.fr,az.news,az.nd,λb ao q=>?_,λx y d p p' q q' w w'=>?_,az.fo,az.gens,az.os,az.cells⟩,fresh,e⟩
 ·change put _ _ _ _=_ at q
  by_cases z:b=ea
  ·subst z;rw[ab] at q;cases q
   refine⟨es,n,vs,by rw[←e];exact .head _,.tail _ f2,f1.mono λ_ _ m _=>.tail _ m,o.fo,hz,o.sz,λhk=>o.ctx ?_,λhk=>?_⟩
   ·cases SV:ex.nc with
    |true=>rfl
    |false=>rw[SV] at hk;simp at hk
   ·cases SV:ex.nc<;>rw[SV] at hk<;>simp at hk
  ·rw[ai z] at q;exact az.aa _ _ q
 ·change put _ _ _ _=_ at q
  change put _ _ _ _=_ at q'
  by_cases z:x=ea<;>by_cases z':y=ea
  ·rw[z,z']
  ·subst z;rw[ab] at q;rw[ai z'] at q';cases q;cases w;exact absurd w' (o.aa _ _ q')
  ·subst z';rw[ab] at q';rw[ai z] at q;cases q';cases w';exact absurd w (o.aa _ _ q)
  ·rw[ai z] at q;rw[ai z'] at q';exact S.inj _ _ _ _ _ q q' w w'
end
section
variable {G:GC}{F:FC}{af:Nat}{σ:St}{X:Ex->St->Prop}
noncomputable def xP (i:Nat)(σ:St):St:={ σ with loc:=σ.loc.set i none }
theorem wy (ok:bK G F){A:Around}{E:Value->Shared->Prop}{s:Shared}{D:Led}{i:Nat}{x:Str}{v:V}{Q:Unit->Shared->Prop}(S:Sat G F σ s D)(hx:(F.names[i]?:Option Str)=some x)(hk:F.env.kindOf x=some .local)
  (hv:(σ.loc[i]?:Option (Option V))=some (some v)) (q:∀s',Sat G F (xP i σ) s' D->Q () s'):wpAny (bT G) A (unbindName F.env x) Q E s:=by
 obtain⟨m,Fm,hm⟩:=S.fr
 obtain⟨c,h1,_⟩:=hm i x v hx hv
 have XN:m x=some c:=by
  rcases h1 with⟨_,h⟩|⟨ca,o,h,_⟩
  ·exact h
  ·rcases h with h|h<;>rw[hk] at h<;>cases h
 refine wpAny_unbindName_local hk Fm.ns XN (by rw[ok.kind];rfl) λh' u hn rq=>?_
 have N':News F.h₀ F.L h' D:=S.news.set rq
 refine q _ ⟨⟨_,⟨hn,λb o e=>(rq.2 b λz=>by subst z;rw[S.DM] at e;cases e).trans (Fm.keep b o e),Fm.above⟩,λj y w e1 e2=>?_⟩,N',S.nd,S.aa,S.inj,S.fo,S.gens,S.os,S.cells⟩
 change (σ.loc.set i none)[j]?=some (some w) at e2
 by_cases hj:j=i
 ·subst hj
  rw[List.getElem?_set] at e2
  by_cases hl:j<σ.loc.length<;>simp[hl] at e2
 ·rw[List.getElem?_set_ne (Ne.symm hj)] at e2
  obtain⟨c',h1,h2⟩:=hm j y w e1 e2
  refine⟨c',?_,h2⟩
  rcases h1 with⟨k1,k2⟩|h1
  ·refine .inl ⟨k1,?_⟩
   have:y≠x:=λz=>by
    subst z
    obtain⟨a1,b1⟩:=List.getElem?_eq_some_iff.mp e1
    obtain⟨a2,b2⟩:=List.getElem?_eq_some_iff.mp hx
    exact hj ((List.getElem?_inj a1 ok.nm).mp (e1.trans hx.symm))
   simp[this,k2]
  ·exact .inr h1
theorem qr {M:Model}{A:Around}{E:Value->Shared->Prop}{X:Ex->St->Prop}{D:Led}{s:Shared}{e:Value}{Q:Unit->Shared->Prop}{fr:Option Addr}
  (h:Bl G F X D e s) (hf:fr=none∨fr=F.env.frame) (hQ:∀s',fg G F X D e s'->(fr=F.env.frame->i9 G F X D e s')->(fr=none->Bl G F X D e s')->Q () s'):wpAny M A (setFlight e fr) Q E s:=by
 obtain⟨ex,σ,D',S,K,⟨ea,dx,oe,vs,P,rfl,ho,⟨T,oT,ts,h1,hT,uW,r3,rm,uX,pF,h3⟩⟩,hX⟩:=h
 unfold setFlight
 refine aW (wpAny_field ho.at_ ho.data h1 ?_)
 rw[aL (show(Value.ref T !=Value.none)=true from by simp)]
 have hz:=(Array.getElem?_eq_some_iff.mp h3).1
 refine wpAny_setField hT uW hz ?_
 generalize hx:(fr.elim Value.none λf=>rawInt f)=x
 have fq:=Obj.data_mapFields uW (·.setIfInBounds 3 x)
 have aG:=S.heap (h':=s.heap.update T (Obj.mapFields (·.setIfInBounds 3 x))) λb o hb hw=>by
  have Kt:T≠b:=λq=>by
   subst q
   rcases hw with⟨p,hp,e⟩|e|e
   ·exact r3 p hp e
   ·exact uX e
   ·rw[rm] at e;cases e
  rw[Heap.get?_update_other _ _ Kt];exact hb
 have lS:=Heap.get?_update_self (Obj.mapFields (·.setIfInBounds 3 x)) hT (Obj.isFreed_of_fields fq)
 have xs:(ts.setIfInBounds 3 x)[3]?=some x:=by simp[hz]
 have xr:x=.none∨x=rawInt P:=by
  rcases hf with rfl|rfl
  ·exact .inl hx.symm
  ·rw[ho.frame] at hx;exact .inr hx.symm
 have lC:xy G F D' (s.heap.update T (Obj.mapFields (·.setIfInBounds 3 x))) σ.aa ex ea dx oe vs P:=⟨ho.frame,(Heap.get?_update_other _ _ pF).trans ho.at_,ho.cls,ho.dict,ho.data,ho.sz,ho.fs,ho.fo,ho.aa,ho.out,ho.base,ho.kH,
  .inr ⟨T,_,_,h1,lS,fq,r3,rm,uX,pF,xr.imp (λ(e:x=.none)=>xs.trans (by rw[e])) λ(e:x=rawInt P)=>xs.trans (by rw[e])⟩,ho.ctx,ho.sl⟩
 refine hQ _ ⟨ex,σ,D',aG,K,⟨ea,dx,oe,vs,P,rfl,lC⟩,hX⟩ (λe=>⟨ex,σ,D',aG,K,⟨ea,dx,oe,vs,P,rfl,lC,⟨T,_,_,h1,lS,fq,r3,rm,uX,pF,?_⟩⟩,hX⟩)
  λe=>⟨ex,σ,D',aG,K,⟨ea,dx,oe,vs,P,rfl,lC,⟨T,_,_,h1,lS,fq,r3,rm,uX,pF,?_⟩⟩,hX⟩
 ·rw[xs,←hx,e,ho.frame];rfl
 ·rw[xs,←hx,e];rfl
noncomputable def Nb (G:GC)(F:FC)(af:Nat)(C:Addr)(name:Option Nat)(vv:List Stmt)(Q:Fl->St->Prop)(X:Ex->St->Prop)(ex:Ex)(σ:St):Prop:=
 ∃b,mroIn G.K ex.cls (.ref C)=some b/\if b then ex.fs.length<=500/\∀ea dx,σ.aa ea=none->(match name with
  |none=>J G (F.held ea) af (bA G) (execs vv F.env) ⟨σ.loc,put σ.aa ea (.exc (if ex.nc then 1 else 0) ex.cls dx ex.fs)⟩ Q X
  |some i=>J G (F.held ea) af (bA G) (execs vv F.env) ⟨σ.loc.set i (some (.ref ea)),put σ.aa ea (.exc (if ex.nc then 1 else 0) ex.cls dx ex.fs)⟩
    (λfl cn=>(∃v,(cn.loc[i]?:Option (Option V))=some (some v))/\Q fl (xP i cn)) (λ_ _=>False))
 else X ex σ
theorem rI {M:Model}{h:Heap}{e C ec:Addr}{b:Bool}(LT:Looks M h (isInstance (.ref C) (.type "tuple")) false)(Le:Looks M h (isExcClass (.ref C)) true)(Lo:Looks M h (typeOf (.ref e)) (.ref ec))(Lm:Looks M h (isSubtype (.ref ec) (.ref C)) b):
  Looks M h (excMatches (.ref e) (.ref C)) b:=by
 intro A Q E s k q
 unfold excMatches
 refine aW (LT A _ E s k ?_)
 rw[aA (by decide)]
 refine aW (cC ?_)
 dsimp only
 rw[List.forIn_cons]
 refine aW (aW (aW (Le A _ E s k ?_)))
 rw[aA (by decide)]
 refine cC ?_
 refine cC ?_
 refine aW (Lo A _ E s k ?_)
 rw[List.forIn_cons]
 refine aW (aW (aW (Lm A _ E s k ?_)))
 cases b with
 |true=>exact cC (cC (cC q))
 |false=>exact cC (cC (cC q))
theorem Ce {s:Shared}{D:Led}{ex:Ex}{ea dx C:Addr}{oe:Obj}{vs:Array Value}{P:Addr}{b:Bool}(ok:bK G F)(S:Sat G F σ s D)(ho:xy G F D s.heap σ.aa ex ea dx oe vs P)(ht:pP G.K C=true)(hb:mroIn G.K ex.cls (.ref C)=some b):
  Looks (bT G) s.heap (excMatches (.ref ea) (.ref C)) b:=by
 obtain⟨m,Fm,_⟩:=S.fr
 have gC:=ok.X.keeps Fm.keep
 obtain⟨KG,_⟩:=oA (M:=bT G) gC (aQ ht).2
 obtain⟨cd,hc,_⟩:=any_some (aQ ht).2
 have Lo:Looks (bT G) s.heap (typeOf (.ref ea)) (.ref ex.cls):=(Looks.ld (M:=bT G) (part:=some headPart) ho.at_).andThen (by rw[ho.cls];exact .now)
 have Lt:Looks (bT G) s.heap (typeOf (.ref C)) (.type "type"):=looks_typeIn gC (kO (aQ ht).1)
 have Lc:Looks (bT G) s.heap (isType (.ref C)) true:=by
  unfold clsIn at hc
  split at hc
  ·rename_i q;exact(Looks.ld (gC _ _ q)).andThen .now
  ·cases hc
 exact rI (Lt.andThen (Looks.of_pure (by rw[isSubtype_type];kernel_rfl))) (Lc.andThen KG) Lo (looks_mroIn (M:=bT G) gC hb)
theorem Fd {A:Around}{s:Shared}{D D₀:Led}{ex:Ex}{ea dx:Addr}{oe:Obj}{vs:Array Value}{P:Addr}{Q:Fl->St->Prop}(S:Sat G F σ s D)(K:aO F D₀ D)(ho:xy G F D s.heap σ.aa ex ea dx oe vs P)(tb:Df F.h₀ F.L D s.heap ea vs λx=>x=some .none)(hX:X ex σ):
  wpAny (bT G) A (PySem.passOn "try.no-clause-matches" (.ref ea) F.env:Sem Flow) (j4 G F (bA G) Q D₀) (fg G F X D₀) s:=by
 unfold PySem.passOn
 have Vw:=tb
 obtain⟨T,oT,ts,u1,_⟩:=Vw
 refine aW (wpAny_field ho.at_ ho.data u1 ?_)
 rw[aA (show ¬((Value.ref T==Value.none)=true) from by simp)]
 exact aW (qr ⟨ex,σ,D,S,K,⟨ea,dx,oe,vs,P,rfl,ho,tb⟩,hX⟩ (.inr rfl) λs' h' _ _=>wpAny_throw h')
theorem tr {s:Shared}{D:Led}{ex:Ex}{ea:Addr}(h:Bl G F (λI2 cn=>I2=ex/\cn=σ) D (.ref ea) s)(hz:ex.fs.length<=500):
  ∃dx D',σ.aa ea=none/\Sat G F ⟨σ.loc,put σ.aa ea (.exc (if ex.nc then 1 else 0) ex.cls dx ex.fs)⟩ s D'/\aO F D D':=by
 obtain⟨I2,cn,kQ,gD,eI,⟨Zc,R3,Y3,vs',P',e',lC,Vw⟩,e1,e2⟩:=h
 cases e';cases e1;cases e2
 obtain⟨xU,Ld,_⟩:=gD.tV lC hz
 exact⟨R3,_,Ld,xU,eI.trans (aO.cons _)⟩
theorem iW.tV {A:Around}(hA:iW F af A)(eh:Addr):iW (F.held eh) af (A.mark (some (.ref eh))):=⟨hA.frames,hA.depth,hA.units,rfl⟩
theorem yP (ok:bK G F){A:Around}{s:Shared}{D:Led}{ex:Ex}{ea:Addr}{t:Sem Flow}{Q:Fl->St->Prop}{E:Value->Shared->Prop}(hA:iW F af A)(h:Bl G F (λI2 cn=>I2=ex/\cn=σ) D (.ref ea) s)(hz:ex.fs.length<=500)
  (hX:∀dx,σ.aa ea=none->J G (F.held ea) af (bA G) t ⟨σ.loc,put σ.aa ea (.exc (if ex.nc then 1 else 0) ex.cls dx ex.fs)⟩ Q X) (hE:∀x s',fg G F X D x s'->E x s'):
  wpAny (bT G) (A.mark (some (.ref ea))) t (j4 G F (bA G) Q D) E s:=by
 obtain⟨dx,D',f,S,K⟩:=tr h hz
 refine dU (hX dx f _ _ _ (hA.tV ea) (Sat.held.mpr S)) (λfl g9 kJ=>?_) λx g9 kJ=>hE _ _ ((fg.held kJ).keep K)
 obtain⟨v,PL,Hh,Dg,Bk,Ub,TN⟩:=kJ
 exact⟨v,PL,Hh,Sat.held.mp Dg,K.trans Bk,Ub,TN⟩
theorem wz (ok:bK G F){A:Around}{s:Shared}{D₀ D:Led}{Q:Fl->St->Prop}{E:Value->Shared->Prop}{i:Nat}{n:Str}{pos:Pos}{v:Fl}{fl:Flow}{w:V}(rk:eD F i n)(Nl:F.env.kindOf n=some .local)(S:Sat G F σ s D)(K:aO F D₀ D)(r:bA G D v fl)
  (hw:(σ.loc[i]?:Option (Option V))=some (some w)) (q:Q v (xP i σ)):wpAny (bT G) A (do bindName F.env n .none;unbindBehindTheSuite F.env n pos) (λ_ s'=>j4 G F (bA G) Q D₀ fl s') E s:=by
 unfold bindName unbindBehindTheSuite
 refine aW (aW (wpAny_holding (wpAny_point (aW ?_))))
 refine eC ok S rk (v:=.none) .none λpH Vd U9 PF=>wpAny_point ?_
 refine wpAny_onRaise (wy ok U9 rk.1 Nl (v:=.none) ?_ λCV Pz=>?_)
 ·show(σ.loc.set i (some .none))[i]?=_
  rw[List.getElem?_set_self (List.getElem?_eq_some_iff.mp hw).1]
 ·rw[show xP i (iQ i .none σ)=xP i σ by unfold xP iQ;simp] at Pz
  exact⟨v,_,Vd,Pz,K.trans PF,r.keep PF,q⟩
noncomputable def Eb (F:FC)(name:Option Str)(ni:Option Nat):Prop:=match name with
 |none=>ni=none
 |some x=>∃i,ni=some i/\eD F i x/\F.env.kindOf x=some .local
theorem EO (ok:bK G F){body:List Stmt}{C:Addr}{R4:Str}{np rz pos:Pos}{name:Option Str}{ni:Option Nat}{Ll:Stmt}{vv:List Stmt}{Q:Fl->St->Prop}
  (hn:nsIn G.K mainGlobals R4=some (some (.ref C))) (hk:F.env.kindOf R4=some .globalImplicit) (hd:(R4==("__debug__":Str))=false) (ht:pP G.K C=true)
  (JA:Eb F name ni)
  (h:J G F af (bA G) (execs body F.env) σ Q (Nb G F af C ni (Ll::vv) Q X)):
  J G F af (bA G) (exec (.Try body [.ExceptHandler (some (.Name R4 np)) name (Ll::vv) rz] [] [] pos) F.env) σ Q X:=λA s D hA S=>by
 rw[arm_exec_Try]
 refine aW (wpAny_standAt ?_)
 refine wpAny_tryStmt_except (dU (h A s D hA S) (λf ak aN=>?_) (λe ak aN=>?_))
 ·obtain⟨b,ae,aI,az,aB,aJ,au⟩:=aN
  cases aJ with
  |next=>exact wpAny_execs_nil ⟨.next,ae,aI,az,aB,.next,au⟩
  |brk=>exact⟨.brk,ae,aI,az,aB,.brk,au⟩
  |cont=>exact⟨.cont,ae,aI,az,aB,.cont,au⟩
  |ret i=>exact⟨.ret _,ae,aI,az,aB,.ret i,au⟩
 ·refine Ac ok hA.frames aN λaT cT=>?_
  refine pq cT (.inl rfl) λbQ _ _ fG=>?_
  have fG:=fG rfl
  obtain⟨ex,bJ,cU,cF,bO,⟨ea,dx,oe,vs,P,rfl,ho,tb⟩,b,hb,hX⟩:=fG
  obtain⟨YU,Rq,_⟩:=cF.fr
  refine wpAny_handleBy_cons (codeAny_handlers_test (Name_function_global ok.kind hk (loadGlobal_global (by rw[ok.glob];exact ok.T.g.keeps Rq.keep) (mg_of ok.X ok.T.g hn) ?_) hd)) (by intro q;cases q)
  refine(Ce ok cF ho ht hb).here ?_
  cases b with
  |false=>exact wpAny_handleBy_nil (Fd cF bO ho tb hX)
  |true=>
   obtain⟨hz,hX⟩:=hX
   have hN:Bl G F (λI2 cn=>I2=ex/\cn=bJ) D (.ref ea) bQ:=⟨ex,bJ,cU,cF,bO,⟨ea,dx,oe,vs,P,rfl,ho,tb⟩,rfl,rfl⟩
   cases name with
   |none=>
    cases(JA:ni=none)
    exact codeAny_handlers_suite (qr hN (.inl rfl) λcY _ _ kK=>yP ok hA (kK rfl) hz (hX ea) λx pI xM=>Ac ok hA.frames xM λpH K7=>yF K7)
   |some n=>
    obtain⟨i,rfl,rk,Nl⟩:=JA
    refine codeAny_handlers_suite_as (qr hN (.inl rfl) λcY _ _ kK=>?_)
    obtain⟨R3,Hi,Ld,xU,pO⟩:=tr (kK rfl) hz
    refine eC ok xU rk (v:=.ref ea) (.ref ea) λg9 Hh Dg Bk=>?_
    refine dU (hX ea R3 Ld _ _ _ (hA.tV ea) (Sat.held.mpr Dg)) (λfl pI xM=>?_) λx pI xM=>?_
    ·obtain⟨v,WH,Y1,U',Vc,Ua,⟨w,hw⟩,TM⟩:=xM
     exact wz ok rk Nl (Sat.held.mp U') ((pO.trans Bk).trans Vc) Ua hw TM
    ·obtain⟨_,_,_,_,_,_,q⟩:=xM
     exact q.elim
end
inductive jY where|add|sub|mul|fdiv|mod|pow|shl
 deriving DecidableEq
noncomputable def jY.op:jY->Operator
 |.add=>.Add|.sub=>.Sub|.mul=>.Mult|.fdiv=>.FloorDiv|.mod=>.Mod|.pow=>.Pow|.shl=>.LShift
noncomputable def rn (n:Int):Prop:=n.natAbs<2^64
noncomputable def xA (v:V)(f:Int->Prop):Prop:=match v with
 |.int a=>f a
 |_=>False
noncomputable def Kb (v:V)(f:List Nat->Prop):Prop:=match v with
 |.str a=>f a
 |_=>False
noncomputable def CL (o:Option AO)(f:List V->Prop):Prop:=match o with
 |none=>False
 |some o=>(match o with|.list l=>f l|_=>False)
noncomputable def CE (aa:ag)(v:V)(f:Addr->List V->Prop):Prop:=match v with
 |.ref a=>CL (aa a) (f a)
 |_=>False
theorem dH {v:V}{f:Int->Prop}(h:xA v f):∃a,v=.int a/\f a:=by
 cases v with
 |int a=>exact⟨a,rfl,h⟩
 |_=>exact h.elim
theorem kU {v:V}{f:List Nat->Prop}(h:Kb v f):∃a,v=.str a/\f a:=by
 cases v with
 |str a=>exact⟨a,rfl,h⟩
 |_=>exact h.elim
theorem kW {o:Option AO}{f:List V->Prop}(h:CL o f):∃l,o=some (.list l)/\f l:=by
 cases o with
 |none=>exact h.elim
 |some o=>cases o with
  |list l=>exact⟨l,rfl,h⟩
  |_=>exact h.elim
theorem fx {aa:ag}{v:V}{f:Addr->List V->Prop}(h:CE aa v f):∃a l,v=.ref a/\aa a=some (.list l)/\f a l:=by
 cases v with
 |ref a=>obtain⟨l,e,q⟩:=kW h;exact⟨a,l,rfl,e,q⟩
 |_=>exact h.elim
theorem cQ {o:Option AO}{l:List V}{f:List V->Prop}(e:o=some (.list l))(q:f l):CL o f:=by rw[e];exact q
theorem D4 {aa:ag}{a:Addr}{l:List V}{f:Addr->List V->Prop}(e:aa a=some (.list l))(q:f a l):CE aa (.ref a) f:=by
 show CL (aa a) _
 rw[e];exact q
noncomputable def gy (v w:V)(f:Int->Int->Prop):Prop:=xA v λa=>xA w (f a)
theorem jH {v w:V}{f:Int->Int->Prop}(h:gy v w f):∃a b,v=.int a/\w=.int b/\f a b:=by
 obtain⟨a,e,h⟩:=dH h
 obtain⟨b,e',h⟩:=dH h
 exact⟨a,b,e,e',h⟩
noncomputable def VL (l:List V)(f:V->Prop):Prop:=match l with
 |[]=>False
 |x::r=>r=[]/\f x
theorem L7 {l:List V}{f:V->Prop}(h:VL l f):∃x,l=[x]/\f x:=by
 cases l with
 |nil=>exact h.elim
 |cons x r=>obtain⟨e,h⟩:=h;subst e;exact⟨x,rfl,h⟩
noncomputable def M7 (v w:V)(aa:ag)(Q:V->ag->Prop):Prop:=match v with
 |.int a=>xA w λb=>Q (.int (a+b)) aa
 |.str a=>Kb w λb=>a.length+b.length<=1000000/\Q (.str (a++b)) aa
 |.ref a=>CL (aa a) λxs=>CE aa w λ_ ys=>xs.length+ys.length<=1000000/\∀c,aa c=none->Q (.ref c) (put aa c (.list (xs++ys)))
 |_=>False
noncomputable def M6 (v w:V)(aa:ag)(Q:V->ag->Prop):Prop:=match v with
 |.int a=>xA w λb=>(rn a∨rn b)/\Q (.int (a*b)) aa
 |.str a=>xA w λn=>(a.length=1/\n<=1000000/\-1000000<=n)/\Q (.str (List.replicate n.toNat (a.headD 0))) aa
 |.ref a=>CL (aa a) λxs=>xA w λn=>VL xs λx=>(0<=n/\n<=1000)/\∀c,aa c=none->Q (.ref c) (put aa c (.list (List.replicate n.toNat x)))
 |_=>False
noncomputable def xR (op:jY)(v w:V)(aa:ag)(Q:V->ag->Prop):Prop:=match op with
 |.add=>M7 v w aa Q
 |.sub=>gy v w λa b=>Q (.int (a-b)) aa
 |.mul=>M6 v w aa Q
 |.fdiv=>gy v w λa b=>(0<b/\b<2^9000)/\Q (.int (a/b)) aa
 |.mod=>gy v w λa b=>0<b/\Q (.int (a%b)) aa
 |.pow=>gy v w λa n=>(0<=n/\n<=1000000/\rn a)/\Q (.int (a^n.toNat)) aa
 |.shl=>gy v w λa n=>(0<=n/\n<=1000000/\rn a)/\Q (.int (a*2^n.toNat)) aa
section
variable {G:GC}{F:FC}{af:Nat}{σ:St}{s:Shared}{D:Led}{A:Around}{E:Value->Shared->Prop}{X:Ex->St->Prop}{Q:V->St->Prop}
theorem iX (S:Sat G F σ s D){v:V}{c:Value}(i:br G.C D v c){s':Shared}(hh:s'.heap=s.heap)(hg:s'.gens=s.gens)(ho:s'.os=s.os)(q:Q v σ):j4 G F (aE G) Q D c s':=
 ⟨v,σ,D,S.same hh hg ho,.refl,i,q⟩
theorem Sat.grow (S:Sat G F σ s D){m:Str->Option Value}(bz:lO G F σ.loc D m){a:Addr}{o:Obj}{s':Shared}(Fm:Fr F.h₀ F.L s'.heap m)(N:News F.h₀ F.L s'.heap ((a,o)::D))(lt:∀p∈D,p.1≠a)(hg:s'.gens=s.gens)(ho:s'.os=s.os):
  Sat G F σ s' ((a,o)::D):=by
 refine Sat.step (σ:=σ) (D:=D) Fm bz N ?_ (λp hp _=>.tail _ hp) (λb ob e=>(S.aa b ob e).mono λp hp=>.tail _ hp) S.inj (λp hp=>let ⟨sl,h⟩:=S.fo p hp;⟨sl,.tail _ h⟩) (hg.trans S.gens) (ho.trans S.os) S.cells
 rw[List.map_cons,List.nodup_cons]
 exact⟨λh=>by obtain⟨p,hp,e⟩:=List.mem_map.mp h;exact lt p hp e,S.nd⟩
theorem lZ (S:Sat G F σ s D):∀p∈D,p.1≠s.heap.objs.size:=λp hp=>Nat.ne_of_lt (S.da p hp)
theorem Qk {a b:Int}(h:rn a∨rn b):IntMulOk a b:=by
 unfold IntMulOk
 have bits:∀x:Int,rn x->Builtin.Int.intBits x<=shortFactorBits:=λx hx=>by
  exact intBits_le hx
 simp only[Bool.and_eq_true,decide_eq_true_eq,not_and]
 intro h1
 rcases h with h|h<;>have:=bits _ h<;>omega
theorem nC {a b:Int}(h1:0<b)(h2:b<2^9000):Builtin.divisionGoesByPylong a b=false:=by
 unfold Builtin.divisionGoesByPylong
 dsimp only
 rw[Bool.and_eq_false_iff]
 refine .inl (decide_eq_false ?_)
 rw[aA (by simp;omega)]
 have h:b.natAbs<2^9000:=by
  have e:((b.natAbs:Nat):Int)=b:=Int.natAbs_of_nonneg (by exact a01 0x1a0d28d4694 tt h1)
  have:((b.natAbs:Nat):Int)<((2^9000:Nat):Int):=by rw[e];simpa using h2
  exact Int.ofNat_lt.mp this
 have:=(Nat.log2_lt (by omega)).mpr h
 exact Nat.not_lt.mpr (Nat.div_lt_of_lt_mul this)
theorem uA (op:jY){a b:Int}(h:xR op (.int a) (.int b) σ.aa λu l=>Q u ⟨σ.loc,l⟩):z7 G F af (binaryOp op.op) (.int a) (.int b) σ Q X:=λA s D eu cj hA S aJ bL=>by
 obtain⟨_,rfl⟩:=int_is aJ
 obtain⟨_,rfl⟩:=int_is bL
 cases op
 ·exact add_int (iX S (.int _ _) rfl rfl rfl h)
 ·exact sub_int (iX S (.int _ _) rfl rfl rfl h)
 ·exact mul_int (iX S (.int _ _) rfl rfl rfl h.2) (Qk h.1)
 ·obtain⟨⟨h1,h2⟩,h3⟩:=h
  refine floordiv_int (by omega) (iX S (.int _ _) rfl rfl rfl ?_) (.inl ?_)
  ·rw[Int.fdiv_eq_ediv_of_nonneg _ (by exact a01 0x1a0d28d4694 tt h1)];exact h3
  ·exact nC h1 h2
 ·obtain⟨h1,h3⟩:=h
  refine mod_int (by omega) (iX S (.int _ _) rfl rfl rfl ?_)
  rw[Int.fmod_eq_emod_of_nonneg _ (by exact a01 0x1a0d28d4694 tt h1)];exact h3
 ·obtain⟨⟨h1,h2,h3⟩,h4⟩:=h
  exact pow_int_small h1 h2 h3 (iX S (.int _ _) rfl rfl rfl h4)
 ·obtain⟨⟨h1,h2,h3⟩,h4⟩:=h
  exact lshift_int_small h1 h2 h3 (iX S (.int _ _) rfl rfl rfl h4)
theorem Au (a b:List Nat):((⟨a.toArray⟩:Str)++⟨b.toArray⟩)=⟨(a++b).toArray⟩:=by
 show(⟨a.toArray++b.toArray⟩:Str)=_
 rw[List.append_toArray]
theorem xp {a b:List Nat}(h:xR .add (.str a) (.str b) σ.aa λu l=>Q u ⟨σ.loc,l⟩):z7 G F af (binaryOp .Add) (.str a) (.str b) σ Q X:=λA s D eu cj hA S aJ bL=>by
 obtain⟨_,rfl⟩:=str_is aJ
 obtain⟨_,rfl⟩:=str_is bL
 obtain⟨h1,h2⟩:=h
 refine add_str (λt' tk=>?_) (by show a.toArray.size+b.toArray.size<=_;rw[o4,o4,sizeLine_eq];exact a20 0xc49c081020415a080b127024f486b4101 tt h1)
 rw[Au]
 exact iX S (.str _ _) rfl rfl rfl h2
theorem FN (n:Nat)(x:Nat):(List.replicate n (#[x]:Array Nat)).foldl (·++·) #[]=(List.replicate n x).toArray:=by
 have key:∀(n:Nat) (acc:Array Nat),(List.replicate n (#[x]:Array Nat)).foldl (·++·) acc=acc++(List.replicate n x).toArray:=by
  intro n
  induction n with
  |zero=>intro acc;simp
  |succ n ih=>intro acc;rw[List.replicate_succ,List.foldl_cons,ih,List.replicate_succ];apply Array.ext';simp
 rw[key];simp
theorem xo {a:List Nat}{n:Int}(h:xR .mul (.str a) (.int n) σ.aa λu l=>Q u ⟨σ.loc,l⟩):z7 G F af (binaryOp .Mult) (.str a) (.int n) σ Q X:=λA s D eu cj hA S aJ bL=>by
 obtain⟨_,rfl⟩:=str_is aJ
 obtain⟨_,rfl⟩:=int_is bL
 obtain⟨⟨h1,h2,h3⟩,h4⟩:=h
 match a,h1 with
 |[x],_=>
  have hl:(⟨[x].toArray⟩:Str).length=1:=rfl
  refine PySem.P.mul_str (by simp;exact⟨a01 0x341ab89c0810204081020408120a341ab89c093d2194 tt h3,a01 0x352702040810204081020481ad09c093d218d tt h2⟩) (λ_ _=>?_) (λ_ _=>?_) ?_
  ·rw[hl]
   have:(1:Int)<=(2^63-1)/n:=by
    rw[Int.le_ediv_iff_mul_le (by exact a01 0x1a8d28d0695 tt (uU (by assumption):))];omega
   exact Int.not_lt.mpr (a01 0xd06b02ad0695 tt this)
  ·rw[hl];unfold Builtin.Str.tooLong;rw[sizeLine_eq];simp;exact a01 0xd09c081020411ad09c093d218d tt h2
  ·split
   ·rename_i hn
    rw[show n.toNat=0 by omega] at h4
    exact⟨by show 0<=_;exact dq 0x624e0408102094 [] [] tt,iX (s:=s) (s':={ s with toks:=s.toks+1 }) S (.str [] _) rfl rfl rfl h4⟩
   ·split
    ·rename_i Y8 SW
     rw[hl] at SW
     simp at SW
     subst SW
     exact iX S (.str [x] _) rfl rfl rfl h4
    ·have:=FN n.toNat x
     rw[show(⟨[x].toArray⟩:Str).cps=#[x] from rfl,this]
     exact⟨by show(List.replicate n.toNat x).toArray.size<=_;rw[o4,List.length_replicate,sizeLine_eq];exact j6 (by exact a01 0x68c09c081020411ad09c093d218d tt h2),iX (s:=s) (s':={ s with toks:=s.toks+1 }) S (.str _ _) rfl rfl rfl h4⟩
theorem uQ {a b:Addr}{xs ys:List V}(ea:σ.aa a=some (.list xs))(eb:σ.aa b=some (.list ys))(h1:xs.length+ys.length<=1000000)(h2:∀c,σ.aa c=none->Q (.ref c) ⟨σ.loc,put σ.aa c (.list (xs++ys))⟩):z7 G F af (binaryOp .Add) (.ref a) (.ref b) σ Q X:=λA s D eu cj hA S aJ bL=>by
 obtain rfl:=bH aJ
 obtain rfl:=bH bL
 obtain⟨vs,n,m1,v1,z1⟩:=S.aa _ _ ea
 obtain⟨ws,k,m2,v2,z2⟩:=S.aa _ _ eb
 obtain⟨m,Fm,bz⟩:=S.fr
 refine add_lists (vs:=vs.toList) (ws:=ws.toList) Fm S.news ⟨_,(S.news _ m1).1,rfl,n,rfl⟩ ⟨_,(S.news _ m2).1,rfl,k,rfl⟩ (λh' F' N'=>?_) (by rw[v1.length,v2.length,sizeLine_eq];exact a20 0xc49c081020415a080b127024f486b4101 tt h1)
 have S':=S.grow bz (s':={ s with heap:=h' }) F' N' (lZ S) rfl rfl
 have GR:=S'.jG (a:=s.heap.objs.size) (l:=xs++ys) (vs:=(vs.toList++ws.toList).toArray) (n:=0) (.head _) (by simpa using(v1.append v2).lW _) (by rw[o4,cN,v1.length,v2.length];exact a20 0xc89c081020415a080b127024f486b4101 tt h1)
 exact⟨.ref _,_,_,GR,aO.cons _,.ref _,h2 _ S.fresh⟩
theorem BI (n:Nat)(c:Value)(e:Bool):List.foldl (λx1 x2=>x1++x2) #[] (List.replicate (if(#[c]:Array Value).isEmpty=true then 0 else n) #[c])=(List.replicate n c).toArray:=by
 have key:∀(n:Nat) (acc:Array Value),(List.replicate n (#[c]:Array Value)).foldl (λx1 x2=>x1++x2) acc=acc++(List.replicate n c).toArray:=by
  intro n
  induction n with
  |zero=>intro acc;simp
  |succ n ih=>intro acc;rw[List.replicate_succ,List.foldl_cons,ih,List.replicate_succ];apply Array.ext';simp
 rw[aA (by simp),key];simp
theorem H0 {C:Frag}{D:Led}{x:V}{c:Value}(i:br C D x c):∀k,aY C D (List.replicate k x) (List.replicate k c):=by
 intro z_
 induction z_ with
 |zero=>
  exact .nil
 |succ k ih=>
  exact .cons i (ih)
theorem H2 {C:Frag}{D:Led}{x:V}{vs:Array Value}(h:aY C D [x] vs.toList):∃c,vs=#[c]/\br C D x c:=by
 obtain⟨l⟩:=vs
 obtain⟨c,e,i⟩:=fb h
 change l=[c] at e
 subst e
 exact⟨c,rfl,i⟩
theorem uP {a:Addr}{n:Int}{x:V}(ea:σ.aa a=some (.list [x]))(h0:0<=n)(h1:n<=1000)(h2:∀c,σ.aa c=none->Q (.ref c) ⟨σ.loc,put σ.aa c (.list (List.replicate n.toNat x))⟩):z7 G F af (binaryOp .Mult) (.ref a) (.int n) σ Q X:=λA s D eu cj hA S aJ bL=>by
 obtain rfl:=bH aJ
 obtain⟨u,rfl⟩:=int_is bL
 obtain⟨vs,k,m1,v1,z1⟩:=S.aa _ _ ea
 obtain⟨m,Fm,bz⟩:=S.fr
 obtain⟨c,rfl,ic⟩:=H2 v1
 refine mul_list Fm S.news (S.news _ m1).1 (by omega) (by omega) (by show 1*n.toNat<=_;omega) λh' F' N'=>?_
 rw[BI n.toNat c true] at N'
 have S':=S.grow bz (s':={ s with heap:=h' }) F' N' (lZ S) rfl rfl
 have GR:=S'.jG (a:=s.heap.objs.size) (l:=List.replicate n.toNat x) (vs:=(List.replicate n.toNat c).toArray) (n:=0) (.head _) ((H0 ic _).lW _) (by rw[o4,List.length_replicate];omega)
 exact⟨.ref _,_,_,GR,aO.cons _,.ref _,h2 _ S.fresh⟩
theorem Cy (op:jY){v w:V}(h:xR op v w σ.aa λu l=>Q u ⟨σ.loc,l⟩):z7 G F af (binaryOp op.op) v w σ Q X:=by
 cases op with
 |add=>cases v with
  |int a=>obtain⟨b,rfl,h⟩:=dH h;exact uA .add h
  |str a=>obtain⟨b,rfl,h⟩:=kU h;exact xp h
  |ref a=>
   obtain⟨xs,ea,h⟩:=kW h
   obtain⟨b,ys,rfl,eb,h1,h2⟩:=fx h
   exact uQ ea eb h1 h2
  |_=>exact h.elim
 |mul=>cases v with
  |int a=>obtain⟨b,rfl,h⟩:=dH h;exact uA .mul h
  |str a=>obtain⟨b,rfl,h⟩:=dH h;exact xo h
  |ref a=>
   obtain⟨xs,ea,h⟩:=kW h
   obtain⟨b,rfl,h⟩:=dH h
   obtain⟨x,rfl,⟨h0,h1⟩,h2⟩:=L7 h
   exact uP ea h0 h1 h2
  |_=>exact h.elim
 |_=>obtain⟨a,b,rfl,rfl,h⟩:=jH h;exact uA _ h
end
section
open PySem.SeqAt
inductive iP where|lt|le|gt|ge|eq|ne|is|nT|isin|dw
 deriving DecidableEq
noncomputable def iP.op:iP->CmpOp
 |.lt=>.Lt|.le=>.LtE|.gt=>.Gt|.ge=>.GtE|.eq=>.Eq|.ne=>.NotEq|.is=>.Is|.nT=>.IsNot|.isin=>.In|.dw=>.NotIn
noncomputable def Sr (v:V)(f:List V->Prop):Prop:=match v with
 |.tup l=>f l
 |_=>False
theorem ya {v:V}{f:List V->Prop}(h:Sr v f):∃l,v=.tup l/\f l:=by
 cases v with
 |tup l=>exact⟨l,rfl,h⟩
 |_=>exact h.elim
noncomputable def Bc (v:V)(f:Int->Prop)(g:List Nat->Prop):Prop:=match v with
 |.int a=>f a
 |.str a=>g a
 |_=>False
theorem fR {v:V}{f:Int->Prop}{g:List Nat->Prop}(h:Bc v f g):(∃a,v=.int a/\f a)∨∃a,v=.str a/\g a:=by
 cases v with
 |int a=>exact .inl ⟨a,rfl,h⟩
 |str a=>exact .inr ⟨a,rfl,h⟩
 |_=>exact h.elim
noncomputable def lV (R:V->V->Prop)(xs ys:List V):Prop:=xs.length=ys.length/\∀(i:Nat) (x y:V),xs[i]?=some x->ys[i]?=some y->R x y
noncomputable def Jf (aa:ag)(R:V->V->Prop)(v w:V):Prop:=match v with
 |.none=>w=.none
 |.bool a=>w=.bool a
 |.int a=>w=.int a
 |.str a=>w=.str a
 |.tup xs=>Sr w (lV R xs)
 |.ref a=>CL (aa a) λxs=>CE aa w λ_ ys=>lV R xs ys
 |.ty _=>False
noncomputable def gG (aa:ag):Nat->V->V->Prop
 |0=>λ_ _=>False
 |n+1=>Jf aa (gG aa n)
noncomputable def Gy (aa:ag)(v w:V)(Q:Bool->Prop):Prop:=match v with
 |.int a=>Bc w (λb=>Q (decide (a=b))) λ_=>Q false
 |.str a=>Bc w (λ_=>Q false) λb=>Q (decide (a=b))
 |.ref a=>CL (aa a) λxs=>CE aa w λb ys=>(xs.length≠ys.length/\Q false)∨(gG aa 8 (.ref a) (.ref b)/\Q true)
 |.tup xs=>Sr w λys=>gG aa 8 (.tup xs) (.tup ys)/\Q true
 |_=>False
inductive GS (aa:ag)(Q:Bool->Prop):V->V->Prop
 |ii (a b):Q (decide (a=b))->GS aa Q (.int a) (.int b)
 |ss (a b):Q (decide (a=b))->GS aa Q (.str a) (.str b)
 |is (a b):Q false->GS aa Q (.int a) (.str b)
 |si (a b):Q false->GS aa Q (.str a) (.int b)
 |rr (a b xs ys):aa a=some (.list xs)->aa b=some (.list ys)->(xs.length≠ys.length/\Q false)∨(lV (gG aa 7) xs ys/\Q true)->GS aa Q (.ref a) (.ref b)
 |tt (xs ys):lV (gG aa 7) xs ys->Q true->GS aa Q (.tup xs) (.tup ys)
theorem BE {aa:ag}{R:V->V->Prop}{a b:Addr}{xs ys:List V}(ea:aa a=some (.list xs))(eb:aa b=some (.list ys)):Jf aa R (.ref a) (.ref b)=lV R xs ys:=by
 show CL (aa a) (λxs=>CL (aa b) λys=>lV R xs ys)=_
 rw[ea,eb];rfl
theorem Ew {aa:ag}{v w:V}{Q:Bool->Prop}(h:Gy aa v w Q):GS aa Q v w:=by
 cases v with
 |int a=>rcases fR h with⟨b,rfl,h⟩|⟨b,rfl,h⟩;exact .ii a b h;exact .is a b h
 |str a=>rcases fR h with⟨b,rfl,h⟩|⟨b,rfl,h⟩;exact .si a b h;exact .ss a b h
 |ref a=>
  obtain⟨xs,ea,h⟩:=kW h
  obtain⟨b,ys,rfl,eb,h⟩:=fx h
  exact .rr a b xs ys ea eb (h.imp id λz=>⟨(BE ea eb).mp z.1,z.2⟩)
 |tup xs=>obtain⟨ys,rfl,h1,h2⟩:=ya h;exact .tt xs ys h1 h2
 |_=>exact h.elim
theorem wg {aa:ag}{v w:V}{P P':Bool->Prop}(hp:∀t,P t->P' t)(h:Gy aa v w P):Gy aa v w P':=by
 cases v with
 |int a=>rcases fR h with⟨b,rfl,h⟩|⟨b,rfl,h⟩<;>exact hp _ h
 |str a=>rcases fR h with⟨b,rfl,h⟩|⟨b,rfl,h⟩<;>exact hp _ h
 |ref a=>
  obtain⟨xs,ea,h⟩:=kW h
  obtain⟨b,ys,rfl,eb,h⟩:=fx h
  refine cQ ea ?_
  refine D4 eb ?_
  exact h.imp (λz=>⟨z.1,hp _ z.2⟩) λz=>⟨z.1,hp _ z.2⟩
 |tup xs=>obtain⟨ys,rfl,h1,h2⟩:=ya h;exact⟨h1,hp _ h2⟩
 |_=>exact h.elim
noncomputable def ig:V->Bool
 |.str _=>true
 |_=>false
noncomputable def dZ (c:List Nat):List V->Bool
 |[]=>false
 |v::r=>(match v with|.str d=>decide (d=c)|_=>false)||dZ c r
noncomputable def Xq (c:List Nat)(w:V)(Q:Bool->Prop):Prop:=match w with
 |.str l=>(match c with|[x]=>Q (decide (x∈l))|_=>False)
 |.tup ws=>ws.all ig=true/\Q (dZ c ws)
 |_=>False
noncomputable def Ni (v w:V)(Q:Bool->Prop):Prop:=Kb v λc=>Xq c w Q
inductive N5 (Q:Bool->Prop):V->V->Prop
 |s (x l):Q (decide (x∈l))->N5 Q (.str [x]) (.str l)
 |t (c ws):ws.all ig=true->Q (dZ c ws)->N5 Q (.str c) (.tup ws)
theorem ym {v w:V}{Q:Bool->Prop}(h:Ni v w Q):N5 Q v w:=by
 obtain⟨c,rfl,h⟩:=kU h
 cases w with
 |str l=>match c,h with
  |[x],h=>exact .s x l h
  |[],h=>exact h.elim
  |_::_::_,h=>exact h.elim
 |tup ws=>exact .t c ws h.1 h.2
 |_=>exact h.elim
noncomputable def OZ (v:V)(Q:Bool->Prop):Prop:=match v with
 |.none=>Q true
 |_=>Q false
noncomputable def IV (v w:V)(Q:Bool->Prop):Prop:=match w with
 |.none=>OZ v Q
 |_=>False
theorem Ef {v w:V}{Q:Bool->Prop}(h:IV v w Q):w=.none/\OZ v Q:=by
 cases w with
 |none=>exact⟨rfl,h⟩
 |_=>exact h.elim
noncomputable def kM (op:iP)(aa:ag)(v w:V)(Q:Bool->Prop):Prop:=match op with
 |.lt=>gy v w λa b=>Q (decide (a<b))
 |.le=>gy v w λa b=>Q (decide (a<=b))
 |.gt=>gy v w λa b=>Q (decide (b<a))
 |.ge=>gy v w λa b=>Q (decide (b<=a))
 |.eq=>Gy aa v w Q
 |.ne=>Gy aa v w λb=>Q (!b)
 |.is=>IV v w Q
 |.nT=>IV v w λb=>Q (!b)
 |.isin=>Ni v w Q
 |.dw=>Ni v w λb=>Q (!b)
section
variable {G:GC}{F:FC}{af:Nat}{σ:St}{s:Shared}{D:Led}{A:Around}{E:Value->Shared->Prop}{X:Ex->St->Prop}{Q:V->St->Prop}
theorem Gl (S:Sat G F σ s D){b:Bool}(q:Q (.bool b) σ):j4 G F (aE G) Q D (.bool b) s:=⟨_,σ,D,S,.refl,.bool b,q⟩
theorem str_inj {a b:List Nat}:((⟨a.toArray⟩:Str)==⟨b.toArray⟩)=decide (a=b):=by
 rw[Bool.eq_iff_iff,beq_iff_eq,decide_eq_true_eq]
 constructor
 ·intro h
  have:=congrArg (λs:Str=>s.cps.toList) h
  simpa using this
 ·intro h;rw[h]
theorem aY.at_ {C:Frag}{D:Led}{l:List V}{a:Array Value}(h:aY C D l a.toList)(e:l.length=a.size)(p:Nat)(q:p<a.size):∃v,l[p]?=some v/\br C D v a[p]:=by
 have l1:p<l.length:=by exact a30 0x190106e198202c8103 tt e q
 obtain⟨y,e1,i⟩:=h.get (List.getElem?_eq_getElem l1)
 rw[Array.getElem?_toList,Array.getElem?_eq_getElem q] at e1
 cases e1
 exact⟨_,List.getElem?_eq_getElem l1,i⟩
theorem aY.size {C:Frag}{D:Led}{l:List V}{a:Array Value}(h:aY C D l a.toList):l.length=a.size:=by
 rw[←h.length,Array.length_toList]
theorem jF (n:Nat):((List.range n).all λ_=>true)=true:=by simp
theorem gR (S:Sat G F σ s D){n:Nat}{xs ys:List V}(he:lV (gG σ.aa n) xs ys){A:Around}
  (key:∀(v w:V) (c d:Value),gG σ.aa n v w->br G.C D v c->br G.C D w d->EqAt A s c d true)
  {zY oG:Array Value} (k4:aY G.C D xs zY.toList) (u2:aY G.C D ys oG.toList):zY.size=oG.size/\∀p (q1:p<zY.size) (q2:p<oG.size),EqAt A s zY[p] oG[p] true:=by
 refine⟨by rw[←k4.size,←u2.size];exact he.1,λp q1 q2=>?_⟩
 obtain⟨x,ex,ix⟩:=k4.at_ k4.size p q1
 obtain⟨y,ey,iy⟩:=u2.at_ u2.size p q2
 exact key _ _ _ _ (he.2 p x y ex ey) ix iy
theorem vQ (ok:bK G F)(S:Sat G F σ s D):∀(n:Nat)(A:Around)(v w:V)(c d:Value),A.units+n<cLine->gG σ.aa n v w->br G.C D v c->br G.C D w d->EqAt A s c d true:=by
 intro n
 induction n with
 |zero=>intro A v w c d hu h;exact h.elim
 |succ n ih=>
  intro A v w c d hu h i j
  have ih:=λv w c d=>ih A.in1 v w c d (by show A.units+1+n<_;exact a20 0x644f65a84b412d2a05913d96a12d5a54101 tt hu)
  cases v with
  |none=>cases(show w=.none from h);cases jI i;cases jI j;exact .same _
  |bool a=>cases(show w=.bool a from h);cases iq i;cases iq j;exact .same _
  |int a=>
   cases(show w=.int a from h)
   obtain⟨u,rfl⟩:=int_is i
   obtain⟨u',rfl⟩:=int_is j
   have:=EqAt.int_int (A:=A) (s:=s) a u a u'
   rwa [beq_self_eq_true] at this
  |str a=>
   cases(show w=.str a from h)
   obtain⟨u,rfl⟩:=str_is i
   obtain⟨u',rfl⟩:=str_is j
   have:=(eqGives_str ⟨a.toArray⟩ ⟨a.toArray⟩ u u').at A s
   rwa [beq_self_eq_true] at this
  |tup xs=>
   obtain⟨ys,rfl,h⟩:=ya h
   obtain⟨ta,_,zY,_,rfl,k1,k2,k3,k4,_⟩:=tup_is i
   obtain⟨tb,_,oG,_,rfl,NJ,NI,NH,u2,_⟩:=tup_is j
   by_cases Gw:ta=tb
   ·subst Gw;exact .same _
   ·obtain⟨sz,he⟩:=gR S h ih k4 u2
    have:=RcAt.tuples (A:=A) (s:=s) (e:=λ_=>true) (dG ok S k1 k2 k3) (dG ok S NJ NI NH) (by exact a20 0x644f65a8405913d96a12d5a54101 tt hu) he
    rw[jF,sz,beq_self_eq_true] at this
    exact EqAt.of_refs Gw this
  |ref a=>
   obtain⟨xs,ea,h⟩:=kW h
   obtain⟨b,ys,rfl,eb,h⟩:=fx h
   obtain rfl:=bH i
   obtain rfl:=bH j
   by_cases Gw:a=b
   ·subst Gw;exact .same _
   ·obtain⟨zY,tn,m1,k4,_⟩:=S.aa _ _ ea
    obtain⟨oG,Nx,m2,u2,_⟩:=S.aa _ _ eb
    obtain⟨sz,he⟩:=gR S h ih k4 u2
    have:=RcAt.lists (A:=A) (s:=s) (e:=λ_=>true) ⟨_,(S.news _ m1).1,rfl,tn,rfl⟩ ⟨_,(S.news _ m2).1,rfl,Nx,rfl⟩ sz (by exact a20 0x644f65a8405913d96a12d5a54101 tt hu) he
    rw[jF] at this
    exact EqAt.of_refs Gw this
  |ty _=>exact h.elim
end
end
section
open PySem.SeqAt
section
variable {G:GC}{F:FC}{af:Nat}{σ:St}{s:Shared}{D:Led}{A:Around}{E:Value->Shared->Prop}{X:Ex->St->Prop}{Q:V->St->Prop}
theorem Ii (ok:bK G F)(S:Sat G F σ s D)(hu:A.units+20<cLine){v w:V}{c d:Value}(i:br G.C D v c)(j:br G.C D w d){P:Bool->Prop}{Q':Value->Shared->Prop}(h:GS σ.aa P v w)(q:∀b,P b->Q' (.bool b) s):
  wpAny (bT G) A (compareOp .Eq c d) Q' E s:=by
 have ih:=λv w c d=>vQ ok S 7 A.in1 v w c d (by show A.units+1+7<_;exact a10 0x1913d96a12d36b4a81644f65a84b5401 tt hu)
 cases h with
 |ii a b h=>obtain⟨_,rfl⟩:=int_is i;obtain⟨_,rfl⟩:=int_is j;exact eq_int (q _ h)
 |ss a b h=>obtain⟨_,rfl⟩:=str_is i;obtain⟨_,rfl⟩:=str_is j;exact eq_str (by rw[str_inj];exact q _ h)
 |is a b h=>obtain⟨_,rfl⟩:=int_is i;obtain⟨_,rfl⟩:=str_is j;exact EqMixed.eq_int_str (q _ h)
 |si a b h=>obtain⟨_,rfl⟩:=str_is i;obtain⟨_,rfl⟩:=int_is j;exact EqMixed.eq_str_int (q _ h)
 |rr a b xs ys ea eb h=>
  obtain rfl:=bH i
  obtain rfl:=bH j
  obtain⟨zY,tn,m1,k4,_⟩:=S.aa _ _ ea
  obtain⟨oG,Nx,m2,u2,_⟩:=S.aa _ _ eb
  have h1:s.heap.IsList a zY:=⟨_,(S.news _ m1).1,rfl,tn,rfl⟩
  have h2:s.heap.IsList b oG:=⟨_,(S.news _ m2).1,rfl,Nx,rfl⟩
  rcases h with⟨dT,h⟩|⟨hs,h⟩
  ·exact eq_list_lengthsAt h1 h2 (by rw[←k4.size,←u2.size];exact bne_iff_ne.mpr dT) (by exact a10 0x1913d96a101644f65a84b5401 tt hu) (q _ h)
  ·obtain⟨sz,he⟩:=gR S hs ih k4 u2
   exact eq_listAt (e:=λ_=>true) h1 h2 sz (by exact a10 0x1913d96a101644f65a84b5401 tt hu) he (by rw[jF];exact q _ h)
 |tt xs ys hs h=>
  obtain⟨ta,_,zY,_,rfl,k1,k2,k3,k4,_⟩:=tup_is i
  obtain⟨tb,_,oG,_,rfl,NJ,NI,NH,u2,_⟩:=tup_is j
  obtain⟨sz,he⟩:=gR S hs ih k4 u2
  exact eq_tupleAt (e:=λ_=>true) (dG ok S k1 k2 k3) (dG ok S NJ NI NH) (by exact a10 0x1913d96a101644f65a84b5401 tt hu) he (by rw[jF,sz,beq_self_eq_true];exact q _ h)
theorem HM (ok:bK G F)(S:Sat G F σ s D)(hu:A.units+20<cLine){v w:V}{c d:Value}(i:br G.C D v c)(j:br G.C D w d){P:Bool->Prop}{Q':Value->Shared->Prop}(h:GS σ.aa P v w)(q:∀b,P b->Q' (.bool (!b)) s):
  wpAny (bT G) A (compareOp .NotEq c d) Q' E s:=by
 have ih:=λv w c d=>vQ ok S 7 A.in1 v w c d (by show A.units+1+7<_;exact a10 0x1913d96a12d36b4a81644f65a84b5401 tt hu)
 cases h with
 |ii a b h=>obtain⟨_,rfl⟩:=int_is i;obtain⟨_,rfl⟩:=int_is j;exact ne_int (q _ h)
 |ss a b h=>obtain⟨_,rfl⟩:=str_is i;obtain⟨_,rfl⟩:=str_is j;exact ne_str (by rw[show((⟨a.toArray⟩:Str) !=⟨b.toArray⟩)=!((⟨a.toArray⟩:Str)==⟨b.toArray⟩) from rfl,str_inj];exact q _ h)
 |is a b h=>obtain⟨_,rfl⟩:=int_is i;obtain⟨_,rfl⟩:=str_is j;exact EqMixed.ne_int_str (q _ h)
 |si a b h=>obtain⟨_,rfl⟩:=str_is i;obtain⟨_,rfl⟩:=int_is j;exact EqMixed.ne_str_int (q _ h)
 |rr a b xs ys ea eb h=>
  obtain rfl:=bH i
  obtain rfl:=bH j
  obtain⟨zY,tn,m1,k4,_⟩:=S.aa _ _ ea
  obtain⟨oG,Nx,m2,u2,_⟩:=S.aa _ _ eb
  have h1:s.heap.IsList a zY:=⟨_,(S.news _ m1).1,rfl,tn,rfl⟩
  have h2:s.heap.IsList b oG:=⟨_,(S.news _ m2).1,rfl,Nx,rfl⟩
  rcases h with⟨dT,h⟩|⟨hs,h⟩
  ·exact RcNeAt.lists_lengths h1 h2 (by rw[←k4.size,←u2.size];exact bne_iff_ne.mpr dT) (by exact a10 0x1913d96a101644f65a84b5401 tt hu) _ _ _ _ (q _ h)
  ·obtain⟨sz,he⟩:=gR S hs ih k4 u2
   exact RcNeAt.lists (e:=λ_=>true) h1 h2 sz (by exact a10 0x1913d96a101644f65a84b5401 tt hu) he _ _ _ _ (by rw[jF];exact q _ h)
 |tt xs ys hs h=>
  obtain⟨ta,_,zY,_,rfl,k1,k2,k3,k4,_⟩:=tup_is i
  obtain⟨tb,_,oG,_,rfl,NJ,NI,NH,u2,_⟩:=tup_is j
  obtain⟨sz,he⟩:=gR S hs ih k4 u2
  exact RcNeAt.tuples (e:=λ_=>true) (dG ok S k1 k2 k3) (dG ok S NJ NI NH) (by exact a10 0x1913d96a101644f65a84b5401 tt hu) he _ _ _ _ (by rw[jF,sz,beq_self_eq_true];exact q _ h)
theorem B5 {w:V}(h:ig w=true):∃l,w=.str l:=by
 cases w with
 |str l=>exact⟨l,rfl⟩
 |_=>exact nomatch h
theorem As {ws:List V}{cs:List Value}(h:ws.all ig=true)(i:aY G.C D ws cs):∃ys:List (List Nat),StrsAre cs (ys.map λl=>(⟨l.toArray⟩:Str))/\∀c,dZ c ws=ys.any λd=>decide (d=c):=by
 induction ws generalizing cs with
 |nil=>cases i.fy;exact⟨[],.nil,λ_=>rfl⟩
 |cons w r ih=>
  rw[List.all_cons,Bool.and_eq_true] at h
  obtain⟨c,t,rfl,i,is⟩:=i.dc
  obtain⟨ys,h1,h2⟩:=ih h.2 is
  obtain⟨l,rfl⟩:=B5 h.1
  obtain⟨u,rfl⟩:=str_is i
  exact⟨l::ys,.cons _ _ h1,λc=>by rw[List.any_cons,←h2];rfl⟩
theorem A4 {cc:List Nat}{ws:List V}{ys:List (List Nat)}(h2:∀c,dZ c ws=ys.any λd=>decide (d=c)):(ys.map λl=>(⟨l.toArray⟩:Str)).any (·==⟨cc.toArray⟩)=dZ cc ws:=by
 rw[h2,List.any_map]
 congr 1
 funext d
 exact str_inj
theorem qB (l:List Nat)(x:Nat):(!(Builtin.Str.occurrences (⟨l.toArray⟩:Str) ⟨#[x]⟩ 0 (⟨l.toArray⟩:Str).length 1).isEmpty)=decide (x∈l):=StrLaws.found_one ⟨l.toArray⟩ x
theorem H5 (ok:bK G F)(S:Sat G F σ s D){v w:V}{c d:Value}(i:br G.C D v c)(j:br G.C D w d){P:Bool->Prop}{Q':Value->Shared->Prop}(h:N5 P v w)(q:∀b,P b->Q' (.bool b) s):
  wpAny (bT G) A (compareOp .In c d) Q' E s:=by
 cases h with
 |s x l h=>
  obtain⟨_,rfl⟩:=str_is i
  obtain⟨_,rfl⟩:=str_is j
  refine in_str ?_
  rw[show(⟨[x].toArray⟩:Str)=⟨#[x]⟩ from rfl,qB]
  exact q _ h
 |t cc ws ha h=>
  obtain⟨_,rfl⟩:=str_is i
  obtain⟨_,_,_,_,rfl,k1,k2,k3,k4,_⟩:=tup_is j
  obtain⟨ys,h1,h2⟩:=As ha k4
  exact in_tuple_strs (dG ok S k1 k2 k3) h1 (by rw[A4 h2];exact q _ h)
theorem zb (ok:bK G F)(S:Sat G F σ s D){v w:V}{c d:Value}(i:br G.C D v c)(j:br G.C D w d){P:Bool->Prop}{Q':Value->Shared->Prop}(h:N5 P v w)(q:∀b,P b->Q' (.bool (!b)) s):
  wpAny (bT G) A (compareOp .NotIn c d) Q' E s:=by
 cases h with
 |s x l h=>
  obtain⟨_,rfl⟩:=str_is i
  obtain⟨_,rfl⟩:=str_is j
  refine notIn_str ?_
  rw[show(⟨[x].toArray⟩:Str)=⟨#[x]⟩ from rfl,qB]
  exact q _ h
 |t cc ws ha h=>
  obtain⟨_,rfl⟩:=str_is i
  obtain⟨_,_,_,_,rfl,k1,k2,k3,k4,_⟩:=tup_is j
  obtain⟨ys,h1,h2⟩:=As ha k4
  exact notin_tuple_strs (dG ok S k1 k2 k3) h1 (by rw[A4 h2];exact q _ h)
theorem AL {v w:V}{c d:Value}(i:br G.C D v c)(j:br G.C D w d){P:Bool->Prop}(h:IV v w P):d=.none/\P (c==.none):=by
 obtain⟨rfl,h⟩:=Ef h
 refine⟨jI j,?_⟩
 cases i<;>exact h
theorem d9 {v w:V}{c d:Value}(i:br G.C D v c)(j:br G.C D w d){f:Int->Int->Prop}(h:gy v w f):∃a b u u',c=.int a u/\d=.int b u'/\f a b:=by
 obtain⟨a,b,rfl,rfl,h⟩:=jH h
 obtain⟨u,rfl⟩:=int_is i
 obtain⟨u',rfl⟩:=int_is j
 exact⟨a,b,u,u',rfl,rfl,h⟩
theorem fj (ok:bK G F)(hl:1<=af)(op:iP){v w:V}(h:kM op σ.aa v w λb=>Q (.bool b) σ):z7 G F af (compareOp op.op) v w σ Q X:=λA s D c d hA S i j=>by
 have hu:A.units+20<cLine:=by have:=hA.units;omega
 cases op with
 |eq=>exact Ii (P:=λb=>Q (.bool b) σ) ok S hu i j (Ew (show Gy _ _ _ _ from h)) λb hb=>Gl S hb
 |ne=>exact HM (P:=λb=>Q (.bool (!b)) σ) ok S hu i j (Ew (show Gy _ _ _ _ from h)) λb hb=>Gl S hb
 |is=>obtain⟨rfl,hq⟩:=AL (P:=λb=>Q (.bool b) σ) i j h;exact is_none_gen (Gl S hq)
 |nT=>obtain⟨rfl,hq⟩:=AL (P:=λb=>Q (.bool (!b)) σ) i j h;exact isnot_none_gen (Gl S hq)
 |isin=>exact H5 (P:=λb=>Q (.bool b) σ) ok S i j (ym h) λb hb=>Gl S hb
 |dw=>exact zb (P:=λb=>Q (.bool (!b)) σ) ok S i j (ym h) λb hb=>Gl S hb
 |lt=>obtain⟨a,b,_,_,rfl,rfl,h⟩:=d9 i j h;exact lt_int (Gl S h)
 |le=>obtain⟨a,b,_,_,rfl,rfl,h⟩:=d9 i j h;exact le_int (Gl S h)
 |gt=>obtain⟨a,b,_,_,rfl,rfl,h⟩:=d9 i j h;exact gt_int (Gl S h)
 |ge=>obtain⟨a,b,_,_,rfl,rfl,h⟩:=d9 i j h;exact ge_int (Gl S h)
end
end
noncomputable def KW (v:V)(Q:V->Prop):Prop:=xA v λa=>Q (.int (-a))
noncomputable def z8 (v:V)(Q:Bool->Prop):Prop:=match v with
 |.bool b=>Q b
 |.str l=>l.length<=1000000/\Q (decide (l≠[]))
 |_=>False
noncomputable def xS (op:jY)(v w:V)(Q:V->Prop):Prop:=match op with
 |.add=>Bc v (λa=>xA w λb=>Q (.int (a+b))) λa=>Kb w λb=>a.length+b.length<=1000000/\Q (.str (a++b))
 |.sub=>gy v w λa b=>Q (.int (a-b))
 |.fdiv=>gy v w λa b=>(0<b/\b<2^9000)/\Q (.int (a/b))
 |_=>False
section
variable {G:GC}{F:FC}{af:Nat}{σ:St}{s:Shared}{D:Led}{A:Around}{E:Value->Shared->Prop}{X:Ex->St->Prop}{Q:V->St->Prop}
theorem BQ {v:V}(h:KW v λu=>Q u σ):WG G F af (unaryOp .USub) v σ Q X:=λA s D c hA S i=>by
 obtain⟨a,rfl,h⟩:=dH h
 obtain⟨u,rfl⟩:=int_is i
 exact neg_int (iX S (.int _ _) rfl rfl rfl h)
theorem vM (S:Sat G F σ s D){v:V}{c:Value}(i:br G.C D v c){P:Bool->Prop}{Q':Bool->Shared->Prop}(h:z8 v P)(q:∀b s',Sat G F σ s' D->P b->Q' b s'):wpAny (bT G) A (truthy c) Q' E s:=by
 cases v with
 |bool b=>cases iq i;exact wpAny_truthy_bool (q _ _ S h)
 |str l=>
  obtain⟨u,rfl⟩:=str_is i
  obtain⟨h1,h2⟩:=h
  refine PySem.P.truthy_str (by show ¬((l.toArray.size:Nat):Int)≥_;rw[o4];omega) ?_
  have e:((((⟨l.toArray⟩:Str).length:Nat):Int) !=0)=decide (l≠[]):=by
   show(((l.toArray.size:Nat):Int) !=0)=_
   rw[o4]
   cases l with
   |nil=>simp
   |cons a r=>simp;omega
  rw[e]
  exact q _ _ (S.same rfl rfl rfl) h2
 |_=>exact h.elim
theorem Bo {v:V}{Q:Bool->St->Prop}(h:z8 v λb=>Q b σ):WC G F af v σ Q X:=λA s D c hA S i=>
 vM S i h λb s' S' hb=>⟨b,σ,D,S',.refl,rfl,hb⟩
theorem nL (op:jY){v w:V}(h:xS op v w λu=>Q u σ):z7 G F af (inplaceOp op.op) v w σ Q X:=λA s D c d hA S i j=>by
 cases op with
 |add=>
  rcases fR h with⟨a,rfl,h⟩|⟨a,rfl,h⟩
  ·obtain⟨b,rfl,h⟩:=dH h
   obtain⟨_,rfl⟩:=int_is i
   obtain⟨_,rfl⟩:=int_is j
   exact iadd_int (iX S (.int _ _) rfl rfl rfl h)
  ·obtain⟨b,rfl,h1,h2⟩:=kU h
   obtain⟨_,rfl⟩:=str_is i
   obtain⟨_,rfl⟩:=str_is j
   refine iadd_str (λt' tk=>?_) (by show a.toArray.size+b.toArray.size<=_;rw[o4,o4,sizeLine_eq];exact a20 0xc49c081020415a080b127024f486b4101 tt h1)
   rw[Au]
   exact iX S (.str _ _) rfl rfl rfl h2
 |sub=>
  obtain⟨a,b,_,_,rfl,rfl,h⟩:=d9 i j h
  exact isub_int (iX S (.int _ _) rfl rfl rfl h)
 |fdiv=>
  obtain⟨a,b,_,_,rfl,rfl,⟨h1,h2⟩,h3⟩:=d9 i j h
  refine ifloordiv_int (by omega) (iX S (.int _ _) rfl rfl rfl ?_) (.inl (nC h1 h2))
  rw[Int.fdiv_eq_ediv_of_nonneg _ (by exact a01 0x1a0d28d4694 tt h1)];exact h3
 |_=>exact h.elim
theorem HF {env:Env}{x y:Expr}{pos:Pos}(h:J G F af (aE G) (eval x env) σ (λv ae=>z8 v λb=>if b then Q v ae else J G F af (aE G) (eval y env) ae Q X) X):
  J G F af (aE G) (eval (.BoolOp .Or [x,y] pos) env) σ Q X:=λA s D hA S=>
 wpAny_Or2 (h.go hA S λv c ae ak aI az aB aJ au=>vM az aJ au λb aT aG hb=>by
  cases b with
  |true=>exact⟨v,ae,aI,aG,aB,aJ,hb⟩
  |false=>exact J.last hb hA aG aB)
theorem AH {p q:CmpOp}{b c:Expr}{env:Env}(h2:behindInMarks q c=false):markedEach [p,q] [b,c] (evalEach [b,c] env)=[eval b env,eval c env]:=by
 show[eval b env,markedBehindIn q c (eval c env)]=_
 unfold markedBehindIn
 rw[h2]
theorem vZ {v w:V}{P P':Bool->Prop}(hp:∀t,P t->P' t)(h:Ni v w P):Ni v w P':=by
 cases ym h with
 |s x l q=>exact hp _ q
 |t c ws h1 q=>exact⟨h1,hp _ q⟩
theorem vY {v w:V}{P P':Bool->Prop}(hp:∀t,P t->P' t)(h:IV v w P):IV v w P':=by
 obtain⟨rfl,h⟩:=Ef h
 cases v<;>exact hp _ h
theorem fk {op:iP}{aa:ag}{v w:V}(P P':Bool->Prop)(hp:∀t,P t->P' t)(h:kM op aa v w P):kM op aa v w P':=by
 cases op with
 |eq=>exact wg hp h
 |ne=>exact wg (P:=λb=>P (!b)) (P':=λb=>P' (!b)) (λt=>hp _) h
 |is=>exact vY hp h
 |nT=>exact vY (P:=λb=>P (!b)) (P':=λb=>P' (!b)) (λt=>hp _) h
 |isin=>exact vZ hp h
 |dw=>exact vZ (P:=λb=>P (!b)) (P':=λb=>P' (!b)) (λt=>hp _) h
 |_=>obtain⟨a,b,rfl,rfl,h⟩:=jH h;exact hp _ h
theorem zE (ok:bK G F)(hl:1<=af){env:Env}{a b c:Expr}{p q:iP}{pos:Pos}(h2:behindInMarks q.op c=false)
  (h:J G F af (aE G) (eval a env) σ (λu ae=>J G F af (aE G) (eval b env) ae (λv ar=>kM p ar.aa u v λt=>if t then J G F af (aE G) (eval c env) ar (λw bJ=>kM q bJ.aa v w λt'=>Q (.bool t') bJ) X else Q (.bool false) ar) X) X):
  J G F af (aE G) (eval (.Compare a [p.op,q.op] [b,c] pos) env) σ Q X:=λA s D hA S=>by
 rw[arm_eval_Compare,AH h2]
 refine aW (h.go hA S λu cu ae ak aI az aB aJ au=>?_)
 refine chain_link (au.r5 hA az aB λv cv ar aT bb aG aU bL aS=>?_)
 have d8:=aB.trans aU
 refine dU (fj (Q:=λw cn=>∃t,w=.bool t/\cn=ar/\(if t then J G F af (aE G) (eval c env) ar (λw bJ=>kM q bJ.aa v w λt'=>Q (.bool t') bJ) X else Q (.bool false) ar)) (X:=X) ok hl p (?_) A aT bb cu cv hA aG (br.keep aJ aU) bL) (λr bQ z=>?_) λ_ _ z=>z.keep d8
 ·have mono:∀(P P':Bool->Prop),(∀t,P t->P' t)->kM p ar.aa u v P->kM p ar.aa u v P':=fk
  exact mono _ _ (λt ht=>⟨t,rfl,rfl,ht⟩) aS
 ·obtain⟨w,bJ,cU,cF,bO,hJ,t,rfl,rfl,ht⟩:=z
  have hJ:br G.C cU (.bool t) r:=hJ
  cases hJ
  refine wpAny_truthy_bool ?_
  cases t with
  |false=>exact⟨_,_,cU,cF,d8.trans bO,.bool _,ht⟩
  |true=>
   rw[aL rfl]
   refine chain_last (J.r5 ht hA cF (d8.trans bO) λw cw j5 cY kQ gD eI pK lJ=>?_)
   refine dU (fj (Q:=Q) (X:=X) ok hl q lJ A cY kQ cv cw hA gD ((br.keep bL bO).keep eI) pK) (λ_ _ z=>z.keep ((d8.trans bO).trans eI)) λ_ _ z=>z.keep ((d8.trans bO).trans eI)
theorem wB (ok:bK G F)(hl:1<=af){env:Env}{a b c:Expr}{p q:iP}{pos:Pos}{whole:Sem Value}{Q:Bool->St->Prop}(h2:behindInMarks q.op c=false)
  (h:J G F af (aE G) (eval a env) σ (λu ae=>J G F af (aE G) (eval b env) ae (λv ar=>kM p ar.aa u v λt=>if t then J G F af (aE G) (eval c env) ar (λw bJ=>kM q bJ.aa v w λt'=>Q t' bJ) X else Q false ar) X) X):
  J G F af c8 (isTrue (.Compare a [p.op,q.op] [b,c] pos) env whole) σ Q X:=λA s D hA S=>by
 rw[arm_isTrue_Compare,AH h2]
 refine aW (h.go hA S λu cu ae ak aI az aB aJ au=>?_)
 refine test_link (au.r5 hA az aB λv cv ar aT bb aG aU bL aS=>?_)
 have d8:=aB.trans aU
 refine dU (fj (Q:=λw cn=>∃t,w=.bool t/\cn=ar/\(if t then J G F af (aE G) (eval c env) ar (λw bJ=>kM q bJ.aa v w λt'=>Q t' bJ) X else Q false ar)) (X:=X) ok hl p (?_) A aT bb cu cv hA aG (br.keep aJ aU) bL) (λr bQ z=>?_) λ_ _ z=>z.keep d8
 ·exact fk _ _ (λt ht=>⟨t,rfl,rfl,ht⟩) aS
 ·obtain⟨w,bJ,cU,cF,bO,hJ,t,rfl,rfl,ht⟩:=z
  have hJ:br G.C cU (.bool t) r:=hJ
  cases hJ
  refine wpAny_truthy_bool ?_
  cases t with
  |false=>exact⟨_,_,cU,cF,d8.trans bO,rfl,ht⟩
  |true=>
   rw[aL rfl]
   refine test_last (J.r5 ht hA cF (d8.trans bO) λw cw j5 cY kQ gD eI pK lJ=>?_)
   refine dU (fj (Q:=λw cn=>∃t,w=.bool t/\Q t cn) (X:=X) ok hl q (fk _ _ (λt ht=>⟨t,rfl,ht⟩) lJ) A cY kQ cv cw hA gD ((br.keep bL bO).keep eI) pK) (λr' Ba z=>?_) λ_ _ z=>z.keep ((d8.trans bO).trans eI)
   obtain⟨w',PM,Hi,xU,pO,C4,t',rfl,SQ⟩:=z
   have C4:br G.C Hi (.bool t') r':=C4
   cases C4
   exact wpAny_truthy_bool ⟨_,_,Hi,xU,((d8.trans bO).trans eI).trans pO,rfl,SQ⟩
end
inductive Bi where|abs|len|int|str|divmod|min|max|dJ
 deriving DecidableEq
noncomputable def Bi.val:Bi->Value
 |.abs=>.builtin "abs"|.len=>.builtin "len"|.int=>.type "int"|.str=>.type "str"|.divmod=>.builtin "divmod"|.min=>.builtin "min"|.max=>.builtin "max"|.dJ=>.builtin "isinstance"
noncomputable def Bi.id:Bi->Str
 |.abs=>"abs"|.len=>"len"|.int=>"int"|.str=>"str"|.divmod=>"divmod"|.min=>"min"|.max=>"max"|.dJ=>"isinstance"
noncomputable def bp (a:Int):List Nat:=((toString a:String):Str).cps.toList
noncomputable def K5 (v:V)(n:String)(Q:Bool->Prop):Prop:=
 if n="int" then(match v with
  |.none=>Q false|.bool _=>Q true|.int _=>Q true|.str _=>Q false|.tup _=>Q false|_=>False)
 else if n="bool" then(match v with
  |.int _=>Q false|.bool _=>Q true|_=>False)
 else False
noncomputable def xT (vs:List V)(f:V->Prop):Prop:=match vs with
 |[]=>False
 |v::r=>(match r with
  |[]=>f v
  |_::_=>False)
noncomputable def Dc (vs:List V)(f:V->V->Prop):Prop:=match vs with
 |[]=>False
 |v::r=>xT r (f v)
noncomputable def DO (vs:List V)(f:V->Prop)(g:V->V->Prop):Prop:=match vs with
 |[]=>False
 |v::r=>(match r with
  |[]=>f v
  |w::r=>(match r with
   |[]=>g v w
   |_::_=>False))
theorem jO {vs:List V}{f:V->Prop}(h:xT vs f):∃v,vs=[v]/\f v:=by
 cases vs with
 |nil=>exact h.elim
 |cons v r=>cases r with
  |nil=>exact⟨v,rfl,h⟩
  |cons _ _=>exact h.elim
theorem pC {vs:List V}{f:V->V->Prop}(h:Dc vs f):∃v w,vs=[v,w]/\f v w:=by
 cases vs with
 |nil=>exact h.elim
 |cons v r=>obtain⟨w,rfl,h⟩:=jO h;exact⟨v,w,rfl,h⟩
theorem wx {vs:List V}{f:V->Prop}{g:V->V->Prop}(h:DO vs f g):(∃v,vs=[v]/\f v)∨∃v w,vs=[v,w]/\g v w:=by
 cases vs with
 |nil=>exact h.elim
 |cons v r=>cases r with
  |nil=>exact .inl ⟨v,rfl,h⟩
  |cons w r=>cases r with
   |nil=>exact .inr ⟨v,w,rfl,h⟩
   |cons _ _=>exact h.elim
noncomputable def OU (aa:ag)(v:V)(Q:V->Prop):Prop:=match v with
 |.str l=>l.length<=1000000000/\Q (.int l.length)
 |.tup l=>l.length<=1000000000/\Q (.int l.length)
 |.ref a=>CL (aa a) λl=>Q (.int l.length)
 |_=>False
noncomputable def Ug (v:V)(Q:V->Prop):Prop:=match v with
 |.bool b=>Q (.int (if b then 1 else 0))
 |.str l=>l.length<=640/\∃n,PySem.intText? ⟨l.toArray⟩=some n/\Q (.int n)
 |_=>False
noncomputable def OI (v:V)(f:String->Prop):Prop:=match v with
 |.ty n=>f n
 |_=>False
theorem HH {v:V}{f:String->Prop}(h:OI v f):∃a,v=.ty a/\f a:=by
 cases v with
 |ty a=>exact⟨a,rfl,h⟩
 |_=>exact h.elim
noncomputable def N4 (b:Bi)(vs:List V)(aa:ag)(Q:V->Prop):Prop:=match b with
 |.abs=>xT vs λv=>xA v λa=>Q (.int (if a<0 then -a else a))
 |.len=>xT vs λv=>OU aa v Q
 |.int=>xT vs λv=>Ug v Q
 |.str=>xT vs λv=>xA v λa=>a.natAbs<2^1920/\Q (.str (bp a))
 |.divmod=>Dc vs λv w=>gy v w λa b=>(0<b/\b<2^9000)/\Q (.tup [.int (a/b),.int (a%b)])
 |.min=>DO vs (λv=>CE aa v λ_ l=>∃ns:List Int,l=ns.map .int/\ns≠[]/\∀M,M∈ns->(∀x∈ns,M<=x)->Q (.int M)) λv w=>gy v w λa b=>Q (.int (if b<a then b else a))
 |.max=>Dc vs λv w=>gy v w λa b=>Q (.int (if b>a then b else a))
 |.dJ=>Dc vs λv w=>OI w λn=>K5 v n λb=>Q (.bool b)
section
variable {G:GC}{F:FC}{af:Nat}{σ:St}{s:Shared}{D:Led}{A:Around}{E:Value->Shared->Prop}{X:Ex->St->Prop}{Q:V->St->Prop}
theorem Sat.Dl (S:Sat G F σ s D){m:Str->Option Value}(bz:lO G F σ.loc D m){s':Shared}(Fm:Fr F.h₀ F.L s'.heap m)(N:News F.h₀ F.L s'.heap D)(hg:s'.gens=s.gens)(ho:s'.os=s.os):Sat G F σ s' D:=
 ⟨⟨m,Fm,bz⟩,N,S.nd,S.aa,S.inj,S.fo,hg.trans S.gens,ho.trans S.os,S.cells⟩
theorem H4 {ns:List Int}{cs:List Value}(h:aY G.C D (ns.map V.int) cs):IntsAre cs ns:=by
 induction ns generalizing cs with
 |nil=>cases h.fy;exact .nil
 |cons n r ih=>
  obtain⟨c,t,rfl,i,is⟩:=h.dc
  obtain⟨u,rfl⟩:=int_is i
  exact .cons n u (ih is)
theorem BX (ok:bK G F){v:V}{c:Value}(S:Sat G F σ s D)(i:br G.C D v c)(h:OU σ.aa v λv=>Q v σ):wpAny (bT G) A (call (.builtin "len") [c]) (j4 G F (aE G) Q D) E s:=by
 cases v with
 |str l=>
  obtain⟨_,rfl⟩:=str_is i
  obtain⟨h1,h2⟩:=h
  refine PySem.P.len_str (by show ¬((l.toArray.size:Nat):Int)≥_;rw[o4];omega) ?_
  rw[show(⟨l.toArray⟩:Str).length=l.length from o4 ..]
  exact iX S (.int _ _) rfl rfl rfl h2
 |tup l=>
  obtain⟨_,_,_,_,rfl,k1,k2,k3,k4,e⟩:=tup_is i
  obtain⟨h1,h2⟩:=h
  refine PyProof.Rows.len_tuple (dG ok S k1 k2 k3) (by omega) ?_
  rw[←e]
  exact iX S (.int _ _) rfl rfl rfl h2
 |ref a=>
  obtain rfl:=bH i
  obtain⟨l,ea,h⟩:=kW h
  obtain⟨ws,n,m1,v1,z1⟩:=S.aa _ _ ea
  refine PyProof.Rows.len_list ⟨_,(S.news _ m1).1,rfl,n,rfl⟩ (by omega) ?_
  rw[←v1.size]
  exact iX S (.int _ _) rfl rfl rfl h
 |_=>exact h.elim
theorem B3 (ok:bK G F){v:V}{c:Value}{n:String}(S:Sat G F σ s D)(i:br G.C D v c)(h:K5 v n λb=>Q (.bool b) σ):wpAny (bT G) A (call (.builtin "isinstance") [c,.type n]) (j4 G F (aE G) Q D) E s:=by
 unfold K5 at h
 split at h
 ·rename_i e;subst e
  cases v with
  |none=>cases jI i;exact IsiPair.NoneType_int (iX S (.bool _) rfl rfl rfl h)
  |bool _=>cases iq i;exact IsiPair.bool_int (iX S (.bool _) rfl rfl rfl h)
  |int _=>obtain⟨_,rfl⟩:=int_is i;exact IsiPair.int_int (iX S (.bool _) rfl rfl rfl h)
  |str _=>obtain⟨_,rfl⟩:=str_is i;exact IsiPair.str_int (iX S (.bool _) rfl rfl rfl h)
  |tup _=>
   obtain⟨_,_,_,_,rfl,k1,k2,k3,_⟩:=tup_is i
   obtain⟨o,ho,hc,_⟩:=dG ok S k1 k2 k3
   exact IsiPair.tuple_int ho hc (iX S (.bool _) rfl rfl rfl h)
  |_=>exact h.elim
 ·split at h
  ·rename_i e;subst e
   cases v with
   |bool _=>cases iq i;exact IsiPair.bool_bool (iX S (.bool _) rfl rfl rfl h)
   |int _=>obtain⟨_,rfl⟩:=int_is i;exact IsiPair.int_bool (iX S (.bool _) rfl rfl rfl h)
   |_=>exact h.elim
  ·exact h.elim
theorem Gf (ok:bK G F)(hh:F.hd=none)(b:Bi){vs:List V}(h:N4 b vs σ.aa λv=>Q v σ):BP G F af b.val vs σ Q X:=λA s D cs hA S is=>by
 have Te:A.handled=none:=by rw[hA.hd,hh]
 obtain⟨m,Fm,bz⟩:=S.fr
 cases b with
 |abs=>
  obtain⟨v,rfl,h⟩:=jO h
  obtain⟨a,rfl,h⟩:=dH h
  obtain⟨_,rfl,i⟩:=fb is
  obtain⟨_,rfl⟩:=int_is i
  exact call_abs_int λu tk=>iX S (.int _ _) rfl rfl rfl h
 |len=>
  obtain⟨v,rfl,h⟩:=jO h
  obtain⟨_,rfl,i⟩:=fb is
  exact BX ok S i h
 |int=>
  obtain⟨v,rfl,h⟩:=jO h
  obtain⟨_,rfl,i⟩:=fb is
  cases v with
  |bool _=>cases iq i;exact PySem.call_int_bool (iX S (.int _ _) rfl rfl rfl h)
  |str l=>
   obtain⟨_,rfl⟩:=str_is i
   obtain⟨h1,n,h2,h3⟩:=h
   exact PySem.W.KIN.call_text h2 (by show l.toArray.size<=_;rw[o4];exact a10 0x189381280b12702501 tt h1) (iX S (.int _ _) rfl rfl rfl h3)
  |_=>exact h.elim
 |str=>
  obtain⟨v,rfl,h⟩:=jO h
  obtain⟨a,rfl,h1,h2⟩:=dH h
  obtain⟨_,rfl,i⟩:=fb is
  obtain⟨_,rfl⟩:=int_is i
  refine PySem.P.str_of_int ?_ ?_
  ·by_cases z:a.natAbs=0
   ·rw[z];decide
   ·exact(Nat.log2_lt z).mpr h1
  ·have e:((toString a:String):Str)=⟨(bp a).toArray⟩:=by unfold bp;simp
   show j4 G F (aE G) Q D (.str ((toString a:String):Str) s.toks) _
   rw[e]
   exact iX S (.str _ _) rfl rfl rfl h2
 |dJ=>
  obtain⟨v,w,rfl,h⟩:=pC h
  obtain⟨n,rfl,h⟩:=HH h
  obtain⟨_,_,rfl,i,j⟩:=jl is
  cases j
  exact B3 ok S i h
 |divmod=>
  obtain⟨v,w,rfl,h⟩:=pC h
  obtain⟨_,_,rfl,i,j⟩:=jl is
  obtain⟨a,b,_,_,rfl,rfl,⟨h1,h2⟩,h3⟩:=d9 i j h
  refine divmod_N Fm S.news (by omega) (λh' F' N'=>?_) (.inl (nC h1 h2))
  have S':=S.grow bz (s':={ s with heap:=h',toks:=s.toks+1+1 }) F' N' (lZ S) rfl rfl
  refine⟨_,_,_,S',aO.cons _,.tup (.inl (.head _)) rfl rfl (.cons (.int _ _) (.cons (.int _ _) .nil)),?_⟩
  rw[Int.fdiv_eq_ediv_of_nonneg _ (by exact a01 0x1a0d28d4694 tt h1),Int.fmod_eq_emod_of_nonneg _ (by exact a01 0x1a0d28d4694 tt h1)]
  exact h3
 |max=>
  obtain⟨v,w,rfl,h⟩:=pC h
  obtain⟨_,_,rfl,i,j⟩:=jl is
  obtain⟨a,b,_,_,rfl,rfl,h⟩:=d9 i j h
  exact max_two_N Te Fm S.news λh' tk F' N'=>⟨_,_,D,S.Dl bz (s':={ s with heap:=h',toks:=tk }) F' N' rfl rfl,.refl,.int _ _,h⟩
 |min=>
  rcases wx h with⟨v,rfl,h⟩|⟨v,w,rfl,h⟩
  ·obtain⟨_,rfl,i⟩:=fb is
   obtain⟨a,l,rfl,ea,ns,rfl,dT,hq⟩:=fx h
   obtain rfl:=bH i
   obtain⟨ws,n,m1,v1,z1⟩:=S.aa _ _ ea
   refine min_list_N Te Fm S.news (vs:=ws.toList) ⟨_,(S.news _ m1).1,rfl,n,rfl⟩ (H4 v1) (by cases ns with|nil=>exact absurd rfl dT|cons a r=>simp) λh' M t tk F' N' hm hle=>?_
   exact⟨_,_,D,S.Dl bz (s':={ s with heap:=h',toks:=tk }) F' N' rfl rfl,.refl,.int _ _,hq M hm hle⟩
  ·obtain⟨_,_,rfl,i,j⟩:=jl is
   obtain⟨a,b,_,_,rfl,rfl,h⟩:=d9 i j h
   exact min_two_N Te Fm S.news λh' tk F' N'=>⟨_,_,D,S.Dl bz (s':={ s with heap:=h',toks:=tk }) F' N' rfl rfl,.refl,.int _ _,h⟩
end
section
open PySem.Builtin PySem.Builtin.Str
noncomputable def fO (c:Nat)(x:List Nat):Int:=if c∈x then((x.idxOf c:Nat):Int) else -1
noncomputable def WD (c:Nat)(x:List Nat)(r:Int):Prop:=(r=-1/\c∉x)∨∃i:Nat,r=i/\x[i]?=some c/\∀k,i<k->x[k]?≠some c
noncomputable def bj (c:Nat):List Nat->List (List Nat)
 |[]=>[[]]
 |x::r=>if x=c then[]::bj c r else match bj c r with
  |[]=>[[x]]
  |p::ps=>(x::p)::ps
noncomputable def pQ (c:Nat):List (List Nat)->List Nat
 |[]=>[]
 |[x]=>x
 |x::r=>x++c::pQ c r
theorem eU (x:List Nat)(c i:Nat):StrLaws.At ⟨x.toArray⟩ ⟨#[c]⟩ (⟨x.toArray⟩:Str).length i↔x[i]?=some c:=by
 have:=StrLaws.subAt_one ⟨x.toArray⟩ c i
 simpa[StrLaws.At] using this
theorem v3 {c:Nat}:∀{x:List Nat}{i:Nat},x[i]?=some c->(∀k,k<i->x[k]?≠some c)->x.idxOf c=i:=by
 intro z_
 induction z_ with
 |nil=>
  intro i h _
  simp at h
 |cons a r ih=>
  intro c_ h hn
  cases c_ with
  |zero=>
   simp at h;subst h;simp
  |succ i=>
   have h0:=hn 0 (by exact a10 0x325a54094 tt)
   simp at h0
   rw[List.idxOf_cons,show(a==c)=false by simpa using h0]
   have:=ih (i:=i) (by simpa using h) λk hk=>by have:=hn (k+1) (by exact a20 0x192d2a0969502c8101 tt hk);simpa using this
   simp[this]
theorem find_eq (x:List Nat)(c:Nat):Txt.find ⟨x.toArray⟩ ⟨#[c]⟩=fO c x:=by
 unfold Txt.find fO
 rcases StrLaws.occ_head ⟨x.toArray⟩ ⟨#[c]⟩ 1 (eR 1) with⟨h1,h2⟩|⟨i,r,h1,h2,h3⟩
 ·rw[h1]
  have:c∉x:=λhm=>by
   obtain⟨i,hi,e⟩:=List.mem_iff_getElem.mp hm
   exact h2 i ((eU x c i).mpr (by rw[List.getElem?_eq_getElem hi,e]))
  rw[aA this]
 ·rw[h1]
  have a:=(eU x c i).mp h2
  have:c∈x:=List.mem_of_getElem? a
  rw[aL this,v3 a λk hk=>λe=>h3 k hk ((eU x c k).mpr e)]
theorem occ_eq (x:List Nat)(c:Nat)(h:c∈x):∃rest,occurrences ⟨x.toArray⟩ ⟨#[c]⟩ 0 (⟨x.toArray⟩:Str).length 1=x.idxOf c::rest:=by
 rcases StrLaws.occ_head ⟨x.toArray⟩ ⟨#[c]⟩ 1 (eR 1) with⟨h1,h2⟩|⟨i,r,h1,h2,h3⟩
 ·obtain⟨i,hi,e⟩:=List.mem_iff_getElem.mp h
  exact absurd ((eU x c i).mpr (by rw[List.getElem?_eq_getElem hi,e])) (h2 i)
 ·refine⟨r,?_⟩
  rw[h1,v3 ((eU x c i).mp h2) λk hk=>λe=>h3 k hk ((eU x c k).mpr e)]
theorem E5 (x:List Nat)(c:Nat):WD c x (Txt.rfind ⟨x.toArray⟩ ⟨#[c]⟩):=by
 rcases rfind_whole ⟨x.toArray⟩ ⟨#[c]⟩ with⟨h1,h2⟩|⟨i,h1,h2,h3⟩
 ·exact .inl ⟨h1,λhm=>by
   obtain⟨i,hi,e⟩:=List.mem_iff_getElem.mp hm
   exact h2 i ((eU x c i).mpr (by rw[List.getElem?_eq_getElem hi,e]))⟩
 ·exact .inr ⟨i,h1,(eU x c i).mp h2,λk hk e=>h3 k hk ((eU x c k).mpr e)⟩
theorem count_eq (x:List Nat)(c:Nat):Txt.count ⟨x.toArray⟩ ⟨#[c]⟩=((x.count c:Nat):Int):=by
 rw[count_cnt]
 show cnt c x=_
 induction x with
 |nil=>rfl
 |cons a r ih=>
  unfold cnt at ih ⊢
  rw[List.map_cons]
  show(if PySem.Spec.same (.str ⟨#[a]⟩) (.str ⟨#[c]⟩) then 1 else 0)+PySem.Spec.countIn (.str ⟨#[c]⟩) (r.map λn=>PyData.str ⟨#[n]⟩)=_
  rw[ih,same_sign,List.count_cons]
  by_cases z:a=c
  ·simp[z];exact oD (a10 0x345a558015ac0095 tt) (a10 0x345ac00955a55801 tt)
  ·simp[z]
theorem mI {c:Nat}:∀{x:List Nat}{i:Nat},x[i]?=some c->(∀k,k<i->x[k]?≠some c)->x.take i=x.takeWhile (λd=>decide (d≠c))/\x.drop (i+1)=(x.dropWhile (λd=>decide (d≠c))).drop 1:=by
 intro z_
 induction z_ with
 |nil=>
  intro i h _
  simp at h
 |cons a r ih=>
  intro c_ h hn
  cases c_ with
  |zero=>
   simp at h;subst h;simp
  |succ i=>
   have h0:=hn 0 (by exact a10 0x325a54094 tt)
   simp at h0
   obtain⟨e1,e2⟩:=ih (i:=i) (by simpa using h) λk hk=>by have:=hn (k+1) (by exact a20 0x192d2a0969502c8101 tt hk);simpa using this
   simp[h0,e1,e2]
theorem Ar (x:List Nat)(i j:Nat):strSub ⟨x.toArray⟩ i j=⟨((x.drop i).take (j-i)).toArray⟩:=StrLaws.mk_of_toList (StrLaws.strSub_toList ..)
theorem uI (x:List Nat)(c:Nat):Txt.partition ⟨x.toArray⟩ ⟨#[c]⟩=
  (⟨(x.takeWhile (λd=>decide (d≠c))).toArray⟩,⟨(if c∈x then[c] else[]).toArray⟩,⟨((x.dropWhile (λd=>decide (d≠c))).drop 1).toArray⟩):=by
 rcases partition_whole ⟨x.toArray⟩ ⟨#[c]⟩ with⟨h1,h2⟩|⟨i,h1,h2,h3⟩
 ·have hm:c∉x:=λhm=>by
   obtain⟨i,hi,e⟩:=List.mem_iff_getElem.mp hm
   exact h2 i ((eU x c i).mpr (by rw[List.getElem?_eq_getElem hi,e]))
  have t:∀y∈x,decide (y≠c)=true:=λy hy=>by simp;intro e;subst e;exact hm hy
  have tw:∀l:List Nat,(∀y∈l,decide (y≠c)=true)->l.takeWhile (λd=>decide (d≠c))=l/\l.dropWhile (λd=>decide (d≠c))=[]:=by
   intro l
   induction l with
   |nil=>intro _;exact⟨rfl,rfl⟩
   |cons a r ih=>
    intro h
    obtain⟨i1,i2⟩:=ih λy hy=>h y (.tail _ hy)
    have ha:=h a (.head _)
    simp only[List.takeWhile_cons,List.dropWhile_cons,ha,if_true,i1,i2,and_self]
  obtain⟨e1,e2⟩:=tw x t
  rw[h1,e1,e2,aA hm]
  rfl
 ·have a:=(eU x c i).mp h2
  have hm:c∈x:=List.mem_of_getElem? a
  obtain⟨e1,e2⟩:=mI a λk hk=>λe=>h3 k hk ((eU x c k).mpr e)
  rw[h1,aL hm,Ar,Ar,←e1,←e2]
  have hl:(⟨#[c]⟩:Str).length=1:=rfl
  have hx:(⟨x.toArray⟩:Str).length=x.length:=o4 ..
  rw[hl,hx,List.drop_zero,Nat.sub_zero]
  congr 2
  rw[List.take_of_length_le (by rw[pE];exact dq 0xc4081 [_,0,0] [] tt)]
theorem yR {c:Nat}(p:List Nat)(h:c∉p):bj c p=[p]:=by
 induction p with
 |nil=>rfl
 |cons a r ih=>
  have h1:a≠c:=λe=>h (by rw[e];exact .head _)
  unfold bj
  rw[aA h1,ih λhm=>h (.tail _ hm)]
theorem yS {c:Nat}(p:List Nat)(h:c∉p){t:List Nat}:bj c (p++c::t)=p::bj c t:=by
 induction p with
 |nil=>show bj c (c::t)=_;rw[bj,aL rfl]
 |cons a r ih=>
  have h1:a≠c:=λe=>h (by rw[e];exact .head _)
  show bj c (a::(r++c::t))=_
  rw[bj,aA h1,ih λhm=>h (.tail _ hm)]
theorem yQ (c:Nat):∀(ps:List (List Nat)),ps≠[]->(∀p∈ps,c∉p)->bj c (pQ c ps)=ps:=by
 intro z_
 induction z_ with
 |nil=>exact λh _=>absurd rfl h
 |cons p r ih=>
  intro _ hp
  cases r with
  |nil=>exact yR p (hp p (.head _))
  |cons q r=>
   show bj c (p++c::pQ c (q::r))=_
   rw[yS p (hp p (.head _)),ih (by simp) λz hz=>hp z (.tail _ hz)]
theorem Fx (c:Nat):∀(ps:List (List Nat)),Str.join ⟨#[c]⟩ (ps.map λl=>(⟨l.toArray⟩:Str))=⟨(pQ c ps).toArray⟩:=by
 intro z_
 induction z_ with
 |nil=>rfl
 |cons p r ih=>
  cases r with
  |nil=>rfl
  |cons q r=>
   show(⟨p.toArray⟩:Str)++⟨#[c]⟩++Str.join ⟨#[c]⟩ ((q::r).map λl=>(⟨l.toArray⟩:Str))=_
   rw[ih]
   show(⟨p.toArray++#[c]++(pQ c (q::r)).toArray⟩:Str)=_
   congr 1
   apply Array.ext'
   simp[pQ]
theorem EV (x:List Nat)(c:Nat):Txt.split ⟨x.toArray⟩ ⟨#[c]⟩=(bj c x).map λl=>(⟨l.toArray⟩:Str):=by
 have h1:=StrLaws.join_split ⟨x.toArray⟩ ⟨#[c]⟩
 have h2:=StrLaws.split_free ⟨x.toArray⟩ c
 have h3:=split_pos ⟨x.toArray⟩ ⟨#[c]⟩
 generalize Txt.split ⟨x.toArray⟩ ⟨#[c]⟩=ys at *
 have e:ys=(ys.map λs=>s.cps.toList).map λl=>(⟨l.toArray⟩:Str):=by
  rw[List.map_map]
  conv=>lhs;rw[←List.map_id ys]
  refine List.map_congr_left λs _=>?_
  simp
 rw[e] at h1
 rw[Fx] at h1
 have hx:pQ c (ys.map λs=>s.cps.toList)=x:=by
  have:=congrArg (λs:Str=>s.cps.toList) h1
  simpa using this
 have:=yQ c (ys.map λs=>s.cps.toList) (by intro z;rw[List.map_eq_nil_iff] at z;rw[z] at h3;simp at h3) λp hp=>by
  obtain⟨s,hs,rfl⟩:=List.mem_map.mp hp
  exact h2 s hs
 rw[hx] at this
 rw[this,←e]
theorem join_nil (ps:List (List Nat)):Txt.join ⟨#[]⟩ (ps.map λl=>(⟨l.toArray⟩:Str))=⟨ps.flatten.toArray⟩:=by
 show glued _ _=_
 rw[StrLaws.glued_eq_join]
 have:∀ps:List (List Nat),Str.join ⟨#[]⟩ (ps.map λl=>(⟨l.toArray⟩:Str))=⟨ps.flatten.toArray⟩:=by
  intro ps
  induction ps with
  |nil=>rfl
  |cons p r ih=>
   cases r with
   |nil=>simp[Str.join]
   |cons q r=>
    show(⟨p.toArray⟩:Str)++⟨#[]⟩++Str.join ⟨#[]⟩ ((q::r).map λl=>(⟨l.toArray⟩:Str))=_
    rw[ih]
    show(⟨p.toArray++#[]++((q::r).flatten).toArray⟩:Str)=_
    congr 1
    apply Array.ext'
    simp
 exact this ps
end
inductive Me where|find|rfind|index|count|partition|split|join|append|pop
 deriving DecidableEq
noncomputable def Me.name:Me->Str
 |.find=>"find"|.rfind=>"rfind"|.index=>"index"|.count=>"count"|.partition=>"partition"|.split=>"split"|.join=>"join"|.append=>"append"|.pop=>"pop"
noncomputable def Me.id:Me->String
 |.find=>"str.find"|.rfind=>"str.rfind"|.index=>"str.index"|.count=>"str.count"|.partition=>"str.partition"|.split=>"str.split"|.join=>"str.join"|.append=>"list.append"|.pop=>"list.pop"
noncomputable def uq (v:V)(aa:ag):Prop:=CE aa v λ_ _=>True
noncomputable def Me.recv (m:Me)(v:V)(aa:ag):Prop:=match m with
 |.append|.pop=>uq v aa
 |_=>ig v=true
noncomputable def OH (y:List Nat)(f:Nat->Prop):Prop:=match y with
 |[]=>False
 |c::r=>(match r with
  |[]=>f c
  |_::_=>False)
theorem HG {y:List Nat}{f:Nat->Prop}(h:OH y f):∃c,y=[c]/\f c:=by
 cases y with
 |nil=>exact h.elim
 |cons c r=>cases r with
  |nil=>exact⟨c,rfl,h⟩
  |cons _ _=>exact h.elim
noncomputable def xH (v w:V)(f:List Nat->Nat->Prop):Prop:=Kb v λx=>Kb w λy=>OH y (f x)
noncomputable def Qr (aa:ag)(x:List Nat)(w:V)(Q:V->ag->Prop):Prop:=match x with
 |[]=>CE aa w λ_ l=>∃ps:List (List Nat),l=ps.map V.str/\ps.flatten.length<=1000000/\Q (.str ps.flatten) aa
 |_::_=>False
noncomputable def TO (aa:ag)(a:Addr)(l:List V)(Q:V->ag->Prop):Prop:=match l with
 |[]=>False
 |v::r=>Q v (put aa a (.list r))
noncomputable def Xg (m:Me)(aa:ag)(Q:V->ag->Prop)(v w:V):Prop:=match m with
 |.find=>xH v w λx c=>Q (.int (fO c x)) aa
 |.rfind=>xH v w λx c=>∀r,WD c x r->Q (.int r) aa
 |.index=>xH v w λx c=>c∈x/\Q (.int ((x.idxOf c:Nat):Int)) aa
 |.count=>xH v w λx c=>Q (.int ((x.count c:Nat):Int)) aa
 |.partition=>xH v w λx c=>x.length<=1000000/\Q (.tup [.str (x.takeWhile λd=>decide (d≠c)),.str (if c∈x then[c] else[]),.str ((x.dropWhile λd=>decide (d≠c)).drop 1)]) aa
 |.split=>xH v w λx c=>x.length<=1000000/\∀a,aa a=none->Q (.ref a) (put aa a (.list ((bj c x).map .str)))
 |.join=>Kb v λx=>Qr aa x w Q
 |.append=>CE aa v λa l=>l.length<1000000/\Q .none (put aa a (.list (l++[w])))
 |.pop=>CE aa v λa l=>xA w λi=>i=0/\TO aa a l Q
noncomputable def NF (m:Me)(vs:List V)(aa:ag)(Q:V->ag->Prop):Prop:=Dc vs (Xg m aa Q)
section
variable {G:GC}{F:FC}{af:Nat}{σ:St}{s:Shared}{D:Led}{A:Around}{E:Value->Shared->Prop}{X:Ex->St->Prop}{Q:V->St->Prop}
theorem fC {v:V}{c:Value}(h:ig v=true)(i:br G.C D v c):∃l u,v=.str l/\c=.str ⟨l.toArray⟩ u:=by
 cases v with
 |str l=>obtain⟨u,rfl⟩:=str_is i;exact⟨_,_,rfl,rfl⟩
 |_=>cases h
theorem sQ (S:Sat G F σ s D){v:V}{c:Value}(h:uq v σ.aa)(i:br G.C D v c):∃a vs n,c=.ref a/\(a,listOf vs n)∈D:=by
 obtain⟨a,l,rfl,e,_⟩:=fx h
 obtain⟨vs,n,h1,_⟩:=S.aa _ _ e
 exact⟨a,vs,n,bH i,h1⟩
theorem y2 (ok:bK G F)(m:Me){v:V}(h:m.recv v σ.aa):PK G F v σ m.name m.id:=λA s D c pl P E S i q=>by
 cases m
 case append=>obtain⟨a,vs,n,rfl,h1⟩:=sQ S h i;exact listMethod_K S.news h1 PySem.F.slot_list_append PySem.F.type_list_append q
 case pop=>obtain⟨a,vs,n,rfl,h1⟩:=sQ S h i;exact listMethod_K S.news h1 PySem.F.slot_list_pop PySem.F.type_list_pop q
 case find=>obtain⟨l,u,rfl,rfl⟩:=fC h i;exact PySem.GM.find q
 case rfind=>obtain⟨l,u,rfl,rfl⟩:=fC h i;exact PySem.GM.rfind q
 case index=>obtain⟨l,u,rfl,rfl⟩:=fC h i;exact PySem.GM.index q
 case count=>obtain⟨l,u,rfl,rfl⟩:=fC h i;exact PySem.GM.count q
 case partition=>obtain⟨l,u,rfl,rfl⟩:=fC h i;exact PySem.GM.partition q
 case split=>obtain⟨l,u,rfl,rfl⟩:=fC h i;exact PySem.GM.split q
 case join=>obtain⟨l,u,rfl,rfl⟩:=fC h i;exact PySem.GM.join q
theorem LL:∀{l:List (Str×Tok)}{ps:List (List Nat)},l.map (·.1)=(ps.map λp=>(⟨p.toArray⟩:Str))->aY G.C D (ps.map V.str) (strValues l):=by
 intro l
 induction l with
 |nil=>intro ps h;cases ps;exact .nil;cases h
 |cons w r ih=>
  intro ps h
  obtain⟨a,u⟩:=w
  cases ps with
  |nil=>cases h
  |cons p ps=>
   rw[List.map_cons,List.map_cons] at h
   injection h with h1 h2
   change a=(⟨p.toArray⟩:Str) at h1
   subst h1
   exact .cons (.str p u) (ih h2)
theorem strsOf {ps:List (List Nat)}{cs:List Value}(h:aY G.C D (ps.map V.str) cs):StrsAre cs (ps.map λp=>(⟨p.toArray⟩:Str)):=by
 induction ps generalizing cs with
 |nil=>cases h.fy;exact .nil
 |cons n r ih=>
  obtain⟨c,t,rfl,i,is⟩:=h.dc
  obtain⟨u,rfl⟩:=str_is i
  exact .cons _ u (ih is)
theorem se {v w:V}{f:List Nat->Nat->Prop}{eu cj:Value}(h:xH v w f)(i:br G.C D v eu)(j:br G.C D w cj):∃x c u u',eu=.str ⟨x.toArray⟩ u/\cj=.str ⟨#[c]⟩ u'/\f x c:=by
 obtain⟨x,rfl,q⟩:=kU h
 obtain⟨y,rfl,p⟩:=kU q
 obtain⟨c,rfl,o⟩:=HG p
 obtain⟨u,rfl⟩:=str_is i
 obtain⟨u',rfl⟩:=str_is j
 exact⟨x,c,u,u',rfl,rfl,o⟩
theorem By (c:Nat)(x:List Nat):(bj c x).length<=x.length+1:=by
 induction x with
 |nil=>exact eR _
 |cons a r ih=>
  unfold bj
  split
  ·simp;exact a20 0x18ad2a080b15a54101 tt ih
  ·split
   ·simp
   ·rename_i e;rw[e] at ih;simpa using Nat.le_succ_of_le ih
theorem wC {x:List Nat}{c:Nat}{u u':Tok}(S:Sat G F σ s D)(h1:x.length<=1000000)(h2:∀a,σ.aa a=none->Q (.ref a) ⟨σ.loc,put σ.aa a (.list ((bj c x).map .str))⟩):
  wpAny (bT G) A (call (.builtin "str.split") [.str ⟨x.toArray⟩ u,.str ⟨#[c]⟩ u']) (j4 G F (aE G) Q D) E s:=by
 obtain⟨m',Fm,bz⟩:=S.fr
 refine splitN1A Fm S.news rfl (λl h' k e _ _ _ F' N'=>?_) (by show x.toArray.size+2<=_;rw[o4,sizeLine_eq];exact a10 0x312702040810569602c49c093d2181 tt h1)
 rw[EV] at e
 have S':=S.grow bz (s':={ s with heap:=h',toks:=k }) F' N' (lZ S) rfl rfl
 have GR:=S'.jG (a:=s.heap.objs.size) (l:=(bj c x).map V.str) (vs:=(strValues l).toArray) (n:=0) (.head _) (by simpa using(LL e).lW _) (by
  have:=congrArg List.length e
  rw[List.length_map,List.length_map] at this
  rw[o4,strValues,List.length_map,this]
  have:=By c x
  exact a20 0x644e0408102082624e049e90c0b15a54082 tt h1 this)
 exact⟨.ref _,_,_,GR,aO.cons _,.ref _,h2 _ S.fresh⟩
set_option tactic.hygienic true in
theorem BJ (ok:bK G F){a:Addr}{v:V}{r:List V}{u:Tok}(S:Sat G F σ s D)(ea:σ.aa a=some (.list (v::r)))(h:Q v ⟨σ.loc,put σ.aa a (.list r)⟩):
  wpAny (bT G) A (call (.builtin "list.pop") [.ref a,.int 0 u]) (j4 G F (aE G) Q D) E s:=by
 obtain⟨m',Fm,bz⟩:=S.fr
 obtain⟨ws,n,m1,v1,z1⟩:=S.aa _ _ ea
 obtain⟨wl⟩:=ws
 cases v1 with
 |cons ic ir=>
  rename_i c cr
  have z2:cr.length+1<2^24:=z1
  have U:=Upd.nf (o':=listOf ([]++cr).toArray (n+1)) S.nd m1
  refine kl_popAt Fm S.news (k:=0) (p:=[]) (q:=cr) (y:=c) (by decide) (by show seqIndex? 0 (cr.length+1)=some 0;unfold seqIndex?;simp) rfl U (by show(c::cr).length<=_;rw[sizeLine_eq];simp;exact a10 0x3127ffffffe05913810204082b4a81 tt z2) λh' F' N'=>?_
  obtain⟨S',K'⟩:=S.tY (s':={ s with heap:=h' }) (l':=r) ea bz F' N' (by simpa using ir) (by simp;exact a10 0x191381020408205913810204082b4a81 tt z2) (λp hp=>(ok.z6 p hp).1) S.gens S.os
  exact⟨_,_,_,S',K',br.keep ic K',h⟩
theorem zk {a:Addr}{ps:List (List Nat)}{u:Tok}(S:Sat G F σ s D)(ea:σ.aa a=some (.list (ps.map V.str)))(h1:ps.flatten.length<=1000000)(h2:Q (.str ps.flatten) σ):
  wpAny (bT G) A (call (.builtin "str.join") [.str ⟨([]:List Nat).toArray⟩ u,.ref a]) (j4 G F (aE G) Q D) E s:=by
 obtain⟨ws,n,m1,v1,z1⟩:=S.aa _ _ ea
 refine join_list ⟨_,(S.news _ m1).1,rfl,n,rfl⟩ (strsOf v1) ?_ λt' k=>?_
 ·have:((ps.map λp=>(⟨p.toArray⟩:Str)).map (·.length)).sum=ps.flatten.length:=by
   rw[List.map_map,List.length_flatten]
   congr 1
  rw[this]
  show _+_*0<=_
  omega
 ·rw[show(⟨([]:List Nat).toArray⟩:Str)=⟨#[]⟩ from rfl,join_nil]
  exact iX S (.str _ _) rfl rfl rfl h2
theorem y6 {x:List Nat}{c:Nat}{u u':Tok}(S:Sat G F σ s D)(h1:x.length<=1000000)(h2:Q (.tup [.str (x.takeWhile λd=>decide (d≠c)),.str (if c∈x then[c] else[]),.str ((x.dropWhile λd=>decide (d≠c)).drop 1)]) σ):
  wpAny (bT G) A (call (.builtin "str.partition") [.str ⟨x.toArray⟩ u,.str ⟨#[c]⟩ u']) (j4 G F (aE G) Q D) E s:=by
 obtain⟨m',Fm,bz⟩:=S.fr
 refine partitionN Fm S.news rfl (λta tb tc h' k F' N'=>?_) (by show x.toArray.size<=_;rw[o4,sizeLine_eq];exact a10 0xc49c0810204102c49c093d2181 tt h1)
 rw[uI] at N'
 have S':=S.grow bz (s':={ s with heap:=h',toks:=k }) F' N' (lZ S) rfl rfl
 exact⟨_,_,_,S',aO.cons _,.tup (.inl (.head _)) rfl rfl (.cons (.str _ _) (.cons (.str _ _) (.cons (.str _ _) .nil))),h2⟩
theorem Fi (ok:bK G F)(m:Me){vs:List V}(h:NF m vs σ.aa λv l=>Q v ⟨σ.loc,l⟩):BP G F af (.builtin m.id) vs σ Q X:=λA s D cs hA S is=>by
 obtain⟨v,w,rfl,h⟩:=pC h
 obtain⟨eu,cj,rfl,i,j⟩:=jl is
 cases m with
 |find=>
  obtain⟨x,c,u,u',rfl,rfl,h⟩:=se h i j
  refine PySem.SC.find ?_
  rw[find_eq]
  exact iX S (.int _ _) rfl rfl rfl h
 |rfind=>
  obtain⟨x,c,u,u',rfl,rfl,h⟩:=se h i j
  refine PySem.SC.rfind ?_
  exact iX S (.int _ _) rfl rfl rfl (h _ (E5 _ _))
 |index=>
  obtain⟨x,c,u,u',rfl,rfl,h1,h2⟩:=se h i j
  obtain⟨rest,e⟩:=occ_eq _ _ h1
  exact PySem.SC.index e (iX S (.int _ _) rfl rfl rfl h2)
 |count=>
  obtain⟨x,c,u,u',rfl,rfl,h⟩:=se h i j
  refine PySem.SC.count ?_
  rw[count_eq]
  exact iX S (.int _ _) rfl rfl rfl h
 |partition=>
  obtain⟨x,c,u,u',rfl,rfl,h1,h2⟩:=se h i j
  exact y6 S h1 h2
 |split=>
  obtain⟨x,c,u,u',rfl,rfl,h1,h2⟩:=se h i j
  exact wC S h1 h2
 |join=>
  obtain⟨x,rfl,h⟩:=kU h
  cases x with
  |nil=>
   obtain⟨a,l,rfl,ea,ps,rfl,h1,h2⟩:=fx h
   obtain⟨u,rfl⟩:=str_is i
   obtain rfl:=bH j
   exact zk S ea h1 h2
  |cons _ _=>exact h.elim
 |append=>
  obtain⟨a,l,rfl,ea,h1,h2⟩:=fx h
  obtain rfl:=bH i
  exact oB ok S ea j (by exact a10 0x1913816a4e602c89c093d2181 tt h1) λs' D' S' K'=>⟨_,_,D',S',K',.none,h2⟩
 |pop=>
  obtain⟨a,l,rfl,ea,q⟩:=fx h
  obtain⟨_,rfl,rfl,p⟩:=dH q
  obtain rfl:=bH i
  obtain⟨u,rfl⟩:=int_is j
  cases l with
  |nil=>exact p.elim
  |cons v r=>exact BJ ok S ea p
end
noncomputable def pick {α:Type}(l:List α)(i:Int):Option α:=if 0<=i then l[i.toNat]? else if -(l.length:Int)<=i then l[(i+l.length).toNat]? else none
inductive sk (aa:ag)(Q:V->Prop):V->V->Prop
 |str {l:List Nat} {i:Int} {c:Nat}:-1000000000<=i->i<=1000000000->pick l i=some c->Q (.str [c])->sk aa Q (.str l) (.int i)
 |tup {l:List V} {i:Int} {c:V}:-1000000000<=i->i<=1000000000->pick l i=some c->Q c->sk aa Q (.tup l) (.int i)
 |ref {a:Addr} {l:List V} {i:Int} {c:V}:aa a=some (.list l)->-1000000000<=i->i<=1000000000->pick l i=some c->Q c->sk aa Q (.ref a) (.int i)
noncomputable def bound:Option V->Option (Option Nat)
 |none=>some none
 |some (.int i)=>if 0<=i then some (some i.toNat) else none
 |_=>none
noncomputable def jc {α:Type}(l:List α):Option Nat->List α
 |some h=>l.take h
 |none=>l
noncomputable def cut {α:Type}(l:List α)(lo hi:Option Nat):List α:=(jc l hi).drop (lo.getD 0)
section
variable {G:GC}{F:FC}{af:Nat}{σ:St}{s:Shared}{D:Led}{A:Around}{E:Value->Shared->Prop}{X:Ex->St->Prop}{Q:V->St->Prop}
theorem qh {α:Type}{l:List α}{i:Int}{c:α}(h:pick l i=some c):∃j,seqIndex? i l.length=some j/\l[j]?=some c/\(0<=i->j=i.toNat):=by
 unfold pick at h
 by_cases h0:0<=i
 ·rw[aL h0] at h
  exact⟨i.toNat,StrLaws.seqIndex_nonneg h0 (Mf h0 (List.getElem?_eq_some_iff.mp h).1),h,λ_=>rfl⟩
 ·rw[aA h0] at h
  by_cases h1:-(l.length:Int)<=i
  ·rw[aL h1] at h
   exact⟨_,StrLaws.seqIndex_neg (Int.not_le.mp h0) h1,h,λk=>absurd k h0⟩
  ·rw[aA h1] at h;cases h
theorem Dx {k:Int}(h:-1000000000<=k):-2^63<=k:=Int.le_trans (by decide) h
theorem Dy {k:Int}(h:k<=1000000000):k<2^63:=Int.lt_of_le_of_lt h (by decide)
theorem Ui {k:Int}(h:-1000000000<=k)(h':k<=1000000000):(decide (k < -2^63)||decide (k≥2^63))=false:=by
 rw[decide_eq_false (Int.not_lt.mpr (Dx h)),decide_eq_false (Int.not_le.mpr (Dy h'))];rfl
theorem B1 (ok:bK G F)(S:Sat G F σ s D){v w:V}{c d:Value}{value slice:Expr}(i:br G.C D v c)(j:br G.C D w d)(hs:∀o x,subscripted slice false o x=operate [o,x] (getItem o x)){P:V->Prop}{Q':Value->Shared->Prop}(h:sk σ.aa P v w)
  (q:∀u y s',Sat G F σ s' D->br G.C D u y->P u->Q' y s'):wpAny (bT G) A (subscriptTail value slice c d) Q' E s:=by
 cases h with
 |@str l k e b1 b2 e' h=>
  obtain⟨u,rfl⟩:=str_is i
  obtain⟨u',rfl⟩:=int_is j
  obtain⟨n,h1,h2,_⟩:=qh e'
  refine tail_any (typeIs_str _ _ _) PySem.F.slot_str_getitem.lookup (PyProof.Rows.getItem_str (c:=e) (Ui b1 b2) ?_ (q _ _ _ (S.same rfl rfl rfl) (.str [e] _) h)) (hs _ _)
  show(seqIndex? k l.toArray.size).bind (l.toArray[·]?)=_
  rw[o4,h1]
  exact List.getElem?_toArray.trans h2
 |tup b1 b2 e' h=>
  obtain⟨ta,to,zY,tn,rfl,k1,k2,k3,k4,e1⟩:=tup_is i
  obtain⟨u',rfl⟩:=int_is j
  obtain⟨n,h1,h2,_⟩:=qh e'
  obtain⟨y,hy,iy⟩:=k4.get h2
  have ht:=dG ok S k1 k2 k3
  have SQ:s.TypeIs (.ref ta) "tuple":=ht.elim λo h=>⟨o,h.1,h.2.1⟩
  exact tail_any SQ PySem.F.slot_tuple_getitem.lookup (PyProof.Rows.getItem_tuple ht (Dx b1) (Dy b2) (j:=n) (e1▸h1) (x:=y) (Array.getElem?_toList.symm.trans hy) (q _ _ _ S iy h)) (hs _ _)
 |@ref a l k e ea b1 b2 e' h=>
  cases bH i
  obtain⟨u',rfl⟩:=int_is j
  obtain⟨vs,n,m1,v1,z1⟩:=S.aa _ _ ea
  obtain⟨p,h1,h2,h3⟩:=qh e'
  obtain⟨y,hy,iy⟩:=v1.get h2
  have hl:s.heap.IsList a vs:=⟨_,(S.news _ m1).1,rfl,n,rfl⟩
  refine tail_any hl.typeIs slot_list_getitem.lookup ?_ (hs _ _)
  by_cases h0:0<=k
  ·rw[h3 h0] at hy
   exact wpAny_getItem_list hl h0 (Dy b2) (x:=y) (Array.getElem?_toList.symm.trans hy) (q _ _ _ S iy h)
  ·exact kde_getNeg (vs:=vs.toList) hl (Int.not_le.mp h0) (Dx b1) (v1.length▸h1) hy (q _ _ _ S iy h)
theorem B2 (ok:bK G F){value slice:Expr}{pos:Pos}(hs:∀o x,subscripted slice false o x=operate [o,x] (getItem o x))
  (h:J G F af (aE G) (eval value F.env) σ (λv ae=>J G F af (aE G) (eval slice F.env) ae (λw ar=>sk ar.aa (λu=>Q u ar) v w) X) X):
  J G F af (aE G) (eval (.Subscript value slice pos) F.env) σ Q X:=λA s D hA S=>by
 rw[arm_eval_Subscript]
 refine aW (h.go hA S λv c ae ak aI az aB aJ au=>aW (wpAny_holding (au.r5 hA az aB λw d ar aT bb aG aU bL aS=>aW (wpAny_standAt ?_))))
 exact B1 (value:=value) (slice:=slice) ok aG (br.keep aJ aU) bL hs aS λu y s' S' iu hu=>⟨u,ar,bb,S',aB.trans aU,iu,hu⟩
end
section
open PySem.Builtin PySem.Builtin.Str
noncomputable def sm (C:Frag)(aa:ag)(r:Addr)(l:List V):Prop:=aa r=some (.list l)∨∃o vs n,C.lookup r=some o/\o.cls=.type "list"/\o.data=.seq vs n/\aY C [] l vs.toList/\vs.size<2^24
inductive pX (C:Frag)(nm:Bool)(lo hi:Option V)(aa:ag)(Q:V->ag->Prop):V->Prop
 |str {l:List Nat} {a b:Option Nat}:bound lo=some a->bound hi=some b->l.length<=1000000->Q (.str (cut l a b)) aa->pX C nm lo hi aa Q (.str l)
 |tup {l:List V} {k:Nat}:bound lo=some (some k)->bound hi=some none->nm=true->1<=k->k<=l.length->l.length<=1000000->Q (.tup (l.drop k)) aa->pX C nm lo hi aa Q (.tup l)
 |ref {r:Addr} {l:List V} {a b:Option Nat}:bound lo=some a->bound hi=some b->nm=true->sm C aa r l->(∀c,aa c=none->Q (.ref c) (put aa c (.list (cut l a b))))->pX C nm lo hi aa Q (.ref r)
noncomputable def ri:Option Nat->Option Int
 |none=>none
 |some n=>some (n:Int)
inductive ny (C:Frag)(D:Led):Option V->Value->Prop
 |no:ny C D none .none
 |yes {v:V} {c:Value}:br C D v c->ny C D (some v) c
section
variable {G:GC}{F:FC}{af:Nat}{σ:St}{s:Shared}{D:Led}{A:Around}{E:Value->Shared->Prop}{X:Ex->St->Prop}{Q:V->St->Prop}
noncomputable def JO (G:GC)(F:FC)(af:Nat)(e:Option Expr)(σ:St)(Q:Option V->St->Prop)(X:Ex->St->Prop):Prop:=match e with
 |none=>Q none σ
 |some e=>J G F af (aE G) (eval e F.env) σ (λv ae=>Q (some v) ae) X
theorem JO.r5 {e:Option Expr}{Q:Option V->St->Prop}{D₀:Led}(h:JO G F af e σ Q X)(hA:iW F af A)(S:Sat G F σ s D)(K:aO F D₀ D){P:Value->Shared->Prop}
  (k:∀o c ae ak aI,Sat G F ae ak aI->aO F D aI->ny G.C aI o c->Q o ae->P c ak):wpAny (bT G) A (evalPart e F.env) P (fg G F X D₀) s:=by
 cases e with
 |none=>exact cC (k _ _ _ _ _ S .refl .no h)
 |some e=>exact J.r5 h hA S K λv c ae ak aI az aB aJ au=>k _ _ _ _ _ az aB (.yes aJ) au
theorem F8 {v:V}{b:Option Nat}(e:bound (some v)=some b):∃k:Nat,v=.int k/\b=some k:=by
 cases v with
 |int i=>
  by_cases h:0<=i
  ·exact⟨i.toNat,congrArg V.int (Int.toNat_of_nonneg h).symm,Option.some.inj (e.symm.trans (aL h))⟩
  ·exact nomatch e.symm.trans (aA h)
 |_=>exact nomatch e
theorem ny.val {C:Frag}{o:Option V}{c:Value}(h:ny C D o c){b:Option Nat}(e:bound o=some b):∃p:Option (Int×Tok),c=partValue p/\p.map (·.1)=ri b:=by
 cases h with
 |no=>cases e;exact⟨none,rfl,rfl⟩
 |yes i=>
  obtain⟨k,rfl,rfl⟩:=F8 e
  obtain⟨u,rfl⟩:=int_is i
  exact⟨some (k,u),rfl,rfl⟩
theorem uj {k:Nat}:¬(k:Int)<0:=Int.not_lt.mpr (Int.natCast_nonneg k)
noncomputable abbrev Kc (a:Option Nat)(n:Nat):Nat:=min (a.getD 0) n
noncomputable abbrev NT (b:Option Nat)(n:Nat):Nat:=min (b.getD n) n
theorem OM (k n:Nat):max 0 (min (if(k:Int)<0 then(k:Int)+n else k) n)=((min k n:Nat):Int):=by
 rw[aA uj]
 rcases Nat.le_total k n with h|h
 ·rw[Int.min_eq_left (Int.ofNat_le.mpr h),Nat.min_eq_left h];exact Int.max_eq_right (Int.natCast_nonneg _)
 ·rw[Int.min_eq_right (Int.ofNat_le.mpr h),Nat.min_eq_right h];exact Int.max_eq_right (Int.natCast_nonneg _)
theorem TJ (p q:Nat):sliceRange p q 1=(List.range (q-p)).map (p+·):=by
 have e:(if(p:Int)<q then((q:Int)-p+1-1)/1 else 0).toNat=q-p:=by
  split
  ·rw[Int.add_sub_cancel,Int.ediv_one];exact Int.toNat_sub q p
  ·rename_i h;exact(Nat.sub_eq_zero_of_le (Int.ofNat_le.mp (Int.not_lt.mp h))).symm
 show(List.range (if(p:Int)<q then((q:Int)-p+1-1)/1 else 0).toNat).map _=_
 rw[e]
 exact List.map_congr_left λk _=>congrArg (λz:Int=>(p+z).toNat) (Int.one_mul k)
theorem VC (a b:Option Nat)(n:Nat):strSliceIndices (ri a) (ri b) 1 n=(List.range (NT b n-Kc a n)).map (Kc a n+·):=by
 rw[←TJ]
 have h1:∀a:Option Nat,((match ri a with|none=>0|some i=>max 0 (min (if i<0 then i+n else i) n)):Int)=((Kc a n:Nat):Int):=λa=>by
  cases a with
  |none=>exact congrArg Nat.cast (Nat.zero_min n).symm
  |some k=>exact OM k n
 have h2:∀b:Option Nat,((match ri b with|none=>(n:Int)|some i=>max 0 (min (if i<0 then i+n else i) n)):Int)=((NT b n:Nat):Int):=λb=>by
  cases b with
  |none=>exact congrArg Nat.cast (Nat.min_self n).symm
  |some k=>exact OM k n
 exact congr (congrArg (λu v=>sliceRange u v 1) (h1 a)) (h2 b)
theorem P9 (x:List Nat)(p:Nat):∀k,((List.range k).map (p+·)).filterMap (x.toArray[·]?)=(x.drop p).take k:=by
 intro z_
 induction z_ with
 |zero=>
  exact rfl
 |succ k ih=>
  rw[List.range_succ,List.map_append,List.filterMap_append,ih,List.take_add_one,List.getElem?_drop]
  refine congrArg (List.take k (x.drop p)++·) ?_
  rw[List.map_cons,List.filterMap_cons,List.getElem?_toArray]
  cases x[p+k]?<;>rfl
theorem tT {α:Type}(l:List α)(a b:Option Nat):(l.drop (Kc a l.length)).take (NT b l.length-Kc a l.length)=cut l a b:=by
 have e:l.take (NT b l.length)=jc l b:=by
  cases b with
  |none=>exact(congrArg l.take (Nat.min_self _)).trans (List.take_length ..)
  |some k=>exact List.take_take.symm.trans (congrArg (List.take k) (List.take_length ..))
 rw[←List.drop_take,e]
 unfold cut Kc
 have hl:(jc l b).length<=l.length:=e▸List.length_take_le' ..
 rcases Nat.le_total (a.getD 0) l.length with h|h
 ·rw[Nat.min_eq_left h]
 ·rw[Nat.min_eq_right h,List.drop_eq_nil_of_le hl,List.drop_eq_nil_of_le (fm hl h)]
theorem cut_str (x:List Nat)(a b:Option Nat):(strSliceIndices (ri a) (ri b) 1 x.length).filterMap (x.toArray[·]?)=cut x a b:=by
 rw[VC,P9,tT]
theorem Io (x:List Nat)(a b:Option Nat):(strSliceIndices (ri a) (ri b) 1 x.length).length=(cut x a b).length:=by
 rw[VC,List.length_map,List.length_range,←tT,List.length_take,pE]
 exact(Nat.min_eq_left (Nat.sub_le_sub_right (Nat.min_le_right ..) _)).symm
theorem F0 {α:Type}(l:List α)(a b:Option Nat):(l.drop (kms_lo (ri a) l.length)).take (kms_hi (ri b) l.length-kms_lo (ri a) l.length)=cut l a b:=by
 have lo:kms_lo (ri a) l.length=Kc a l.length:=by
  cases a with
  |none=>exact(Nat.zero_min _).symm
  |some n=>exact(aA uj:(if(n:Int)<0 then l.length-(-(n:Int)).toNat else min n l.length)=min n l.length)
 have hi:kms_hi (ri b) l.length=NT b l.length:=by
  cases b with
  |none=>exact(Nat.min_self _).symm
  |some n=>exact(aA uj:(if(n:Int)<0 then l.length-(-(n:Int)).toNat else min n l.length)=min n l.length)
 rw[lo,hi,tT]
theorem EB {α:Type}(l:List α)(a b:Option Nat):(cut l a b).length<=l.length:=by
 rw[←tT,List.length_take,pE]
 exact fm (Nat.min_le_right ..) (Nat.sub_le ..)
theorem Ip (x:List Nat)(a b:Option Nat)(h:(cut x a b).length=x.length):cut x a b=x:=by
 have hs:(cut x a b).Sublist x:=(List.drop_sublist ..).trans (by cases b with|none=>exact .refl _|some k=>exact List.take_sublist ..)
 exact hs.eq_of_length h
theorem aY.cut {C:Frag}{vs:List V}{cs:List Value}(h:aY C D vs cs)(a b:Option Nat):aY C D (Mine.cut vs a b) (Mine.cut cs a b):=by
 unfold Mine.cut
 cases b with
 |none=>exact h.drop _
 |some n=>exact(h.take n).drop _
abbrev vj (x y:Value):Obj:={ cls:=.type "slice",data:=.fields #[x,y,.none] }
theorem qA {value:Expr}(hn:jK value=true)(o r:Value):letTemporaryGo value o r=pure ():=by obtain⟨x,p,rfl⟩:=zm hn;rfl
theorem ET {value:Expr}{lo hi:Option Expr}{p:Pos}{l:List Nat}{u:Tok}{pa pb:Option (Int×Tok)}{a b:Option Nat}{E:Value->Shared->Prop}{D₀:Led}(S:Sat G F σ s D)(K:aO F D₀ D)(ha:pa.map (·.1)=ri a)(hb:pb.map (·.1)=ri b)
  (q1:l.length<=1000000) (q:Q (.str (cut l a b)) σ):wpAny (bT G) A (subscriptTail value (.Slice lo hi none p) (.str ⟨l.toArray⟩ u) (.ref s.heap.objs.size)) (j4 G F (aE G) Q D₀) E { s with heap:=s.heap.push (vj (partValue pa) (partValue pb)) }:=by
 have Ss:=S.fv (vj (partValue pa) (partValue pb))
 refine tail_any (typeIs_str _ _ _) PySem.F.slot_str_getitem.lookup (wpAny_getItem_str_slice (l:=pa) (u:=pb) (st:=none) ⟨_,(Ss.news _ (.head _)).1,rfl,rfl⟩ rfl ?_) rfl
 have hl:(⟨l.toArray⟩:Str).length=l.length:=o4 ..
 have hp:slicePicked ⟨l.toArray⟩ pa pb none=strSliceIndices (ri a) (ri b) 1 l.length:=by
  unfold slicePicked
  rw[ha,hb,hl];rfl
 have pick:(slicePicked ⟨l.toArray⟩ pa pb none).filterMap ((⟨l.toArray⟩:Str).cps[·]?)=cut l a b:=by rw[hp];exact cut_str l a b
 have K':=K.trans (aO.cons (s.heap.objs.size,vj (partValue pa) (partValue pb)))
 unfold sliceMade
 by_cases hc:((((none:Option (Int×Tok)).map (·.1)).getD 1==1)&&((slicePicked ⟨l.toArray⟩ pa pb none).length==(⟨l.toArray⟩:Str).length))=true
 ·rw[aL hc]
  have h1:=beq_iff_eq.mp (Bool.and_eq_true_iff.mp hc).2
  rw[hp,Io,hl] at h1
  rw[Ip l a b h1] at q
  exact⟨.str l,_,_,Ss,K',.str l u,q⟩
 ·rw[aA hc,pick]
  exact⟨by show(List.toArray _).size<=_;rw[o4,sizeLine_eq];exact fm (EB l a b) (fm q1 (by decide)),.str (cut l a b),_,_,Ss.same rfl rfl rfl,K',.str _ _,q⟩
theorem EN (ok:bK G F){value:Expr}{lo hi:Option Expr}{p:Pos}{l:List V}{c:Value}{k:Nat}{u:Tok}{E:Value->Shared->Prop}{D₀:Led}(S:Sat G F σ s D)(K:aO F D₀ D)(hn:jK value=true)(i:br G.C D (.tup l) c)
  (h1:1<=k) (h2:k<=l.length) (h3:l.length<=1000000) (q:Q (.tup (l.drop k)) σ):wpAny (bT G) A (subscriptTail value (.Slice lo hi none p) c (.ref s.heap.objs.size)) (j4 G F (aE G) Q D₀) E { s with heap:=s.heap.push (vj (.int k u) .none) }:=by
 obtain⟨ta,to,zY,tn,rfl,k1,k2,k3,k4,e1⟩:=tup_is i
 obtain⟨m,Fm,bz⟩:=S.fr
 refine slice_tuple_from (h₀:=F.h₀) (L:=F.L) Fm S.news (dG ok S k1 k2 k3) h1 (e1▸h2) (λh' F' N'=>?_) rfl (λr=>qA hn _ r) (by rw[←e1,sizeLine_eq];exact fm h3 (by decide))
 have S':=S.grow bz (s':={ s with heap:=h' }) F' N' (λp hp=>Nat.ne_of_lt (Nat.lt_succ_of_lt (S.da p hp))) rfl rfl
 exact⟨_,_,_,S',K.trans (aO.cons _),.tup (.inl (.head _)) rfl rfl ((k4.drop k).lW _),q⟩
theorem Mh (ok:bK G F)(S:Sat G F σ s D){r:Addr}{l:List V}(h:sm G.C σ.aa r l):∃vs,s.heap.IsList r vs/\aY G.C D l vs.toList/\vs.size<2^24:=by
 rcases h with e|⟨o,vs,n,h1,h4,h5,h2,h3⟩
 ·obtain⟨vs,n,m1,v1,z1⟩:=S.aa _ _ e;exact⟨vs,⟨_,(S.news _ m1).1,rfl,n,rfl⟩,v1,z1⟩
 ·obtain⟨m,Fm,_⟩:=S.fr
  exact⟨vs,⟨o,Fm.keep _ _ (ok.XC _ _ h1),h4,n,h5⟩,h2.mono λ_ _ m=>(by cases m),h3⟩
theorem Ee {p:Option (Int×Tok)}{b:Option Nat}(h:p.map (·.1)=ri b):IsPart (partValue p) (ri b):=by
 rw[←h]
 cases p with
 |none=>exact .none
 |some q=>exact .int _ _
theorem E6 (ok:bK G F){value:Expr}{lo hi:Option Expr}{p:Pos}{l:List V}{r:Addr}{pa pb:Option (Int×Tok)}{a b:Option Nat}{E:Value->Shared->Prop}{D₀:Led}(S:Sat G F σ s D)(K:aO F D₀ D)(hn:jK value=true)(hr:sm G.C σ.aa r l)
  (ha:pa.map (·.1)=ri a) (hb:pb.map (·.1)=ri b) (q:∀c,σ.aa c=none->Q (.ref c) ⟨σ.loc,put σ.aa c (.list (cut l a b))⟩):
  wpAny (bT G) A (subscriptTail value (.Slice lo hi none p) (.ref r) (.ref s.heap.objs.size)) (j4 G F (aE G) Q D₀) E { s with heap:=s.heap.push (vj (partValue pa) (partValue pb)) }:=by
 obtain⟨vs,m1,v1,z1⟩:=Mh ok S hr
 obtain⟨m,Fm,bz⟩:=S.fr
 refine kms_slice_lit (h₀:=F.h₀) (L:=F.L) (zs:=cut vs.toList a b) Fm S.news m1 (Ee ha) (Ee hb) (F0 vs.toList a b) (λD' h' F' N' lt=>?_) rfl (λr=>qA hn _ r) (by rw[sizeLine_eq];exact fm (Nat.le_of_lt z1) (by decide))
 have S':=S.grow bz (s':={ s with heap:=h' }) F' N' (λp hp=>Nat.ne_of_lt (lt p hp)) rfl rfl
 have GR:=S'.jG (a:=D') (l:=cut l a b) (vs:=(cut vs.toList a b).toArray) (n:=0) (.head _) ((v1.cut a b).lW _) (Nat.lt_of_le_of_lt (EB vs.toList a b) z1)
 refine⟨.ref _,_,_,GR,K.trans (aO.cons _),.ref _,q _ ?_⟩
 cases e:σ.aa D' with
 |none=>rfl
 |some ao=>obtain⟨ob,hb⟩:=(S.aa _ _ e).some_at;exact absurd (lt _ hb) (iY _)
theorem yT (ok:bK G F){value:Expr}{lo hi:Option Expr}{p pos:Pos}
  (h:J G F af (aE G) (eval value F.env) σ (λv ae=>JO G F af lo ae (λa ar=>JO G F af hi ar (λb bJ=>pX G.C (jK value) a b bJ.aa (λu l=>Q u ⟨bJ.loc,l⟩) v) X) X) X):
  J G F af (aE G) (eval (.Subscript value (.Slice lo hi none p) pos) F.env) σ Q X:=λA s D hA S=>by
 rw[arm_eval_Subscript]
 refine aW (h.go hA S λv c ae ak aI az aB aJ au=>aW (wpAny_holding (wpAny_Slice (JO.r5 au hA az aB λoa ca ar aT bb aG aU ia aS=>JO.r5 aS hA aG (aB.trans aU) λob cb bJ bQ cU cF bO ib i6=>cC (aW (wpAny_standAt ?_))))))
 have hJ:br G.C cU v c:=(br.keep aJ aU).keep bO
 have Dw:ny G.C cU oa ca:=by cases ia with|no=>exact .no|yes i=>exact .yes (i.keep bO)
 cases i6 with
 |str ea eb q1 q2=>
  obtain⟨pa,rfl,ha⟩:=Dw.val ea
  obtain⟨pb,rfl,hb⟩:=ib.val eb
  obtain⟨u,rfl⟩:=str_is hJ
  exact ET cF ((aB.trans aU).trans bO) ha hb q1 q2
 |@tup l k ea eb hn h1 h2 h3 q2=>
  obtain⟨pa,rfl,ha⟩:=Dw.val ea
  obtain⟨pb,rfl,hb⟩:=ib.val eb
  cases pb with
  |some q=>cases hb
  |none=>
   cases pa with
   |none=>cases ha
   |some q=>
    obtain⟨i,u⟩:=q
    cases Option.some.inj ha
    exact EN ok cF ((aB.trans aU).trans bO) hn hJ h1 h2 h3 q2
 |ref ea eb hn el q2=>
  obtain⟨pa,rfl,ha⟩:=Dw.val ea
  obtain⟨pb,rfl,hb⟩:=ib.val eb
  cases bH hJ
  exact E6 ok cF ((aB.trans aU).trans bO) hn el ha hb q2
end
end
inductive rA (G:GC)(aa:ag)(x:Str)(Q:V->Prop):V->Prop
 |inst {a c dx:Addr} {fs:List (Str×V)} {u:V}:aa a=some (.inst c dx fs)->attrOk G.K c x=true->hU x fs=some u->Q u->rA G aa x Q (.ref a)
 |exc {k:Nat} {a c dx:Addr} {fs:List (Str×V)} {u:V}:aa a=some (.exc k c dx fs)->mi G.K c x=true->hU x fs=some u->Q u->rA G aa x Q (.ref a)
theorem rA.mono {G:GC}{aa:ag}{x:Str}{Q Q':V->Prop}{v:V}(h:rA G aa x Q v)(f:∀u,Q u->Q' u):rA G aa x Q' v:=by
 cases h with
 |inst a b c d=>exact .inst a b c (f _ d)
 |exc a b c d=>exact .exc a b c (f _ d)
inductive vd (G:GC)(aa:ag)(x:Str)(v:V)(Q:ag->Prop):V->Prop
 |inst {a c dx:Addr} {fs:List (Str×V)}:aa a=some (.inst c dx fs)->setOk G.K c x=true->(gx x v fs).length<=500->Q (put aa a (.inst c dx (gx x v fs)))->vd G aa x v Q (.ref a)
 |exc {k:Nat} {a c dx:Addr} {fs:List (Str×V)}:aa a=some (.exc k c dx fs)->hY G.K c x=true->(gx x v fs).length<=500->Q (put aa a (.exc k c dx (gx x v fs)))->vd G aa x v Q (.ref a)
 |bare {a c:Addr}:aa a=some (.bare c)->hY G.K c x=true->(∀d,Q (put aa a (.exc 2 c d [(x,v)])))->vd G aa x v Q (.ref a)
noncomputable def mm (aa:ag)(u w v:V)(Q:ag->Prop):Prop:=CE aa u λa l=>xA w λi=>(0<=i/\i.toNat<l.length)/\Q (put aa a (.list (l.set i.toNat v)))
section
variable {G:GC}{F:FC}{af:Nat}{σ:St}{s:Shared}{D:Led}{A:Around}{E:Value->Shared->Prop}{X:Ex->St->Prop}
theorem AP (ok:bK G F)(S:Sat G F σ s D){v:V}{c:Value}{x:Str}{expr:Bool}(i:br G.C D v c){P:V->Prop}{Q':Value->Shared->Prop}(h:rA G σ.aa x P v)(q:∀u y s',Sat G F σ s' D->br G.C D u y->P u->Q' y s'):
  wpAny (bT G) A (getAttr c x expr) Q' E s:=by
 cases h with
 |inst e h1 hu h2=>cases bH i;exact Cz ok S e hu h1 λy iy=>q _ y _ (S.same rfl rfl rfl) iy h2
 |exc e h1 hu h2=>cases bH i;exact Cb ok S e hu h1 λy iy=>q _ y _ (S.same rfl rfl rfl) iy h2
theorem Ay (ok:bK G F)(S:Sat G F σ s D){u v:V}{c d:Value}{x:Str}(i:br G.C D u c)(j:br G.C D v d){P:ag->Prop}{Q':Unit->Shared->Prop}(h:vd G σ.aa x v P u)(q:∀l s' D',Sat G F ⟨σ.loc,l⟩ s' D'->aO F D D'->P l->Q' () s'):
  wpAny (bT G) A (setAttr c x d) Q' E s:=by
 cases h with
 |inst e h1 h2 h3=>cases bH i;exact EX ok S e h1 j h2 λs' D' S' K'=>q _ s' D' S' K' h3
 |exc e h1 h2 h3=>cases bH i;exact EY ok S e h1 j h2 λs' D' S' K'=>q _ s' D' S' K' h3
 |bare e h1 h3=>cases bH i;exact BC ok S e h1 j λd s' D' S' K'=>q _ s' D' S' K' (h3 d)
theorem Hv:∀{l:List Value}{k:Nat}{v:Value},k<l.length->ki_setL l k v=some (l.set k v):=by
 intro z_
 induction z_ with
 |nil=>
  intro _ _ h
  exact absurd h (Nat.not_lt_zero _)
 |cons a r ih=>
  intro c_ v h
  cases c_ with
  |zero=>
   exact rfl
  |succ k=>
   unfold ki_setL
   rw[ih (k:=k) (by simpa using h)]
   rfl
theorem aY.set {C:Frag}{vs:List V}{cs:List Value}(h:aY C D vs cs)(k:Nat){v:V}{c:Value}(i:br C D v c):aY C D (vs.set k v) (cs.set k c):=by
 induction vs generalizing cs k with
 |nil=>cases h.fy;exact .nil
 |cons a r ih=>
  obtain⟨b,t,rfl,j,is⟩:=h.dc
  cases k with
  |zero=>exact .cons i is
  |succ k=>exact .cons j (ih is k)
theorem nV (ok:bK G F)(S:Sat G F σ s D){u w v:V}{c e d:Value}(i:br G.C D u c)(k:br G.C D w e)(j:br G.C D v d){P:ag->Prop}{Q':Unit->Shared->Prop}(h:mm σ.aa u w v P)(q:∀l s' D',Sat G F ⟨σ.loc,l⟩ s' D'->aO F D D'->P l->Q' () s'):
  wpAny (bT G) A (setItem c e d) Q' E s:=by
 obtain⟨a,l,rfl,ea,h⟩:=fx h
 obtain⟨ki,rfl,⟨h1,h2⟩,h3⟩:=dH h
 obtain rfl:=bH i
 obtain⟨t,rfl⟩:=int_is k
 obtain⟨vs,n,m1,v1,z1⟩:=S.aa _ _ ea
 obtain⟨m,Fm,bz⟩:=S.fr
 have e1:=v1.length
 have j2:ki.toNat<vs.toList.length:=by rw[e1];exact h2
 have U:=Upd.nf (o':=listOf (vs.toList.set ki.toNat d).toArray n) S.nd m1
 rw[Array.length_toList] at e1
 refine ki_set Fm S.news h1 (by omega) (Hv j2) U λh' F' N'=>?_
 obtain⟨S',K'⟩:=S.tY (s':={ s with heap:=h' }) (l':=l.set ki.toNat v) ea bz F' N' (by simpa using v1.set _ j) (by rw[o4,List.length_set,Array.length_toList];exact z1) (λp hp=>(ok.z6 p hp).1) S.gens S.os
 exact q _ _ _ S' K' h3
theorem wb (ok:bK G F){value:Expr}{x:Str}{pos:Pos}{Q:V->St->Prop}(hb:dz value=true)(h:J G F af (aE G) (eval value F.env) σ (λv ae=>rA G ae.aa x (λu=>Q u ae) v) X):
  J G F af (aE G) (eval (.Attribute value x pos) F.env) σ Q X:=λA s D hA S=>by
 rw[arm_eval_Attribute,A2 hb]
 refine aW (h.go hA S λv c ae ak aI az aB aJ au=>aW (wpAny_standAt (aW (wpAny_holding (AP ok az aJ au λu y s' S' iu hu=>?_)))))
 exact aW (wpAny_letTemporaryGo (cC ⟨u,ae,aI,S',aB,iu,hu⟩))
theorem tA (ok:bK G F){o:Expr}{x:Str}{pos:Pos}{v:V}{Q:St->Prop}(h:J G F af (aE G) (eval o F.env) σ (λu ae=>vd G ae.aa x v (λl=>Q ⟨ae.loc,l⟩) u) X):
  gc G F af (.Attribute o x pos) v σ Q X:=λA s D c hA S iv=>by
 have e:assign (.Attribute o x pos) F.env c=(do
   let ov ←holding [c] (eval o F.env)
   standAt pos.atName
   holding [c,ov] (setAttr ov x c)
   release [c,ov] []):=rfl
 rw[e]
 refine aW (wpAny_holding (h.go hA S λu cu ae ak aI az aB aJ au=>?_))
 refine aW (wpAny_standAt (aW (wpAny_holding (Ay ok az aJ (br.keep iv aB) au λl s' D' S' K' hl=>?_))))
 exact wpAny_release ⟨_,D',S',aB.trans K',hl⟩
theorem IH (ok:bK G F){o i:Expr}{pos:Pos}{v:V}{Q:St->Prop}(h:J G F af (aE G) (eval o F.env) σ (λu ae=>J G F af (aE G) (eval i F.env) ae (λw ar=>mm ar.aa u w v λl=>Q ⟨ar.loc,l⟩) X) X):
  gc G F af (.Subscript o i pos) v σ Q X:=λA s D c hA S iv=>by
 refine kas_sub (h.go hA S λu cu ae ak aI az aB aJ au=>au.r5 hA az aB λw cw ar aT bb aG aU bL aS=>?_)
 exact nV ok aG (br.keep aJ aU) bL ((br.keep iv aB).keep aU) aS λl s' D' S' K' hl=>⟨_,D',S',(aB.trans aU).trans K',hl⟩
theorem nQ (ok:bK G F){o:Expr}{x:Str}{eY pos:Pos}{value:Expr}{Q:Fl->St->Prop}(hs:swapsWithSole [.Attribute o x eY] value pos.line F.env=pure false)
  (h:J G F af (aE G) (eval value F.env) σ (λv ae=>gc G F af (.Attribute o x eY) v ae (λar=>Q .next ar) X) X):J G F af (bA G) (exec (.Assign [.Attribute o x eY] value pos) F.env) σ Q X:=λA s D hA S=>by
 rw[arm_exec_Assign,hs]
 refine aW (wpAny_standAt (aW (cC ?_)))
 rw[aA (by decide)]
 refine aW (h.go hA S λv c ae ak aI az aB aJ au=>?_)
 show wpAny _ _ (assignAll c [assign (.Attribute o x eY) F.env]>>=λ_=>pure Flow.next) _ _ _
 exact aW (dU (au A ak aI c hA az aJ) (λ_ aT ⟨ar,bb,aG,aU,aS⟩=>cC ⟨.next,ar,bb,aG,aB.trans aU,.next,aS⟩) λ_ _ e=>e.keep aB)
theorem oY (ok:bK G F){o i:Expr}{eY pos:Pos}{value:Expr}{Q:Fl->St->Prop}(hs:swapsWithSole [.Subscript o i eY] value pos.line F.env=pure false)
  (h:J G F af (aE G) (eval value F.env) σ (λv ae=>gc G F af (.Subscript o i eY) v ae (λar=>Q .next ar) X) X):J G F af (bA G) (exec (.Assign [.Subscript o i eY] value pos) F.env) σ Q X:=λA s D hA S=>by
 rw[arm_exec_Assign,hs]
 refine aW (wpAny_standAt (aW (cC ?_)))
 rw[aA (by decide)]
 refine aW (h.go hA S λv c ae ak aI az aB aJ au=>?_)
 show wpAny _ _ (assignAll c [assign (.Subscript o i eY) F.env]>>=λ_=>pure Flow.next) _ _ _
 exact aW (dU (au A ak aI c hA az aJ) (λ_ aT ⟨ar,bb,aG,aU,aS⟩=>cC ⟨.next,ar,bb,aG,aB.trans aU,.next,aS⟩) λ_ _ e=>e.keep aB)
noncomputable def Sq (o:Option V)(f:V->Prop):Prop:=match o with
 |none=>False
 |some v=>f v
theorem LY {o:Option V}{f:V->Prop}(h:Sq o f):∃v,o=some v/\f v:=by
 cases o with
 |none=>exact h.elim
 |some v=>exact⟨v,rfl,h⟩
theorem LZ {o:Option V}{v:V}{f:V->Prop}(e:o=some v)(q:f v):Sq o f:=by rw[e];exact q
noncomputable def Jx (aa:ag)(v w:V)(Q:V->Prop):Prop:=CE aa v λ_ l=>xA w λi=>(0<=i/\i<=1000000000)/\Sq l[i.toNat]? Q
theorem wR (S:Sat G F σ s D){v w:V}{c d:Value}(i:br G.C D v c)(j:br G.C D w d){P:V->Prop}{Q':Value->Shared->Prop}(h:Jx σ.aa v w P)
  (q:∀u y,br G.C D u y->P u->Q' y s):wpAny (bT G) A (getItem c d) Q' E s:=by
 obtain⟨a,l,rfl,ea,h⟩:=fx h
 obtain⟨k,rfl,⟨h0,h1⟩,h⟩:=dH h
 obtain⟨e,he,h⟩:=LY h
 obtain rfl:=bH i
 obtain⟨t,rfl⟩:=int_is j
 obtain⟨vs,n,m1,v1,z1⟩:=S.aa _ _ ea
 obtain⟨y,hy,iy⟩:=v1.get he
 exact wpAny_getItem_list ⟨_,(S.news _ m1).1,rfl,n,rfl⟩ h0 (by omega) (x:=y) (by rw[←Array.getElem?_toList];exact hy) (q _ _ iy h)
theorem uR (ok:bK G F){o i:Expr}{eY pos:Pos}{op:Operator}{value:Expr}{Q:Fl->St->Prop}(hi:∀ov iv new,augStore i ov iv new=(do holding [new,ov,iv] (setItem ov iv new);release [new,ov,iv] [];pure .next))
  (h:J G F af (aE G) (eval o F.env) σ (λu ae=>J G F af (aE G) (eval i F.env) ae (λw ar=>Jx ar.aa u w λold=>J G F af (aE G) (eval value F.env) ar (λv bJ=>z7 G F af (inplaceOp op) old v bJ (λr j5=>mm j5.aa u w r λl=>Q .next ⟨j5.loc,l⟩) X) X) X) X):
  J G F af (bA G) (exec (.AugAssign (.Subscript o i eY) op value pos) F.env) σ Q X:=λA s D hA S=>by
 refine wpAny_AugAssign_SubscriptAny (h.go hA S λu cu ae ak aI az aB aJ au=>au.r5 hA az aB λw cw ar aT bb aG aU bL aS=>wR aG (br.keep aJ aU) bL aS λold y iy i6=>J.r5 i6 hA aG (aB.trans aU) λv cv bJ bQ cU cF bO hJ lJ=>?_) hi
 refine dU (lJ A bQ cU y cv hA cF (br.keep iy bO) hJ) (λr cY z=>?_) λ_ _ z=>z.keep ((aB.trans aU).trans bO)
 obtain⟨x,j5,kQ,gD,eI,pK,KP⟩:=z
 exact nV ok gD (((br.keep aJ aU).keep bO).keep eI) ((br.keep bL bO).keep eI) pK KP λl s' D' S' K' hl=>⟨.next,_,D',S',(((aB.trans aU).trans bO).trans eI).trans K',.next,hl⟩
theorem rT (ok:bK G F){o:Expr}{x:Str}{eY pos:Pos}{op:Operator}{value:Expr}{Q:Fl->St->Prop}
  (h:J G F af (aE G) (eval o F.env) σ (λu ae=>rA G ae.aa x (λold=>J G F af (aE G) (eval value F.env) ae (λv ar=>z7 G F af (inplaceOp op) old v ar (λr bJ=>vd G bJ.aa x r (λl=>Q .next ⟨bJ.loc,l⟩) u) X) X) u) X):
  J G F af (bA G) (exec (.AugAssign (.Attribute o x eY) op value pos) F.env) σ Q X:=λA s D hA S=>by
 refine wpAny_AugAssign_AttributeAny (h.go hA S λu cu ae ak aI az aB aJ au=>AP ok az aJ au λold y aT aG iy aS=>J.r5 aS hA aG aB λv cv bJ bQ cU cF bO hJ i6=>?_)
 refine dU (i6 A bQ cU y cv hA cF (br.keep iy bO) hJ) (λr cY z=>?_) λ_ _ z=>z.keep (aB.trans bO)
 obtain⟨w,j5,kQ,gD,eI,pK,lJ⟩:=z
 exact Ay ok gD ((br.keep aJ bO).keep eI) pK lJ λl s' D' S' K' hl=>⟨.next,_,D',S',((aB.trans bO).trans eI).trans K',.next,hl⟩
end
section
variable {G:GC}{F:FC}{af:Nat}{σ:St}{s:Shared}{D:Led}{A:Around}{E:Value->Shared->Prop}{X:Ex->St->Prop}
theorem A3 {e:Expr}{pos:Pos}{R:V->St->Prop}(hs:noStar e=true)(h:J G F af (aE G) (eval e F.env) σ R X)(hA:iW F af A)(S:Sat G F σ s D){P:List Value->Shared->Prop}
  (k:∀v c ae ak aI,Sat G F ae ak aI->aO F D aI->br G.C aI v c->R v ae->P [c] ak):wpAny (bT G) A (spliced (backTo pos (starEach [e] F.env))) P (fg G F X D) s:=
 (iH (Q:=λvs ae=>∃v,vs=[v]/\R v ae) hs (h.mono (λv ae q=>fF ⟨v,rfl,q⟩) λ_ _ x=>x)).go hA S λvs cs ae ak aI az aB aJ ⟨v,e,q⟩=>by
  cases e
  obtain⟨c,rfl,i⟩:=fb aJ
  exact k v c ae ak aI az aB i q
noncomputable def KI (v:V)(σ:St)(Q:It->St->Prop):Prop:=xA v λn=>(-1000000000<=n/\n<=1000000000)/\Q (.mW 0 n.toNat) σ
theorem sM {n:Int}(h1:-1000000000<=n)(h2:n<=1000000000):Builtin.Range.rangeSize 0 n 1=(n.toNat:Int):=by rw[rangeSize_one];split<;>omega
theorem y3 (ok:bK G F){id:Str}{p pos:Pos}{e:Expr}{Q:It->St->Prop}(hn:nsIn G.K mainGlobals id=some none)(hk:F.env.kindOf id=some .globalImplicit)
  (hd:(id==("__debug__":Str))=false) (Kk:id≠"__name__") (hb:bootBuiltins id=some (.type "range")) (hs:noStar e=true)
  (h:J G F af (aE G) (eval e F.env) σ (λv ae=>KI v ae Q) X):jf G F af (.Call (.Name id p) [e] [] pos) σ Q X:=λA s D hA S=>by
 have fL:[e].all noStar=true:=by rw[List.all_cons,hs];rfl
 refine wpAny_Call_Name_kw (eg ok S hn hk hd Kk hb (PyProof.Rows.callWith_type (bM fL) (cz fL (A3 hs h hA S λv c ae ak aI az aB i q=>?_))))
 obtain⟨n,rfl,⟨b1,b2⟩,q⟩:=dH q
 obtain⟨t,rfl⟩:=int_is i
 refine call_range_1 ?_
 have aG:Sat G F ae { heap:=ak.heap.push ({ cls:=.type "range",data:=.fields #[.int 0 ak.toks,.int n t,.int 1 (ak.toks+1)] }:Obj),gens:=ak.gens,drawn:=ak.drawn,toks:=ak.toks+1+1,os:=ak.os } _:=(az.fv ({ cls:=.type "range",data:=.fields #[.int 0 ak.toks,.int n t,.int 1 (ak.toks+1)] }:Obj)).same rfl rfl rfl
 refine wpAny_pyIter_range (aG.news _ (.head _)).1 ?_ ?_
 ·unfold Builtin.Range.small Builtin.Range.rangeFitsLong
  rw[sM b1 b2]
  simp
  exact⟨⟨⟨by exact a01 0x1a0d5c4e040810204081020409051a0d5c4e068d99bd94 tt b1,by exact a01 0x1a9381020408102040810240d684e068d99bd8d tt b2⟩,Int.le_trans (by decide) (Int.le_max_right n 0),Int.max_lt.mpr ⟨by exact a01 0x1a9381020408102040810240d684e068d99bd8d tt b2,by decide⟩⟩,.inr ⟨by exact a01 0x1a0d5c4e040810204081020409051a0d5c4e068d99bd94 tt b1,by exact a01 0x1a9381020408102040810240d684e068d99bd8d tt b2⟩⟩
 ·rw[sM b1 b2]
  exact⟨_,.mW 0 n.toNat,ae,_,rfl,aG.fv ({ cls:=.type "range_iterator",data:=.fields #[rawInt 0,rawInt (n.toNat:Int),rawInt 1] }:Obj),(aB.trans (aO.cons _)).trans (aO.cons _),
   λp hp a b e=>iY _ (List.mem_singleton.mp e▸aG.da p (.tail _ (aB p hp a b))),.mW (.head _),q⟩
noncomputable def Lj (v:V)(σ:St)(Q:It->St->Prop):Prop:=match v with
 |.ref a=>(∃l,σ.aa a=some (.list l))/\∀j,Q (.enum a 0 j) σ
 |_=>False
theorem Il {v:V}{σ:St}{Q:It->St->Prop}(h:Lj v σ Q):∃a l,v=.ref a/\σ.aa a=some (.list l)/\∀j,Q (.enum a 0 j) σ:=by
 cases v with
 |ref a=>obtain⟨⟨l,hl⟩,q⟩:=h;exact⟨a,l,rfl,hl,q⟩
 |_=>exact h.elim
theorem Sat.two {h':Heap}{OF OE:Obj}(S:Sat G F σ s D)(hk:∀b o,s.heap.get? b=some o->h'.get? b=some o)(h1:h'.get? s.heap.objs.size=some OF)(h2:h'.get? (s.heap.objs.size+1)=some OE):
  Sat G F σ { s with heap:=h' } ((s.heap.objs.size+1,OE)::(s.heap.objs.size,OF)::D):=by
 obtain⟨m,Fm,bz⟩:=S.fr
 have Sg:Sat G F σ { s with heap:=h' } D:=S.heap λb o e _=>hk b o e
 have hL:∀k,s.heap.objs.size<=k->k≠F.L:=λk hk e=>iY _ (Nat.lt_of_le_of_lt hk (e▸Fm.ns.lt))
 have hB:∀k,s.heap.objs.size<=k->F.h₀.get? k=none:=λk hk=>by
  cases q':F.h₀.get? k with
  |none=>rfl
  |some o=>exact absurd (Heap.lt_size (Fm.keep _ _ q')) (Nat.not_lt.mpr hk)
 have hD:∀k,s.heap.objs.size<=k->∀p∈D,p.1≠k:=λk hk p hp=>Nat.ne_of_lt (Nat.lt_of_lt_of_le (S.da p hp) hk)
 have aG:=Sg.add (b:=s.heap.objs.size) h1 (hD _ (eR _)) (hL _ (eR _)) (hB _ (eR _))
 refine aG.add (b:=s.heap.objs.size+1) h2 (λp hp=>?_) (hL _ (Nat.le_succ _)) (hB _ (Nat.le_succ _))
 rcases List.mem_cons.mp hp with hp|hp
 ·rw[hp];exact Nat.ne_of_lt (Nat.lt_succ_self _)
 ·exact hD _ (Nat.le_succ _) p hp
theorem Cf (ok:bK G F){id:Str}{p pos:Pos}{e:Expr}{Q:It->St->Prop}(hh:F.hd=none)(hn:nsIn G.K mainGlobals id=some none)(hk:F.env.kindOf id=some .globalImplicit)
  (hd:(id==("__debug__":Str))=false) (Kk:id≠"__name__") (hb:bootBuiltins id=some (.type "enumerate")) (hs:noStar e=true)
  (h:J G F af (aE G) (eval e F.env) σ (λv ae=>Lj v ae Q) X):jf G F af (.Call (.Name id p) [e] [] pos) σ Q X:=λA s D hA S=>by
 have fL:[e].all noStar=true:=by rw[List.all_cons,hs];rfl
 refine wpAny_Call_Name_kw (eg ok S hn hk hd Kk hb (PyProof.Rows.callWith_type (bM fL) (cz fL (A3 hs h hA S λv c ae ak aI az aB i q=>?_))))
 obtain⟨a,l,rfl,ea,q⟩:=Il q
 cases bH i
 obtain⟨ws,n,m1,v1,z1⟩:=az.aa _ _ ea
 refine call_enumerate_list ⟨_,(az.news _ m1).1,rfl,n,rfl⟩ λh' he hi V6 CP=>?_
 obtain⟨oi,XJ,X9,X7⟩:=hi
 have cF:=az.two (λb o e=>CP b o e) XJ he
 have xw:=It.at.enum (G:=G) (l:=a) (i:=0) (old:=.none) (Nat.ne_of_lt (Nat.lt_succ_self ak.heap.objs.size)) (.tail _ (.head aI)) X9 X7 (.head _)
 refine It.self ok (by rw[hA.hd,hh]) cF xw ⟨_,.enum a 0 ak.heap.objs.size,ae,_,rfl,cF,(aB.trans (aO.cons _)).trans (aO.cons _),λp hp x y e=>?_,xw,q _⟩
 have lt:=az.da p (aB p hp x y)
 rcases List.mem_cons.mp e with e|e
 ·exact iY _ (Nat.lt_trans (e▸lt) (Nat.lt_succ_self _))
 ·exact iY _ (List.mem_singleton.mp e▸lt)
noncomputable def EK {α:Type}(x:Sem α):Option α:=match x with
 |.pure a=>some a
 |_=>none
theorem CC {α:Type}{x:Sem α}{a:α}(h:EK x=some a):x=pure a:=by
 cases x with
 |pure b=>cases h;rfl
 |_=>cases h
noncomputable def UO (kinds:List (Str×NameKind)):Env:=⟨⟨.function,kinds,false,false,[]⟩,0,0,[],Str.empty,none,.none,none,0⟩
noncomputable def Jb (ts vs:List Expr)(kinds:List (Str×NameKind)):Option (Option (List Str)):=
 EK (swappedStores [.Tuple ts 0 ⟨0,0,0,0⟩] (.Tuple vs 0 ⟨0,0,0,0⟩) (UO kinds))
theorem swap_eq {ts vs:List Expr}{k k':Nat}{p p':Pos}{env:Env}{r:Option (List Str)}(hb:env.blockKind=.function)(h:Jb ts vs env.scope.names=some r):swappedStores [.Tuple ts k p] (.Tuple vs k' p') env=pure r:=by
 refine Eq.trans ?_ (CC h)
 unfold swappedStores
 rw[hb]
 rfl
end
noncomputable def Z (G:GC)(x:Str):Addr:=match nsIn G.K mainGlobals x with
 |some (some (.ref a))=>a
 |_=>0
noncomputable def clsName:Nat->Str
 |0=>"F77Error"|1=>"RunFault"|2=>"IoFault"|3=>"EndFault"|4=>"ListWriter"|5=>"ListReader"|6=>"ListSource"|_=>"Limits"
noncomputable def kL:Nat->List Str
 |4=>["width","records","row","is_parted"]
 |5=>["source","record","col","left","held","is_behind","is_done"]
 |6=>["records","at"]
 |7=>["width","real_digits","double_digits","top_exponent","steps","continuations","columns","depth"]
 |_=>[]
noncomputable def ZC (G:GC)(c:Nat):Addr:=Z G (clsName c)
noncomputable def dm (G:GC)(c:Nat)(x:Str):Addr:=match findIn G.K (.ref (ZC G c)) x with
 |some (some (.ref f))=>f
 |_=>0
noncomputable def dP:List Str:=(["IoFault","EndFault","RunFault","ListWriter","ListReader","ListSource","Limits",
 "count_digits","strip_zeros","round_digits","round_real","digits_of","solid_field","whole_of","cut_sign","in_width","read_int","cut_exponent","field_exponent","read_figures","read_real","read_logical",
 "fixed_figures","list_exponent","list_real","value_pieces","put_piece","put_text","put_value","write_list","sign_here","step_on","skip_blanks","skip_gaps","take_run","take_sign","take_repeat","take_quoted","take_pair","take_constant","next_constant","part_real","fitted_text","value_of","read_item","read_list",
 "_law_pen","_law_draw","_law_pick","_law_real","_law_value","_law_laid","_law_skipped","_law_run","_law_quoted","_law_pair","_law_next","_law_whole","_law_number","_law_meant","_law_read","_law_heard"]:List String).map Str.ofString
noncomputable def jN:List Str:=(["abs","len","int","str","divmod","min","max","isinstance","bool","range","enumerate","Exception"]:List String).map Str.ofString
noncomputable def st (s:String):List Nat:=s.toList.map Char.toNat
noncomputable def bits:List String:=["5"," ",",","2*","1.5","T","'a''b'","(1,2.5)","\n","-12","3*7","2.E3",".FALSE.","/","'x\ny'","( 1 \n, -2 )","0*1","2*'q'","2*(0,.5)",", ,","abc","(1","'","99999","1D2","''","(,1)","4* "]
noncomputable def consts:List (Str×V):=[("INTEGER",.int 0),("REAL",.int 1),("DOUBLE",.int 2),("COMPLEX",.int 3),("LOGICAL",.int 4),("CHARACTER",.int 5),
 ("NOUGHT",.tup [.int 0,.int 0]),("FIGURES",.str [48,49,50,51,52,53,54,55,56,57]),("BAD_FIELD",.int 1),("TOO_GREAT",.int 2),
 ("SEPARATORS",.tup [.str [],.str [32],.str [44],.str [47]]),("PART_ENDS",.tup [.str [],.str [32],.str [44],.str [47],.str [41]]),("_law_bits",.tup (bits.map λs=>.str (st s)))]
noncomputable def rj {α:Type}:List α->Nat->Option α
 |[],_=>none
 |a::_,0=>some a
 |_::r,k+1=>rj r k
theorem ie {α:Type}:∀{l:List α}{k:Nat},rj l k=l[k]?:=by
 intro z_
 induction z_ with
 |nil=>
  intro _
  exact rfl
 |cons _ r ih=>
  intro c_
  cases c_ with
  |zero=>
   exact rfl
  |succ k=>
   show rj r k=_;rw[ih];simp
noncomputable def putAt {α:Type}:Nat->α->List α->List α
 |_,v,[]=>[v]
 |0,v,_::r=>v::r
 |k+1,v,a::r=>a::putAt k v r
noncomputable def fnAt (K:Frag)(f:Addr):Option FuncData:=match K.lookup f with
 |some ⟨_,_,.func fd,_⟩=>some fd
 |_=>none
structure GB (G:GC):Prop where
 prog:∀x∈dP,nsIn G.K mainGlobals x=some (some (.ref (Z G x)))/\keepIn G.K (.ref (Z G x))=true
 bi:∀x∈jN,nsIn G.K mainGlobals x=some none
 consts:∀k x v,rj consts k=some (x,v)->∃c,nsIn G.K mainGlobals x=some (some c)/\br G.C [] v c
 attr:∀c x,x∈kL c->attrOk G.K (ZC G c) x=true/\setOk G.K (ZC G c) x=true
 Bf:∀c,c<4->mi G.K (ZC G c) "code"=true/\hY G.K (ZC G c) "code"=true/\hY G.K (ZC G c) "text"=true/\vA G.K (ZC G c)=true/\pP G.K (ZC G c)=true
 e9:p6 G.K (ZC G 4) "turn" (dm G 4 "turn")=true/\p6 G.K (ZC G 6) "next_record" (dm G 6 "next_record")=true
 sx:nsIn G.K mainGlobals "F77Error"=some (some (.ref (ZC G 0)))/\il G.K (ZC G 0) "__init__" (dm G 0 "__init__")=true/\il G.K (ZC G 2) "__init__" (dm G 2 "__init__")=true
 tm:o7 G.K "Exception" "__init__" "Exception.__init__"=true
 mro:mroIn G.K (ZC G 1) (.ref (ZC G 1))=some true/\mroIn G.K (ZC G 2) (.ref (ZC G 2))=some true/\mroIn G.K (ZC G 3) (.ref (ZC G 2))=some true
 make:∀c,4<=c->c<8->makesIn G.K (ZC G c)=true/\findIn G.K (.ref (ZC G c)) "__init__"=some (some (.ref (dm G c "__init__")))/\typeIn G.K (.ref (dm G c "__init__"))=some (.type "function")
 Du:∀c,c<4->md G.K (ZC G c)=true/\findIn G.K (.ref (ZC G c)) "__init__"=some (some (.ref (dm G c "__init__")))/\typeIn G.K (.ref (dm G c "__init__"))=some (.type "function")
 Xp:dm G 1 "__init__"=dm G 0 "__init__"
noncomputable abbrev ob (G:GC)(c:Nat)(dx:Addr)(vals:List V):AO:=.inst (ZC G c) dx ((kL c).zip vals)
theorem FD {x:Str}:∀{ns:List Str}{vs:List V}{k:Nat}{u:V},ns.Nodup->ns[k]?=some x->rj vs k=some u->hU x (ns.zip vs)=some u:=by
 intro ns
 induction ns with
 |nil=>intro _ _ _ _ h _;simp at h
 |cons n ns ih=>
  intro vs k u hn h g
  cases vs with
  |nil=>cases g
  |cons v vs=>
   cases k with
   |zero=>
    simp at h;subst h
    show(if n=n then some v else _)=_
    rw[aL rfl];exact g
   |succ k=>
    rw[List.nodup_cons] at hn
    have h':ns[k]?=some x:=by simpa using h
    have:n≠x:=λe=>hn.1 (e▸List.mem_of_getElem? h')
    show(if n=x then some v else hU x (ns.zip vs))=_
    rw[aA this]
    exact ih hn.2 h' g
theorem sV {x:Str}:∀{ns:List Str}{vs:List V},x∉ns->hU x (ns.zip vs)=none:=by
 intro z_
 induction z_ with
 |nil=>
  intro _ _
  simp[hU]
 |cons n ns ih=>
  intro c_ h
  cases c_ with
  |nil=>
   exact rfl
  |cons v vs=>
   show(if n=x then some v else hU x (ns.zip vs))=_
   rw[aA (λ(e:n=x)=>h (e▸.head _))]
   exact ih λm=>h (.tail _ m)
theorem E9 {x:Str}{v:V}:∀{ns:List Str}{vs:List V}{k:Nat},ns.Nodup->ns[k]?=some x->k<=vs.length->gx x v (ns.zip vs)=ns.zip (putAt k v vs):=by
 intro ns
 induction ns with
 |nil=>intro _ _ _ h _;simp at h
 |cons n ns ih=>
  intro vs k hn h g
  cases vs with
  |nil=>
   cases k with
   |zero=>simp at h;subst h;show[(n,v)]=(n,v)::ns.zip [];simp
   |succ=>simp at g
  |cons u vs=>
   cases k with
   |zero=>
    simp at h;subst h
    show(if n=n then _ else _)=_
    rw[aL rfl];rfl
   |succ k=>
    rw[List.nodup_cons] at hn
    have h':ns[k]?=some x:=by simpa using h
    have:n≠x:=λe=>hn.1 (e▸List.mem_of_getElem? h')
    show(if n=x then _ else(n,u)::gx x v (ns.zip vs))=_
    rw[aA this,ih hn.2 h' (by simpa using g)];rfl
theorem qC (c:Nat):(kL c).Nodup:=by
 unfold kL;split<;>decide
theorem FL (c:Nat):(kL c).length<=8:=by
 unfold kL;split<;>decide
inductive bG (G:GC)(aa:ag)(v:V)(c k:Nat)(Q:V->Prop):Prop
 |mk (a dx:Addr) (vals:List V) (u:V):v=.ref a->aa a=some (ob G c dx vals)->rj vals k=some u->Q u->bG G aa v c k Q
inductive cq (G:GC)(aa:ag)(u:V)(c k:Nat)(v:V)(Q:ag->Prop):Prop
 |mk (a dx:Addr) (vals:List V):u=.ref a->aa a=some (ob G c dx vals)->k<=vals.length->Q (put aa a (ob G c dx (putAt k v vals)))->cq G aa u c k v Q
noncomputable def Jd (G:GC)(aa:ag)(u:V)(x:Str)(v:V)(Q:ag->Prop):Prop:=∃a c,u=.ref a/\c<4/\((aa a=some (.bare (ZC G c))/\∀d,Q (put aa a (.exc 2 (ZC G c) d [(x,v)])))∨
 ∃k d fs,aa a=some (.exc k (ZC G c) d fs)/\fs.length<400/\Q (put aa a (.exc k (ZC G c) d (gx x v fs))))
noncomputable def JK (G:GC)(aa:ag)(v:V)(x:Str)(Q:V->Prop):Prop:=∃a n c d fs u,v=.ref a/\c<4/\aa a=some (.exc n (ZC G c) d fs)/\hU x fs=some u/\Q u
theorem Fb {x:Str}{v:V}:∀{fs:List (Str×V)},(gx x v fs).length<=fs.length+1:=by
 intro z_
 induction z_ with
 |nil=>
  exact eR _
 |cons A8 r ih=>
  obtain⟨y,u⟩:=A8
  show(if y=x then(y,v)::r else(y,u)::gx x v r).length<=_
  split
  ·simp
  ·simpa using ih
theorem Es {G:GC}(g:GB G){aa:ag}{v:V}{c k:Nat}{x:Str}{Q:V->Prop}(hx:(kL c)[k]?=some x)(h:bG G aa v c k Q):rA G aa x Q v:=by
 obtain⟨a,dx,vals,u,rfl,hl,hu,q⟩:=h
 exact .inst hl (g.attr c x (List.mem_of_getElem? hx)).1 (FD (qC c) hx hu) q
theorem DW {G:GC}(g:GB G){aa:ag}{u v:V}{c k:Nat}{x:Str}{Q:ag->Prop}(hx:(kL c)[k]?=some x)(h:cq G aa u c k v Q):vd G aa x v Q u:=by
 obtain⟨a,dx,vals,rfl,hl,hu,q⟩:=h
 have e:=E9 (v:=v) (qC c) hx hu
 refine .inst hl (g.attr c x (List.mem_of_getElem? hx)).2 ?_ (by rw[e];exact q)
 rw[e,List.length_zip]
 exact fm (Nat.min_le_left ..) (k9 (FL c) rfl)
theorem Hw {G:GC}(g:GB G){aa:ag}{u v:V}{x:Str}{Q:ag->Prop}(hx:x="code"∨x="text")(h:Jd G aa u x v Q):vd G aa x v Q u:=by
 obtain⟨a,c,rfl,hc,h⟩:=h
 have hs:hY G.K (ZC G c) x=true:=by
  have:=g.Bf c hc
  rcases hx with hx|hx
  ·rw[hx];exact this.2.1
  ·rw[hx];exact this.2.2.1
 rcases h with⟨hl,q⟩|⟨k,d,fs,hl,hz,q⟩
 ·exact .bare hl hs q
 ·exact .exc hl hs (fm Fb (fm hz (by decide))) q
theorem H9 {G:GC}(g:GB G){aa:ag}{v:V}{Q:V->Prop}(h:JK G aa v "code" Q):rA G aa "code" Q v:=by
 obtain⟨a,n,c,d,fs,u,rfl,hc,hl,hu,q⟩:=h
 exact .exc hl (g.Bf c hc).1 hu q
noncomputable def two (p:Prop)(Q:Bool->Prop):Prop:=(p->Q true)/\(¬p->Q false)
theorem m6 {p:Prop}{Q:Bool->Prop} [Decidable p](h:two p Q):Q (decide p):=by
 by_cases hp:p
 ·rw[decide_eq_true hp];exact h.1 hp
 ·rw[decide_eq_false hp];exact h.2 hp
noncomputable def kn (Q:Bool->Prop)(b:Bool):Prop:=Q (!b)
structure CZ (aa:ag)(a b:Addr)(Q:Bool->Prop):Prop where
 run:Gy aa (.ref a) (.ref b) Q
noncomputable def VK (v:V)(f:Addr->Prop):Prop:=match v with
 |.ref a=>f a
 |_=>False
theorem L6 {v:V}{f:Addr->Prop}(h:VK v f):∃a,v=.ref a/\f a:=by
 cases v with
 |ref a=>exact⟨a,rfl,h⟩
 |_=>exact h.elim
noncomputable def Tg (aa:ag)(v w:V)(Q:Bool->Prop):Prop:=match v with
 |.ref a=>VK w λb=>CZ aa a b Q
 |.int a=>Bc w (λb=>two (a=b) Q) λ_=>Q false
 |.str a=>Bc w (λ_=>Q false) λb=>two (a=b) Q
 |v=>Gy aa v w Q
noncomputable def SI (v w:V)(Q:Bool->Prop):Prop:=match v with
 |.str c=>(match w with
  |.str l=>(match c with|[x]=>two (x∈l) Q|_=>False)
  |.tup ws=>ws.all ig=true/\two (dZ c ws=true) Q
  |_=>False)
 |_=>False
noncomputable def Bh (op:iP)(aa:ag)(v w:V)(Q:Bool->Prop):Prop:=match op with
 |.lt=>gy v w λa b=>two (a<b) Q
 |.le=>gy v w λa b=>two (a<=b) Q
 |.gt=>gy v w λa b=>two (b<a) Q
 |.ge=>gy v w λa b=>two (b<=a) Q
 |.eq=>Tg aa v w Q
 |.ne=>Tg aa v w (kn Q)
 |.is=>IV v w Q
 |.nT=>IV v w (kn Q)
 |.isin=>SI v w Q
 |.dw=>SI v w (kn Q)
theorem JN {aa:ag}{v w:V}{Q:Bool->Prop}(h:Tg aa v w Q):Gy aa v w Q:=by
 cases v with
 |ref a=>obtain⟨b,rfl,h⟩:=L6 h;exact h.run
 |int a=>rcases fR h with⟨b,rfl,h⟩|⟨b,rfl,h⟩;exact m6 h;exact h
 |str a=>rcases fR h with⟨b,rfl,h⟩|⟨b,rfl,h⟩;exact h;exact m6 h
 |_=>exact h
theorem Jz {v w:V}{Q:Bool->Prop}(h:SI v w Q):Ni v w Q:=by
 cases v with
 |str c=>
  cases w with
  |str l=>
   match c,h with
   |[x],h=>exact m6 (p:=x∈l) h
   |[],h=>exact h.elim
   |_::_::_,h=>exact h.elim
  |tup l=>
   obtain⟨a,b⟩:l.all ig=true/\two (dZ c l=true) Q:=h
   refine⟨a,?_⟩
   have:=m6 b
   simpa using this
  |_=>exact h.elim
 |_=>exact h.elim
theorem tU {op:iP}{aa:ag}{v w:V}{Q:Bool->Prop}(h:Bh op aa v w Q):kM op aa v w Q:=by
 cases op with
 |eq=>exact JN h
 |ne=>exact JN (Q:=kn Q) h
 |is=>exact h
 |nT=>exact h
 |isin=>exact Jz h
 |dw=>exact Jz (Q:=kn Q) h
 |_=>obtain⟨a,b,rfl,rfl,h⟩:=jH h;exact m6 h
noncomputable def GV (v:V)(Q:Bool->Prop):Prop:=match v with
 |.bool b=>(b=true->Q true)/\(b=false->Q false)
 |.str l=>l.length<=1000000/\two (l≠[]) Q
 |_=>False
theorem DT {v:V}{Q:Bool->Prop}(h:GV v Q):z8 v Q:=by
 cases v with
 |bool b=>cases b;exact h.2 rfl;exact h.1 rfl
 |str l=>exact⟨h.1,m6 h.2⟩
 |_=>exact h.elim
theorem ff {p:Prop}(h:false=true):p:=by cases h
noncomputable def fw (e:PySem.Expr)(f:Str->Pos->Bool):Bool:=if h:e.ctorIdx=23 then Expr.Name.elim (motive_1:=λ_=>Bool) e h f else false
theorem de {e:PySem.Expr}{f:Str->Pos->Bool}(h:fw e f=true):GD (λa b=>e=.Name a b) (λa b=>f a b=true):=
 if k:e.ctorIdx=23 then Expr.Name.elim (motive_1:=λe=>fw e f=true->GD (λa b=>e=.Name a b) (λa b=>f a b=true)) e k (λa b h=>⟨a,b,rfl,h⟩) h else ff ((dif_neg k).symm.trans h)
noncomputable def ui (e:PySem.Expr)(f:Expr->Operator->Expr->Pos->Bool):Bool:=if h:e.ctorIdx=2 then Expr.BinOp.elim (motive_1:=λ_=>Bool) e h f else false
theorem za {e:PySem.Expr}{f:Expr->Operator->Expr->Pos->Bool}(h:ui e f=true):r8 (λa b c d=>e=.BinOp a b c d) (λa b c d=>f a b c d=true):=
 if k:e.ctorIdx=2 then Expr.BinOp.elim (motive_1:=λe=>ui e f=true->r8 (λa b c d=>e=.BinOp a b c d) (λa b c d=>f a b c d=true)) e k (λa b c d h=>⟨a,b,c,d,rfl,h⟩) h else ff ((dif_neg k).symm.trans h)
noncomputable def jQ (e:PySem.Expr)(f:UnaryOp->Expr->Pos->Bool):Bool:=if h:e.ctorIdx=3 then Expr.UnaryOp.elim (motive_1:=λ_=>Bool) e h f else false
theorem mK {e:PySem.Expr}{f:UnaryOp->Expr->Pos->Bool}(h:jQ e f=true):uZ (λa b c=>e=.UnaryOp a b c) (λa b c=>f a b c=true):=
 if k:e.ctorIdx=3 then Expr.UnaryOp.elim (motive_1:=λe=>jQ e f=true->uZ (λa b c=>e=.UnaryOp a b c) (λa b c=>f a b c=true)) e k (λa b c h=>⟨a,b,c,rfl,h⟩) h else ff ((dif_neg k).symm.trans h)
noncomputable def mw (e:PySem.Expr)(f:BoolOp->List Expr->Pos->Bool):Bool:=if h:e.ctorIdx=0 then Expr.BoolOp.elim (motive_1:=λ_=>Bool) e h f else false
theorem nZ {e:PySem.Expr}{f:BoolOp->List Expr->Pos->Bool}(h:mw e f=true):uZ (λa b c=>e=.BoolOp a b c) (λa b c=>f a b c=true):=
 if k:e.ctorIdx=0 then Expr.BoolOp.elim (motive_1:=λe=>mw e f=true->uZ (λa b c=>e=.BoolOp a b c) (λa b c=>f a b c=true)) e k (λa b c h=>⟨a,b,c,rfl,h⟩) h else ff ((dif_neg k).symm.trans h)
noncomputable def uh (e:PySem.Expr)(f:Expr->Expr->Expr->Pos->Bool):Bool:=if h:e.ctorIdx=5 then Expr.IfExp.elim (motive_1:=λ_=>Bool) e h f else false
theorem y' {e:PySem.Expr}{f:Expr->Expr->Expr->Pos->Bool}(h:uh e f=true):r8 (λa b c d=>e=.IfExp a b c d) (λa b c d=>f a b c d=true):=
 if k:e.ctorIdx=5 then Expr.IfExp.elim (motive_1:=λe=>uh e f=true->r8 (λa b c d=>e=.IfExp a b c d) (λa b c d=>f a b c d=true)) e k (λa b c d h=>⟨a,b,c,d,rfl,h⟩) h else ff ((dif_neg k).symm.trans h)
noncomputable def jT (e:PySem.Expr)(f:Expr->List CmpOp->List Expr->Pos->Bool):Bool:=if h:e.ctorIdx=15 then Expr.Compare.elim (motive_1:=λ_=>Bool) e h f else false
theorem mM {e:PySem.Expr}{f:Expr->List CmpOp->List Expr->Pos->Bool}(h:jT e f=true):r8 (λa b c d=>e=.Compare a b c d) (λa b c d=>f a b c d=true):=
 if k:e.ctorIdx=15 then Expr.Compare.elim (motive_1:=λe=>jT e f=true->r8 (λa b c d=>e=.Compare a b c d) (λa b c d=>f a b c d=true)) e k (λa b c d h=>⟨a,b,c,d,rfl,h⟩) h else ff ((dif_neg k).symm.trans h)
noncomputable def tN (e:PySem.Expr)(f:Expr->List Expr->List Keyword->Pos->Bool):Bool:=if h:e.ctorIdx=16 then Expr.Call.elim (motive_1:=λ_=>Bool) e h f else false
theorem sO {e:PySem.Expr}{f:Expr->List Expr->List Keyword->Pos->Bool}(h:tN e f=true):r8 (λa b c d=>e=.Call a b c d) (λa b c d=>f a b c d=true):=
 if k:e.ctorIdx=16 then Expr.Call.elim (motive_1:=λe=>tN e f=true->r8 (λa b c d=>e=.Call a b c d) (λa b c d=>f a b c d=true)) e k (λa b c d h=>⟨a,b,c,d,rfl,h⟩) h else ff ((dif_neg k).symm.trans h)
noncomputable def lA (e:PySem.Expr)(f:Const->Nat->Pos->Bool):Bool:=if h:e.ctorIdx=19 then Expr.Constant.elim (motive_1:=λ_=>Bool) e h f else false
theorem rH {e:PySem.Expr}{f:Const->Nat->Pos->Bool}(h:lA e f=true):uZ (λa b c=>e=.Constant a b c) (λa b c=>f a b c=true):=
 if k:e.ctorIdx=19 then Expr.Constant.elim (motive_1:=λe=>lA e f=true->uZ (λa b c=>e=.Constant a b c) (λa b c=>f a b c=true)) e k (λa b c h=>⟨a,b,c,rfl,h⟩) h else ff ((dif_neg k).symm.trans h)
noncomputable def cO (e:PySem.Expr)(f:Expr->Str->Pos->Bool):Bool:=if h:e.ctorIdx=20 then Expr.Attribute.elim (motive_1:=λ_=>Bool) e h f else false
theorem cK {e:PySem.Expr}{f:Expr->Str->Pos->Bool}(h:cO e f=true):uZ (λa b c=>e=.Attribute a b c) (λa b c=>f a b c=true):=
 if k:e.ctorIdx=20 then Expr.Attribute.elim (motive_1:=λe=>cO e f=true->uZ (λa b c=>e=.Attribute a b c) (λa b c=>f a b c=true)) e k (λa b c h=>⟨a,b,c,rfl,h⟩) h else ff ((dif_neg k).symm.trans h)
noncomputable def dR (e:PySem.Expr)(f:Expr->Expr->Pos->Bool):Bool:=if h:e.ctorIdx=21 then Expr.Subscript.elim (motive_1:=λ_=>Bool) e h f else false
theorem ei {e:PySem.Expr}{f:Expr->Expr->Pos->Bool}(h:dR e f=true):uZ (λa b c=>e=.Subscript a b c) (λa b c=>f a b c=true):=
 if k:e.ctorIdx=21 then Expr.Subscript.elim (motive_1:=λe=>dR e f=true->uZ (λa b c=>e=.Subscript a b c) (λa b c=>f a b c=true)) e k (λa b c h=>⟨a,b,c,rfl,h⟩) h else ff ((dif_neg k).symm.trans h)
noncomputable def yb (e:PySem.Expr)(f:List Expr->Pos->Bool):Bool:=if h:e.ctorIdx=24 then Expr.List.elim (motive_1:=λ_=>Bool) e h f else false
theorem BN {e:PySem.Expr}{f:List Expr->Pos->Bool}(h:yb e f=true):GD (λa b=>e=.List a b) (λa b=>f a b=true):=
 if k:e.ctorIdx=24 then Expr.List.elim (motive_1:=λe=>yb e f=true->GD (λa b=>e=.List a b) (λa b=>f a b=true)) e k (λa b h=>⟨a,b,rfl,h⟩) h else ff ((dif_neg k).symm.trans h)
noncomputable def l7 (e:PySem.Expr)(f:List Expr->Nat->Pos->Bool):Bool:=if h:e.ctorIdx=25 then Expr.Tuple.elim (motive_1:=λ_=>Bool) e h f else false
theorem lx {e:PySem.Expr}{f:List Expr->Nat->Pos->Bool}(h:l7 e f=true):uZ (λa b c=>e=.Tuple a b c) (λa b c=>f a b c=true):=
 if k:e.ctorIdx=25 then Expr.Tuple.elim (motive_1:=λe=>l7 e f=true->uZ (λa b c=>e=.Tuple a b c) (λa b c=>f a b c=true)) e k (λa b c h=>⟨a,b,c,rfl,h⟩) h else ff ((dif_neg k).symm.trans h)
noncomputable def ug (e:PySem.Expr)(f:Option Expr->Option Expr->Option Expr->Pos->Bool):Bool:=if h:e.ctorIdx=26 then Expr.Slice.elim (motive_1:=λ_=>Bool) e h f else false
theorem y8 {e:PySem.Expr}{f:Option Expr->Option Expr->Option Expr->Pos->Bool}(h:ug e f=true):r8 (λa b c d=>e=.Slice a b c d) (λa b c d=>f a b c d=true):=
 if k:e.ctorIdx=26 then Expr.Slice.elim (motive_1:=λe=>ug e f=true->r8 (λa b c d=>e=.Slice a b c d) (λa b c d=>f a b c d=true)) e k (λa b c d h=>⟨a,b,c,d,rfl,h⟩) h else ff ((dif_neg k).symm.trans h)
noncomputable def lz (e:PySem.Expr)(f:Expr->List Comprehension->Scope->Pos->Bool):Bool:=if h:e.ctorIdx=8 then Expr.ListComp.elim (motive_1:=λ_=>Bool) e h f else false
theorem rF {e:PySem.Expr}{f:Expr->List Comprehension->Scope->Pos->Bool}(h:lz e f=true):r8 (λa b c d=>e=.ListComp a b c d) (λa b c d=>f a b c d=true):=
 if k:e.ctorIdx=8 then Expr.ListComp.elim (motive_1:=λe=>lz e f=true->r8 (λa b c d=>e=.ListComp a b c d) (λa b c d=>f a b c d=true)) e k (λa b c d h=>⟨a,b,c,d,rfl,h⟩) h else ff ((dif_neg k).symm.trans h)
noncomputable def mu (e:PySem.Stmt)(f:Option Expr->Pos->Bool):Bool:=if h:e.ctorIdx=3 then Stmt.Return.elim (motive_2:=λ_=>Bool) e h f else false
theorem nY {e:PySem.Stmt}{f:Option Expr->Pos->Bool}(h:mu e f=true):GD (λa b=>e=.Return a b) (λa b=>f a b=true):=
 if k:e.ctorIdx=3 then Stmt.Return.elim (motive_2:=λe=>mu e f=true->GD (λa b=>e=.Return a b) (λa b=>f a b=true)) e k (λa b h=>⟨a,b,rfl,h⟩) h else ff ((dif_neg k).symm.trans h)
noncomputable def qi (e:PySem.Stmt)(f:List Expr->Expr->Pos->Bool):Bool:=if h:e.ctorIdx=5 then Stmt.Assign.elim (motive_2:=λ_=>Bool) e h f else false
theorem wM {e:PySem.Stmt}{f:List Expr->Expr->Pos->Bool}(h:qi e f=true):uZ (λa b c=>e=.Assign a b c) (λa b c=>f a b c=true):=
 if k:e.ctorIdx=5 then Stmt.Assign.elim (motive_2:=λe=>qi e f=true->uZ (λa b c=>e=.Assign a b c) (λa b c=>f a b c=true)) e k (λa b c h=>⟨a,b,c,rfl,h⟩) h else ff ((dif_neg k).symm.trans h)
noncomputable def eQ (e:PySem.Stmt)(f:Expr->Operator->Expr->Pos->Bool):Bool:=if h:e.ctorIdx=7 then Stmt.AugAssign.elim (motive_2:=λ_=>Bool) e h f else false
theorem fE {e:PySem.Stmt}{f:Expr->Operator->Expr->Pos->Bool}(h:eQ e f=true):r8 (λa b c d=>e=.AugAssign a b c d) (λa b c d=>f a b c d=true):=
 if k:e.ctorIdx=7 then Stmt.AugAssign.elim (motive_2:=λe=>eQ e f=true->r8 (λa b c d=>e=.AugAssign a b c d) (λa b c d=>f a b c d=true)) e k (λa b c d h=>⟨a,b,c,d,rfl,h⟩) h else ff ((dif_neg k).symm.trans h)
noncomputable def Dq (e:PySem.Stmt)(f:Expr->Expr->List Stmt->List Stmt->Pos->Bool):Bool:=if h:e.ctorIdx=9 then Stmt.For.elim (motive_2:=λ_=>Bool) e h f else false
theorem Fg {e:PySem.Stmt}{f:Expr->Expr->List Stmt->List Stmt->Pos->Bool}(h:Dq e f=true):Kx (λa b c d g=>e=.For a b c d g) (λa b c d g=>f a b c d g=true):=
 if k:e.ctorIdx=9 then Stmt.For.elim (motive_2:=λe=>Dq e f=true->Kx (λa b c d g=>e=.For a b c d g) (λa b c d g=>f a b c d g=true)) e k (λa b c d g h=>⟨a,b,c,d,g,rfl,h⟩) h else ff ((dif_neg k).symm.trans h)
noncomputable def uf (e:PySem.Stmt)(f:Expr->List Stmt->List Stmt->Pos->Bool):Bool:=if h:e.ctorIdx=11 then Stmt.While.elim (motive_2:=λ_=>Bool) e h f else false
theorem y7 {e:PySem.Stmt}{f:Expr->List Stmt->List Stmt->Pos->Bool}(h:uf e f=true):r8 (λa b c d=>e=.While a b c d) (λa b c d=>f a b c d=true):=
 if k:e.ctorIdx=11 then Stmt.While.elim (motive_2:=λe=>uf e f=true->r8 (λa b c d=>e=.While a b c d) (λa b c d=>f a b c d=true)) e k (λa b c d h=>⟨a,b,c,d,rfl,h⟩) h else ff ((dif_neg k).symm.trans h)
noncomputable def KQ (e:PySem.Stmt)(f:Expr->List Stmt->List Stmt->Pos->Bool):Bool:=if h:e.ctorIdx=12 then Stmt.If.elim (motive_2:=λ_=>Bool) e h f else false
theorem HI {e:PySem.Stmt}{f:Expr->List Stmt->List Stmt->Pos->Bool}(h:KQ e f=true):r8 (λa b c d=>e=.If a b c d) (λa b c d=>f a b c d=true):=
 if k:e.ctorIdx=12 then Stmt.If.elim (motive_2:=λe=>KQ e f=true->r8 (λa b c d=>e=.If a b c d) (λa b c d=>f a b c d=true)) e k (λa b c d h=>⟨a,b,c,d,rfl,h⟩) h else ff ((dif_neg k).symm.trans h)
noncomputable def onRaise (e:PySem.Stmt)(f:Option Expr->Option Expr->Pos->Bool):Bool:=if h:e.ctorIdx=16 then Stmt.Raise.elim (motive_2:=λ_=>Bool) e h f else false
theorem y9 {e:PySem.Stmt}{f:Option Expr->Option Expr->Pos->Bool}(h:onRaise e f=true):uZ (λa b c=>e=.Raise a b c) (λa b c=>f a b c=true):=
 if k:e.ctorIdx=16 then Stmt.Raise.elim (motive_2:=λe=>onRaise e f=true->uZ (λa b c=>e=.Raise a b c) (λa b c=>f a b c=true)) e k (λa b c h=>⟨a,b,c,rfl,h⟩) h else ff ((dif_neg k).symm.trans h)
noncomputable def Dp (e:PySem.Stmt)(f:List Stmt->List ExceptHandler->List Stmt->List Stmt->Pos->Bool):Bool:=if h:e.ctorIdx=17 then Stmt.Try.elim (motive_2:=λ_=>Bool) e h f else false
theorem Fe {e:PySem.Stmt}{f:List Stmt->List ExceptHandler->List Stmt->List Stmt->Pos->Bool}(h:Dp e f=true):Kx (λa b c d g=>e=.Try a b c d g) (λa b c d g=>f a b c d g=true):=
 if k:e.ctorIdx=17 then Stmt.Try.elim (motive_2:=λe=>Dp e f=true->Kx (λa b c d g=>e=.Try a b c d g) (λa b c d g=>f a b c d g=true)) e k (λa b c d g h=>⟨a,b,c,d,g,rfl,h⟩) h else ff ((dif_neg k).symm.trans h)
noncomputable def yc (e:PySem.Stmt)(f:Expr->Pos->Bool):Bool:=if h:e.ctorIdx=24 then Stmt.Expr.elim (motive_2:=λ_=>Bool) e h f else false
theorem BO {e:PySem.Stmt}{f:Expr->Pos->Bool}(h:yc e f=true):GD (λa b=>e=.Expr a b) (λa b=>f a b=true):=
 if k:e.ctorIdx=24 then Stmt.Expr.elim (motive_2:=λe=>yc e f=true->GD (λa b=>e=.Expr a b) (λa b=>f a b=true)) e k (λa b h=>⟨a,b,rfl,h⟩) h else ff ((dif_neg k).symm.trans h)
noncomputable def onContinue (e:PySem.Stmt)(f:Pos->Bool):Bool:=if h:e.ctorIdx=27 then Stmt.Continue.elim (motive_2:=λ_=>Bool) e h f else false
theorem rG {e:PySem.Stmt}{f:Pos->Bool}(h:onContinue e f=true):N7 (λa=>e=.Continue a) (λa=>f a=true):=
 if k:e.ctorIdx=27 then Stmt.Continue.elim (motive_2:=λe=>onContinue e f=true->N7 (λa=>e=.Continue a) (λa=>f a=true)) e k (λa h=>⟨a,rfl,h⟩) h else ff ((dif_neg k).symm.trans h)
noncomputable def Kh {α:Type}(l:List α)(f:α->Bool):Bool:=match l with
 |[]=>false
 |a::r=>(match r with
  |[]=>f a
  |_::_=>false)
theorem nk {α:Type}{l:List α}{f:α->Bool}(h:Kh l f=true):N7 (λa=>l=[a]) (λa=>f a=true):=by
 cases l with
 |nil=>exact ff h
 |cons a r=>cases r with
  |nil=>exact⟨a,rfl,h⟩
  |cons _ _=>exact ff h
noncomputable def RK {α:Type}(l:List α)(f:α->α->Bool):Bool:=match l with
 |[]=>false
 |a::r=>Kh r (f a)
theorem yl {α:Type}{l:List α}{f:α->α->Bool}(h:RK l f=true):GD (λa b=>l=[a,b]) (λa b=>f a b=true):=by
 cases l with
 |nil=>exact ff h
 |cons a r=>obtain⟨b,rfl,h⟩:=nk h;exact⟨a,b,rfl,h⟩
noncomputable def jJ {α:Type}(l:Option α)(f:α->Bool):Bool:=match l with
 |none=>false
 |some a=>f a
theorem gU {α:Type}{l:Option α}{f:α->Bool}(h:jJ l f=true):N7 (λa=>l=some a) (λa=>f a=true):=by
 cases l with
 |none=>exact ff h
 |some a=>exact⟨a,rfl,h⟩
noncomputable def l8 (e:Expr)(f:Str->List Expr->List Keyword->Bool):Bool:=tN e λg es ks _=>fw g λid _=>f id es ks
theorem iA {e:Expr}{f:Str->List Expr->List Keyword->Bool}(h:l8 e f=true):Kx (λid p es ks pos=>e=.Call (.Name id p) es ks pos) (λid p es ks pos=>f id es ks=true):=by
 obtain⟨g,es,ks,pos,rfl,h⟩:=sO h
 obtain⟨id,p,rfl,h⟩:=de h
 exact⟨id,p,es,ks,pos,rfl,h⟩
noncomputable def p4 (e:Expr)(f:Expr->Str->List Expr->Bool):Bool:=tN e λg es ks pos=>cO g λo x ap=>((ap.endLine==pos.line)&&ks.isEmpty&&decide (es.length<29))&&f o x es
theorem jS {e:Expr}{f:Expr->Str->List Expr->Bool}(h:p4 e f=true):∃o x es ap pos,e=.Call (.Attribute o x ap) es [] pos/\(ap.endLine==pos.line)=true/\es.length<29/\f o x es=true:=by
 obtain⟨g,es,ks,pos,rfl,h⟩:=sO h
 obtain⟨o,x,ap,rfl,q⟩:=cK h
 rw[Bool.and_eq_true,Bool.and_eq_true,Bool.and_eq_true,List.isEmpty_iff] at q
 obtain⟨⟨⟨a,rfl⟩,b⟩,q⟩:=q
 exact⟨o,x,es,ap,pos,rfl,a,tC b,q⟩
noncomputable def Jn (e:Expr)(f:Expr->Option Expr->Option Expr->Bool):Bool:=dR e λo i _=>ug i λlo hi st _=>st.isNone&&f o lo hi
theorem Ff {e:Expr}{f:Expr->Option Expr->Option Expr->Bool}(h:Jn e f=true):Kx (λo lo hi p pos=>e=.Subscript o (.Slice lo hi none p) pos) (λo lo hi p pos=>f o lo hi=true):=by
 obtain⟨o,i,pos,rfl,h⟩:=ei h
 obtain⟨lo,hi,st,p,rfl,q⟩:=y8 h
 rw[Bool.and_eq_true,Option.isNone_iff_eq_none] at q
 obtain⟨rfl,q⟩:=q
 exact⟨o,lo,hi,p,pos,rfl,q⟩
noncomputable def yd (e:Expr)(f:Expr->Comprehension->Scope->Pos->Bool):Bool:=lz e λelt gs scope pos=>Kh gs λg=>f elt g scope pos
theorem sN {e:Expr}{f:Expr->Comprehension->Scope->Pos->Bool}(h:yd e f=true):r8 (λelt g scope pos=>e=.ListComp elt [g] scope pos) (λelt g scope pos=>f elt g scope pos=true):=by
 obtain⟨elt,gs,scope,pos,rfl,h⟩:=rF h
 obtain⟨g,rfl,h⟩:=nk h
 exact⟨elt,g,scope,pos,rfl,h⟩
noncomputable def sh (t:Stmt)(f:Expr->Expr->Pos->Bool):Bool:=qi t λts v p=>Kh ts λg=>f g v p
theorem jn {t:Stmt}{f:Expr->Expr->Pos->Bool}(h:sh t f=true):uZ (λg v p=>t=.Assign [g] v p) (λg v p=>f g v p=true):=by
 obtain⟨ts,v,p,rfl,h⟩:=wM h
 obtain⟨g,rfl,h⟩:=nk h
 exact⟨g,v,p,rfl,h⟩
noncomputable def OJ (h:ExceptHandler)(f:Str->Option Str->List Stmt->Bool):Bool:=match h with
 |.ExceptHandler ty n ys _=>jJ ty λe=>fw e λx _=>!ys.isEmpty&&f x n ys
theorem HJ {h:ExceptHandler}{f:Str->Option Str->List Stmt->Bool}(k:OJ h f=true):∃x np n y ys hp,h=.ExceptHandler (some (.Name x np)) n (y::ys) hp/\f x n (y::ys)=true:=by
 obtain⟨ty,n,ys,hp⟩:=h
 obtain⟨e,rfl,k⟩:=gU k
 obtain⟨x,np,rfl,k⟩:=de k
 cases ys with
 |nil=>exact ff (show false=true from k)
 |cons y ys=>exact⟨x,np,n,y,ys,hp,rfl,k⟩
noncomputable def D3 (s:Stmt)(f:List Stmt->Str->Option Str->List Stmt->Bool):Bool:=Dp s λb hs o g _=>o.isEmpty&&g.isEmpty&&Kh hs λh=>OJ h (f b)
theorem BM {s:Stmt}{f:List Stmt->Str->Option Str->List Stmt->Bool}(h:D3 s f=true):∃b x n y ys np hp p,s=.Try b [.ExceptHandler (some (.Name x np)) n (y::ys) hp] [] [] p/\f b x n (y::ys)=true:=by
 obtain⟨b,hs,o,g,p,rfl,q⟩:=Fe h
 rw[Bool.and_eq_true,Bool.and_eq_true,List.isEmpty_iff,List.isEmpty_iff] at q
 obtain⟨⟨rfl,rfl⟩,q⟩:=q
 obtain⟨h',rfl,q⟩:=nk q
 obtain⟨x,np,n,y,ys,hp,rfl,q⟩:=HJ q
 exact⟨b,x,n,y,ys,np,hp,p,rfl,q⟩
structure Cx where
 names:List Str
 kinds:List (Str×NameKind)
 own:Bool
structure Lv (F:FC)(c:Cx):Prop where
 names:F.names=c.names
 kinds:F.env.scope.names=c.kinds
 cell:c.own=true->∀x,c.kinds.lookup x=some .cell->∃ca,F.env.cells.lookup x=some ca/\ca∈F.own
structure Ctx (G:GC)(F:FC)(c:Cx)(af:Nat):Prop where
 g:GB G
 ok:bK G F
 cx:Lv F c
 one:1<=af
abbrev W (α:Type):=GC->Option Value->Nat->St->(α->St->Prop)->(Ex->St->Prop)->Prop
noncomputable def I3:List Nat->List Nat->Bool
 |[],l=>(match l with|[]=>true|_::_=>false)
 |a::r,l=>(match l with|[]=>false|b::s=>(match Nat.beq a b with|true=>I3 r s|false=>false))
theorem pz:∀{a b:List Nat},I3 a b=true↔a=b
 |[],[]=>⟨λ_=>rfl,λ_=>rfl⟩
 |[],_::_=>⟨λh=>(by cases h),λh=>(by cases h)⟩
 |_::_,[]=>⟨λh=>(by cases h),λh=>(by cases h)⟩
 |a::r,b::s=>by
  show(match Nat.beq a b with|true=>I3 r s|false=>false)=true↔_
  cases h:Nat.beq a b with
  |true=>rw[Nat.eq_of_beq_eq_true h];simp only[pz,List.cons.injEq,true_and]
  |false=>exact⟨λk=>(by cases k),λk=>absurd (List.cons.inj k).1 (Nat.ne_of_beq_eq_false h)⟩
noncomputable def lH (a b:Str):Bool:=match a with|⟨⟨x⟩⟩=>(match b with|⟨⟨y⟩⟩=>I3 x y)
theorem uw {a b:Str}:lH a b=true↔a=b:=by
 obtain⟨⟨x⟩⟩:=a
 obtain⟨⟨y⟩⟩:=b
 show I3 x y=true↔_
 rw[pz];exact⟨λh=>by rw[h],λh=>by cases h;rfl⟩
theorem cB {a b:Str}(h:lH a b=true):a=b:=uw.mp h
theorem p8 {a b:Str}(h:lH a b=false):a≠b:=λe=>by rw[uw.mpr e] at h;cases h
noncomputable def i7 (x:Str):List Str->Bool
 |[]=>false
 |y::r=>lH y x||i7 x r
theorem dD {x:Str}:∀{l:List Str},i7 x l=true->x∈l:=by
 intro z_
 induction z_ with
 |nil=>
  intro h
  cases h
 |cons y r ih=>
  intro h
  rw[i7,Bool.or_eq_true] at h
  rcases h with h|h
  ·rw[cB h];exact .head _
  ·exact .tail _ (ih h)
noncomputable def RF {β:Type}(x:Str):List (Str×β)->Option β
 |[]=>none
 |(y,v)::r=>match lH x y with
  |true=>some v
  |false=>RF x r
theorem Mj {β:Type}{x:Str}:∀{l:List (Str×β)},RF x l=l.lookup x:=by
 intro z_
 induction z_ with
 |nil=>
  exact rfl
 |cons A8 r ih=>
  obtain⟨y,v⟩:=A8
  rw[RF,List.lookup_cons]
  cases h:lH x y with
  |true=>rw[cB h,beq_self_eq_true]
  |false=>rw[beq_eq_false_iff_ne.mpr (p8 h)];exact ih
noncomputable def isAt (l:List Str)(i:Nat)(x:Str):Bool:=match rj l i with
 |some y=>lH y x
 |none=>false
set_option tactic.hygienic true in
theorem ma {l:List Str}{i:Nat}{x:Str}(h:isAt l i x=true):rj l i=some x:=by
 unfold isAt at h
 split at h
 ·rename_i y e;rw[e,cB h]
 ·cases h
noncomputable def kindB (l:List (Str×NameKind))(x:Str)(k:NameKind):Bool:=match RF x l with
 |some k'=>k'==k
 |none=>false
set_option tactic.hygienic true in
theorem ee {l:List (Str×NameKind)}{x:Str}{k:NameKind}(h:kindB l x k=true):l.lookup x=some k:=by
 unfold kindB at h
 split at h
 ·rename_i y e;rw[←Mj,e,beq_iff_eq.mp h]
 ·cases h
noncomputable def plainId (x:Str):Bool:=!(lH x ("__debug__":Str))&&!(lH x ("__classdict__":Str))&&!(lH x ("__name__":Str))
theorem bF {x:Str}(h:plainId x=true):(x==("__debug__":Str))=false/\(x==("__classdict__":Str))=false/\x≠"__name__":=by
 unfold plainId at h
 rw[Bool.and_eq_true,Bool.and_eq_true,Bool.not_eq_true',Bool.not_eq_true',Bool.not_eq_true'] at h
 exact⟨beq_eq_false_iff_ne.mpr (p8 h.1.1),beq_eq_false_iff_ne.mpr (p8 h.1.2),p8 h.2⟩
noncomputable def G4 (c:Cx)(i:Nat)(x:Str):Bool:=plainId x&&isAt c.names i x
noncomputable def je (c:Cx)(x:Str):Bool:=plainId x&&kindB c.kinds x .globalImplicit
noncomputable def CW (c:Cx)(i:Nat)(x:Str):Bool:=G4 c i x&&(kindB c.kinds x .local||(c.own&&kindB c.kinds x .cell))
section
variable {G:GC}{F:FC}{c:Cx}{af:Nat}
theorem Ctx.loc (h:Ctx G F c af){i:Nat}{x:Str}(e:G4 c i x=true):(F.names[i]?:Option Str)=some x:=by
 rw[h.cx.names,←ie];exact ma (aQ e).2
theorem Ctx.kind (h:Ctx G F c af){x:Str}:F.env.kindOf x=c.kinds.lookup x:=by
 unfold Env.kindOf;rw[h.cx.kinds]
theorem Ctx.glob (h:Ctx G F c af){x:Str}(e:je c x=true):F.env.kindOf x=some .globalImplicit:=by
 rw[h.kind];exact ee (aQ e).2
theorem Ctx.Ny (h:Ctx G F c af){i:Nat}{x:Str}(e:CW c i x=true):eD F i x:=by
 obtain⟨a,b⟩:=aQ e
 refine⟨h.loc a,?_⟩
 rw[h.kind]
 rw[Bool.or_eq_true] at b
 rcases b with b|b
 ·exact .inl (ee b)
 ·obtain⟨pM,kN⟩:=aQ b
  exact .inr ⟨ee kN,h.cx.cell pM x (ee kN)⟩
end
structure EP where
 ck:Cx->Expr->Bool
 wp:W V
 ok:∀{G F c af e σ Q X},Ctx G F c af->ck c e=true->wp G F.hd af σ Q X->J G F af (aE G) (eval e F.env) σ Q X
structure TP where
 ck:Cx->Expr->Bool
 wp:W Bool
 ok:∀{G F c af e σ Q X},Ctx G F c af->ck c e=true->wp G F.hd af σ Q X->J G F af c8 (isTrue e F.env (eval e F.env)) σ Q X
theorem XX {X:Ex->St->Prop}:∀e σ,X e σ->X e σ:=λ_ _ h=>h
noncomputable def UR (v:V)(k:Const):Bool:=match v with
 |.none=>(match k with|.none=>true|_=>false)
 |.bool b=>(match k with|.bool a=>a==b|_=>false)
 |.int b=>(match k with|.int a=>a==b|_=>false)
 |.str b=>(match k with|.str a=>I3 a.cps.toList b|_=>false)
 |_=>false
noncomputable def OP (v:V)(_:Cx)(e:Expr):Bool:=lA e λk _ _=>UR v k
theorem Mk {v:V} {G F c af e σ Q}{X:Ex->St->Prop}(_:Ctx G F c af)(h:OP v c e=true)(q:Q v σ):J G F af (aE G) (eval e F.env) σ Q X:=by
 obtain⟨k,n,p,e',h'⟩:=rH h
 subst e'
 have h:=h'
 cases v with
 |none=>cases k with
  |none=>exact oP q
  |_=>exact ff h
 |bool b=>cases k with
  |bool a=>cases(show a=b from beq_iff_eq.mp h);exact oQ q
  |_=>exact ff h
 |int b=>cases k with
  |int a=>cases(show a=b from beq_iff_eq.mp h);exact q7 q
  |_=>exact ff h
 |str b=>cases k with
  |str a=>cases(show a.cps.toList=b from pz.mp h);exact q6 rfl q
  |_=>exact ff h
 |_=>exact ff h
section
variable (G:GC)(hd:Option Value)(af:Nat)(X:Ex->St->Prop)
noncomputable def kv (Q:V->St->Prop)(σ:St)(v:V):Prop:=Q v σ
noncomputable def kb (Q:V->St->Prop)(σ:St)(t:Bool):Prop:=Q (.bool t) σ
noncomputable def kt (Q:Bool->St->Prop)(σ:St)(t:Bool):Prop:=Q t σ
noncomputable def kl (Q:V->St->Prop)(l:List (Option V))(v:V)(d:ag):Prop:=Q v ⟨l,d⟩
noncomputable def kx (l:List (Option V))(e:Ex)(d:ag):Prop:=X e ⟨l,d⟩
noncomputable def kd (Q:St->Prop)(l:List (Option V))(d:ag):Prop:=Q ⟨l,d⟩
end
noncomputable def lit (v:V):EP:=⟨OP v,λ_ _ _ σ Q _=>Q v σ,Mk⟩
noncomputable def pJ (i:Nat)(σ:St)(Q:V->Prop):Prop:=match rj σ.loc i with
 |some (some v)=>Q v
 |_=>False
noncomputable def OO (i:Nat)(c:Cx)(e:Expr):Bool:=fw e λx _=>G4 c i x
theorem Mi {i:Nat} {G F c af e σ}{Q:V->St->Prop}{X:Ex->St->Prop}(H:Ctx G F c af)(h:OO i c e=true)(q:pJ i σ λv=>Q v σ):J G F af (aE G) (eval e F.env) σ Q X:=by
 obtain⟨x,p,e',h'⟩:=de h
 subst e'
 have h:=h'
 unfold pJ at q
 split at q
 ·rename_i v hv
  obtain⟨a,b,_⟩:=bF (aQ h).1
  exact Fo H.ok (H.loc h) (by rw[←ie];exact hv) a b q
 ·exact q.elim
noncomputable def loc (i:Nat):EP:=⟨OO i,λ_ _ _ σ Q _=>pJ i σ (kv Q σ),Mi⟩
noncomputable def JJ (k:Nat)(c:Cx)(e:Expr):Bool:=fw e λx _=>je c x&&(match rj consts k with|some (y,_)=>lH y x|none=>false)
set_option tactic.hygienic true in
theorem H8 {k:Nat} {G F c af e σ}{Q:V->St->Prop}{X:Ex->St->Prop}(H:Ctx G F c af)(h:JJ k c e=true)(q:match rj consts k with|some (_,v)=>Q v σ|none=>False):J G F af (aE G) (eval e F.env) σ Q X:=by
 obtain⟨x,p,e',h'⟩:=de h
 subst e'
 have h:=h'
 obtain⟨h1,h2⟩:=aQ h
 split at q
 ·rename_i y v hv
  rw[hv] at h2
  have h2:=cB h2
  subst h2
  obtain⟨w,e1,e2⟩:=H.g.consts _ _ _ hv
  exact B9 H.ok e1 (H.glob h1) (bF (aQ h1).1).1 e2 q
 ·exact q.elim
noncomputable def glob (k:Nat):EP:=⟨JJ k,λ_ _ _ σ Q _=>match rj consts k with|some (_,v)=>Q v σ|none=>False,H8⟩
noncomputable def Oc (n:String)(c:Cx)(e:Expr):Bool:=fw e λx _=>je c x&&i7 x jN&&lH x (n:Str)&&(n=="int"||n=="bool")
theorem LC {n:String} {G F c af e σ}{Q:V->St->Prop}{X:Ex->St->Prop}(H:Ctx G F c af)(h:Oc n c e=true)(q:Q (.ty n) σ):J G F af (aE G) (eval e F.env) σ Q X:=by
 obtain⟨x,p,e',h'⟩:=de h
 subst e'
 have h:=h'
 obtain⟨h1,h2,h3,h4⟩:=dF h
 have h3:=cB h3
 subst h3
 intro A s D hA S
 have hb:bootBuiltins (n:Str)=some (.type n):=by
  rw[Bool.or_eq_true] at h4
  rcases h4 with h4|h4<;>(rw[beq_iff_eq.mp h4];rfl)
 obtain⟨d1,d2,d3⟩:=bF (aQ h1).1
 exact eg H.ok S (H.g.bi _ (dD h2)) (H.glob h1) d1 d3 hb ⟨.ty n,σ,D,S,.refl,.ty n,q⟩
noncomputable def CK (n:String):EP:=⟨Oc n,λ_ _ _ σ Q _=>Q (.ty n) σ,LC⟩
noncomputable def Pr (op:jY)(a b:EP)(c:Cx)(e:Expr):Bool:=ui e λl o r _=>decide (o=op.op)&&a.ck c l&&b.ck c r
structure C0 (op:jY)(a:Addr)(w:V)(aa:ag)(Q:V->ag->Prop):Prop where
 run:xR op (.ref a) w aa Q
noncomputable def Pp (op:jY)(v w:V)(aa:ag)(Q:V->ag->Prop):Prop:=match v with
 |.ref a=>C0 op a w aa Q
 |v=>xR op v w aa Q
theorem M5 {op:jY}{v w:V}{aa:ag}{Q:V->ag->Prop}(h:Pp op v w aa Q):xR op v w aa Q:=by
 cases v with
 |ref a=>exact h.run
 |_=>exact h
noncomputable def UY (op:jY)(Q:V->St->Prop)(u v:V)(σ:St):Prop:=Pp op u v σ.aa (kl Q σ.loc)
noncomputable def UZ (op:jY)(b:EP)(G:GC)(hd:Option Value)(af:Nat)(Q:V->St->Prop)(X:Ex->St->Prop)(u:V)(σ:St):Prop:=b.wp G hd af σ (UY op Q u) X
noncomputable def Pq (op:jY)(a b:EP):W V:=λG hd af σ Q X=>a.wp G hd af σ (UZ op b G hd af Q X) X
theorem M4 {op:jY}{a b:EP} {G F c af e σ}{Q:V->St->Prop}{X:Ex->St->Prop}(H:Ctx G F c af)(h:Pr op a b c e=true)(q:Pq op a b G F.hd af σ Q X):J G F af (aE G) (eval e F.env) σ Q X:=by
 obtain⟨l,o,r,p,e',h'⟩:=za h
 subst e'
 have h:=h'
 obtain⟨h1,h2,h3⟩:=cM h
 have h1:=tC h1
 subst h1
 exact Ge ((a.ok H h2 q).mono (λu ae au=>(b.ok H h3 au).mono (λv ar aS=>Cy op (M5 aS)) XX) XX)
noncomputable def bin (op:jY)(a b:EP):EP:=⟨Pr op a b,Pq op a b,M4⟩
noncomputable def OL (a:EP)(c:Cx)(e:Expr):Bool:=jQ e λo x _=>decide (o=.USub)&&a.ck c x
theorem Mb {a:EP} {G F c af e σ}{Q:V->St->Prop}{X:Ex->St->Prop}(H:Ctx G F c af)(h:OL a c e=true)(q:a.wp G F.hd af σ (λu ae=>KW u λv=>Q v ae) X):J G F af (aE G) (eval e F.env) σ Q X:=by
 obtain⟨o,x,p,e',h'⟩:=mK h
 subst e'
 have h:=h'
 obtain⟨h1,h2⟩:=aQ h
 cases tC h1
 exact Hm ((a.ok H h2 q).mono (λu ae au=>BQ au) XX)
noncomputable def TZ (Q:V->St->Prop)(u:V)(σ:St):Prop:=KW u (kv Q σ)
noncomputable def neg (a:EP):EP:=⟨OL a,λG hd af σ Q X=>a.wp G hd af σ (TZ Q) X,Mb⟩
noncomputable def C9 (op:iP)(a b:EP)(c:Cx)(e:Expr):Bool:=jT e λl os rs _=>Kh os λo=>Kh rs λr=>decide (o=op.op)&&!behindInMarks op.op r&&a.ck c l&&b.ck c r
theorem AW {op:iP}{a b:EP}{c:Cx}{e:Expr}(h:C9 op a b c e=true):∃l r p,e=.Compare l [op.op] [r] p/\behindInMarks op.op r=false/\a.ck c l=true/\b.ck c r=true:=by
 obtain⟨l,os,rs,p,e',h⟩:=mM h
 obtain⟨o,e1,h⟩:=nk h
 obtain⟨r,e2,h⟩:=nk h
 subst e' e1 e2
 obtain⟨h1,h2,h3,h4⟩:=dF h
 cases tC h1
 exact⟨l,r,p,rfl,by simpa using h2,h3,h4⟩
noncomputable def US (op:iP)(Q:V->St->Prop)(u v:V)(σ:St):Prop:=kM op σ.aa u v (kb Q σ)
noncomputable def UT (op:iP)(b:EP)(G:GC)(hd:Option Value)(af:Nat)(Q:V->St->Prop)(X:Ex->St->Prop)(u:V)(σ:St):Prop:=b.wp G hd af σ (US op Q u) X
noncomputable def Pn (op:iP)(a b:EP):W V:=λG hd af σ Q X=>a.wp G hd af σ (UT op b G hd af Q X) X
theorem MW {op:iP}{a b:EP} {G F c af e σ}{Q:V->St->Prop}{X:Ex->St->Prop}(H:Ctx G F c af)(h:C9 op a b c e=true)(q:Pn op a b G F.hd af σ Q X):J G F af (aE G) (eval e F.env) σ Q X:=by
 obtain⟨l,r,p,rfl,hm,h2,h3⟩:=AW h
 exact F5 hm ((a.ok H h2 q).mono (λu ae au=>(b.ok H h3 au).mono (λv ar aS=>fj H.ok H.one op aS) XX) XX)
noncomputable def cmp (op:iP)(a b:EP):EP:=⟨C9 op a b,Pn op a b,MW⟩
noncomputable def Tx (op:iP)(Q:Bool->St->Prop)(u v:V)(σ:St):Prop:=Bh op σ.aa u v (kt Q σ)
noncomputable def Tz (op:iP)(b:EP)(G:GC)(hd:Option Value)(af:Nat)(Q:Bool->St->Prop)(X:Ex->St->Prop)(u:V)(σ:St):Prop:=b.wp G hd af σ (Tx op Q u) X
noncomputable def Pm (op:iP)(a b:EP):W Bool:=λG hd af σ Q X=>a.wp G hd af σ (Tz op b G hd af Q X) X
theorem Hq {op:iP}{a b:EP} {G F c af e σ}{Q:Bool->St->Prop}{X:Ex->St->Prop}(H:Ctx G F c af)(h:C9 op a b c e=true)(q:Pm op a b G F.hd af σ Q X):J G F af c8 (isTrue e F.env (eval e F.env)) σ Q X:=by
 obtain⟨l,r,p,rfl,hm,h2,h3⟩:=AW h
 exact Bq hm ((a.ok H h2 q).mono (λu ae au=>(b.ok H h3 au).mono (λv ar aS=>fj H.ok H.one op (fk _ _ (λt ht=>⟨t,rfl,ht⟩) (tU aS))) XX) XX)
noncomputable def aq (op:iP)(a b:EP):TP:=⟨C9 op a b,Pm op a b,Hq⟩
noncomputable def qa (p q:iP)(x y z:EP)(c:Cx)(e:Expr):Bool:=jT e λl os rs _=>RK os λo o'=>RK rs λr r'=>(decide (o=p.op)&&decide (o'=q.op)&&!behindInMarks q.op r')&&(x.ck c l&&y.ck c r&&z.ck c r')
theorem tp {p q:iP}{x y z:EP}{c:Cx}{e:Expr}(h:qa p q x y z c e=true):∃l r r' pos,e=.Compare l [p.op,q.op] [r,r'] pos/\behindInMarks q.op r'=false/\x.ck c l=true/\y.ck c r=true/\z.ck c r'=true:=by
 obtain⟨l,os,rs,p,e',h⟩:=mM h
 obtain⟨o,o',e1,h⟩:=yl h
 obtain⟨r,r',e2,h⟩:=yl h
 subst e' e1 e2
 obtain⟨h0,h9⟩:=aQ h
 obtain⟨h1,h2,h3⟩:=cM h0
 cases tC h1
 cases tC h2
 exact⟨l,r,r',p,rfl,by simpa using h3,cM h9⟩
noncomputable def YG (q:iP)(Q:V->St->Prop)(v w:V)(σ:St):Prop:=kM q σ.aa v w (kb Q σ)
noncomputable def YH (q:iP)(z:EP)(G:GC)(hd:Option Value)(af:Nat)(Q:V->St->Prop)(X:Ex->St->Prop)(v:V)(σ:St)(t:Bool):Prop:=match t with
 |true=>z.wp G hd af σ (YG q Q v) X
 |false=>Q (.bool false) σ
noncomputable def YI (p q:iP)(z:EP)(G:GC)(hd:Option Value)(af:Nat)(Q:V->St->Prop)(X:Ex->St->Prop)(u v:V)(σ:St):Prop:=Bh p σ.aa u v (YH q z G hd af Q X v σ)
noncomputable def YJ (p q:iP)(y z:EP)(G:GC)(hd:Option Value)(af:Nat)(Q:V->St->Prop)(X:Ex->St->Prop)(u:V)(σ:St):Prop:=y.wp G hd af σ (YI p q z G hd af Q X u) X
noncomputable def EG (p q:iP)(x y z:EP):W V:=λG hd af σ Q X=>x.wp G hd af σ (YJ p q y z G hd af Q X) X
theorem F6 {p q:iP}{x y z:EP} {G F c af e σ}{Q:V->St->Prop}{X:Ex->St->Prop}(H:Ctx G F c af)(h:qa p q x y z c e=true)(w:EG p q x y z G F.hd af σ Q X):J G F af (aE G) (eval e F.env) σ Q X:=by
 obtain⟨l,r,r',pos,rfl,hm,h2,h3,h4⟩:=tp h
 exact zE H.ok H.one hm ((x.ok H h2 w).mono (λu ae au=>(y.ok H h3 au).mono (λv ar aS=>fk _ _ (λt ht=>by cases t;exact ht;exact z.ok H h4 ht) (tU aS)) XX) XX)
noncomputable def chain (p q:iP)(x y z:EP):EP:=⟨qa p q x y z,EG p q x y z,F6⟩
noncomputable def YC (q:iP)(Q:Bool->St->Prop)(v w:V)(σ:St):Prop:=Bh q σ.aa v w (kt Q σ)
noncomputable def YD (q:iP)(z:EP)(G:GC)(hd:Option Value)(af:Nat)(Q:Bool->St->Prop)(X:Ex->St->Prop)(v:V)(σ:St)(t:Bool):Prop:=match t with
 |true=>z.wp G hd af σ (YC q Q v) X
 |false=>Q false σ
noncomputable def YE (p q:iP)(z:EP)(G:GC)(hd:Option Value)(af:Nat)(Q:Bool->St->Prop)(X:Ex->St->Prop)(u v:V)(σ:St):Prop:=Bh p σ.aa u v (YD q z G hd af Q X v σ)
noncomputable def YF (p q:iP)(y z:EP)(G:GC)(hd:Option Value)(af:Nat)(Q:Bool->St->Prop)(X:Ex->St->Prop)(u:V)(σ:St):Prop:=y.wp G hd af σ (YE p q z G hd af Q X u) X
noncomputable def EF (p q:iP)(x y z:EP):W Bool:=λG hd af σ Q X=>x.wp G hd af σ (YF p q y z G hd af Q X) X
theorem Br {p q:iP}{x y z:EP} {G F c af e σ}{Q:Bool->St->Prop}{X:Ex->St->Prop}(H:Ctx G F c af)(h:qa p q x y z c e=true)(w:EF p q x y z G F.hd af σ Q X):J G F af c8 (isTrue e F.env (eval e F.env)) σ Q X:=by
 obtain⟨l,r,r',pos,rfl,hm,h2,h3,h4⟩:=tp h
 exact wB H.ok H.one hm ((x.ok H h2 w).mono (λu ae au=>(y.ok H h3 au).mono (λv ar aS=>fk _ _ (λt ht=>by cases t;exact ht;exact(z.ok H h4 ht).mono (λ_ _ i6=>tU i6) XX) (tU aS)) XX) XX)
noncomputable def tK (p q:iP)(x y z:EP):TP:=⟨qa p q x y z,EF p q x y z,Br⟩
noncomputable def plainT (e:Expr):Bool:=!(Nat.beq e.ctorIdx 3||Nat.beq e.ctorIdx 0||Nat.beq e.ctorIdx 5||Nat.beq e.ctorIdx 15)
theorem BK {e:Expr}(h:plainT e=true)(env:Env)(whole:Sem Value):isTrue e env whole=(do let v ←whole;standAt e.pos;holding [v] (truthy v)):=by
 cases e with
 |UnaryOp=>cases h
 |BoolOp=>cases h
 |IfExp=>cases h
 |Compare=>cases h
 |_=>rfl
noncomputable def Og (Q:Bool->St->Prop)(u:V)(σ:St):Prop:=GV u (kt Q σ)
noncomputable def Of (a:EP)(c:Cx)(e:Expr):Bool:=plainT e&&a.ck c e
theorem LF {a:EP} {G F c af e σ}{Q:Bool->St->Prop}{X:Ex->St->Prop}(H:Ctx G F c af)(h:Of a c e=true)(q:a.wp G F.hd af σ (Og Q) X):J G F af c8 (isTrue e F.env (eval e F.env)) σ Q X:=by
 obtain⟨h1,h2⟩:=aQ h
 exact wA (BK h1 _ _) ((a.ok H h2 q).mono (λu ae au=>Bo (DT au)) XX)
noncomputable def oZ (a:EP):TP:=⟨Of a,λG hd af σ Q X=>a.wp G hd af σ (Og Q) X,LF⟩
noncomputable def OK (t:TP)(c:Cx)(e:Expr):Bool:=jQ e λo x _=>decide (o=.Not)&&t.ck c x
theorem L9 {t:TP} {G F c af e σ}{Q:Bool->St->Prop}{X:Ex->St->Prop}(H:Ctx G F c af)(h:OK t c e=true)(q:t.wp G F.hd af σ (λb ae=>Q (!b) ae) X):J G F af c8 (isTrue e F.env (eval e F.env)) σ Q X:=by
 obtain⟨o,x,p,e',h'⟩:=mK h
 subst e'
 have h:=h'
 obtain⟨h1,h2⟩:=aQ h
 cases tC h1
 exact Bp (t.ok H h2 q)
noncomputable def TX (Q:Bool->St->Prop)(b:Bool)(σ:St):Prop:=Q (!b) σ
noncomputable def A' (t:TP):TP:=⟨OK t,λG hd af σ Q X=>t.wp G hd af σ (TX Q) X,L9⟩
noncomputable def De (c:Cx):List TP->List Expr->Bool
 |[],es=>es.isEmpty
 |t::ts,es=>match es with
  |e::r=>t.ck c e&&De c ts r
  |[]=>false
noncomputable def U7 (k:St->Prop)(Q:Bool->St->Prop)(b:Bool)(σ:St):Prop:=match b with
 |true=>k σ
 |false=>Q false σ
noncomputable def W3 (k:St->Prop)(Q:Bool->St->Prop)(b:Bool)(σ:St):Prop:=match b with
 |true=>Q true σ
 |false=>k σ
noncomputable def Hc (G:GC)(hd:Option Value)(af:Nat)(Q:Bool->St->Prop)(X:Ex->St->Prop):List TP->St->Prop
 |[],σ=>Q true σ
 |t::ts,σ=>t.wp G hd af σ (U7 (Hc G hd af Q X ts) Q) X
noncomputable def Hb (G:GC)(hd:Option Value)(af:Nat)(Q:Bool->St->Prop)(X:Ex->St->Prop):List TP->St->Prop
 |[],σ=>Q false σ
 |t::ts,σ=>t.wp G hd af σ (W3 (Hb G hd af Q X ts) Q) X
theorem IL {G F c af}{Q:Bool->St->Prop}{X:Ex->St->Prop}(H:Ctx G F c af):∀(ts:List TP)(es:List Expr)(σ:St),De c ts es=true->Hc G F.hd af Q X ts σ->J G F af c8 (allTrue .And es F.env) σ Q X:=by
 intro z_
 induction z_ with
 |nil=>
  intro es σ h q
  rw[List.isEmpty_iff.mp h];exact uT q
 |cons t ts ih=>
  intro c_ σ h q
  cases c_ with
  |nil=>
   cases h
  |cons e r=>
   obtain⟨h1,h2⟩:=aQ h
   exact rU ((t.ok H h1 q).mono (λb ae au=>by cases b;exact au;exact ih r ae h2 au) XX)
theorem II {G F c af}{Q:Bool->St->Prop}{X:Ex->St->Prop}(H:Ctx G F c af):∀(ts:List TP)(es:List Expr)(σ:St),De c ts es=true->Hb G F.hd af Q X ts σ->J G F af c8 (allTrue .Or es F.env) σ Q X:=by
 intro z_
 induction z_ with
 |nil=>
  intro es σ h q
  rw[List.isEmpty_iff.mp h];exact wL q
 |cons t ts ih=>
  intro c_ σ h q
  cases c_ with
  |nil=>
   cases h
  |cons e r=>
   obtain⟨h1,h2⟩:=aQ h
   exact uJ ((t.ok H h1 q).mono (λb ae au=>by cases b;exact ih r ae h2 au;exact au) XX)
noncomputable def C' (op:BoolOp)(ts:List TP)(c:Cx)(e:Expr):Bool:=mw e λo es _=>decide (o=op)&&De c ts es
theorem A0 {op:BoolOp}{ts:List TP}{c:Cx}{e:Expr}(h:C' op ts c e=true):∃es p,e=.BoolOp op es p/\De c ts es=true:=by
 obtain⟨o,es,p,e',h'⟩:=nZ h
 subst e'
 have h:=h'
 obtain⟨h1,h2⟩:=aQ h;have h1:=tC h1;subst h1;exact⟨es,p,rfl,h2⟩
theorem Hs {ts:List TP} {G F c af e σ}{Q:Bool->St->Prop}{X:Ex->St->Prop}(H:Ctx G F c af)(h:C' .And ts c e=true)(q:Hc G F.hd af Q X ts σ):J G F af c8 (isTrue e F.env (eval e F.env)) σ Q X:=by
 obtain⟨es,p,rfl,h⟩:=A0 h
 exact qy (IL H ts es σ h q)
theorem Hr {ts:List TP} {G F c af e σ}{Q:Bool->St->Prop}{X:Ex->St->Prop}(H:Ctx G F c af)(h:C' .Or ts c e=true)(q:Hb G F.hd af Q X ts σ):J G F af c8 (isTrue e F.env (eval e F.env)) σ Q X:=by
 obtain⟨es,p,rfl,h⟩:=A0 h
 exact qy (II H ts es σ h q)
noncomputable def eE (ts:List TP):TP:=⟨C' .And ts,λG hd af σ Q X=>Hc G hd af Q X ts σ,Hs⟩
noncomputable def gw (ts:List TP):TP:=⟨C' .Or ts,λG hd af σ Q X=>Hb G hd af Q X ts σ,Hr⟩
noncomputable def VH (a b:EP)(c:Cx)(e:Expr):Bool:=mw e λo es _=>decide (o=.Or)&&RK es λx y=>a.ck c x&&b.ck c y
noncomputable def W4 (b:EP)(G:GC)(hd:Option Value)(af:Nat)(Q:V->St->Prop)(X:Ex->St->Prop)(v:V)(σ:St)(t:Bool):Prop:=match t with
 |true=>Q v σ
 |false=>b.wp G hd af σ Q X
noncomputable def W5 (b:EP)(G:GC)(hd:Option Value)(af:Nat)(Q:V->St->Prop)(X:Ex->St->Prop)(v:V)(σ:St):Prop:=GV v (W4 b G hd af Q X v σ)
noncomputable def VG (a b:EP):W V:=λG hd af σ Q X=>a.wp G hd af σ (W5 b G hd af Q X) X
theorem Qb {a b:EP} {G F c af e σ}{Q:V->St->Prop}{X:Ex->St->Prop}(H:Ctx G F c af)(h:VH a b c e=true)(q:VG a b G F.hd af σ Q X):J G F af (aE G) (eval e F.env) σ Q X:=by
 obtain⟨o,es,p,e',h⟩:=nZ h
 obtain⟨h0,h⟩:=aQ h
 obtain⟨x,y,e1,h⟩:=yl h
 cases tC h0
 subst e' e1
 obtain⟨h1,h2⟩:=aQ h
 refine HF ((a.ok H h1 q).mono (λv ae au=>DT ?_) XX)
 cases v with
 |bool t=>exact⟨au.1,λe=>b.ok H h2 (au.2 e)⟩
 |str l=>exact⟨au.1,au.2.1,λe=>b.ok H h2 (au.2.2 e)⟩
 |_=>exact au
noncomputable def W2 (a b:EP):EP:=⟨VH a b,VG a b,Qb⟩
noncomputable def O4 (t:TP)(a b:EP)(c:Cx)(e:Expr):Bool:=uh e λx y z _=>t.ck c x&&a.ck c y&&b.ck c z
noncomputable def Uh (a b:EP)(G:GC)(hd:Option Value)(af:Nat)(Q:V->St->Prop)(X:Ex->St->Prop)(r:Bool)(σ:St):Prop:=match r with
 |true=>a.wp G hd af σ Q X
 |false=>b.wp G hd af σ Q X
noncomputable def O3 (t:TP)(a b:EP):W V:=λG hd af σ Q X=>t.wp G hd af σ (Uh a b G hd af Q X) X
theorem My {t:TP}{a b:EP} {G F c af e σ}{Q:V->St->Prop}{X:Ex->St->Prop}(H:Ctx G F c af)(h:O4 t a b c e=true)(q:O3 t a b G F.hd af σ Q X):J G F af (aE G) (eval e F.env) σ Q X:=by
 obtain⟨x,y,z,p,e',h'⟩:=y' h
 subst e'
 have h:=h'
 obtain⟨h1,h2,h3⟩:=cM h
 exact zq ((t.ok H h1 q).mono (λr ae au=>by cases r;exact b.ok H h3 au;exact a.ok H h2 au) XX)
noncomputable def eX (t:TP)(a b:EP):EP:=⟨O4 t a b,O3 t a b,My⟩
noncomputable def CT (c:Cx):List EP->List Expr->Bool
 |[],es=>es.isEmpty
 |a::as,es=>match es with
  |e::r=>noStar e&&a.ck c e&&CT c as r
  |[]=>false
noncomputable def JS {α:Type}(Q:List α->St->Prop)(v:α)(vs:List α)(σ:St):Prop:=Q (v::vs) σ
noncomputable def Yx {α:Type}(k:St->(List α->St->Prop)->Prop)(Q:List α->St->Prop)(v:α)(σ:St):Prop:=k σ (JS Q v)
noncomputable def r6 (G:GC)(hd:Option Value)(af:Nat)(X:Ex->St->Prop):List EP->St->(List V->St->Prop)->Prop
 |[],σ,Q=>Q [] σ
 |a::as,σ,Q=>a.wp G hd af σ (Yx (r6 G hd af X as) Q) X
theorem pT {G F c af}{X:Ex->St->Prop}(H:Ctx G F c af)(pos:Pos):∀(as:List EP)(es:List Expr)(σ:St)(Q:List V->St->Prop),CT c as es=true->r6 G F.hd af X as σ Q->J G F af (iD G) (spliced (backTo pos (starEach es F.env))) σ Q X:=by
 intro z_
 induction z_ with
 |nil=>
  intro es σ Q h q
  rw[List.isEmpty_iff.mp h];exact fF q
 |cons a as ih=>
  intro c_ σ Q h q
  cases c_ with
  |nil=>
   cases h
  |cons e r=>
   obtain⟨h0,h1,h2⟩:=cM h
   exact iH h0 ((a.ok H h1 q).mono (λv ae au=>ih r ae _ h2 au) XX)
theorem me {c}:∀{as:List EP}{es:List Expr},CT c as es=true->es.all noStar=true:=by
 intro z_
 induction z_ with
 |nil=>
  intro es h
  rw[List.isEmpty_iff.mp h];rfl
 |cons a as ih=>
  intro c_ h
  cases c_ with
  |nil=>
   cases h
  |cons e r=>
   obtain⟨h0,h1,h2⟩:=cM h
   rw[List.all_cons,h0,ih h2];rfl
noncomputable def Oe (as:List EP)(c:Cx)(e:Expr):Bool:=l7 e λes _ _=>CT c as es
noncomputable def Tv (Q:V->St->Prop)(vs:List V)(σ:St):Prop:=vs.length<=1000/\Q (.tup vs) σ
noncomputable def Od (as:List EP):W V:=λG hd af σ Q X=>r6 G hd af X as σ (Tv Q)
theorem LD {as:List EP} {G F c af e σ}{Q:V->St->Prop}{X:Ex->St->Prop}(H:Ctx G F c af)(h:Oe as c e=true)(q:Od as G F.hd af σ Q X):J G F af (aE G) (eval e F.env) σ Q X:=by
 obtain⟨es,k,p,e',h'⟩:=lx h
 subst e'
 have h:=h'
 exact yL (pT H _ as es σ _ h q)
noncomputable def tup (as:List EP):EP:=⟨Oe as,Od as,LD⟩
noncomputable def OR (as:List EP)(c:Cx)(e:Expr):Bool:=yb e λes _=>CT c as es
noncomputable def KV (xs:List V)(σ:St)(Q:V->St->Prop):Prop:=∀a,σ.aa a=none->Q (.ref a) ⟨σ.loc,put σ.aa a (.list xs)⟩
noncomputable def T6 (Q:V->St->Prop)(vs:List V)(σ:St):Prop:=vs.length<=1000/\KV vs σ Q
noncomputable def OQ (as:List EP):W V:=λG hd af σ Q X=>r6 G hd af X as σ (T6 Q)
theorem Ml {as:List EP} {G F c af e σ}{Q:V->St->Prop}{X:Ex->St->Prop}(H:Ctx G F c af)(h:OR as c e=true)(q:OQ as G F.hd af σ Q X):J G F af (aE G) (eval e F.env) σ Q X:=by
 obtain⟨es,p,e',h'⟩:=BN h
 subst e'
 have h:=h'
 exact BV (pT H _ as es σ _ h q)
noncomputable def gv (as:List EP):EP:=⟨OR as,OQ as,Ml⟩
structure fu (G:GC)(hd:Option Value)(af:Nat)(f:Addr)(vs:List V)(kw:List (Str×V))(σ:St)(Q:V->St->Prop)(X:Ex->St->Prop):Prop where
 run:b5 G (·=hd) af f vs kw σ.aa (kl Q σ.loc) (kx X σ.loc)
theorem cW {G:GC}{hd:Option Value}{l af:Nat}{f:Addr}{vs:List V}{kw:List (Str×V)}{loc:List (Option V)}{aa:ag}{Q:V->St->Prop}{X:Ex->St->Prop}(k:l<=af)
  (h:b5 G (·=hd) l f vs kw aa (kl Q loc) (kx X loc)):fu G hd af f vs kw ⟨loc,aa⟩ Q X:=⟨h.lift k⟩
noncomputable def callC (f:Str)(as:List EP)(c:Cx)(e:Expr):Bool:=l8 e λid es ks=>je c id&&lH id f&&i7 id dP&&(ks.isEmpty&&CT c as es)
theorem IA {f:Str}{as:List EP} {G F c af e σ}{Q:V->St->Prop}{X:Ex->St->Prop}(H:Ctx G F c af)(h:callC f as c e=true)(q:r6 G F.hd af X as σ (λvs ae=>fu G F.hd af (Z G f) vs [] ae Q X)):J G F af (aE G) (eval e F.env) σ Q X:=by
 obtain⟨id,p,es,ks,pos,e',h'⟩:=iA h
 subst e'
 have h:=h'
 obtain⟨h1,h2,h3,h4⟩:=dF h
 obtain⟨h4,h5⟩:=aQ h4
 have h2:=cB h2
 subst h2
 cases List.isEmpty_iff.mp h4
 obtain⟨e1,e2⟩:=H.g.prog _ (dD h3)
 exact Cr (H:=(·=F.hd)) H.ok e1 (H.glob h1) (bF (aQ h1).1).1 e2 (me h5) rfl ((pT H _ as es σ _ h5 q).mono (λ_ _ q=>q.run) XX)
noncomputable def Rc (f:Str)(G:GC)(hd:Option Value)(af:Nat)(Q:V->St->Prop)(X:Ex->St->Prop)(vs:List V)(σ:St):Prop:=fu G hd af (Z G f) vs [] σ Q X
noncomputable def aj (f:Str)(as:List EP):EP:=⟨callC f as,λG hd af σ Q X=>r6 G hd af X as σ (Rc f G hd af Q X),IA⟩
noncomputable def RH (c:Cx):List (Str×EP)->List Keyword->Bool
 |[],ks=>ks.isEmpty
 |(x,a)::as,ks=>match ks with
  |⟨some y,e,_⟩::r=>lH x y&&a.ck c e&&RH c as r
  |_=>false
noncomputable def Xj (k:St->(List (Str×V)->St->Prop)->Prop)(Q:List (Str×V)->St->Prop)(x:Str)(v:V)(σ:St):Prop:=k σ (JS Q (x,v))
noncomputable def RG (G:GC)(hd:Option Value)(af:Nat)(X:Ex->St->Prop):List (Str×EP)->St->(List (Str×V)->St->Prop)->Prop
 |[],σ,Q=>Q [] σ
 |(x,a)::as,σ,Q=>a.wp G hd af σ (Xj (RG G hd af X as) Q x) X
theorem Fu {G F af}{X:Ex->St->Prop}:∀(ks:List Keyword)(σ:St)(Q Q':List (Str×V)->St->Prop),(∀l σ,Q l σ->Q' l σ)->Nu G F af ks σ Q X->Nu G F af ks σ Q' X:=by
 intro ks
 induction ks with
 |nil=>exact λσ Q Q' m h=>m _ _ h
 |cons w r ih=>
  intro σ Q Q' m h
  obtain⟨_|x,e,p⟩:=w
  ·exact h.elim
  ·exact J.mono h (λv ae q=>ih ae _ _ (λl σ=>m _ σ) q) XX
theorem HW {c:Cx}:∀(as:List (Str×EP))(r:List Keyword),RH c as r=true->r.all (λk=>match k with|⟨some _,_,_⟩=>true|_=>false)=true:=by
 intro as
 induction as with
 |nil=>intro r h;rw[List.isEmpty_iff.mp h];rfl
 |cons b bs ih=>
  intro r h
  cases r with
  |nil=>cases h
  |cons w r'=>
   obtain⟨_|y,e,p⟩:=w
   ·cases h
   ·rw[List.all_cons];exact ih r' (cM h).2.2
theorem Qp {G F c af}{X:Ex->St->Prop}(H:Ctx G F c af):∀(as:List (Str×EP))(ks:List Keyword)(σ:St)(Q:List (Str×V)->St->Prop),RH c as ks=true->RG G F.hd af X as σ Q->Nu G F af ks σ Q X/\ks.all (λk=>match k with|⟨some _,_,_⟩=>true|_=>false)=true:=by
 intro as
 induction as with
 |nil=>intro ks σ Q h q;rw[List.isEmpty_iff.mp h];exact⟨q,rfl⟩
 |cons xa as ih=>
  intro ks σ Q h q
  obtain⟨x,a⟩:=xa
  cases ks with
  |nil=>cases h
  |cons w r=>
   obtain⟨_|y,e,p⟩:=w
   ·cases h
   obtain⟨h0,h1,h2⟩:=cM h
   have h0:=cB h0
   subst h0
   exact⟨(a.ok H h1 q).mono (λv ae au=>(ih r ae _ h2 au).1) XX,by rw[List.all_cons];exact HW as r h2⟩
noncomputable def Ed (f:Str)(as:List (Str×EP))(c:Cx)(e:Expr):Bool:=l8 e λid es ks=>je c id&&lH id f&&i7 id dP&&(es.isEmpty&&RH c as ks)
theorem Fw {f:Str}{as:List (Str×EP)} {G F c af e σ}{Q:V->St->Prop}{X:Ex->St->Prop}(H:Ctx G F c af)(h:Ed f as c e=true)(q:RG G F.hd af X as σ (λl ae=>fu G F.hd af (Z G f) [] l ae Q X)):J G F af (aE G) (eval e F.env) σ Q X:=by
 obtain⟨id,p,es,ks,pos,e',h'⟩:=iA h
 subst e'
 have h:=h'
 obtain⟨h1,h2,h3,h4⟩:=dF h
 obtain⟨h4,h5⟩:=aQ h4
 have h2:=cB h2
 subst h2
 cases List.isEmpty_iff.mp h4
 obtain⟨e1,e2⟩:=H.g.prog _ (dD h3)
 obtain⟨k1,k2⟩:=Qp H as ks σ _ h5 q
 exact zj (H:=(·=F.hd)) H.ok e1 (H.glob h1) (bF (aQ h1).1).1 e2 k2 rfl (Fu ks σ _ _ (λ_ _ q=>q.run) k1)
noncomputable def Qq (f:Str)(as:List (Str×EP)):EP:=⟨Ed f as,λG hd af σ Q X=>RG G hd af X as σ (λl ae=>fu G hd af (Z G f) [] l ae Q X),Fw⟩
noncomputable def WA (b:Bi)(as:List EP)(c:Cx)(e:Expr):Bool:=l8 e λid es ks=>je c id&&lH id b.id&&i7 id jN&&(ks.isEmpty&&CT c as es)
structure KN (b:Bi)(a:Addr)(aa:ag)(Q:V->Prop):Prop where
 run:N4 b [.ref a] aa Q
noncomputable def U0 (b:Bi)(aa:ag)(Q:V->Prop)(v:V):Prop:=match v with
 |.ref a=>KN b a aa Q
 |v=>N4 b [v] aa Q
noncomputable def Wz (b:Bi)(vs:List V)(aa:ag)(Q:V->Prop):Prop:=DO vs (U0 b aa Q) λv w=>N4 b [v,w] aa Q
theorem Rg {b:Bi}{vs:List V}{aa:ag}{Q:V->Prop}(h:Wz b vs aa Q):N4 b vs aa Q:=by
 rcases wx h with⟨v,rfl,h⟩|⟨v,w,rfl,h⟩
 ·cases v with
  |ref a=>exact h.run
  |_=>exact h
 ·exact h
theorem fS {a:Addr}{l:List V}{aa:ag}{Q:V->Prop}(h:aa a=some (.list l))(q:Q (.int l.length)):KN .len a aa Q:=⟨cQ h q⟩
noncomputable def WB (b:Bi)(Q:V->St->Prop)(vs:List V)(σ:St):Prop:=Wz b vs σ.aa (kv Q σ)
noncomputable def R6 (b:Bi)(as:List EP):W V:=λG hd af σ Q X=>match hd with
 |none=>r6 G none af X as σ (WB b Q)
 |some _=>False
theorem Rf {b:Bi}{as:List EP} {G F c af e σ}{Q:V->St->Prop}{X:Ex->St->Prop}(H:Ctx G F c af)(h:WA b as c e=true)(q:R6 b as G F.hd af σ Q X):J G F af (aE G) (eval e F.env) σ Q X:=by
 obtain⟨id,p,es,ks,pos,e',h'⟩:=iA h
 subst e'
 have h:=h'
 obtain⟨h1,h2,h3,h4⟩:=dF h
 obtain⟨h4,h5⟩:=aQ h4
 have h2:=cB h2
 subst h2
 cases List.isEmpty_iff.mp h4
 have hh:F.hd=none:=by
  unfold R6 at q
  split at q
  ·rename_i hh;exact hh
  ·exact q.elim
 have q:r6 G F.hd af X as σ (WB b Q):=by
  unfold R6 at q;rw[hh] at q ⊢;exact q
 exact zW H.ok (H.g.bi _ (dD h3)) (H.glob h1) (bF (aQ h1).1).1 (bF (aQ h1).1).2.2 (c:=b.val) (by cases b<;>rfl)
  (by cases b<;>first|exact .inl ⟨_,rfl⟩|exact .inr ⟨_,rfl⟩) (me h5) ((pT H _ as es σ _ h5 q).mono (λvs ae au=>Gf H.ok hh b (Rg au)) XX)
noncomputable def bN (b:Bi)(as:List EP):EP:=⟨WA b as,R6 b as,Rf⟩
noncomputable def VS (m:Me)(a:EP)(as:List EP)(c:Cx)(e:Expr):Bool:=p4 e λo x es=>dz o&&lH x m.name&&a.ck c o&&CT c as es
structure G0 (m:Me)(a:Addr)(r:List V)(aa:ag)(Q:V->ag->Prop):Prop where
 run:NF m (.ref a::r) aa Q
structure KL (m:Me)(s:List Nat)(a:Addr)(aa:ag)(Q:V->ag->Prop):Prop where
 run:NF m [.str s,.ref a] aa Q
noncomputable def Xf (m:Me)(s:List Nat)(aa:ag)(Q:V->ag->Prop)(w:V):Prop:=match w with
 |.ref a=>KL m s a aa Q
 |w=>NF m [.str s,w] aa Q
noncomputable def SD (m:Me)(vs:List V)(aa:ag)(Q:V->ag->Prop):Prop:=match vs with
 |[]=>False
 |v::r=>(match v with
  |.ref a=>G0 m a r aa Q
  |.str s=>xT r (Xf m s aa Q)
  |_=>False)
theorem Qm {m:Me}{vs:List V}{aa:ag}{Q:V->ag->Prop}(h:SD m vs aa Q):NF m vs aa Q:=by
 cases vs with
 |nil=>exact h.elim
 |cons v r=>cases v with
  |ref a=>exact h.run
  |str s=>
   obtain⟨w,rfl,h⟩:=jO h
   cases w with
   |ref a=>exact h.run
   |_=>exact h
  |_=>exact h.elim
theorem uB {a:Addr}{l:List V}{v:V}{aa:ag}{Q:V->ag->Prop}(h:aa a=some (.list l))(hz:l.length<1000000)(q:Q .none (put aa a (.list (l++[v])))):G0 .append a [v] aa Q:=⟨cQ h ⟨hz,q⟩⟩
theorem HD {a:Addr}{l:List V}{v:V}{aa:ag}{Q:V->ag->Prop}(h:aa a=some (.list (v::l)))(q:Q v (put aa a (.list l))):G0 .pop a [.int 0] aa Q:=⟨cQ h ⟨rfl,q⟩⟩
theorem jo {a:Addr}{ps:List (List Nat)}{aa:ag}{Q:V->ag->Prop}(h:aa a=some (.list (ps.map .str)))(hz:ps.flatten.length<=1000000)(q:Q (.str ps.flatten) aa):KL .join [] a aa Q:=⟨cQ h ⟨ps,rfl,hz,q⟩⟩
theorem lQ {a:Addr}{l:List V}{aa:ag}(h:aa a=some (.list l)):uq (.ref a) aa:=D4 h trivial
noncomputable def Xh (m:Me)(Q:V->St->Prop)(v:V)(vs:List V)(σ:St):Prop:=SD m (v::vs) σ.aa (kl Q σ.loc)
noncomputable def Xi (m:Me)(as:List EP)(G:GC)(hd:Option Value)(af:Nat)(Q:V->St->Prop)(X:Ex->St->Prop)(v:V)(σ:St):Prop:=m.recv v σ.aa/\r6 G hd af X as σ (Xh m Q v)
noncomputable def VR (m:Me)(a:EP)(as:List EP):W V:=λG hd af σ Q X=>a.wp G hd af σ (Xi m as G hd af Q X) X
theorem Ql {m:Me}{a:EP}{as:List EP} {G F c af e σ}{Q:V->St->Prop}{X:Ex->St->Prop}(H:Ctx G F c af)(h:VS m a as c e=true)(q:VR m a as G F.hd af σ Q X):J G F af (aE G) (eval e F.env) σ Q X:=by
 obtain⟨o,x,es,ap,pos,e',hl,hn,h'⟩:=jS h
 subst e'
 have h:=h'
 obtain⟨h1,h2,h3,h4⟩:=dF h
 have h2:=cB h2
 subst h2
 exact zT h1 (me h4) hl hn ((a.ok H h3 q).mono (λv ae au=>⟨y2 H.ok m au.1,(pT H _ as es ae _ h4 au.2).mono (λvs ar aS=>Fi H.ok m (Qm aS)) XX⟩) XX)
noncomputable def e9 (m:Me)(a:EP)(as:List EP):EP:=⟨VS m a as,VR m a as,Ql⟩
noncomputable def yn (b:Bool):Str:=if b then "turn" else "next_record"
noncomputable def Dv (b:Bool):Nat:=if b then 4 else 6
noncomputable def VY (b:Bool)(a:EP)(c:Cx)(e:Expr):Bool:=p4 e λo x es=>dz o&&lH x (yn b)&&a.ck c o&&es.isEmpty
noncomputable def Xr (b:Bool)(G:GC)(hd:Option Value)(af:Nat)(Q:V->St->Prop)(X:Ex->St->Prop)(v:V)(σ:St):Prop:=∃r dx vals,v=.ref r/\σ.aa r=some (ob G (Dv b) dx vals)/\fu G hd af (dm G (Dv b) (yn b)) [v] [] σ Q X
noncomputable def VX (b:Bool)(a:EP):W V:=λG hd af σ Q X=>a.wp G hd af σ (Xr b G hd af Q X) X
theorem Qw {b:Bool}{a:EP} {G F c af e σ}{Q:V->St->Prop}{X:Ex->St->Prop}(H:Ctx G F c af)(h:VY b a c e=true)(q:VX b a G F.hd af σ Q X):J G F af (aE G) (eval e F.env) σ Q X:=by
 obtain⟨o,x,es,ap,pos,e',hl,hn,h'⟩:=jS h
 subst e'
 have h:=h'
 obtain⟨h1,h2,h3,h4⟩:=dF h
 have h2:=cB h2
 subst h2
 cases List.isEmpty_iff.mp h4
 refine zo (H:=(·=F.hd)) (f:=dm G (Dv b) (yn b)) H.ok h1 rfl hl hn rfl ((a.ok H h3 q).mono (λv ae au=>?_) XX)
 obtain⟨r,dx,vals,rfl,gY,au⟩:=au
 refine⟨r,_,dx,_,rfl,gY,?_,?_,fF au.run⟩
 ·cases b
  ·exact sV (by decide)
  ·exact sV (by decide)
 ·cases b
  ·exact H.g.e9.2
  ·exact H.g.e9.1
noncomputable def lR (b:Bool)(a:EP):EP:=⟨VY b a,VX b a,Qw⟩
noncomputable def Wy (k:Nat)(as:List EP)(c:Cx)(e:Expr):Bool:=p4 e λo x es=>(fw o λid _=>je c id&&lH id (clsName k))&&lH x ("__init__":Str)&&(k==0||k==2)&&CT c as es
theorem Ra {k:Nat}{as:List EP} {G F c af e σ}{Q:V->St->Prop}{X:Ex->St->Prop}(H:Ctx G F c af)(h:Wy k as c e=true)(q:r6 G F.hd af X as σ (λvs ae=>fu G F.hd af (dm G k "__init__") vs [] ae Q X)):J G F af (aE G) (eval e F.env) σ Q X:=by
 obtain⟨o,x,es,ap,pos,e',hl,hn,h'⟩:=jS h
 subst e'
 have h:=h'
 obtain⟨h1,h2,h3,h4⟩:=dF h
 have h2:=cB h2
 subst h2
 obtain⟨id,p,e',GQ⟩:=de h1
 subst e'
 have h1:=GQ
 obtain⟨h5,h6⟩:=aQ h1
 have h6:=cB h6
 subst h6
 have hk:nsIn G.K mainGlobals (clsName k)=some (some (.ref (ZC G k)))/\il G.K (ZC G k) "__init__" (dm G k "__init__")=true:=by
  rw[Bool.or_eq_true] at h3
  rcases h3 with h3|h3
  ·rw[beq_iff_eq.mp h3];exact⟨H.g.sx.1,H.g.sx.2.1⟩
  ·rw[beq_iff_eq.mp h3];exact⟨(H.g.prog _ (dD (by decide+kernel))).1,H.g.sx.2.2⟩
 exact zA (H:=(·=F.hd)) H.ok hk.1 (H.glob h5) (bF (aQ h5).1).1 hk.2 (me h4) hl hn rfl ((pT H _ as es σ _ h4 q).mono (λ_ _ q=>q.run) XX)
noncomputable def sx (k:Nat)(as:List EP):EP:=⟨Wy k as,λG hd af σ Q X=>r6 G hd af X as σ (λvs ae=>fu G hd af (dm G k "__init__") vs [] ae Q X),Ra⟩
noncomputable def Wx (as:List EP)(c:Cx)(e:Expr):Bool:=p4 e λo x es=>(fw o λid _=>je c id&&lH id ("Exception":Str))&&lH x ("__init__":Str)&&CT c as es
noncomputable def Wv (as:List EP):W V:=λG hd af σ Q X=>r6 G hd af X as σ (λvs ae=>match vs with
 |.ref a::r=>(∃k,k<4/\ae.aa a=some (.bare (ZC G k)))/\r.length<=1000/\Q .none ae
 |_=>False)
theorem Q1 {as:List EP} {G F c af e σ}{Q:V->St->Prop}{X:Ex->St->Prop}(H:Ctx G F c af)(h:Wx as c e=true)(q:Wv as G F.hd af σ Q X):J G F af (aE G) (eval e F.env) σ Q X:=by
 obtain⟨o,x,es,ap,pos,e',hl,hn,h'⟩:=jS h
 subst e'
 have h:=h'
 obtain⟨h1,h2,h4⟩:=cM h
 have h2:=cB h2
 subst h2
 obtain⟨id,p,e',GQ⟩:=de h1
 subst e'
 have h1:=GQ
 obtain⟨h5,h6⟩:=aQ h1
 have h6:=cB h6
 subst h6
 refine yM (T:="Exception") (i:="Exception.__init__") H.ok (H.g.bi _ (dD (by decide+kernel))) (H.glob h5) (bF (aQ h5).1).1 (bF (aQ h5).1).2.2 rfl rfl H.g.tm (me h4) hl hn
  ((pT H _ as es σ _ h4 q).mono (λvs ae au=>?_) XX)
 intro A s D cs hA S hv
 split at au
 ·rename_i a r
  obtain⟨⟨k,hk,gY⟩,hz,au⟩:=au
  cases hv with
  |cons hv Nj=>
   cases hv
   exact wW H.ok S gY (H.g.Bf k hk).2.2.2.1 (by rw[Nj.length];exact hz) λs' D' S' K'=>⟨.none,_,D',S',K',.none,au⟩
 ·exact au.elim
noncomputable def MO (as:List EP):EP:=⟨Wx as,Wv as,Q1⟩
noncomputable def J6 (k i:Nat)(a:EP)(c:Cx)(e:Expr):Bool:=cO e λo x _=>dz o&&isAt (kL k) i x&&a.ck c o
noncomputable def Rm (k i:Nat)(G:GC)(Q:V->St->Prop)(v:V)(σ:St):Prop:=bG G σ.aa v k i (kv Q σ)
noncomputable def J5 (k i:Nat)(a:EP):W V:=λG hd af σ Q X=>a.wp G hd af σ (Rm k i G Q) X
theorem IF {k i:Nat}{a:EP} {G F c af e σ}{Q:V->St->Prop}{X:Ex->St->Prop}(H:Ctx G F c af)(h:J6 k i a c e=true)(q:J5 k i a G F.hd af σ Q X):J G F af (aE G) (eval e F.env) σ Q X:=by
 obtain⟨o,x,p,e',h'⟩:=cK h
 subst e'
 have h:=h'
 obtain⟨h1,h2,h3⟩:=cM h
 have h2:=ma h2
 rw[ie] at h2
 exact wb H.ok h1 ((a.ok H h3 q).mono (λv ae au=>Es H.g h2 au) XX)
noncomputable def attr (k i:Nat)(a:EP):EP:=⟨J6 k i a,J5 k i a,IF⟩
noncomputable def JV (a:EP)(c:Cx)(e:Expr):Bool:=cO e λo x _=>dz o&&lH x ("code":Str)&&a.ck c o
noncomputable def JU (a:EP):W V:=λG hd af σ Q X=>a.wp G hd af σ (λv ae=>JK G ae.aa v "code" λu=>Q u ae) X
theorem Iy {a:EP} {G F c af e σ}{Q:V->St->Prop}{X:Ex->St->Prop}(H:Ctx G F c af)(h:JV a c e=true)(q:JU a G F.hd af σ Q X):J G F af (aE G) (eval e F.env) σ Q X:=by
 obtain⟨o,x,p,e',h'⟩:=cK h
 subst e'
 have h:=h'
 obtain⟨h1,h2,h3⟩:=cM h
 have h2:=cB h2
 subst h2
 exact wb H.ok h1 ((a.ok H h3 q).mono (λv ae au=>H9 H.g au) XX)
noncomputable def Q9 (a:EP):EP:=⟨JV a,JU a,Iy⟩
noncomputable def mx (e:Expr):Bool:=!(Nat.beq e.ctorIdx 26)
theorem wN {e:Expr}(h:mx e=true):∀o x,subscripted e false o x=operate [o,x] (getItem o x):=by
 cases e with
 |Slice=>cases h
 |_=>exact λ_ _=>rfl
theorem uK {e:Expr}(h:mx e=true):∀ov iv new,augStore e ov iv new=(do holding [new,ov,iv] (setItem ov iv new);release [new,ov,iv] [];pure .next):=by
 cases e with
 |Slice=>cases h
 |_=>exact λ_ _ _=>rfl
structure lL (v w:V)(aa:ag)(Q:V->Prop):Prop where
 run:sk aa Q v w
theorem fB {α:Type}{l:List α}{n:Nat}:pick l (n:Int)=l[n]?:=by
 unfold pick;rw[aL (by exact a10 0x68c0094 tt)];simp
theorem item_str {l:List Nat}{i:Int}{c:Nat}{aa:ag}{Q:V->Prop}(h:pick l i=some c)(b:-1000000000<=i/\i<=1000000000)(q:Q (.str [c])):lL (.str l) (.int i) aa Q:=⟨.str b.1 b.2 h q⟩
theorem item_tup {l:List V}{i:Int}{c:V}{aa:ag}{Q:V->Prop}(h:pick l i=some c)(b:-1000000000<=i/\i<=1000000000)(q:Q c):lL (.tup l) (.int i) aa Q:=⟨.tup b.1 b.2 h q⟩
theorem bx {a:Addr}{l:List V}{i:Int}{c:V}{aa:ag}{Q:V->Prop}(hl:aa a=some (.list l))(h:pick l i=some c)(b:-1000000000<=i/\i<=1000000000)(q:Q c):lL (.ref a) (.int i) aa Q:=
 ⟨.ref hl b.1 b.2 h q⟩
structure vc (C:Frag)(nm:Bool)(v:V)(lo hi:Option V)(aa:ag)(Q:V->ag->Prop):Prop where
 run:pX C nm lo hi aa Q v
theorem aZ (n:Nat):bound (some (.int (n:Int)))=some (some n):=by
 show(if 0<=(n:Int) then some (some (n:Int).toNat) else none)=_
 rw[aL (by exact a10 0x68c0094 tt)];simp
theorem aV {C:Frag}{nm:Bool}{l:List Nat}{lo hi:Option V}{a b:Option Nat}{aa:ag}{Q:V->ag->Prop}(hl:l.length<=1000000)(ha:bound lo=some a)(hb:bound hi=some b)(q:Q (.str (cut l a b)) aa):vc C nm (.str l) lo hi aa Q:=
 ⟨.str ha hb hl q⟩
theorem BA {C:Frag}{r:Addr}{l:List V}{lo hi:Option V}{a b:Option Nat}{aa:ag}{Q:V->ag->Prop}(hr:sm C aa r l)(ha:bound lo=some a)(hb:bound hi=some b)(q:∀c,aa c=none->Q (.ref c) (put aa c (.list (cut l a b)))):vc C true (.ref r) lo hi aa Q:=
 ⟨.ref ha hb rfl hr q⟩
theorem Bz {C:Frag}{l:List V}{k:Nat}{aa:ag}{Q:V->ag->Prop}(h1:1<=k)(h2:k<=l.length)(h3:l.length<=1000000)(q:Q (.tup (l.drop k)) aa):vc C true (.tup l) (some (.int (k:Int))) none aa Q:=
 ⟨.tup (aZ k) rfl rfl h1 h2 h3 q⟩
noncomputable def Jy (a b:EP)(c:Cx)(e:Expr):Bool:=dR e λo i _=>mx i&&a.ck c o&&b.ck c i
noncomputable def Qs (Q:V->St->Prop)(v w:V)(σ:St):Prop:=lL v w σ.aa (kv Q σ)
noncomputable def Qt (b:EP)(G:GC)(hd:Option Value)(af:Nat)(Q:V->St->Prop)(X:Ex->St->Prop)(v:V)(σ:St):Prop:=b.wp G hd af σ (Qs Q v) X
noncomputable def Jw (a b:EP):W V:=λG hd af σ Q X=>a.wp G hd af σ (Qt b G hd af Q X) X
theorem HZ {a b:EP} {G F c af e σ}{Q:V->St->Prop}{X:Ex->St->Prop}(H:Ctx G F c af)(h:Jy a b c e=true)(q:Jw a b G F.hd af σ Q X):J G F af (aE G) (eval e F.env) σ Q X:=by
 obtain⟨o,i,p,e',h'⟩:=ei h
 subst e'
 have h:=h'
 obtain⟨h1,h2,h3⟩:=cM h
 exact B2 H.ok (wN h1) ((a.ok H h2 q).mono (λv ae au=>(b.ok H h3 au).mono (λ_ _ q=>q.run) XX) XX)
noncomputable def item (a b:EP):EP:=⟨Jy a b,Jw a b,HZ⟩
noncomputable def Sp (c:Cx)(a:Option EP)(e:Option Expr):Bool:=match a,e with
 |none,none=>true
 |some a,some e=>a.ck c e
 |_,_=>false
noncomputable def RA (Q:Option V->St->Prop)(v:V)(σ:St):Prop:=Q (some v) σ
noncomputable def Nd (G:GC)(hd:Option Value)(af:Nat)(X:Ex->St->Prop)(a:Option EP)(σ:St)(Q:Option V->St->Prop):Prop:=match a with
 |none=>Q none σ
 |some a=>a.wp G hd af σ (RA Q) X
theorem Jl {G F c af}{X:Ex->St->Prop}(H:Ctx G F c af){a:Option EP}{e:Option Expr}{σ:St}{Q Q':Option V->St->Prop}(h:Sp c a e=true)(q:Nd G F.hd af X a σ Q)(m:∀v σ,Q v σ->Q' v σ):JO G F af e σ Q' X:=by
 cases a<;>cases e
 ·exact m _ _ q
 ·cases h
 ·cases h
 ·exact(EP.ok _ H h q).mono (λv ae au=>m _ _ au) XX
noncomputable def Ox (nm:Bool)(a:EP)(lo hi:Option EP)(c:Cx)(e:Expr):Bool:=Jn e λo l h=>(jK o==nm)&&a.ck c o&&Sp c lo l&&Sp c hi h
noncomputable def TB (nm:Bool)(G:GC)(Q:V->St->Prop)(v:V)(x y:Option V)(σ:St):Prop:=vc G.C nm v x y σ.aa (kl Q σ.loc)
noncomputable def TC (nm:Bool)(hi:Option EP)(G:GC)(hd:Option Value)(af:Nat)(Q:V->St->Prop)(X:Ex->St->Prop)(v:V)(x:Option V)(σ:St):Prop:=Nd G hd af X hi σ (TB nm G Q v x)
noncomputable def TF (nm:Bool)(lo hi:Option EP)(G:GC)(hd:Option Value)(af:Nat)(Q:V->St->Prop)(X:Ex->St->Prop)(v:V)(σ:St):Prop:=Nd G hd af X lo σ (TC nm hi G hd af Q X v)
noncomputable def Ow (nm:Bool)(a:EP)(lo hi:Option EP):W V:=λG hd af σ Q X=>a.wp G hd af σ (TF nm lo hi G hd af Q X) X
theorem LN {nm:Bool}{a:EP}{lo hi:Option EP} {G F c af e σ}{Q:V->St->Prop}{X:Ex->St->Prop}(H:Ctx G F c af)(h:Ox nm a lo hi c e=true)(q:Ow nm a lo hi G F.hd af σ Q X):J G F af (aE G) (eval e F.env) σ Q X:=by
 obtain⟨o,l,hh,p,pos,e',h'⟩:=Ff h
 subst e'
 have h:=h'
 obtain⟨h1,h2,h3,h4⟩:=dF h
 have h1:=beq_iff_eq.mp h1
 subst h1
 exact yT H.ok ((a.ok H h2 q).mono (λv ae au=>Jl H h3 au λx ar aS=>Jl H h4 aS λy bJ i6=>i6.run) XX)
noncomputable def gr (nm:Bool)(a:EP)(lo hi:Option EP):EP:=⟨Ox nm a lo hi,Ow nm a lo hi,LN⟩
noncomputable def Sub (l' l:ag):Prop:=∀a o,l' a=some o->l a=some o
theorem Sub.refl (l:ag):Sub l l:=λ_ _ h=>h
theorem Sub.trans {a b c:ag}(h:Sub a b)(k:Sub b c):Sub a c:=λx o e=>k x o (h x o e)
theorem Sub.put {l:ag}{a:Addr}{o:AO}(h:l a=none):Sub l (put l a o):=λb u e=>by
 have:b≠a:=λk=>by rw[k,h] at e;cases e
 rw[ai this];exact e
structure GP where
 ck:Cx->Expr->Bool
 ro:Bool
 wp:GC->Option Value->Nat->V->St->(St->Prop)->(Ex->St->Prop)->Prop
 ok:∀{G F c af e v σ Q X},Ctx G F c af->ck c e=true->wp G F.hd af v σ Q X->gc G F af e v σ Q X
noncomputable def vm (i:Nat)(c:Cx)(e:Expr):Bool:=fw e λx _=>CW c i x
theorem qj {i:Nat}{c:Cx}{e:Expr}(h:vm i c e=true):∃x p,e=.Name x p/\CW c i x=true:=by
 obtain⟨x,p,e',h'⟩:=de h
 subst e'
 have h:=h'
 exact⟨x,p,rfl,h⟩
theorem HN {i:Nat} {G F c af e v σ Q}{X:Ex->St->Prop}(H:Ctx G F c af)(h:vm i c e=true)(q:Q (iQ i v σ)):gc G F af e v σ Q X:=by
 obtain⟨x,p,rfl,h⟩:=qj h
 exact Gi H.ok (H.Ny h) q
noncomputable def ay (i:Nat):GP:=⟨vm i,false,λ_ _ _ v σ Q _=>Q (iQ i v σ),HN⟩
noncomputable def RY (c:Cx):List GP->List Expr->Bool
 |[],es=>es.isEmpty
 |t::ts,es=>match es with
  |e::r=>noStar e&&t.ck c e&&RY c ts r
  |[]=>false
noncomputable def NZ (G:GC)(hd:Option Value)(af:Nat)(Q:St->Prop)(X:Ex->St->Prop):List GP->List V->St->Prop
 |[],vs,σ=>match vs with
  |[]=>Q σ
  |_::_=>False
 |t::ts,vs,σ=>match vs with
  |v::r=>t.wp G hd af v σ (NZ G hd af Q X ts r) X
  |[]=>False
noncomputable def fQ {α β:Type}:List α->List β->Bool
 |[],l=>match l with
  |[]=>true
  |_::_=>false
 |_::r,l=>match l with
  |[]=>false
  |_::s=>fQ r s
theorem nW {α β:Type}:∀{a:List α}{b:List β},fQ a b=true->a.length=b.length:=by
 intro a
 induction a with
 |nil=>intro b h;cases b;rfl;cases h
 |cons _ r ih=>
  intro b h
  cases b with
  |nil=>cases h
  |cons _ s=>rw[mX,mX,ih (b:=s) h]
theorem MJ {c}:∀{ts:List GP}{es:List Expr},RY c ts es=true->es.length=ts.length/\es.all noStar=true:=by
 intro z_
 induction z_ with
 |nil=>
  intro es h
  rw[List.isEmpty_iff.mp h];exact⟨rfl,rfl⟩
 |cons t ts ih=>
  intro c_ h
  cases c_ with
  |nil=>
   cases h
  |cons e r=>
   obtain⟨h0,h1,h2⟩:=cM h
   obtain⟨a,b⟩:=ih h2
   exact⟨by rw[mX,mX,a],by rw[List.all_cons,h0,b];rfl⟩
theorem QV {G F c af}{Q:St->Prop}{X:Ex->St->Prop}(H:Ctx G F c af):∀(ts:List GP)(es:List Expr)(vs:List V)(σ:St),RY c ts es=true->NZ G F.hd af Q X ts vs σ->vJ G F af es vs σ Q X:=by
 intro ts
 induction ts with
 |nil=>
  intro es vs σ h q
  rw[List.isEmpty_iff.mp h]
  cases vs with
  |nil=>exact Gh q
  |cons=>exact q.elim
 |cons t ts ih=>
  intro es vs σ h q
  cases es with
  |nil=>cases h
  |cons e r=>
   cases vs with
   |nil=>exact q.elim
   |cons v vs=>
    obtain⟨h0,h1,h2⟩:=cM h
    refine CA h0 λA s D d hA S iv=>?_
    refine dU (t.ok H h1 q A s D d hA S iv) (λ_ s' z=>?_) λ_ _ x=>x
    obtain⟨cn,D',S',K',q'⟩:=z
    exact⟨cn,D',S',K',ih r vs cn h2 q'⟩
noncomputable def Vp (ts:List GP)(c:Cx)(e:Expr):Bool:=l7 e λes _ _=>RY c ts es
noncomputable def Vo (ts:List GP)(G:GC)(hd:Option Value)(af:Nat)(v:V)(σ:St)(Q:St->Prop)(X:Ex->St->Prop):Prop:=match hd with
 |none=>(match v with
  |.tup vs=>(match fQ ts vs with
   |true=>NZ G none af Q X ts vs σ
   |false=>False)
  |_=>False)
 |some _=>False
theorem nq {α:Prop}{o:Option Value}(h:match o with|none=>α|some _=>False):o=none/\α:=by
 cases o with
 |none=>exact⟨rfl,h⟩
 |some _=>exact h.elim
theorem PR {ts:List GP} {G F c af e v σ Q}{X:Ex->St->Prop}(H:Ctx G F c af)(h:Vp ts c e=true)(q:Vo ts G F.hd af v σ Q X):gc G F af e v σ Q X:=by
 obtain⟨es,k,p,e',h'⟩:=lx h
 subst e'
 have h:=h'
 obtain⟨hh,q⟩:=nq q
 cases v with
 |tup vs=>
  have q:fQ ts vs=true/\NZ G none af Q X ts vs σ:=by
   change (match fQ ts vs with|true=>NZ G none af Q X ts vs σ|false=>False) at q
   split at q
   ·rename_i e;exact⟨e,q⟩
   ·exact q.elim
  obtain⟨a,b⟩:=MJ h
  exact CB H.ok hh b (a.trans (nW q.1)) (QV H ts es vs σ h (hh▸q.2))
 |_=>exact q.elim
noncomputable def cS (ts:List GP):GP:=⟨Vp ts,true,Vo ts,PR⟩
noncomputable def Vy (k i:Nat)(a:EP)(c:Cx)(e:Expr):Bool:=cO e λo x _=>isAt (kL k) i x&&a.ck c o
noncomputable def WQ (k i:Nat)(G:GC)(Q:St->Prop)(v u:V)(σ:St):Prop:=cq G σ.aa u k i v (kd Q σ.loc)
noncomputable def Vx (k i:Nat)(a:EP)(G:GC)(hd:Option Value)(af:Nat)(v:V)(σ:St)(Q:St->Prop)(X:Ex->St->Prop):Prop:=a.wp G hd af σ (WQ k i G Q v) X
theorem PW {k i:Nat}{a:EP} {G F c af e v σ Q}{X:Ex->St->Prop}(H:Ctx G F c af)(h:Vy k i a c e=true)(q:Vx k i a G F.hd af v σ Q X):gc G F af e v σ Q X:=by
 obtain⟨o,x,p,e',h'⟩:=cK h
 subst e'
 have h:=h'
 obtain⟨h1,h2⟩:=aQ h
 have h1:=ma h1
 rw[ie] at h1
 exact tA H.ok ((a.ok H h2 q).mono (λu ae au=>DW H.g h1 au) XX)
noncomputable def bw (k i:Nat)(a:EP):GP:=⟨Vy k i a,false,Vx k i a,PW⟩
noncomputable def Ww (b:Bool):Str:=if b then "code" else "text"
noncomputable def Vv (b:Bool)(a:EP)(c:Cx)(e:Expr):Bool:=cO e λo x _=>lH x (Ww b)&&a.ck c o
noncomputable def Vu (b:Bool)(a:EP)(G:GC)(hd:Option Value)(af:Nat)(v:V)(σ:St)(Q:St->Prop)(X:Ex->St->Prop):Prop:=a.wp G hd af σ (λu ae=>Jd G ae.aa u (Ww b) v λl=>Q ⟨ae.loc,l⟩) X
theorem PV {b:Bool}{a:EP} {G F c af e v σ Q}{X:Ex->St->Prop}(H:Ctx G F c af)(h:Vv b a c e=true)(q:Vu b a G F.hd af v σ Q X):gc G F af e v σ Q X:=by
 obtain⟨o,x,p,e',h'⟩:=cK h
 subst e'
 have h:=h'
 obtain⟨h1,h2⟩:=aQ h
 have h1:=cB h1
 subst h1
 exact tA H.ok ((a.ok H h2 q).mono (λu ae au=>Hw H.g (by cases b;exact .inr rfl;exact .inl rfl) au) XX)
noncomputable def Oj (b:Bool)(a:EP):GP:=⟨Vv b a,false,Vu b a,PV⟩
structure Sk (aa:ag)(u w v:V)(Q:ag->Prop):Prop where
 run:mm aa u w v Q
theorem Dk {aa:ag}{a:Addr}{i:Int}{l:List V}{v:V}{Q:ag->Prop}(h:aa a=some (.list l))(h0:0<=i)(h1:i.toNat<l.length)(q:Q (put aa a (.list (l.set i.toNat v)))):Sk aa (.ref a) (.int i) v Q:=
 ⟨cQ h ⟨⟨h0,h1⟩,q⟩⟩
noncomputable def Vr (a b:EP)(c:Cx)(e:Expr):Bool:=dR e λo i _=>a.ck c o&&b.ck c i
noncomputable def WN (Q:St->Prop)(v u w:V)(σ:St):Prop:=Sk σ.aa u w v (kd Q σ.loc)
noncomputable def WO (b:EP)(G:GC)(hd:Option Value)(af:Nat)(Q:St->Prop)(X:Ex->St->Prop)(v u:V)(σ:St):Prop:=b.wp G hd af σ (WN Q v u) X
noncomputable def Vq (a b:EP)(G:GC)(hd:Option Value)(af:Nat)(v:V)(σ:St)(Q:St->Prop)(X:Ex->St->Prop):Prop:=a.wp G hd af σ (WO b G hd af Q X v) X
theorem PS {a b:EP} {G F c af e v σ Q}{X:Ex->St->Prop}(H:Ctx G F c af)(h:Vr a b c e=true)(q:Vq a b G F.hd af v σ Q X):gc G F af e v σ Q X:=by
 obtain⟨o,i,p,e',h'⟩:=ei h
 subst e'
 have h:=h'
 obtain⟨h1,h2⟩:=aQ h
 exact IH H.ok ((a.ok H h1 q).mono (λu ae au=>(b.ok H h2 au).mono (λ_ _ q=>q.run) XX) XX)
noncomputable def Ky (a b:EP):GP:=⟨Vr a b,false,Vq a b,PS⟩
structure IP where
 ck:Cx->Expr->Bool
 wp:W It
 ok:∀{G F c af e σ Q X},Ctx G F c af->ck c e=true->wp G F.hd af σ Q X->jf G F af e σ Q X
noncomputable def yg (e:Expr):Bool:=!(Nat.beq e.ctorIdx 7)
theorem nE {e:Expr}(h:yg e=true)(env:Env):∀x,foldedSetIterable e env x=pure x:=by
 cases e with
 |Set=>cases h
 |_=>exact λ_=>rfl
noncomputable def Jv (v:V)(σ:St)(Q:It->St->Prop):Prop:=match v with
 |.str l=>Q (.seq (l.map λc=>.str [c]) 0) σ
 |.tup vs=>Q (.seq vs 0) σ
 |.ref a=>(∃l,σ.aa a=some (.list l))/\Q (.list a 0) σ
 |_=>False
theorem Fc {a:EP} {G F c af e σ Q}{X:Ex->St->Prop}(H:Ctx G F c af)(h:a.ck c e=true)(q:a.wp G F.hd af σ (λv ae=>Jv v ae Q) X):jf G F af e σ Q X:=by
 refine B0 H.ok ((a.ok H h q).mono (λv ae au=>?_) XX)
 cases v with
 |str l=>exact⟨_,.str l,au⟩
 |tup vs=>exact⟨_,.tup vs,au⟩
 |ref a=>exact au.1.elim λl hl=>⟨_,.ref hl,au.2⟩
 |_=>exact au.elim
noncomputable def Ud (Q:It->St->Prop)(v:V)(σ:St):Prop:=Jv v σ Q
noncomputable def oC (a:EP):IP:=⟨a.ck,λG hd af σ Q X=>a.wp G hd af σ (Ud Q) X,Fc⟩
noncomputable def NK (n:String)(a:EP)(c:Cx)(e:Expr):Bool:=l8 e λid es ks=>je c id&&lH id (n:Str)&&i7 id jN&&(ks.isEmpty&&CT c [a] es)
theorem Eh {n:String}{a:EP}{c:Cx}{e:Expr}(h:NK n a c e=true):∃p pos x,e=.Call (.Name (n:Str) p) [x] [] pos/\je c (n:Str)=true/\(n:Str)∈jN/\noStar x=true/\a.ck c x=true:=by
 obtain⟨id,p,es,ks,pos,e',h'⟩:=iA h
 subst e'
 have h:=h'
 obtain⟨h1,h2,h3,h4⟩:=dF h
 obtain⟨h4,h5⟩:=aQ h4
 have h2:=cB h2
 subst h2
 cases List.isEmpty_iff.mp h4
 match es,h5 with
 |x::r,h5=>
  obtain⟨h6,h7,h8⟩:=cM h5
  cases List.isEmpty_iff.mp h8
  exact⟨p,pos,x,rfl,h1,dD h3,h6,h7⟩
theorem LR {a:EP} {G F c af e σ Q}{X:Ex->St->Prop}(H:Ctx G F c af)(h:NK "range" a c e=true)(q:a.wp G F.hd af σ (λv ae=>KI v ae Q) X):jf G F af e σ Q X:=by
 obtain⟨p,pos,x,rfl,h1,h3,h6,h7⟩:=Eh h
 refine y3 H.ok (H.g.bi _ h3) (H.glob h1) (bF (aQ h1).1).1 (bF (aQ h1).1).2.2 rfl h6 (a.ok H h7 q)
noncomputable def TK (Q:It->St->Prop)(v:V)(σ:St):Prop:=KI v σ Q
noncomputable def xK (a:EP):IP:=⟨NK "range" a,λG hd af σ Q X=>a.wp G hd af σ (TK Q) X,LR⟩
noncomputable def JP (a:EP):W It:=λG hd af σ Q X=>match hd with
 |none=>a.wp G none af σ (λv ae=>Lj v ae Q) X
 |some _=>False
theorem Ij {a:EP} {G F c af e σ Q}{X:Ex->St->Prop}(H:Ctx G F c af)(h:NK "enumerate" a c e=true)(q:JP a G F.hd af σ Q X):jf G F af e σ Q X:=by
 obtain⟨p,pos,x,rfl,h1,h3,h6,h7⟩:=Eh h
 obtain⟨hh,q⟩:=nq q
 refine Cf H.ok hh (H.g.bi _ h3) (H.glob h1) (bF (aQ h1).1).1 (bF (aQ h1).1).2.2 rfl h6 (a.ok H h7 (hh▸q))
noncomputable def vq (a:EP):IP:=⟨NK "enumerate" a,JP a,Ij⟩
noncomputable def It.nx (ro:Bool)(aa:ag)(I:It):Option (Option (V×It)):=match I with
 |.enum l i j=>(match ro with|true=>(It.enum l i j).next aa|false=>none)
 |.list l i=>(It.list l i).next aa
 |.seq vs i=>(It.seq vs i).next aa
 |.mW x n=>(It.mW x n).next aa
theorem It.Jo {ro:Bool}{aa:ag}{I:It}{r:Option (V×It)}(h:I.nx ro aa=some r):I.next aa=some r/\∀l i j,I=.enum l i j->ro=true:=by
 cases I with
 |enum l i j=>
  cases ro with
  |true=>exact⟨h,λ_ _ _ _=>rfl⟩
  |false=>cases h
 |_=>exact⟨h,λ_ _ _ e=>by cases e⟩
theorem Jm {ro:Bool}{aa:ag}{I:It}{A:Prop}{B:V->It->Prop}(h:gj (I.nx ro aa) A B):gj (I.next aa) A B/\∀l i j,I=.enum l i j->ro=true:=by
 rcases jR h with⟨e,h⟩|⟨v,I',e,h⟩
 ·obtain⟨e1,e2⟩:=It.Jo e;exact⟨by rw[e1];exact h,e2⟩
 ·obtain⟨e1,e2⟩:=It.Jo e;exact⟨by rw[e1];exact h,e2⟩
theorem gj.mono {o:Option (Option (V×It))}{A:Prop}{B B':V->It->Prop}(h:gj o A B)(f:∀v I',B v I'->B' v I'):gj o A B':=by
 rcases jR h with⟨e,h⟩|⟨v,I',e,h⟩
 ·rw[e];exact h
 ·rw[e];exact f v I' h
noncomputable def GZ (kinds:List (Str×NameKind))(l:List (Str×NameKind)):List (Str×NameKind):=l.map λ(n,k)=>if(k==.free&&kinds.lookup n==some .cell) then(n,.cell) else(n,k)
noncomputable def lp (c:Cx)(scope:Scope)(names:List Str):Cx:=⟨names,GZ c.kinds scope.names,false⟩
noncomputable def DL (c:Cx)(scope:Scope)(names:List Str)(nl:Nat)(j i:Nat):Bool:=match rj names (nl+j) with
 |some x=>isAt c.names i x&&decide ((x,NameKind.free)∈scope.names)&&(c.kinds.lookup x==some .cell)&&((GZ c.kinds scope.names).lookup x==some .cell)
 |none=>true
noncomputable def Lk (c:Cx)(scope:Scope)(names:List Str)(nl:Nat)(cD:List Nat):Bool:=
 c.own&&decide names.Nodup&&decide (names.length=nl+cD.length)&&(cD.zipIdx.all (λp=>DL c scope names nl p.2 p.1))&&
 (scope.names.all (λx=>!(x.2==.free)||c.kinds.lookup x.1==some .cell)&&scope.names.all (λx=>!(x.2==.cell))&&(scope.kind==.function)&&scope.names.all (λx=>!(x.2==.local)||scope.names.lookup x.1==some .local))&&
 decide ((scope.names.filter (·.2==.free)).map (·.1)).Nodup
theorem AF {F:FC}{c:Cx}{G:GC}{af:Nat}(H:Ctx G F c af)(scope:Scope):(relabel scope F.env).names=GZ c.kinds scope.names:=by
 unfold relabel GZ
 show scope.names.map _=_
 refine List.map_congr_left λx hx=>?_
 obtain⟨n,k⟩:=x
 show(if _ then _ else _)=_
 rw[H.ok.kind,H.kind]
 simp
theorem EJ {F:FC}{c:Cx}{G:GC}{af:Nat}(H:Ctx G F c af){scope:Scope}{names:List Str}{nl:Nat}{cD:List Nat}(h:Lk c scope names nl cD=true):lX F scope names nl cD:=by
 unfold Lk at h
 simp only[Bool.and_eq_true,decide_eq_true_eq,List.all_eq_true] at h
 obtain⟨⟨⟨⟨⟨h1,h2⟩,h3⟩,h4⟩,⟨⟨h5,h6⟩,h7⟩,h8⟩,h9⟩:=h
 refine⟨h2,h3,λj i x hj hx=>?_,λx hx hf=>?_,λx hx=>?_,beq_iff_eq.mp h7,λx hx hl=>?_,h9⟩
 ·have h4:=h4 (i,j) (by rw[List.mem_iff_getElem?];exact⟨j,by rw[List.getElem?_zipIdx,hj];simp⟩)
  change DL c scope names nl j i=true at h4
  unfold DL at h4
  rw[ie,hx] at h4
  obtain⟨a,b,d,e⟩:=dF h4
  have a:=ma a
  rw[ie] at a
  rw[AF H,H.kind,H.cx.names]
  exact⟨a,tC b,beq_iff_eq.mp d,beq_iff_eq.mp e⟩
 ·have h5:=h5 x hx
  rw[hf] at h5
  have h5:(c.kinds.lookup x.1==some NameKind.cell)=true:=by simpa using h5
  obtain⟨ca,e,_⟩:=H.cx.cell h1 _ (beq_iff_eq.mp h5)
  rw[e];rfl
 ·have h6:=h6 x hx
  intro e;rw[e] at h6;cases h6
 ·have h8:=h8 x hx
  rw[hl] at h8
  have h8:(scope.names.lookup x.1==some NameKind.local)=true:=by simpa using h8
  exact beq_iff_eq.mp h8
noncomputable def SJ (c:Cx)(t:Option TP)(es:List Expr):Bool:=match t,es with
 |none,[]=>true
 |some t,[e]=>t.ck c e
 |_,_=>false
noncomputable def VZ (G:GC)(af:Nat)(X:Ex->St->Prop)(t:Option TP)(σ:St)(Q:Bool->St->Prop):Prop:=match t with
 |none=>Q true σ
 |some t=>t.wp G none af σ Q X
theorem Mz {G F c af}{X:Ex->St->Prop}(H:Ctx G F c af)(hh:F.hd=none){t:Option TP}{es:List Expr}{σ:St}{Q Q':Bool->St->Prop}(h:SJ c t es=true)(q:VZ G af X t σ Q)(m:∀b σ,Q b σ->Q' b σ):PJ G F af es σ Q' X:=by
 match t,es,h with
 |none,[],_=>exact m _ _ q
 |some t,[e],h=>exact(t.ok H h (hh.symm▸q)).mono (λb ae au=>m _ _ au) XX
structure CD where
 elt:EP
 tg:GP
 it:IP
 ifs:Option TP
 names:List Str
 nl:Nat
 cD:List Nat
noncomputable def Th (d:CD)(c:Cx)(elt:Expr)(g:Comprehension)(scope:Scope):Bool:=
 (g.is_async==0&&yg g.iter&&d.it.ck c g.iter&&Lk c scope d.names d.nl d.cD)&&(d.tg.ck (lp c scope d.names) g.target&&(!d.tg.ro||lg g.target)&&d.elt.ck (lp c scope d.names) elt&&SJ (lp c scope d.names) d.ifs g.ifs)
noncomputable def c2 (d:CD)(G:GC)(af:Nat)(acc:Addr)(R:St->Prop)(X:Ex->St->Prop)(b:Bool)(σ:St):Prop:=match b with
 |true=>d.elt.wp G none af σ (c3 acc R) X
 |false=>R σ
noncomputable def c1 (d:CD)(G:GC)(af:Nat)(acc:Addr)(R:St->Prop)(X:Ex->St->Prop)(σ:St):Prop:=VZ G af X d.ifs σ (c2 d G af acc R X)
noncomputable def fA (d:CD)(G:GC)(af:Nat)(acc:Addr)(R:It->St->Prop)(Q:St->Prop)(X:Ex->St->Prop)(I:It)(σ:St):Prop:=gj (I.nx d.tg.ro σ.aa) (Q σ) λv I'=>d.tg.wp G none af v σ (c1 d G af acc (R I') X) X
noncomputable def EE (d:CD)(G:GC)(af:Nat)(acc:Addr)(I:It)(σ:St)(Q:St->Prop)(X:Ex->St->Prop):Prop:=
 ∀R:It->St->Prop,(∀I σ,fA d G af acc R Q X I σ->R I σ)->R I σ
noncomputable def YL (Q:V->St->Prop)(l:List (Option V))(acc:Addr)(σ:St):Prop:=Q (.ref acc) ⟨l,σ.aa⟩
noncomputable def YK (X:Ex->St->Prop)(l:List (Option V))(e:Ex)(σ:St):Prop:=X e ⟨l,σ.aa⟩
noncomputable def YM (d:CD)(G:GC)(af:Nat)(Q:V->St->Prop)(X:Ex->St->Prop)(I:It)(σ:St):Prop:=∀acc,σ.aa acc=none->EE d G af acc I ⟨gn d.nl d.cD σ.loc,put σ.aa acc (.list [])⟩ (YL Q σ.loc acc) (YK X σ.loc)
noncomputable def I4 (d:CD)(G:GC)(hd:Option Value)(af:Nat)(σ:St)(Q:V->St->Prop)(X:Ex->St->Prop):Prop:=match hd with
 |none=>d.it.wp G none af σ (YM d G af Q X) X
 |some _=>False
theorem tj {d:CD} {G F c af ae}{Q:V->St->Prop}{X:Ex->St->Prop}{elt:Expr}{g:Comprehension}{scope:Scope}{pos:Pos}{I:It}(H:Ctx G F c af)(hh:F.hd=none)(h:Th d c elt g scope=true)
  (q:∀acc,ae.aa acc=none->EE d G af acc I ⟨gn d.nl d.cD ae.loc,put ae.aa acc (.list [])⟩ (λcn=>Q (.ref acc) ⟨ae.loc,cn.aa⟩) (λex cn=>X ex ⟨ae.loc,cn.aa⟩)):
  mH G F af elt g.target g.iter g.ifs scope pos d.names d.nl d.cD I ae Q X:=by
 intro F' C acc iC gZ hn he ho hl
 obtain⟨_,h5,h6,h7,h8⟩:_/\d.tg.ck (lp c scope d.names) g.target=true/\(!d.tg.ro||lg g.target)=true/\d.elt.ck (lp c scope d.names) elt=true/\SJ (lp c scope d.names) d.ifs g.ifs=true:=⟨(aQ h).1,dF (aQ h).2⟩
 have Kr:F'.hd=none:=gZ.trans hh
 have H':Ctx G F' (lp c scope d.names) af:=by
  refine⟨H.g,iC,⟨hn,?_,λe=>by cases e⟩,H.one⟩
  rw[he];exact AF H scope
 refine q acc hl (λI σ=>sA G F' af elt g.target g.iter g.ifs scope pos I acc σ _ _) λI σ t=>?_
 obtain⟨t,e2⟩:=Jm t
 refine Cm iC Kr (λl i j hI=>by have:=e2 l i j hI;rw[this] at h6;exact h6) (t.mono λv I' t=>?_)
 refine gc.mono (d.tg.ok H' h5 (Kr▸t)) λcn q'=>?_
 have MR:∀ar Qe Xe,d.elt.wp G none af ar Qe Xe->J G F' af (aE G) (eval elt F'.env) ar Qe Xe:=λar Qe Xe aS=>d.elt.ok H' h7 (Kr▸aS)
 refine Mz H' Kr h8 q' λb ar aS=>?_
 cases b
 ·exact aS
 ·exact MR ar _ _ aS
noncomputable def JT (d:CD)(c:Cx)(e:Expr):Bool:=yd e λelt g scope _=>Th d c elt g scope
theorem JL {g:Comprehension}(h:(g.is_async==0)=true):g=⟨g.target,g.iter,g.ifs,0⟩:=by
 cases g;have:=beq_iff_eq.mp h;subst this;rfl
theorem Iw {d:CD} {G F c af e σ}{Q:V->St->Prop}{X:Ex->St->Prop}(H:Ctx G F c af)(h:JT d c e=true)(q:I4 d G F.hd af σ Q X):J G F af (aE G) (eval e F.env) σ Q X:=by
 obtain⟨elt,g,scope,pos,e',h'⟩:=sN h
 subst e'
 have h:=h'
 obtain⟨hh,q⟩:=nq q
 obtain⟨h1,h2,h3,h4⟩:=dF (aQ h).1
 rw[JL h1]
 refine Cn H.ok hh (nE h2 _) (EJ H h4) λA s D hA S=>dU (d.it.ok H h3 (hh▸q) A s D hA S) (λx ak w=>dU w (λKe aT ⟨it,I,ar,bb,a1,a2,a3,a4,a5,a6⟩=>⟨it,I,ar,bb,a1,a2,a3,a4,a5,tj H hh h a6⟩) λ_ _ x=>x) λ_ _ x=>x
noncomputable def comp (d:CD):EP:=⟨JT d,I4 d,Iw⟩
structure SP where
 ck:Cx->Stmt->Bool
 wp:W Fl
 ok:∀{G F c af t σ Q X},Ctx G F c af->ck c t=true->wp G F.hd af σ Q X->J G F af (bA G) (exec t F.env) σ Q X
noncomputable def rB (c:Cx):List SP->List Stmt->Bool
 |[],es=>es.isEmpty
 |t::ts,es=>match es with
  |e::r=>t.ck c e&&rB c ts r
  |[]=>false
noncomputable def PU (k:St->Prop)(Q:Fl->St->Prop)(fl:Fl)(σ:St):Prop:=match fl with
 |.next=>k σ
 |.brk=>Q .brk σ
 |.cont=>Q .cont σ
 |.ret v=>Q (.ret v) σ
noncomputable def bf (G:GC)(hd:Option Value)(af:Nat)(Q:Fl->St->Prop)(X:Ex->St->Prop):List SP->St->Prop
 |[],σ=>Q .next σ
 |t::ts,σ=>t.wp G hd af σ (PU (bf G hd af Q X ts) Q) X
theorem ik {G F c af}{Q:Fl->St->Prop}{X:Ex->St->Prop}(H:Ctx G F c af):∀(ts:List SP)(es:List Stmt)(σ:St),rB c ts es=true->bf G F.hd af Q X ts σ->J G F af (bA G) (execs es F.env) σ Q X:=by
 intro z_
 induction z_ with
 |nil=>
  intro es σ h q
  rw[List.isEmpty_iff.mp h];exact q5 q
 |cons t ts ih=>
  intro c_ σ h q
  cases c_ with
  |nil=>
   cases h
  |cons e r=>
   obtain⟨h1,h2⟩:=aQ h
   refine oO ((t.ok H h1 q).mono (λfl ae au=>?_) XX)
   cases fl with
   |next=>exact ih r ae h2 au
   |_=>exact au
noncomputable def nh (e:Expr):Bool:=!(Nat.beq e.ctorIdx 8||Nat.beq e.ctorIdx 9||Nat.beq e.ctorIdx 10)
theorem gS {e:Expr}(h:nh e=true)(t:Option Expr)(n:Nat)(env:Env):swapsWith e t n env=pure false:=by
 cases e with
 |ListComp=>cases h
 |SetComp=>cases h
 |DictComp=>cases h
 |_=>rfl
noncomputable def Q8 (_:Cx)(t:Stmt):Bool:=onContinue t λ_=>true
noncomputable def P0:SP:=⟨Q8,λ_ _ _ σ Q _=>Q .cont σ,λ{_ _ _ _ t _ _ _} _ h q=>by obtain⟨p,e',_⟩:=rG h;subst e';exact rK q⟩
noncomputable def OB (a:EP)(c:Cx)(t:Stmt):Bool:=mu t λr _=>jJ r λe=>a.ck c e
theorem LU {a:EP} {G F c af t σ}{Q:Fl->St->Prop}{X:Ex->St->Prop}(H:Ctx G F c af)(h:OB a c t=true)(q:a.wp G F.hd af σ (λv ae=>Q (.ret v) ae) X):J G F af (bA G) (exec t F.env) σ Q X:=by
 obtain⟨r,p,e',h⟩:=nY h
 obtain⟨e,e1,h⟩:=gU h
 subst e' e1
 exact wK (a.ok H h q)
noncomputable def TL (Q:Fl->St->Prop)(v:V)(σ:St):Prop:=Q (.ret v) σ
noncomputable def aC (a:EP):SP:=⟨OB a,λG hd af σ Q X=>a.wp G hd af σ (TL Q) X,LU⟩
noncomputable def Ji (_:Cx)(t:Stmt):Bool:=mu t λr _=>r.isNone
theorem HA {G F c af t σ}{Q:Fl->St->Prop}{X:Ex->St->Prop}(_:Ctx G F c af)(h:Ji c t=true)(q:Q (.ret .none) σ):J G F af (bA G) (exec t F.env) σ Q X:=by
 obtain⟨r,p,e',h⟩:=nY h
 cases Option.isNone_iff_eq_none.mp h
 subst e'
 exact λA s D hA S=>wpAny_Return_none ⟨.ret .none,σ,D,S,.refl,.ret .none,q⟩
noncomputable def Dj:SP:=⟨Ji,λG hd af σ Q X=>Q (.ret .none) σ,HA⟩
noncomputable def JM (a:EP)(c:Cx)(t:Stmt):Bool:=yc t λe _=>nh e&&a.ck c e
theorem Ig {a:EP} {G F c af t σ}{Q:Fl->St->Prop}{X:Ex->St->Prop}(H:Ctx G F c af)(h:JM a c t=true)(q:a.wp G F.hd af σ (λv ae=>Q .next ae) X):J G F af (bA G) (exec t F.env) σ Q X:=by
 obtain⟨e,p,e',h'⟩:=BO h
 subst e'
 have h:=h'
 obtain⟨h1,h2⟩:=aQ h;exact Cd H.ok (gS h1 _ _ _) (a.ok H h2 q)
noncomputable def TG (Q:Fl->St->Prop)(_:V)(σ:St):Prop:=Q .next σ
noncomputable def gu (a:EP):SP:=⟨JM a,λG hd af σ Q X=>a.wp G hd af σ (TG Q) X,Ig⟩
noncomputable def Pw (i:Nat)(a:EP)(c:Cx)(t:Stmt):Bool:=sh t λg v _=>vm i c g&&nh v&&a.ck c v
theorem M' {i:Nat}{a:EP} {G F c af t σ}{Q:Fl->St->Prop}{X:Ex->St->Prop}(H:Ctx G F c af)(h:Pw i a c t=true)(q:a.wp G F.hd af σ (λv ae=>Q .next (iQ i v ae)) X):J G F af (bA G) (exec t F.env) σ Q X:=by
 obtain⟨g,v,p,e',h'⟩:=jn h
 subst e'
 have h:=h'
 obtain⟨h1,h2,h3⟩:=cM h
 obtain⟨x,p',rfl,h1⟩:=qj h1
 exact nP H.ok (gS h2 _ _ _) (H.Ny h1) (a.ok H h3 q)
noncomputable def Px (i:Nat)(Q:Fl->St->Prop)(v:V)(σ:St):Prop:=Q .next (iQ i v σ)
noncomputable def aM (i:Nat)(a:EP):SP:=⟨Pw i a,λG hd af σ Q X=>a.wp G hd af σ (Px i Q) X,M'⟩
noncomputable def Rn (c:Cx)(g:Expr)(scope:Scope)(pos:Pos)(i:Nat):Bool:=fw g λy py=>G4 c i y&&kindB c.kinds y .local&&(py.line==pos.line)&&!(scope.names.any λ(n,k)=>n==y&&(k==.local||k==.cell))
noncomputable def J7 (i:Nat)(d:CD)(c:Cx)(t:Stmt):Bool:=sh t λg v _=>yd v λelt gg scope pos=>Th d c elt gg scope&&Rn c g scope pos i
theorem IQ {i:Nat}{d:CD} {G F c af t σ}{Q:Fl->St->Prop}{X:Ex->St->Prop}(H:Ctx G F c af)(h:J7 i d c t=true)(q:I4 d G F.hd af σ (λv ae=>Q .next (iQ i v ae)) X):J G F af (bA G) (exec t F.env) σ Q X:=by
 obtain⟨g,v,p,e',h'⟩:=jn h
 subst e'
 have h:=h'
 obtain⟨elt,gg,scope,pos,YB,h⟩:=sN h
 subst YB
 ·skip
  obtain⟨xC,hb⟩:=aQ h
  obtain⟨hh,q⟩:=nq q
  obtain⟨h1,h2,h3,h4⟩:=dF (aQ xC).1
  obtain⟨y,py,e',hb⟩:=de hb
  subst e'
  ·skip
   obtain⟨b1,b2,b3,b4⟩:=dF hb
   have SR:swapsWith (.ListComp elt [⟨gg.target,gg.iter,gg.ifs,0⟩] scope pos) (some (.Name y py)) p.line F.env=pure true:=by
    show(pure (_&&_&&_&&_):Sem Bool)=_
    have e1:F.env.blockKind=.function:=by unfold Env.blockKind;rw[H.ok.kind];rfl
    rw[e1,H.kind,ee b2]
    have e2:(py.line==(Expr.ListComp elt [⟨gg.target,gg.iter,gg.ifs,0⟩] scope pos).pos.line)=true:=b3
    rw[e2,b4];rfl
   rw[JL h1]
   have hk:F.env.kindOf y=some .local:=by rw[H.kind];exact ee b2
   exact nN H.ok hh (nE h2 _) (EJ H h4) SR (H.loc b1) hk λA s D hA S=>dU (d.it.ok H h3 (hh▸q) A s D hA S) (λx ak w=>dU w (λKe aT ⟨it,I,ar,bb,a1,a2,a3,a4,a5,a6⟩=>⟨it,I,ar,bb,a1,a2,a3,a4,a5,tj H hh xC a6⟩) λ_ _ x=>x) λ_ _ x=>x
noncomputable def nS (i:Nat)(d:CD):SP:=⟨J7 i d,λG hd af σ Q X=>I4 d G hd af σ (Px i Q) X,IQ⟩
noncomputable def tv (e:Expr):Bool:=Nat.beq e.ctorIdx 20||Nat.beq e.ctorIdx 21
theorem uS {e:Expr}(h:tv e=true):(∃a b c,e=.Attribute a b c)∨∃a b c,e=.Subscript a b c:=
 (Bool.or_eq_true _ _▸h:_∨_).imp (λk=>Expr.Attribute.elim (motive_1:=λe=>∃a b c,e=.Attribute a b c) e (Nat.eq_of_beq_eq_true k) λa b c=>⟨a,b,c,rfl⟩)
  λk=>Expr.Subscript.elim (motive_1:=λe=>∃a b c,e=.Subscript a b c) e (Nat.eq_of_beq_eq_true k) λa b c=>⟨a,b,c,rfl⟩
noncomputable def setC (g:GP)(a:EP)(c:Cx)(t:Stmt):Bool:=sh t λe v _=>tv e&&nh v&&g.ck c e&&a.ck c v
theorem LP {g:GP}{a:EP} {G F c af t σ}{Q:Fl->St->Prop}{X:Ex->St->Prop}(H:Ctx G F c af)(h:setC g a c t=true)(q:a.wp G F.hd af σ (λv ae=>g.wp G F.hd af v ae (λar=>Q .next ar) X) X):J G F af (bA G) (exec t F.env) σ Q X:=by
 obtain⟨e,v,p,e',h'⟩:=jn h
 subst e'
 have h:=h'
 obtain⟨h1,h2,h3,h4⟩:=dF h
 have hs:swapsWithSole [e] v p.line F.env=pure false:=gS h2 _ _ _
 have hq:=(a.ok H h4 q).mono (λv ae au=>g.ok H h3 au) XX
 rcases uS h1 with⟨x,y,z,e'⟩|⟨x,y,z,e'⟩
 ·rw[e'] at hs hq ⊢;exact nQ H.ok hs hq
 ·rw[e'] at hs hq ⊢;exact oY H.ok hs hq
noncomputable def W' (Q:Fl->St->Prop)(σ:St):Prop:=Q .next σ
noncomputable def VB (g:GP)(G:GC)(hd:Option Value)(af:Nat)(Q:Fl->St->Prop)(X:Ex->St->Prop)(v:V)(σ:St):Prop:=g.wp G hd af v σ (W' Q) X
noncomputable def sset (g:GP)(a:EP):SP:=⟨setC g a,λG hd af σ Q X=>a.wp G hd af σ (VB g G hd af Q X) X,LP⟩
noncomputable def Sh (c:Cx)(ts:List Expr)(v:Expr):Option (Option (List Str)):=if h:v.ctorIdx=25 then Expr.Tuple.elim (motive_1:=λ_=>Option (Option (List Str))) v h λvs _ _=>Jb ts vs c.kinds else some none
theorem Ht {ts:List Expr}{k:Nat}{p:Pos}{v:Expr}{env:Env}(h:v.ctorIdx≠25):swappedStores [.Tuple ts k p] v env=pure none:=by
 cases v with
 |Tuple=>exact absurd rfl h
 |_=>rfl
theorem LJ {G F c af}(H:Ctx G F c af){ts:List Expr}{k:Nat}{p:Pos}{v:Expr}{r:Option (List Str)}(hr:Sh c ts v=some r):swappedStores [.Tuple ts k p] v F.env=pure r:=by
 by_cases h:v.ctorIdx=25
 ·refine Expr.Tuple.elim (motive_1:=λv=>Sh c ts v=some r->swappedStores [.Tuple ts k p] v F.env=pure r) v h (λvs k' p' hr=>?_) hr
  exact swap_eq (by unfold Env.blockKind;rw[H.ok.kind];rfl) (by rw[H.cx.kinds];exact hr)
 ·cases Option.some.inj ((dif_neg h).symm.trans hr)
  exact Ht h
noncomputable def Si (c:Cx)(e v:Expr)(f:Option (List Str)->Bool):Bool:=l7 e λts _ _=>jJ (Sh c ts v) f
theorem DU {G F c af}(H:Ctx G F c af){e v:Expr}{f:Option (List Str)->Bool}(h:Si c e v f=true):∃r ts k p,e=.Tuple ts k p/\swappedStores [e] v F.env=pure r/\f r=true:=by
 obtain⟨ts,k,p,e',h⟩:=lx h
 obtain⟨r,hr,hf⟩:=gU h
 subst e'
 exact⟨r,ts,k,p,rfl,LJ H hr,hf⟩
noncomputable def I7 (g:GP)(a:EP)(c:Cx)(t:Stmt):Bool:=sh t λe v _=>Si c e v (·.isNone)&&nh v&&g.ck c e&&a.ck c v
theorem Hn {g:GP}{a:EP} {G F c af t σ}{Q:Fl->St->Prop}{X:Ex->St->Prop}(H:Ctx G F c af)(h:I7 g a c t=true)(q:a.wp G F.hd af σ (λv ae=>g.wp G F.hd af v ae (λar=>Q .next ar) X) X):J G F af (bA G) (exec t F.env) σ Q X:=by
 obtain⟨e,v,p,e',h'⟩:=jn h
 subst e'
 have h:=h'
 obtain⟨h1,h2,h3,h4⟩:=dF h
 obtain⟨r,ts,k,p',e2,e1,h1⟩:=DU H h1
 cases Option.isNone_iff_eq_none.mp h1
 have hs:swapsWithSole [e] v p.line F.env=pure false:=gS h2 _ _ _
 have hq:=(a.ok H h4 q).mono (λv ae au=>g.ok H h3 au) XX
 subst e2
 exact mU H.ok e1 hs hq
noncomputable def eF (g:GP)(a:EP):SP:=⟨I7 g a,λG hd af σ Q X=>a.wp G hd af σ (VB g G hd af Q X) X,Hn⟩
noncomputable def Di (c:Cx):List Nat->List Str->Bool
 |[],ns=>ns.isEmpty
 |i::is,ns=>match ns with
  |n::r=>CW c i n&&Di c is r
  |[]=>false
theorem Hu {G F c af}(H:Ctx G F c af):∀{is:List Nat}{ns:List Str},Di c is ns=true->is.length=ns.length/\∀(j i:Nat)(x:Str),is[j]?=some i->ns[j]?=some x->eD F i x:=by
 intro z_
 induction z_ with
 |nil=>
  intro ns h
  rw[List.isEmpty_iff.mp h];exact⟨rfl,λj i x e=>by simp at e⟩
 |cons i is ih=>
  intro c_ h
  cases c_ with
  |nil=>
   cases h
  |cons n r=>
   obtain⟨h1,h2⟩:=aQ h
   obtain⟨a,b⟩:=ih h2
   refine⟨by rw[mX,mX,a],λj i' x e e'=>?_⟩
   cases j with
   |zero=>simp at e e';subst e;subst e';exact H.Ny h1
   |succ j=>exact b j i' x (by simpa using e) (by simpa using e')
noncomputable def Oo (is:List Nat)(a:EP)(c:Cx)(t:Stmt):Bool:=sh t λe v _=>Si c e v (λo=>jJ o (Di c is))&&nh v&&a.ck c v
noncomputable def Om (is:List Nat)(v:V)(σ:St)(Q:Fl->St->Prop):Prop:=match v with
 |.tup vs=>(match fQ is vs with
  |true=>Q .next (lY (is.reverse.zip vs.reverse) σ)
  |false=>False)
 |_=>False
noncomputable def TA (is:List Nat)(Q:Fl->St->Prop)(v:V)(σ:St):Prop:=Om is v σ Q
noncomputable def Ol (is:List Nat)(a:EP):W Fl:=λG hd af σ Q X=>match hd with
 |none=>a.wp G none af σ (TA is Q) X
 |some _=>False
set_option tactic.hygienic true in
theorem LH {is:List Nat}{a:EP} {G F c af t σ}{Q:Fl->St->Prop}{X:Ex->St->Prop}(H:Ctx G F c af)(h:Oo is a c t=true)(q:Ol is a G F.hd af σ Q X):J G F af (bA G) (exec t F.env) σ Q X:=by
 obtain⟨e,v,p,e',h'⟩:=jn h
 subst e'
 have h:=h'
 obtain⟨h1,h2,h3⟩:=cM h
 obtain⟨hh,q⟩:=nq q
 obtain⟨r,ts,k,p',e2,e1,h1⟩:=DU H h1
 obtain⟨ns,e3,h1⟩:=gU h1
 have hs:swapsWithSole [e] v p.line F.env=pure false:=gS h2 _ _ _
 obtain⟨s1,s2⟩:=Hu H h1
 subst e2 e3
 refine j0 H.ok hh e1 hs s1 s2 ((a.ok H h3 (hh▸q)).mono (λv ae au=>?_) XX)
 cases v with
 |tup vs=>
  have au:fQ is vs=true/\Q .next (lY (is.reverse.zip vs.reverse) ae):=by
   change (match fQ is vs with|true=>_|false=>False) at au
   split at au
   ·rename_i e;exact⟨e,au⟩
   ·exact au.elim
  exact⟨vs,rfl,by rw[←s1,nW au.1],au.2⟩
 |_=>exact au.elim
noncomputable def f' (is:List Nat)(a:EP):SP:=⟨Oo is a,Ol is a,LH⟩
noncomputable def Pu (i:Nat)(op:jY)(a:EP)(c:Cx)(t:Stmt):Bool:=eQ t λg o v _=>vm i c g&&decide (o=op.op)&&a.ck c v
noncomputable def U4 (i:Nat)(Q:Fl->St->Prop)(σ:St)(r:V):Prop:=Q .next (iQ i r σ)
noncomputable def U5 (i:Nat)(op:jY)(Q:Fl->St->Prop)(u v:V)(σ:St):Prop:=xS op u v (U4 i Q σ)
noncomputable def U6 (i:Nat)(op:jY)(a:EP)(G:GC)(hd:Option Value)(af:Nat)(Q:Fl->St->Prop)(X:Ex->St->Prop)(σ:St)(u:V):Prop:=a.wp G hd af σ (U5 i op Q u) X
noncomputable def Ln (i:Nat)(op:jY)(a:EP):W Fl:=λG hd af σ Q X=>pJ i σ (U6 i op a G hd af Q X σ)
theorem M9 {i:Nat}{op:jY}{a:EP} {G F c af t σ}{Q:Fl->St->Prop}{X:Ex->St->Prop}(H:Ctx G F c af)(h:Pu i op a c t=true)(q:Ln i op a G F.hd af σ Q X):J G F af (bA G) (exec t F.env) σ Q X:=by
 obtain⟨g,o,v,p,e',h'⟩:=fE h
 subst e'
 have h:=h'
 obtain⟨h1,h2,h3⟩:=cM h
 have h2:=tC h2
 subst h2
 obtain⟨x,p',rfl,h1⟩:=qj h1
 unfold Ln pJ at q
 split at q
 ·rename_i GU hv
  obtain⟨d1,d2,_⟩:=bF (aQ (aQ h1).1).1
  exact rS H.ok (H.Ny h1) (by rw[←ie];exact hv) d1 d2 ((a.ok H h3 q).mono (λv ae au=>nL op au) XX)
 ·exact q.elim
noncomputable def eZ (i:Nat)(op:jY)(a:EP):SP:=⟨Pu i op a,Ln i op a,M9⟩
theorem tu {op:jY}{old v:V}{P P':V->Prop}(m:∀r,P r->P' r)(h:xS op old v P):xS op old v P':=by
 cases op with
 |add=>
  rcases fR h with⟨a,rfl,h⟩|⟨a,rfl,h⟩
  ·obtain⟨b,rfl,h⟩:=dH h;exact m _ h
  ·obtain⟨b,rfl,h⟩:=kU h;exact⟨h.1,m _ h.2⟩
 |sub=>obtain⟨a,b,rfl,rfl,h⟩:=jH h;exact m _ h
 |fdiv=>obtain⟨a,b,rfl,rfl,h⟩:=jH h;exact⟨h.1,m _ h.2⟩
 |_=>exact h
noncomputable def J4 (k i:Nat)(b:EP)(op:jY)(a:EP)(c:Cx)(t:Stmt):Bool:=eQ t λg o v _=>(cO g λu x _=>isAt (kL k) i x&&b.ck c u)&&decide (o=op.op)&&a.ck c v
noncomputable def J3 (k i:Nat)(b:EP)(op:jY)(a:EP):W Fl:=λG hd af σ Q X=>b.wp G hd af σ (λu ae=>bG G ae.aa u k i λold=>a.wp G hd af ae (λv ar=>xS op old v λr=>cq G ar.aa u k i r λl=>Q .next ⟨ar.loc,l⟩) X) X
theorem IE {k i:Nat}{b:EP}{op:jY}{a:EP} {G F c af t σ}{Q:Fl->St->Prop}{X:Ex->St->Prop}(H:Ctx G F c af)(h:J4 k i b op a c t=true)(q:J3 k i b op a G F.hd af σ Q X):J G F af (bA G) (exec t F.env) σ Q X:=by
 obtain⟨g,o,v,p,e',h'⟩:=fE h
 subst e'
 have h:=h'
 obtain⟨h1,h2,h3⟩:=cM h
 have h2:=tC h2
 subst h2
 obtain⟨u,x,p',e',GQ⟩:=cK h1
 subst e'
 have h1:=GQ
 obtain⟨h4,h5⟩:=aQ h1
 have h4:=ma h4
 rw[ie] at h4
 refine rT H.ok ((b.ok H h5 q).mono (λu ae au=>?_) XX)
 exact(Es H.g h4 au).mono λold w=>(a.ok H h3 w).mono (λv ar aS=>nL op (tu (λr hr=>DW H.g h4 hr) aS)) XX
noncomputable def lP (k i:Nat)(b:EP)(op:jY)(a:EP):SP:=⟨J4 k i b op a,J3 k i b op a,IE⟩
noncomputable def J2 (b j:EP)(op:jY)(a:EP)(c:Cx)(t:Stmt):Bool:=eQ t λg o v _=>(dR g λu i _=>mx i&&b.ck c u&&j.ck c i)&&decide (o=op.op)&&a.ck c v
noncomputable def Ri (op:jY)(a:EP)(G:GC)(hd:Option Value)(af:Nat)(u w:V)(σ:St)(Q:Fl->St->Prop)(X:Ex->St->Prop):Prop:=
 ∃r i l old,u=.ref r/\w=.int i/\σ.aa r=some (.list l)/\0<=i/\i<=1000000000/\l[i.toNat]?=some old/\a.wp G hd af σ (λv ar=>xS op old v λz=>Sk ar.aa u w z λl=>Q .next ⟨ar.loc,l⟩) X
noncomputable def J1 (b j:EP)(op:jY)(a:EP):W Fl:=λG hd af σ Q X=>b.wp G hd af σ (λu ae=>j.wp G hd af ae (λw ar=>Ri op a G hd af u w ar Q X) X) X
theorem ID {b j:EP}{op:jY}{a:EP} {G F c af t σ}{Q:Fl->St->Prop}{X:Ex->St->Prop}(H:Ctx G F c af)(h:J2 b j op a c t=true)(q:J1 b j op a G F.hd af σ Q X):J G F af (bA G) (exec t F.env) σ Q X:=by
 obtain⟨g,o,v,p,e',h'⟩:=fE h
 subst e'
 have h:=h'
 obtain⟨h1,h2,h3⟩:=cM h
 have h2:=tC h2
 subst h2
 obtain⟨u,i,p',e',GQ⟩:=ei h1
 subst e'
 have h1:=GQ
 obtain⟨h4,h5,h6⟩:=cM h1
 refine uR H.ok (uK h4) ((b.ok H h5 q).mono (λu ae au=>(j.ok H h6 au).mono (λw ar aS=>?_) XX) XX)
 obtain⟨r,i,l,old,rfl,rfl,hl,i0,i1,ho,aS⟩:=aS
 exact cQ hl ⟨⟨i0,i1⟩,LZ ho ((a.ok H h3 aS).mono (λv bJ i6=>nL op (tu (λ_ q=>q.run) i6)) XX)⟩
noncomputable def P2 (b j:EP)(op:jY)(a:EP):SP:=⟨J2 b j op a,J1 b j op a,ID⟩
noncomputable def OY (t:TP)(a b:List SP)(c:Cx)(s:Stmt):Bool:=KQ s λe x y _=>t.ck c e&&rB c a x&&rB c b y
noncomputable def Uc (a b:List SP)(G:GC)(hd:Option Value)(af:Nat)(Q:Fl->St->Prop)(X:Ex->St->Prop)(r:Bool)(σ:St):Prop:=match r with
 |true=>bf G hd af Q X a σ
 |false=>bf G hd af Q X b σ
noncomputable def OX (t:TP)(a b:List SP):W Fl:=λG hd af σ Q X=>t.wp G hd af σ (Uc a b G hd af Q X) X
theorem Mw {t:TP}{a b:List SP} {G F c af s σ}{Q:Fl->St->Prop}{X:Ex->St->Prop}(H:Ctx G F c af)(h:OY t a b c s=true)(q:OX t a b G F.hd af σ Q X):J G F af (bA G) (exec s F.env) σ Q X:=by
 obtain⟨e,x,y,p,e',h'⟩:=HI h
 subst e'
 have h:=h'
 obtain⟨h1,h2,h3⟩:=cM h
 exact H6 ((t.ok H h1 q).mono (λr ae au=>by cases r;exact ik H b y ae h3 au;exact ik H a x ae h2 au) XX)
noncomputable def site (t:TP)(a b:List SP):SP:=⟨OY t a b,OX t a b,Mw⟩
noncomputable def Ob (t:TP)(a:List SP)(c:Cx)(s:Stmt):Bool:=uf s λe x y _=>t.ck c e&&rB c a x&&y.isEmpty
noncomputable def WL (a:List SP)(G:GC)(hd:Option Value)(af:Nat)(R:St->Prop)(Q:Fl->St->Prop)(X:Ex->St->Prop)(r:Bool)(σ:St):Prop:=match r with
 |true=>bf G hd af (Af R Q) X a σ
 |false=>Q .next σ
noncomputable def Lx (t:TP)(a:List SP)(G:GC)(hd:Option Value)(af:Nat)(R:St->Prop)(Q:Fl->St->Prop)(X:Ex->St->Prop)(σ:St):Prop:=t.wp G hd af σ (WL a G hd af R Q X) X
noncomputable def Oa (t:TP)(a:List SP):W Fl:=λG hd af σ Q X=>∀R:St->Prop,(∀loc l l',Sub l' l->R ⟨loc,l'⟩->R ⟨loc,l⟩)->(∀σ,Lx t a G hd af R Q X σ->R σ)->R σ
theorem uD {G F af test body loc l l'}{Q:Fl->St->Prop}{X:Ex->St->Prop}(s:Sub l' l)(h:nu G F af test body ⟨loc,l'⟩ Q X):nu G F af test body ⟨loc,l⟩ Q X:=
 λA s' D D₀ hA S K=>h A s' D D₀ hA (S.forget s) K
theorem Ly {t:TP}{a:List SP} {G F c af s σ}{Q:Fl->St->Prop}{X:Ex->St->Prop}(H:Ctx G F c af)(h:Ob t a c s=true)(q:Oa t a G F.hd af σ Q X):J G F af (bA G) (exec s F.env) σ Q X:=by
 obtain⟨e,x,y,p,e',h'⟩:=y7 h
 subst e'
 have h:=h'
 obtain⟨h1,h2,h3⟩:=cM h
 cases List.isEmpty_iff.mp h3
 refine yJ H.ok (q (λσ=>nu G F af e x σ Q X) (λloc l l'=>uD) λσ w=>?_)
 refine yI H.ok ((t.ok H h1 w).mono (λr ae au=>?_) XX)
 cases r
 ·exact au
 ·exact(ik H a x ae h2 au).mono (λfl ar aS=>aS) XX
noncomputable def iZ (t:TP)(a:List SP):SP:=⟨Ob t a,Oa t a,Ly⟩
noncomputable def Pa (g:GP)(it:IP)(a:List SP)(c:Cx)(s:Stmt):Bool:=Dq s λe i x y _=>(g.ck c e&&(!g.ro||lg e)&&it.ck c i)&&(yg i&&rB c a x&&y.isEmpty)
noncomputable def Wt (a:List SP)(G:GC)(af:Nat)(R:St->Prop)(Q:Fl->St->Prop)(X:Ex->St->Prop)(σ:St):Prop:=bf G none af (Af R Q) X a σ
noncomputable def ez (g:GP)(a:List SP)(G:GC)(af:Nat)(R:It->St->Prop)(Q:Fl->St->Prop)(X:Ex->St->Prop)(I:It)(σ:St):Prop:=gj (I.nx g.ro σ.aa) (Q .next σ) λv I'=>g.wp G none af v σ (Wt a G af (R I') Q X) X
noncomputable def MM (g:GP)(a:List SP)(G:GC)(af:Nat)(I:It)(σ:St)(Q:Fl->St->Prop)(X:Ex->St->Prop):Prop:=
 ∀R:It->St->Prop,(∀I loc l l',Sub l' l->R I ⟨loc,l'⟩->R I ⟨loc,l⟩)->(∀I σ,ez g a G af R Q X I σ->R I σ)->R I σ
noncomputable def UK (g:GP)(a:List SP)(G:GC)(af:Nat)(Q:Fl->St->Prop)(X:Ex->St->Prop)(I:It)(σ:St):Prop:=MM g a G af I σ Q X
noncomputable def O' (g:GP)(it:IP)(a:List SP):W Fl:=λG hd af σ Q X=>match hd with
 |none=>it.wp G none af σ (UK g a G af Q X) X
 |some _=>False
theorem ML {g:GP}{it:IP}{a:List SP} {G F c af s σ}{Q:Fl->St->Prop}{X:Ex->St->Prop}(H:Ctx G F c af)(h:Pa g it a c s=true)(q:O' g it a G F.hd af σ Q X):J G F af (bA G) (exec s F.env) σ Q X:=by
 obtain⟨e,i,x,y,p,e',h'⟩:=Fg h
 subst e'
 have h:=h'
 obtain⟨h1,h2⟩:=aQ h
 obtain⟨h1,h3,h4⟩:=cM h1
 obtain⟨h5,h6,h7⟩:=cM h2
 cases List.isEmpty_iff.mp h7
 obtain⟨hh,q⟩:=nq q
 have UG:∀v σ Qe Xe,g.wp G none af v σ Qe Xe->gc G F af e v σ Qe Xe:=λv σ Qe Xe aS=>g.ok H h1 (hh▸aS)
 have U3:∀σ Qe Xe,bf G none af Qe Xe a σ->J G F af (bA G) (execs x F.env) σ Qe Xe:=λσ Qe Xe aS=>ik H a x σ h6 (hh▸aS)
 refine FH H.ok (nE h5 _) λA s D hA S=>dU (it.ok H h4 (hh▸q) A s D hA S) (λx' ak w=>dU w (λKe aT ⟨it,I,ar,bb,a1,a2,a3,a4,a5,a6⟩=>⟨it,I,ar,bb,a1,a2,a3,a4,a5,?_⟩) λ_ _ x=>x) λ_ _ x=>x
 refine a6 (λI σ=>Hf G F af e x I σ Q X) (λI loc l l' s h A s' D D₀ it hA S K=>h A s' D D₀ it hA (S.forget s) K) λI σ t=>?_
 obtain⟨t,e2⟩:=Jm t
 exact FG H.ok hh (λl i j hI=>by have:=e2 l i j hI;rw[this] at h3;exact h3) (t.mono λv I' t=>(UG _ _ _ _ t).mono λcn q'=>U3 cn _ _ q')
noncomputable def i5 (g:GP)(it:IP)(a:List SP):SP:=⟨Pa g it a,O' g it a,ML⟩
noncomputable def YS (hd:Option Value)(aa:ag)(a:Addr):Prop:=match hd with
 |none=>True
 |some (.ref eh)=>eh≠a/\∃k c dx fs,aa eh=some (.exc k c dx fs)/\1<=k
 |_=>False
noncomputable def OD (a:EP)(c:Cx)(s:Stmt):Bool:=onRaise s λe f _=>f.isNone&&jJ e λe=>a.ck c e
noncomputable def OC (G:GC)(hd:Option Value)(v:V)(σ:St)(X:Ex->St->Prop):Prop:=∃a c dx fs,v=.ref a/\c<4/\σ.aa a=some (.exc 2 (ZC G c) dx fs)/\YS hd σ.aa a/\X ⟨ZC G c,fs,hd.isNone⟩ ⟨σ.loc,rem σ.aa a⟩
theorem LX {a:EP} {G F c af s σ}{Q:Fl->St->Prop}{X:Ex->St->Prop}(H:Ctx G F c af)(h:OD a c s=true)(q:a.wp G F.hd af σ (λv ae=>OC G F.hd v ae X) X):J G F af (bA G) (exec s F.env) σ Q X:=by
 obtain⟨e,f,p,e',h⟩:=y9 h
 obtain⟨h0,h⟩:=aQ h
 obtain⟨e,e1,h⟩:=gU h
 cases Option.isNone_iff_eq_none.mp h0
 subst e' e1
 refine y5 H.ok ((a.ok H h q).mono (λv ae h=>?_) XX)
 obtain⟨r,k,dx,fs,h1,h2,h3,h4,h5⟩:=h
 exact⟨2,r,_,dx,fs,h1,h3,eR _,(H.g.Bf k h2).2.2.2.2,h4,h5⟩
noncomputable def KO (G:GC)(hd:Option Value)(X:Ex->St->Prop)(v:V)(σ:St):Prop:=OC G hd v σ X
noncomputable def hG (a:EP):SP:=⟨OD a,λG hd af σ Q X=>a.wp G hd af σ (KO G hd X) X,LX⟩
noncomputable def KZ (j k:Nat):Bool:=(j==1&&k==1)||(j==2&&k==2)||(j==3&&k==2)
noncomputable def I9 (c:Cx)(n:Option Str)(i:Option Nat):Bool:=match n,i with
 |none,none=>true
 |some x,some i=>CW c i x&&kindB c.kinds x .local
 |_,_=>false
noncomputable def Oh (a:List SP)(k:Nat)(i:Option Nat)(b:List SP)(c:Cx)(s:Stmt):Bool:=D3 s λx id n ys=>(je c id&&lH id (clsName k)&&(k==1||k==2))&&(I9 c n i&&rB c a x&&rB c b ys)
noncomputable def EI (G:GC)(hd:Option Value)(af:Nat)(k:Nat)(i:Option Nat)(b:List SP)(Q:Fl->St->Prop)(X:Ex->St->Prop)(ex:Ex)(σ:St):Prop:=
 ∃j,KZ j k=true/\ex.cls=ZC G j/\ex.fs.length<=500/\∀ea dx,σ.aa ea=none->match i with
  |none=>bf G (some (.ref ea)) af Q X b ⟨σ.loc,put σ.aa ea (.exc (if ex.nc then 1 else 0) ex.cls dx ex.fs)⟩
  |some i=>bf G (some (.ref ea)) af (λfl cn=>(∃v,rj cn.loc i=some (some v))/\Q fl (xP i cn)) (λ_ _=>False) b ⟨σ.loc.set i (some (.ref ea)),put σ.aa ea (.exc (if ex.nc then 1 else 0) ex.cls dx ex.fs)⟩
theorem BR {G F c af}(H:Ctx G F c af){n:Option Str}{i:Option Nat}(h:I9 c n i=true):Eb F n i:=by
 cases n with
 |none=>cases i with
  |none=>rfl
  |some _=>exact nomatch h
 |some x=>cases i with
  |none=>exact nomatch h
  |some i=>exact⟨i,rfl,H.Ny (aQ h).1,by rw[H.kind];exact ee (aQ h).2⟩
theorem LG {a:List SP}{k:Nat}{i:Option Nat}{b:List SP} {G F c af s σ}{Q:Fl->St->Prop}{X:Ex->St->Prop}(H:Ctx G F c af)(h:Oh a k i b c s=true)(q:bf G F.hd af Q (EI G F.hd af k i b Q X) a σ):J G F af (bA G) (exec s F.env) σ Q X:=by
 obtain⟨x,id,n,y,ys,np,hp,p,e',h'⟩:=BM h
 subst e'
 have h:=h'
 obtain⟨h1,h2⟩:=aQ h
 obtain⟨h1,h3,h4⟩:=cM h1
 obtain⟨h5,h6,h7⟩:=cM h2
 have h3:=cB h3
 subst h3
 have hk:nsIn G.K mainGlobals (clsName k)=some (some (.ref (ZC G k)))/\pP G.K (ZC G k)=true:=by
  rw[Bool.or_eq_true] at h4
  rcases h4 with h4|h4
  ·rw[beq_iff_eq.mp h4];exact⟨(H.g.prog _ (dD (by decide+kernel))).1,(H.g.Bf 1 (by decide)).2.2.2.2⟩
  ·rw[beq_iff_eq.mp h4];exact⟨(H.g.prog _ (dD (by decide+kernel))).1,(H.g.Bf 2 (by decide)).2.2.2.2⟩
 have hm:∀j,KZ j k=true->mroIn G.K (ZC G j) (.ref (ZC G k))=some true:=by
  intro j e
  unfold KZ at e
  rw[Bool.or_eq_true,Bool.or_eq_true] at e
  rcases e with(e|e)|e<;>(obtain⟨e1,e2⟩:=aQ e;rw[beq_iff_eq.mp e1,beq_iff_eq.mp e2])
  ·exact H.g.mro.1
  ·exact H.g.mro.2.1
  ·exact H.g.mro.2.2
 refine EO (C:=ZC G k) (ni:=i) H.ok hk.1 (H.glob h1) (bF (aQ h1).1).1 hk.2 ?_ ((ik H a x σ h6 q).mono (λ_ _ x=>x) λex ae au=>?_)
 ·exact BR H h5
 ·obtain⟨j,m1,m2,m3,m4⟩:=au
  refine⟨true,by rw[m2];exact hm j m1,m3,λea dx hl=>?_⟩
  have H':Ctx G (F.held ea) c af:=⟨H.g,H.ok.held ea,⟨H.cx.names,H.cx.kinds,H.cx.cell⟩,H.one⟩
  have m4:=m4 ea dx hl
  cases i with
  |none=>exact ik H' b (y::ys) _ h7 m4
  |some i=>exact(ik H' b (y::ys) _ h7 m4).mono (λfl cn ⟨⟨v,hv⟩,q'⟩=>⟨⟨v,by rw[←ie];exact hv⟩,q'⟩) XX
noncomputable def KH (a:List SP)(k:Nat)(i:Option Nat)(b:List SP):SP:=⟨Oh a k i b,λG hd af σ Q X=>bf G hd af Q (EI G hd af k i b Q X) a σ,LG⟩
structure Fn where
 names:List Str
 j8:Nat
 body:List SP
noncomputable def RD:List Str->Bool
 |[]=>true
 |x::r=>!(i7 x r)&&RD r
theorem HQ {x:Str}:∀{l:List Str},x∈l->i7 x l=true:=by
 intro l
 induction l with
 |nil=>intro h;cases h
 |cons y r ih=>
  intro h
  rw[i7,Bool.or_eq_true]
  rcases List.mem_cons.mp h with rfl|h
  ·exact .inl (uw.mpr rfl)
  ·exact .inr (ih h)
theorem Ea:∀{l:List Str},RD l=true->l.Nodup:=by
 intro z_
 induction z_ with
 |nil=>
  intro _
  exact List.nodup_nil
 |cons x r ih=>
  intro h
  obtain⟨h1,h2⟩:=aQ h
  exact List.nodup_cons.mpr ⟨λm=>(by rw[HQ m] at h1;cases h1),ih h2⟩
noncomputable def Lh:List Str->List Str->Bool
 |[],l=>l.isEmpty
 |x::r,l=>match l with
  |y::s=>lH x y&&Lh r s
  |[]=>false
theorem AR:∀{a b:List Str},Lh a b=true->a=b:=by
 intro z_
 induction z_ with
 |nil=>
  intro b h
  exact(List.isEmpty_iff.mp h).symm
 |cons x r ih=>
  intro c_ h
  cases c_ with
  |nil=>
   cases h
  |cons y s=>
   obtain⟨h1,h2⟩:=aQ h;rw[cB h1,ih h2]
noncomputable def K6 (n:Int)(c:Value):Bool:=match c with
 |.int m _=>m==n
 |_=>false
noncomputable def pR:List Int->List Value->Bool
 |[],cs=>cs.isEmpty
 |n::ns,cs=>match cs with
  |[]=>false
  |c::r=>K6 n c&&pR ns r
theorem AM {n:Int}{c:Value}(h:K6 n c=true):∃u,c=.int n u:=by
 cases c with
 |int m u=>exact⟨u,by rw[beq_iff_eq.mp h]⟩
 |_=>cases h
theorem Fy {n:Int}{ns:List Int}{cs:List Value}(h:pR (n::ns) cs=true):∃u r,cs=.int n u::r/\pR ns r=true:=by
 cases cs with
 |nil=>cases h
 |cons c r=>obtain⟨a,b⟩:=aQ h;obtain⟨u,rfl⟩:=AM a;exact⟨u,r,rfl,b⟩
noncomputable def jg (p:Arguments)(ns:List Str):Bool:=p.posonlyargs.isEmpty&&Lh (p.args.map (·.arg)) ns&&p.kwonlyargs.isEmpty&&(p.vararg.isNone&&p.kwarg.isNone)
noncomputable def JY (b:FuncBody)(c:Cx)(ts:List SP):Bool:=match b with
 |.stmts l=>rB c ts l
 |_=>false
noncomputable def pY (K:Frag)(fd:FuncData)(fn:Fn):Bool:=
 (fd.globals==mainGlobals&&fd.builtins==builtinsNs&&fd.closure.isEmpty&&!fd.scope.isCoroutine)&&(!fd.scope.isGenerator&&fd.scope.kind==.function&&codeIn K fd.code fd.qualname&&RD fn.names)&&
 (decide (fn.j8<=fn.names.length)&&(fn.names.take fn.j8).all (λx=>kindB fd.scope.names x .local||(kindB fd.scope.names x .cell&&i7 x ((cellsFrom 0 fd.scope.names []).map (·.1))))&&RD ((cellsFrom 0 fd.scope.names []).map (·.1))&&
 fd.scope.names.all (λx=>!(x.2==.cell)||i7 x.1 ((cellsFrom 0 fd.scope.names []).map (·.1))))&&JY fd.body ⟨fn.names,fd.scope.names,true⟩ fn.body
noncomputable def GW (c:Value):Option Str:=match c with
 |.str s _=>some s
 |_=>none
theorem Av {c:Value}{s:Str}(h:GW c=some s):∃u,c=.str s u:=by
 cases c with
 |str x u=>cases h;exact⟨u,rfl⟩
 |_=>exact nomatch h
noncomputable def CY (c:Value):Option Addr:=match c with
 |.ref a=>some a
 |_=>none
theorem pe {c:Value}{a:Addr}(h:CY c=some a):c=.ref a:=by
 cases c with
 |ref x=>cases h;rfl
 |_=>exact nomatch h
noncomputable def DJ (o:Obj):Option (List DictEntry):=match o.data with
 |.dict es _=>some es.toList
 |_=>none
theorem FZ {o:Obj}{es:List DictEntry}(h:DJ o=some es):∃n,o.data=.dict ⟨es⟩ n:=by
 unfold DJ at h
 cases e:o.data with
 |dict x n=>rw[e] at h;cases h;exact⟨n,rfl⟩
 |_=>rw[e] at h;exact nomatch h
noncomputable def GX (o:Obj):Option (Array Value):=match o.data with
 |.seq vs _=>some vs
 |_=>none
theorem Az {o:Obj}{vs:Array Value}(h:GX o=some vs):∃n,o.data=.seq vs n:=by
 unfold GX at h
 cases e:o.data with
 |seq x n=>rw[e] at h;cases h;exact⟨n,rfl⟩
 |_=>rw[e] at h;exact nomatch h
noncomputable def IU {α β:Type}(o:Option α)(f:α->Option β):Option β:=match o with
 |none=>none
 |some a=>f a
theorem kY {α β:Type}{o:Option α}{f:α->Option β}{b:β}(h:IU o f=some b):∃a,o=some a/\f a=some b:=by
 cases o with
 |none=>exact nomatch h
 |some a=>exact⟨a,rfl,h⟩
noncomputable def cX (K:Frag)(f:Addr)(fn:Fn):Bool:=match fnAt K f with
 |some fd=>pY K fd fn&&jg fd.params (fn.names.take fn.j8)&&(fd.defaults==.none)
 |none=>false
theorem B6 {C:Frag}{D:Led}{ns:List Int}{cs:List Value}(h:pR ns cs=true):aY C D (ns.map V.int) cs:=by
 induction ns generalizing cs with
 |nil=>cases List.isEmpty_iff.mp h;exact .nil
 |cons n ns ih=>obtain⟨u,r,rfl,h'⟩:=Fy h;exact .cons (.int _ _) (ih h')
set_option tactic.hygienic true in
theorem Ib {K:Frag}{f:Addr}{fd:FuncData}(h:fnAt K f=some fd):∃o,K.lookup f=some o/\o.data=.func fd:=by
 unfold fnAt at h
 split at h
 ·rename_i a b Zb d e;cases h;exact⟨_,e,rfl⟩
 ·cases h
set_option tactic.hygienic true in
theorem qe {G:GC}{f:Addr}{fd:FuncData}{fn:Fn}(h:fnAt G.K f=some fd)(hs:pY G.K fd fn=true):
  ∃b,Lr G f fd b fn.names fn.j8/\rB ⟨fn.names,fd.scope.names,true⟩ fn.body b=true/\∀x,fd.scope.names.lookup x=some .cell->x∈(cellsFrom 0 fd.scope.names []).map (·.1):=by
 obtain⟨h1,h2,h3,h4⟩:=dF hs
 obtain⟨a1,a2,a3,a4⟩:=dF h1
 obtain⟨b1,b2,b3,b4⟩:=dF h2
 obtain⟨c1,c2,c3,c4⟩:=dF h3
 unfold JY at h4
 split at h4
 ·rename_i l hb
  refine⟨l,⟨Ib h,hb,beq_iff_eq.mp a1,beq_iff_eq.mp a2,List.isEmpty_iff.mp a3,by simpa using a4,by simpa using b1,beq_iff_eq.mp b2,b3,Ea b4,tC c1,λx hx=>?_,Ea c3⟩,h4,λx hx=>?_⟩
  ·have:=List.all_eq_true.mp c2 x hx
   rw[Bool.or_eq_true] at this
   rcases this with e|e
   ·exact .inl (ee e)
   ·obtain⟨e1,e2⟩:=aQ e
    exact .inr ⟨ee e1,dD e2⟩
  ·have hm:(x,NameKind.cell)∈fd.scope.names:=by
    have:∀l:List (Str×NameKind),l.lookup x=some .cell->(x,NameKind.cell)∈l:=by
     intro l
     induction l with
     |nil=>intro h;cases h
     |cons p r ih=>
      intro h
      obtain⟨y,k⟩:=p
      rw[List.lookup_cons] at h
      split at h
      ·rename_i e;cases h;rw[beq_iff_eq.mp e];exact .head _
      ·exact .tail _ (ih h)
    exact this _ hx
   have:=List.all_eq_true.mp c4 _ hm
   have:i7 x ((cellsFrom 0 fd.scope.names []).map (·.1))=true:=by simpa using this
   exact dD this
 ·cases h4
theorem zg {x:Str}:∀{ns:List Str}{cs:List Value},ns.length=cs.length->x∈ns->((ns.zip cs).lookup x).isNone=false:=by
 intro z_
 induction z_ with
 |nil=>
  intro _ _ h
  cases h
 |cons n ns ih=>
  intro c_ h hx
  cases c_ with
  |nil=>
   cases h
  |cons c cs=>
   rw[List.zip_cons_cons,List.lookup_cons]
   split
   ·rfl
   ·rename_i e
    have:x≠n:=by simpa using e
    rcases List.mem_cons.mp hx with h'|h'
    ·exact absurd h' this
    ·exact ih (by simpa using h) h'
theorem zv:∀{ns:List Str}{cs:List Value},ns.Nodup->ns.length=cs.length->(ns.filterMap λn=>((ns.zip cs).lookup n).map (n,·))=ns.zip cs:=by
 have gen:∀(ns:List Str) (cs:List Value) (l:List (Str×Value)),ns.Nodup->ns.length=cs.length->(∀p∈l,p.1∉ns)->(ns.filterMap λn=>((l++ns.zip cs).lookup n).map (n,·))=ns.zip cs:=by
  intro ns
  induction ns with
  |nil=>intro cs l _ _ _;rfl
  |cons n ns ih=>
   intro cs l hn hl hp
   match cs,hl with
   |c::cs,hl=>
    rw[List.nodup_cons] at hn
    have e:(l++(n::ns).zip (c::cs)).lookup n=some c:=by
     rw[List.zip_cons_cons]
     have:∀l:List (Str×Value),(∀p∈l,p.1≠n)->(l++(n,c)::ns.zip cs).lookup n=some c:=by
      intro l
      induction l with
      |nil=>intro _;simp[List.lookup_cons]
      |cons p r Xu=>
       intro h
       rw[List.cons_append,List.lookup_cons]
       have:(n==p.1)=false:=beq_eq_false_iff_ne.mpr λe=>h p (.head _) e.symm
       rw[this];exact Xu λq hq=>h q (.tail _ hq)
     exact this l λp va e=>hp p va (e▸.head _)
    rw[List.filterMap_cons,e]
    show(n,c)::_=_
    rw[List.zip_cons_cons]
    have e2:l++(n,c)::ns.zip cs=(l++[(n,c)])++ns.zip cs:=by simp
    rw[e2,ih cs (l++[(n,c)]) hn.2 (by simpa using hl) λp va=>?_]
    rcases List.mem_append.mp va with h|h
    ·exact λm=>hp p h (.tail _ m)
    ·rw[List.mem_singleton.mp h];exact hn.1
 intro ns cs hn hl
 exact gen ns cs [] hn hl λp hp=>by cases hp
theorem zU {fd:FuncData}{ns:List Str}{cs:List Value}(hp:jg fd.params ns=true)(hd:fd.defaults=.none)(hn:ns.Nodup)(hl:ns.length=cs.length):bindArgs fd ⟨cs,[]⟩=pure (ns.zip cs):=by
 obtain⟨h1,h2,h3,h4⟩:=dF hp
 obtain⟨h4,h5⟩:=aQ h4
 have h1:=List.isEmpty_iff.mp h1
 have h2:=AR h2
 have h3:=List.isEmpty_iff.mp h3
 have h4:=Option.isNone_iff_eq_none.mp h4
 have h5:=Option.isNone_iff_eq_none.mp h5
 have e1:seqItems? .none=pure none:=rfl
 have e2:(ns.take ns.length).filter (λn=>((ns.zip cs).lookup n).isNone)=[]:=by
  rw[List.take_length,List.filter_eq_nil_iff]
  intro x hx
  rw[zg hl hx];simp
 have e3:=zv hn hl
 have e4:¬cs.length>ns.length:=by exact Nat.not_lt.mpr (a20 0xc408270cc101 tt hl)
 unfold bindArgs
 simp[hd,e1,e3,e4,h1,h2,h3,h4,h5]
 intro x hx rZ
 exfalso
 obtain⟨i,hi⟩:=List.mem_iff_getElem?.mp hx
 obtain⟨c,hc⟩:∃c,cs[i]?=some c:=by
  have:i<ns.length:=(List.getElem?_eq_some_iff.mp hi).1
  exact⟨cs[i]'(hl▸this),List.getElem?_eq_getElem _⟩
 exact rZ c (zip_get hi hc)
inductive xV {α:Type}(Q:α->ag->Prop)(a:α)(l:ag):Prop
 |mk (l':ag):Sub l' l->Q a l'->xV Q a l
theorem b5.weak {G:GC}{H:Option Value->Prop}{af:Nat}{f:Addr}{vs:List V}{kw:List (Str×V)}{aa:ag}{Q:V->ag->Prop}{X:Ex->ag->Prop}
  (h:b5 G H af f vs kw aa (xV Q) (xV X)):b5 G H af f vs kw aa Q X:=by
 intro F σ A s D cs ks ok hh hl hA S hv hk
 refine codeAny_mono (h F σ A s D cs ks ok hh hl hA S hv hk) λr s' hr=>?_
 rcases hr.is with⟨v,rfl,⟨b,cn,D',S',K',i,e,l',hs,q⟩⟩|⟨e,rfl,⟨ex,cn,D',S',K',⟨ea,dx,oe,ws,P,e1,o⟩,e2,l',hs,q⟩⟩
 ·exact⟨b,⟨cn.loc,l'⟩,D',S'.forget hs,K',i,e,q⟩
 ·exact⟨ex,⟨cn.loc,l'⟩,D',S'.forget hs,K',⟨ea,dx,oe,ws,P,e1,{ o with aa:=λa u h=>o.aa a u (hs a u h) }⟩,e2,q⟩
noncomputable def bB (Q:V->ag->Prop)(fl:Fl)(σ:St):Prop:=match fl with
 |.ret v=>xV Q v σ.aa
 |.next=>xV Q .none σ.aa
 |_=>False
noncomputable def bc (X:Ex->ag->Prop)(ex:Ex)(σ:St):Prop:=xV X ex σ.aa
theorem qT {G:GC}(g:GB G){f:Addr}{fn:Fn}{fd:FuncData}{us vs:List V}{kw:List (Str×V)}{af:Nat}{hd:Option Value}{aa:ag}{Q:V->ag->Prop}{X:Ex->ag->Prop}(hf:fnAt G.K f=some fd)(hs:pY G.K fd fn=true)(hn:vs.length=fn.j8)
  (hb:yH G fd fn.names us kw vs) (one:1<=af) (bX:List (Option V)) (bz:vs.map some++List.replicate (fn.names.length-vs.length) none=bX)
  (h:bf G hd af (bB Q) (bc X) fn.body ⟨bX,aa⟩):b5 G (·=hd) (af+1) f us kw aa Q X:=by
 obtain⟨b,iC,ck,hc⟩:=qe hf hs
 refine b5.weak (F7 (body:=b) (names:=fn.names) (vs:=vs) (hn▸iC) hb λF' L ok Gu Kl xO tH=>?_)
 have cx:Lv F' ⟨fn.names,fd.scope.names,true⟩:=by
  refine⟨Kl,by rw[xO];rfl,λ_ x hx=>?_⟩
  have e:=fe (hc x hx) (L+1)
  obtain⟨ca,e⟩:=Option.isSome_iff_exists.mp e
  have e':F'.env.cells.lookup x=some ca:=by rw[xO];exact e
  refine⟨ca,e',?_⟩
  rw[tH]
  exact List.mem_map_of_mem (f:=(·.2)) (mem_lookup e)
 change F'.hd=hd at Gu
 rw[bz]
 refine(ik (Q:=bB Q) (X:=bc X) ⟨g,ok,cx,one⟩ fn.body b ⟨bX,aa⟩ ck (Gu.symm▸h)).mono (λfl cn q=>?_) λex cn q=>q
 cases fl<;>exact q
theorem A1 {G:GC}{fd:FuncData}{ns:List Str}{vs:List V}(hp:jg fd.params (ns.take vs.length)=true)(hd:fd.defaults=.none)(hn:ns.Nodup)(hl:vs.length<=ns.length):yH G fd ns vs [] vs:=by
 intro s D cs ks _ hv hk
 cases hk
 refine⟨cs,hv,BindsTo.of_eq (zU hp hd (hn.sublist (List.take_sublist _ _)) ?_)⟩
 rw[hv.length,List.length_take];omega
set_option tactic.hygienic true in
theorem ax {G:GC}(g:GB G){f:Addr}{fn:Fn}{vs:List V}{af:Nat}{hd:Option Value}{aa:ag}{Q:V->ag->Prop}{X:Ex->ag->Prop}(hf:cX G.K f fn=true)(hn:vs.length=fn.j8)(one:1<=af)
  (bX:List (Option V)) (bz:vs.map some++List.replicate (fn.names.length-vs.length) none=bX) (h:bf G hd af (bB Q) (bc X) fn.body ⟨bX,aa⟩):b5 G (·=hd) (af+1) f vs [] aa Q X:=by
 unfold cX at hf
 split at hf
 ·rename_i fd xw
  obtain⟨h1,h2,h3⟩:=cM hf
  obtain⟨b,iC,_⟩:=qe xw h1
  exact qT g xw h1 hn (A1 (hn▸h2) (beq_iff_eq.mp h3) iC.nm (hn▸iC.na)) one bX bz h
 ·cases hf
noncomputable def iM:Fn:=⟨["self","text"],2,[
 gu (MO [loc 0,loc 1]),
 sset (Oj false (loc 0)) (loc 1)]⟩
noncomputable def jC:Fn:=⟨["self","code","text"],3,[
 gu (sx 0 [loc 0,loc 2]),
 sset (Oj true (loc 0)) (loc 1)]⟩
noncomputable def iN:Fn:=⟨["self","text"],2,[
 gu (sx 2 [loc 0,neg (lit (.int 1)),loc 1])]⟩
noncomputable def jB:Fn:=⟨["n","count"],1,[
 aM 0 (bN .abs [loc 0]),
 aM 1 (lit (.int 0)),
 iZ (aq .ge (loc 0) (lit (.int 1000000000))) [
  eZ 0 .fdiv (lit (.int 1000000000)),
  eZ 1 .add (lit (.int 9))],
 iZ (aq .gt (loc 0) (lit (.int 0))) [
  eZ 0 .fdiv (lit (.int 10)),
  eZ 1 .add (lit (.int 1))],
 aC (loc 1)]⟩
noncomputable def ky:Fn:=⟨["m","e"],2,[
 site (aq .eq (loc 0) (lit (.int 0))) [
  aC (glob 6)] [],
 iZ (aq .eq (bin .mod (loc 0) (lit (.int 10))) (lit (.int 0))) [
  eZ 0 .fdiv (lit (.int 10)),
  eZ 1 .add (lit (.int 1))],
 aC (tup [loc 0,loc 1])]⟩
noncomputable def jx:Fn:=⟨["m","e","digits","drop","power","kept","rest"],3,[
 aM 3 (bin .sub (aj "count_digits" [loc 0]) (loc 2)),
 site (aq .gt (loc 3) (lit (.int 0))) [
  aM 4 (bin .pow (lit (.int 10)) (loc 3)),
  eF (cS [ay 5,ay 6]) (bN .divmod [bN .abs [loc 0],loc 4]),
  site (gw [aq .gt (bin .mul (lit (.int 2)) (loc 6)) (loc 4),eE [aq .eq (bin .mul (lit (.int 2)) (loc 6)) (loc 4),aq .eq (bin .mod (loc 5) (lit (.int 2))) (lit (.int 1))]]) [
   eZ 5 .add (lit (.int 1))] [],
  aM 0 (eX (aq .gt (loc 0) (lit (.int 0))) (loc 5) (neg (loc 5))),
  eZ 1 .add (loc 3)] [],
 aC (aj "strip_zeros" [loc 0,loc 1])]⟩
noncomputable def mO:Fn:=⟨["m","e","digits","top","lead"],4,[
 eF (cS [ay 0,ay 1]) (aj "round_digits" [loc 0,loc 1,loc 2]),
 aM 4 (bin .sub (bin .add (loc 1) (aj "count_digits" [loc 0])) (lit (.int 1))),
 site (gw [aq .eq (loc 0) (lit (.int 0)),aq .lt (loc 4) (neg (loc 3))]) [
  aC (glob 6)] [],
 site (aq .gt (loc 4) (loc 3)) [
  hG (aj "RunFault" [lit (.str [111,118,101,114,102,108,111,119])])] [],
 aC (tup [loc 0,loc 1])]⟩
noncomputable def oz:Fn:=⟨["kind","limits"],2,[
 aC (eX (aq .eq (loc 0) (glob 1)) (attr 7 1 (loc 1)) (attr 7 2 (loc 1)))]⟩
noncomputable def kz:Fn:=⟨["field","is_zero","out","sign"],2,[
 aM 2 (lit (.str [])),
 i5 (ay 3) (oC (loc 0)) [
  site (aq .ne (loc 3) (lit (.str [32]))) [
   eZ 2 .add (loc 3)] [
   site (eE [oZ (loc 1),aq .ne (loc 2) (lit (.str [])),aq .ne (item (loc 2) (neg (lit (.int 1)))) (lit (.str [69])),aq .ne (item (loc 2) (neg (lit (.int 1)))) (lit (.str [68]))]) [
    eZ 2 .add (lit (.str [48]))] []]],
 aC (loc 2)]⟩
noncomputable def qF:Fn:=⟨["figures","number","sign","at"],1,[
 aM 1 (lit (.int 0)),
 i5 (ay 2) (oC (loc 0)) [
  aM 3 (e9 .find (glob 7) [loc 2]),
  site (aq .lt (loc 3) (lit (.int 0))) [
   aC (neg (lit (.int 1)))] [],
  aM 1 (bin .add (bin .mul (loc 1) (lit (.int 10))) (loc 3))],
 site (aq .eq (loc 0) (lit (.str []))) [
  aC (neg (lit (.int 1)))] [],
 aC (loc 1)]⟩
noncomputable def qS:Fn:=⟨["text"],1,[
 site (aq .eq (gr true (loc 0) none (some (lit (.int 1)))) (lit (.str [45]))) [
  aC (tup [neg (lit (.int 1)),gr true (loc 0) (some (lit (.int 1))) none])] [],
 site (aq .eq (gr true (loc 0) none (some (lit (.int 1)))) (lit (.str [43]))) [
  aC (tup [lit (.int 1),gr true (loc 0) (some (lit (.int 1))) none])] [],
 aC (tup [lit (.int 1),loc 0])]⟩
noncomputable def qR:Fn:=⟨["number","width","limit"],2,[
 aM 2 (bin .shl (lit (.int 1)) (bin .sub (loc 1) (lit (.int 1)))),
 aC (chain .le .lt (neg (loc 2)) (loc 0) (loc 2))]⟩
noncomputable def qI:Fn:=⟨["field","is_zero","width","text","sign","rest","number"],3,[
 aM 3 (aj "solid_field" [loc 0,loc 1]),
 site (aq .eq (loc 3) (lit (.str []))) [
  aC (lit (.int 0))] [],
 eF (cS [ay 4,ay 5]) (aj "cut_sign" [loc 3]),
 aM 6 (aj "whole_of" [loc 5]),
 site (aq .lt (loc 6) (lit (.int 0))) [
  hG (aj "IoFault" [glob 8,lit (.str [110,111,32,119,104,111,108,101,32,110,117,109,98,101,114,32,105,110,32,116,104,101,32,102,105,101,108,100])])] [],
 site (A' (oZ (aj "in_width" [bin .mul (loc 4) (loc 6),loc 2]))) [
  hG (aj "IoFault" [glob 9,lit (.str [116,104,101,32,119,104,111,108,101,32,110,117,109,98,101,114,32,105,115,32,116,111,111,32,103,114,101,97,116])])] [],
 aC (bin .mul (loc 4) (loc 6))]⟩
noncomputable def jA:Fn:=⟨["text","at"],1,[
 i5 (ay 1) (xK (bN .len [loc 0])) [
  site (gw [aq .eq (item (loc 0) (loc 1)) (lit (.str [69])),aq .eq (item (loc 0) (loc 1)) (lit (.str [68]))]) [
   aC (tup [gr true (loc 0) none (some (loc 1)),gr true (loc 0) (some (bin .add (loc 1) (lit (.int 1)))) none,lit (.bool true)])] [],
  site (gw [aq .eq (item (loc 0) (loc 1)) (lit (.str [43])),aq .eq (item (loc 0) (loc 1)) (lit (.str [45]))]) [
   aC (tup [gr true (loc 0) none (some (loc 1)),gr true (loc 0) (some (loc 1)) none,lit (.bool true)])] []],
 aC (tup [loc 0,lit (.str []),lit (.bool false)])]⟩
noncomputable def gX:Fn:=⟨["text","sign","rest","number"],1,[
 eF (cS [ay 1,ay 2]) (aj "cut_sign" [loc 0]),
 aM 3 (aj "whole_of" [loc 2]),
 site (aq .lt (loc 3) (lit (.int 0))) [
  hG (aj "IoFault" [glob 8,lit (.str [110,111,32,101,120,112,111,110,101,110,116,32,105,110,32,116,104,101,32,102,105,101,108,100])])] [],
 aC (bin .mul (loc 1) (loc 3))]⟩
noncomputable def jz:Fn:=⟨["text","d","point","figures","places","number"],2,[
 aM 2 (e9 .find (loc 0) [lit (.str [46])]),
 site (aq .lt (loc 2) (lit (.int 0))) [
  aM 3 (loc 0),
  aM 4 (loc 1)] [
  aM 3 (bin .add (gr true (loc 0) none (some (loc 2))) (gr true (loc 0) (some (bin .add (loc 2) (lit (.int 1)))) none)),
  aM 4 (bin .sub (bin .sub (bN .len [loc 0]) (loc 2)) (lit (.int 1)))],
 aM 5 (aj "whole_of" [loc 3]),
 site (aq .lt (loc 5) (lit (.int 0))) [
  hG (aj "IoFault" [glob 8,lit (.str [110,111,32,110,117,109,98,101,114,32,105,110,32,116,104,101,32,102,105,101,108,100])])] [],
 aC (tup [loc 5,loc 4])]⟩
noncomputable def n9:Fn:=⟨["field","d","scale","is_zero","digits","top","text","sign","rest","figures","tail","has_exponent","number","places","power"],6,[
 aM 6 (aj "solid_field" [loc 0,loc 3]),
 site (aq .eq (loc 6) (lit (.str []))) [
  aC (tup [lit (.int 0),lit (.int 0)])] [],
 eF (cS [ay 7,ay 8]) (aj "cut_sign" [loc 6]),
 eF (cS [ay 9,ay 10,ay 11]) (aj "cut_exponent" [loc 8]),
 eF (cS [ay 12,ay 13]) (aj "read_figures" [loc 9,loc 1]),
 site (oZ (loc 11)) [
  aM 14 (bin .sub (aj "field_exponent" [loc 10]) (loc 13))] [
  aM 14 (bin .sub (neg (loc 2)) (loc 13))],
 KH [
  aC (aj "round_real" [bin .mul (loc 7) (loc 12),loc 14,loc 4,loc 5])] 1 none [
  hG (aj "IoFault" [glob 9,lit (.str [116,104,101,32,114,101,97,108,32,105,115,32,116,111,111,32,103,114,101,97,116])])]]⟩
noncomputable def jy:Fn:=⟨["field","at"],1,[
 aM 1 (lit (.int 0)),
 iZ (eE [aq .lt (loc 1) (bN .len [loc 0]),aq .eq (item (loc 0) (loc 1)) (lit (.str [32]))]) [
  eZ 1 .add (lit (.int 1))],
 site (aq .eq (gr true (loc 0) (some (loc 1)) (some (bin .add (loc 1) (lit (.int 1))))) (lit (.str [46]))) [
  eZ 1 .add (lit (.int 1))] [],
 site (aq .eq (gr true (loc 0) (some (loc 1)) (some (bin .add (loc 1) (lit (.int 1))))) (lit (.str [84]))) [
  aC (lit (.bool true))] [],
 site (aq .eq (gr true (loc 0) (some (loc 1)) (some (bin .add (loc 1) (lit (.int 1))))) (lit (.str [70]))) [
  aC (lit (.bool false))] [],
 hG (aj "IoFault" [glob 8,lit (.str [110,101,105,116,104,101,114,32,84,32,110,111,114,32,70,32,105,110,32,116,104,101,32,102,105,101,108,100])])]⟩
noncomputable def iL:Fn:=⟨["figures","top"],2,[
 site (aq .le (loc 1) (lit (.int 0))) [
  aC (bin .add (bin .add (lit (.str [48,46])) (bin .mul (lit (.str [48])) (neg (loc 1)))) (loc 0))] [],
 site (aq .ge (loc 1) (bN .len [loc 0])) [
  aC (bin .add (bin .add (loc 0) (bin .mul (lit (.str [48])) (bin .sub (loc 1) (bN .len [loc 0])))) (lit (.str [46,48])))] [],
 aC (bin .add (bin .add (gr true (loc 0) none (some (loc 1))) (lit (.str [46]))) (gr true (loc 0) (some (loc 1)) none))]⟩
noncomputable def iK:Fn:=⟨["power","text"],1,[
 aM 1 (bN .str [bN .abs [loc 0]]),
 site (aq .lt (bN .len [loc 1]) (lit (.int 2))) [
  aM 1 (bin .add (lit (.str [48])) (loc 1))] [],
 site (aq .lt (loc 0) (lit (.int 0))) [
  aC (bin .add (lit (.str [45])) (loc 1))] [],
 aC (bin .add (lit (.str [43])) (loc 1))]⟩
noncomputable def oq:Fn:=⟨["value","letter","digits","m","e","sign","figures","top"],3,[
 eF (cS [ay 3,ay 4]) (loc 0),
 site (aq .eq (loc 3) (lit (.int 0))) [
  aC (lit (.str [48,46,48]))] [],
 aM 5 (eX (aq .lt (loc 3) (lit (.int 0))) (lit (.str [45])) (lit (.str []))),
 aM 6 (bN .str [bN .abs [loc 3]]),
 aM 7 (bin .add (bN .len [loc 6]) (loc 4)),
 site (tK .le .le (lit (.int 0)) (loc 7) (loc 2)) [
  aC (bin .add (loc 5) (aj "fixed_figures" [loc 6,loc 7]))] [],
 aC (bin .add (bin .add (bin .add (loc 5) (aj "fixed_figures" [loc 6,lit (.int 1)])) (loc 1)) (aj "list_exponent" [bin .sub (loc 7) (lit (.int 1))]))]⟩
noncomputable def jw:Fn:=⟨["kind","value","limits","parts"],3,[
 site (aq .eq (loc 0) (glob 0)) [
  aC (gv [bN .str [loc 1]])] [],
 site (aq .eq (loc 0) (glob 4)) [
  aC (gv [eX (oZ (loc 1)) (lit (.str [84])) (lit (.str [70]))])] [],
 site (aq .eq (loc 0) (glob 3)) [
  nS 3 ⟨aj "list_real" [loc 0,lit (.str [69]),attr 7 1 (loc 1)],ay 0,oC (loc 1),none,["part","limits"],1,[2]⟩,
  aC (gv [bin .add (bin .add (lit (.str [40])) (item (loc 3) (lit (.int 0)))) (lit (.str [44])),bin .add (item (loc 3) (lit (.int 1))) (lit (.str [41]))])] [],
 aC (gv [aj "list_real" [loc 1,eX (aq .eq (loc 0) (glob 2)) (lit (.str [68])) (lit (.str [69])),aj "digits_of" [loc 0,loc 2]]])]⟩
noncomputable def fX:Fn:=⟨["self","width"],2,[
 sset (bw 4 0 (loc 0)) (bN .max [lit (.int 2),loc 1]),
 sset (bw 4 1 (loc 0)) (gv []),
 sset (bw 4 2 (loc 0)) (lit (.str [32])),
 sset (bw 4 3 (loc 0)) (lit (.bool true))]⟩
noncomputable def fW:Fn:=⟨["self"],1,[
 gu (e9 .append (attr 4 1 (loc 0)) [attr 4 2 (loc 0)]),
 sset (bw 4 2 (loc 0)) (lit (.str [32])),
 sset (bw 4 3 (loc 0)) (lit (.bool true))]⟩
noncomputable def om:Fn:=⟨["writer","piece","needed"],2,[
 aM 2 (eX (oZ (attr 4 3 (loc 0))) (loc 1) (bin .add (lit (.str [32])) (loc 1))),
 site (eE [aq .gt (bin .add (bN .len [attr 4 2 (loc 0)]) (bN .len [loc 2])) (attr 4 0 (loc 0)),aq .ne (attr 4 2 (loc 0)) (lit (.str [32]))]) [
  gu (lR true (loc 0)),
  aM 2 (loc 1)] [],
 lP 4 2 (loc 0) .add (loc 2),
 sset (bw 4 3 (loc 0)) (lit (.bool false))]⟩
noncomputable def qJ:Fn:=⟨["writer","text","sign"],2,[
 i5 (ay 2) (oC (loc 1)) [
  site (aq .ge (bN .len [attr 4 2 (loc 0)]) (attr 4 0 (loc 0))) [
   gu (lR true (loc 0))] [],
  lP 4 2 (loc 0) .add (loc 2)],
 sset (bw 4 3 (loc 0)) (lit (.bool true))]⟩
noncomputable def oj:Fn:=⟨["writer","kind","value","limits","pieces","whole"],4,[
 site (aq .eq (loc 1) (glob 5)) [
  gu (aj "put_text" [loc 0,loc 2]),
  Dj] [],
 aM 4 (aj "value_pieces" [loc 1,loc 2,loc 3]),
 aM 5 (e9 .join (lit (.str [])) [loc 4]),
 site (gw [aq .eq (bN .len [loc 4]) (lit (.int 1)),aq .lt (bN .len [loc 5]) (attr 4 0 (loc 0))]) [
  gu (aj "put_piece" [loc 0,loc 5]),
  Dj] [],
 site (aq .ne (attr 4 2 (loc 0)) (lit (.str [32]))) [
  gu (lR true (loc 0))] [],
 gu (aj "put_piece" [loc 0,item (loc 4) (lit (.int 0))]),
 gu (lR true (loc 0)),
 gu (aj "put_piece" [loc 0,item (loc 4) (lit (.int 1))])]⟩
noncomputable def mN:Fn:=⟨["items","width","limits","writer","kind","value"],3,[
 aM 3 (aj "ListWriter" [loc 1]),
 i5 (cS [ay 4,ay 5]) (oC (loc 0)) [
  gu (aj "put_value" [loc 3,loc 4,loc 5,loc 2])],
 gu (lR true (loc 3)),
 aC (attr 4 1 (loc 3))]⟩
noncomputable def fZ:Fn:=⟨["self","source"],2,[
 sset (bw 5 0 (loc 0)) (loc 1),
 sset (bw 5 1 (loc 0)) (lR false (loc 1)),
 sset (bw 5 2 (loc 0)) (lit (.int 0)),
 sset (bw 5 3 (loc 0)) (lit (.int 0)),
 sset (bw 5 4 (loc 0)) (lit .none),
 sset (bw 5 5 (loc 0)) (lit (.bool false)),
 sset (bw 5 6 (loc 0)) (lit (.bool false))]⟩
noncomputable def n8:Fn:=⟨["reader"],1,[
 aC (eX (aq .lt (attr 5 2 (loc 0)) (bN .len [attr 5 1 (loc 0)])) (item (attr 5 1 (loc 0)) (attr 5 2 (loc 0))) (lit (.str [])))]⟩
noncomputable def sW:Fn:=⟨["reader"],1,[
 site (aq .lt (attr 5 2 (loc 0)) (bN .len [attr 5 1 (loc 0)])) [
  lP 5 2 (loc 0) .add (lit (.int 1))] [
  sset (bw 5 1 (loc 0)) (lR false (attr 5 0 (loc 0))),
  sset (bw 5 2 (loc 0)) (lit (.int 0))]]⟩
noncomputable def kA:Fn:=⟨["reader"],1,[
 iZ (aq .eq (aj "sign_here" [loc 0]) (lit (.str [32]))) [
  gu (aj "step_on" [loc 0])]]⟩
noncomputable def n6:Fn:=⟨["reader"],1,[
 iZ (gw [aq .eq (aj "sign_here" [loc 0]) (lit (.str [32])),aq .eq (aj "sign_here" [loc 0]) (lit (.str []))]) [
  gu (aj "step_on" [loc 0])]]⟩
noncomputable def qH:Fn:=⟨["reader","ends","run"],2,[
 aM 2 (lit (.str [])),
 iZ (aq .dw (aj "sign_here" [loc 0]) (loc 1)) [
  eZ 2 .add (aj "sign_here" [loc 0]),
  gu (aj "step_on" [loc 0])],
 aC (loc 2)]⟩
noncomputable def n4:Fn:=⟨["reader","sign"],2,[
 site (aq .ne (aj "sign_here" [loc 0]) (loc 1)) [
  hG (aj "IoFault" [glob 8,lit (.str [97,32,99,111,109,112,108,101,120,32,99,111,110,115,116,97,110,116,32,116,104,97,116,32,105,115,32,110,111,110,101])])] [],
 gu (aj "step_on" [loc 0])]⟩
noncomputable def kq:Fn:=⟨["reader","record","at","times"],1,[
 aM 1 (attr 5 1 (loc 0)),
 aM 2 (attr 5 2 (loc 0)),
 iZ (eE [aq .lt (loc 2) (bN .len [loc 1]),aq .isin (item (loc 1) (loc 2)) (glob 7)]) [
  eZ 2 .add (lit (.int 1))],
 site (gw [aq .eq (loc 2) (attr 5 2 (loc 0)),aq .ne (gr true (loc 1) (some (loc 2)) (some (bin .add (loc 2) (lit (.int 1))))) (lit (.str [42]))]) [
  aC (lit (.int 1))] [],
 aM 3 (aj "whole_of" [gr true (loc 1) (some (attr 5 2 (loc 0))) (some (loc 2))]),
 site (aq .eq (loc 3) (lit (.int 0))) [
  hG (aj "IoFault" [glob 8,lit (.str [97,32,99,111,110,115,116,97,110,116,32,105,115,32,116,111,108,100,32,110,111,32,116,105,109,101,115])])] [],
 sset (bw 5 2 (loc 0)) (bin .add (loc 2) (lit (.int 1))),
 aC (loc 3)]⟩
noncomputable def ku:Fn:=⟨["reader","text","sign"],1,[
 aM 1 (lit (.str [])),
 gu (aj "step_on" [loc 0]),
 iZ (oZ (lit (.bool true))) [
  aM 2 (aj "sign_here" [loc 0]),
  gu (aj "step_on" [loc 0]),
  site (aq .eq (loc 2) (lit (.str [39]))) [
   site (aq .ne (aj "sign_here" [loc 0]) (lit (.str [39]))) [
    aC (loc 1)] [],
   gu (aj "step_on" [loc 0])] [],
  eZ 1 .add (loc 2)]]⟩
noncomputable def n5:Fn:=⟨["reader","first","second"],1,[
 gu (aj "step_on" [loc 0]),
 gu (aj "skip_blanks" [loc 0]),
 aM 1 (aj "take_run" [loc 0,glob 11]),
 gu (aj "skip_gaps" [loc 0]),
 gu (aj "take_sign" [loc 0,lit (.str [44])]),
 gu (aj "skip_gaps" [loc 0]),
 aM 2 (aj "take_run" [loc 0,glob 11]),
 gu (aj "skip_blanks" [loc 0]),
 gu (aj "take_sign" [loc 0,lit (.str [41])]),
 aC (tup [lit (.str [112,97,105,114]),loc 1,loc 2])]⟩
noncomputable def iI:Fn:=⟨["reader","sign","found"],1,[
 aM 1 (aj "sign_here" [loc 0]),
 site (aq .eq (loc 1) (lit (.str [39]))) [
  aM 2 (tup [lit (.str [116,101,120,116]),aj "take_quoted" [loc 0]])] [
  site (aq .eq (loc 1) (lit (.str [40]))) [
   aM 2 (aj "take_pair" [loc 0])] [
   aM 2 (tup [lit (.str [114,117,110]),aj "take_run" [loc 0,glob 10]])]],
 site (aq .dw (aj "sign_here" [loc 0]) (glob 10)) [
  hG (aj "IoFault" [glob 8,lit (.str [110,111,32,115,101,112,97,114,97,116,111,114,32,98,101,104,105,110,100,32,97,32,99,111,110,115,116,97,110,116])])] [],
 aC (loc 2)]⟩
noncomputable def iJ:Fn:=⟨["reader"],1,[
 site (aq .gt (attr 5 3 (loc 0)) (lit (.int 0))) [
  lP 5 3 (loc 0) .sub (lit (.int 1)),
  aC (attr 5 4 (loc 0))] [],
 site (oZ (attr 5 6 (loc 0))) [
  aC (lit .none)] [],
 site (oZ (attr 5 5 (loc 0))) [
  gu (aj "skip_gaps" [loc 0]),
  site (aq .eq (aj "sign_here" [loc 0]) (lit (.str [44]))) [
   gu (aj "step_on" [loc 0])] [],
  sset (bw 5 5 (loc 0)) (lit (.bool false))] [],
 gu (aj "skip_gaps" [loc 0]),
 site (aq .eq (aj "sign_here" [loc 0]) (lit (.str [47]))) [
  sset (bw 5 6 (loc 0)) (lit (.bool true)),
  aC (lit .none)] [],
 site (aq .eq (aj "sign_here" [loc 0]) (lit (.str [44]))) [
  gu (aj "step_on" [loc 0]),
  aC (lit .none)] [],
 sset (bw 5 3 (loc 0)) (bin .sub (aj "take_repeat" [loc 0]) (lit (.int 1))),
 sset (bw 5 4 (loc 0)) (lit .none),
 site (aq .dw (aj "sign_here" [loc 0]) (glob 10)) [
  sset (bw 5 4 (loc 0)) (aj "take_constant" [loc 0])] [],
 sset (bw 5 5 (loc 0)) (lit (.bool true)),
 aC (attr 5 4 (loc 0))]⟩
noncomputable def oo:Fn:=⟨["run","kind","limits"],3,[
 site (aq .eq (loc 0) (lit (.str []))) [
  hG (aj "IoFault" [glob 8,lit (.str [97,32,112,97,114,116,32,111,102,32,97,32,99,111,109,112,108,101,120,32,99,111,110,115,116,97,110,116,32,105,115,32,109,105,115,115,105,110,103])])] [],
 aC (aj "read_real" [loc 0,lit (.int 0),lit (.int 0),lit (.bool false),aj "digits_of" [loc 1,loc 2],attr 7 3 (loc 2)])]⟩
noncomputable def kD:Fn:=⟨["text","length"],2,[
 aC (bin .add (gr true (loc 0) none (some (loc 1))) (bin .mul (lit (.str [32])) (bin .sub (loc 1) (bN .len [loc 0]))))]⟩
noncomputable def qG:Fn:=⟨["constant","kind","length","limits","form"],4,[
 aM 4 (item (loc 0) (lit (.int 0))),
 site (eE [aq .eq (loc 1) (glob 5),aq .eq (loc 4) (lit (.str [116,101,120,116]))]) [
  aC (aj "fitted_text" [item (loc 0) (lit (.int 1)),loc 2])] [],
 site (eE [aq .eq (loc 1) (glob 3),aq .eq (loc 4) (lit (.str [112,97,105,114]))]) [
  aC (tup [aj "part_real" [item (loc 0) (lit (.int 1)),glob 1,loc 3],aj "part_real" [item (loc 0) (lit (.int 2)),glob 1,loc 3]])] [],
 site (eE [aq .eq (loc 1) (glob 0),aq .eq (loc 4) (lit (.str [114,117,110]))]) [
  aC (aj "read_int" [item (loc 0) (lit (.int 1)),lit (.bool false),attr 7 0 (loc 3)])] [],
 site (eE [aq .eq (loc 1) (glob 4),aq .eq (loc 4) (lit (.str [114,117,110]))]) [
  aC (aj "read_logical" [item (loc 0) (lit (.int 1))])] [],
 site (eE [gw [aq .eq (loc 1) (glob 1),aq .eq (loc 1) (glob 2)],aq .eq (loc 4) (lit (.str [114,117,110]))]) [
  aC (aj "part_real" [item (loc 0) (lit (.int 1)),loc 1,loc 3])] [],
 hG (aj "IoFault" [glob 8,lit (.str [97,32,99,111,110,115,116,97,110,116,32,111,102,32,97,110,111,116,104,101,114,32,107,105,110,100])])]⟩
noncomputable def oh:Fn:=⟨["reader","kind","length","limits","constant"],4,[
 aM 4 (aj "next_constant" [loc 0]),
 site (aq .is (loc 4) (lit .none)) [
  aC (lit .none)] [],
 aC (aj "value_of" [loc 4,loc 1,loc 2,loc 3])]⟩
noncomputable def og:Fn:=⟨["source","kinds","limits","reader"],3,[
 aM 3 (aj "ListReader" [loc 0]),
 aC (comp ⟨aj "read_item" [loc 3,loc 0,loc 1,loc 2],cS [ay 0,ay 1],oC (loc 1),none,["kind","length","limits","reader"],2,[2,3]⟩)]⟩
noncomputable def fY:Fn:=⟨["self","records"],2,[
 sset (bw 6 0 (loc 0)) (loc 1),
 sset (bw 6 1 (loc 0)) (lit (.int 0))]⟩
noncomputable def dB:Fn:=⟨["self"],1,[
 site (aq .ge (attr 6 1 (loc 0)) (bN .len [attr 6 0 (loc 0)])) [
  hG (aj "EndFault" [lit (.str [116,104,101,32,101,110,100,32,111,102,32,116,104,101,32,114,101,99,111,114,100,115])])] [],
 lP 6 1 (loc 0) .add (lit (.int 1)),
 aC (item (attr 6 0 (loc 0)) (bin .sub (attr 6 1 (loc 0)) (lit (.int 1))))]⟩
noncomputable def kF:Fn:=⟨["self","width","real_digits","double_digits","top_exponent","steps","continuations","columns","depth"],9,[
 sset (bw 7 0 (loc 0)) (loc 1),
 sset (bw 7 1 (loc 0)) (loc 2),
 sset (bw 7 2 (loc 0)) (loc 3),
 sset (bw 7 3 (loc 0)) (loc 4),
 sset (bw 7 4 (loc 0)) (loc 5),
 sset (bw 7 5 (loc 0)) (loc 6),
 sset (bw 7 6 (loc 0)) (loc 7),
 sset (bw 7 7 (loc 0)) (loc 8)]⟩
noncomputable def sY:Fn:=⟨["script","number","cell"],1,[
 aM 1 (lit (.int 7)),
 i5 (ay 2) (oC (gr true (loc 0) none (some (lit (.int 24))))) [
  aM 1 (bin .add (bin .add (bin .mul (loc 1) (lit (.int 1013))) (bin .mul (lit (.int 2)) (bN .abs [loc 2]))) (bN .int [cmp .lt (loc 2) (lit (.int 0))]))],
 aC (gv [loc 1,lit (.int 0)])]⟩
noncomputable def qQ:Fn:=⟨["pen","many","found"],2,[
 site (aq .eq (item (loc 0) (lit (.int 0))) (lit (.int 0))) [
  P2 (loc 0) (lit (.int 1)) .add (lit (.int 1)),
  sset (Ky (loc 0) (lit (.int 0))) (bin .add (bin .mul (lit (.int 7919)) (item (loc 0) (lit (.int 1)))) (lit (.int 104729)))] [],
 eF (cS [Ky (loc 0) (lit (.int 0)),ay 2]) (bN .divmod [item (loc 0) (lit (.int 0)),loc 1]),
 aC (loc 2)]⟩
noncomputable def qL:Fn:=⟨["pen","some"],2,[
 aC (item (loc 1) (aj "_law_draw" [loc 0,bN .len [loc 1]]))]⟩
noncomputable def fD:Fn:=⟨["value","letter","digits","m","e","sign","body","whole","rest","power","behind"],3,[
 eF (cS [ay 3,ay 4]) (loc 0),
 site (aq .eq (loc 3) (lit (.int 0))) [
  aC (lit (.str [48,46,48]))] [],
 f' [5,6] (tup [bin .mul (lit (.str [45])) (bN .int [cmp .lt (loc 3) (lit (.int 0))]),bN .str [bN .abs [loc 3]]]),
 site (tK .le .le (lit (.int 0)) (bin .add (bN .len [loc 6]) (loc 4)) (loc 2)) [
  site (aq .ge (loc 4) (lit (.int 0))) [
   aC (bin .add (bin .add (loc 5) (bN .str [bin .mul (bN .abs [loc 3]) (bin .pow (lit (.int 10)) (loc 4))])) (lit (.str [46,48])))] [],
  eF (cS [ay 7,ay 8]) (bN .divmod [bN .abs [loc 3],bin .pow (lit (.int 10)) (neg (loc 4))]),
  aC (bin .add (bin .add (bin .add (bin .add (loc 5) (bN .str [loc 7])) (lit (.str [46]))) (bin .mul (lit (.str [48])) (bin .sub (neg (loc 4)) (bN .len [bN .str [loc 8]])))) (bN .str [loc 8]))] [],
 aM 9 (bin .sub (bin .add (bN .len [loc 6]) (loc 4)) (lit (.int 1))),
 aM 10 (bN .str [bN .abs [loc 9]]),
 aC (bin .add (bin .add (bin .add (bin .add (bin .add (bin .add (bin .add (loc 5) (item (loc 6) (lit (.int 0)))) (lit (.str [46]))) (W2 (gr true (loc 6) (some (lit (.int 1))) none) (lit (.str [48])))) (loc 1)) (item (lit (.str [43,45])) (bN .int [cmp .lt (loc 9) (lit (.int 0))]))) (bin .mul (lit (.str [48])) (bin .sub (lit (.int 2)) (bN .len [loc 10])))) (loc 10))]⟩
noncomputable def ou:Fn:=⟨["pen","kind","number","reals","turn","m","e"],1,[
 aM 1 (aj "_law_draw" [loc 0,lit (.int 6)]),
 aM 2 (bin .sub (aj "_law_draw" [loc 0,lit (.int 4000)]) (lit (.int 1000))),
 site (aq .eq (loc 1) (glob 0)) [
  aC (tup [loc 1,loc 2])] [],
 site (aq .eq (loc 1) (glob 4)) [
  aC (tup [loc 1,cmp .eq (bin .mod (loc 2) (lit (.int 2))) (lit (.int 0))])] [],
 site (aq .eq (loc 1) (glob 5)) [
  aC (tup [loc 1,e9 .join (lit (.str [])) [comp ⟨aj "_law_pick" [loc 1,lit (.str [97,98,32,39,47])],ay 0,xK (aj "_law_draw" [loc 0,lit (.int 7)]),none,["spot","pen"],1,[0]⟩]])] [],
 aM 3 (gv []),
 i5 (ay 4) (xK (lit (.int 2))) [
  f' [5,6] (tup [bin .sub (aj "_law_draw" [loc 0,lit (.int 4000)]) (lit (.int 1000)),bin .sub (aj "_law_draw" [loc 0,lit (.int 13)]) (lit (.int 7))]),
  iZ (eE [aq .ne (loc 5) (lit (.int 0)),aq .eq (bin .mod (loc 5) (lit (.int 10))) (lit (.int 0))]) [
   f' [5,6] (tup [bin .fdiv (loc 5) (lit (.int 10)),bin .add (loc 6) (lit (.int 1))])],
  gu (e9 .append (loc 3) [tup [loc 5,eX (aq .ne (loc 5) (lit (.int 0))) (loc 6) (lit (.int 0))]])],
 aC (tup [loc 1,eX (aq .eq (loc 1) (glob 3)) (tup [item (loc 3) (lit (.int 0)),item (loc 3) (lit (.int 1))]) (item (loc 3) (lit (.int 0)))])]⟩
noncomputable def qP:Fn:=⟨["items","width","limits","rows","row","gap","kind","value","sign","parts","pieces","spot","piece"],3,[
 f' [3,4,5] (tup [gv [],lit (.str [32]),lit (.str [])]),
 i5 (cS [ay 6,ay 7]) (oC (loc 0)) [
  site (aq .eq (loc 6) (glob 5)) [
   i5 (ay 8) (oC (loc 7)) [
    site (aq .ge (bN .len [loc 4]) (loc 1)) [
     f' [3,4] (tup [bin .add (loc 3) (gv [loc 4]),lit (.str [32])])] [],
    eZ 4 .add (loc 8)],
   aM 5 (lit (.str [])),
   P0] [],
  site (aq .eq (loc 6) (glob 3)) [
   nS 9 ⟨aj "_law_real" [loc 0,lit (.str [69]),attr 7 1 (loc 1)],ay 0,oC (loc 7),none,["part","limits"],1,[2]⟩,
   aM 10 (gv [bin .add (bin .add (lit (.str [40])) (item (loc 9) (lit (.int 0)))) (lit (.str [44])),bin .add (item (loc 9) (lit (.int 1))) (lit (.str [41]))])] [
   site (gw [aq .eq (loc 6) (glob 0),aq .eq (loc 6) (glob 4)]) [
    aM 10 (gv [eX (aq .eq (loc 6) (glob 0)) (bN .str [loc 7]) (item (lit (.str [70,84])) (bN .int [loc 7]))])] [
    aM 10 (gv [aj "_law_real" [loc 7,eX (aq .eq (loc 6) (glob 2)) (lit (.str [68])) (lit (.str [69])),eX (aq .eq (loc 6) (glob 2)) (lit (.int 12)) (attr 7 1 (loc 2))]])]],
  site (gw [aq .lt (bN .len [bin .add (item (loc 10) (lit (.int 0))) (item (loc 10) (neg (lit (.int 1))))]) (loc 1),aq .ne (loc 6) (glob 3)]) [
   aM 10 (gv [e9 .join (lit (.str [])) [loc 10]])] [],
  i5 (cS [ay 11,ay 12]) (vq (loc 10)) [
   site (eE [aq .ne (loc 4) (lit (.str [32])),gw [aq .gt (bN .len [bin .add (bin .add (loc 4) (loc 5)) (loc 12)]) (loc 1),aq .eq (bN .len [loc 10]) (lit (.int 2))]]) [
    f' [3,4,5] (tup [bin .add (loc 3) (gv [loc 4]),lit (.str [32]),lit (.str [])])] [],
   f' [4,5] (tup [bin .add (bin .add (loc 4) (loc 5)) (loc 12),lit (.str [32])])]],
 aC (bin .add (loc 3) (gv [loc 4]))]⟩
noncomputable def kB:Fn:=⟨["text","p","blanks"],3,[
 iZ (eE [aq .lt (loc 1) (bN .len [loc 0]),aq .isin (item (loc 0) (loc 1)) (loc 2)]) [
  eZ 1 .add (lit (.int 1))],
 aC (loc 1)]⟩
noncomputable def sX:Fn:=⟨["text","p","ends","q"],3,[
 aM 3 (loc 1),
 iZ (eE [aq .lt (loc 3) (bN .len [loc 0]),aq .dw (item (loc 0) (loc 3)) (loc 2)]) [
  eZ 3 .add (lit (.int 1))],
 aC (tup [gr true (loc 0) (some (loc 1)) (some (loc 3)),loc 3])]⟩
noncomputable def mP:Fn:=⟨["text","p","found"],2,[
 f' [2,1] (tup [lit (.str []),bin .add (loc 1) (lit (.int 1))]),
 iZ (aq .lt (loc 1) (bN .len [loc 0])) [
  site (eE [aq .eq (item (loc 0) (loc 1)) (lit (.str [39])),aq .ne (item (loc 0) (bin .add (loc 1) (lit (.int 1)))) (lit (.str [39]))]) [
   aC (tup [tup [lit (.str [116,101,120,116]),loc 2],bin .add (loc 1) (lit (.int 1))])] [],
  site (aq .eq (item (loc 0) (loc 1)) (lit (.str [39]))) [
   eZ 1 .add (lit (.int 1))] [],
  f' [2,1] (tup [bin .add (loc 2) (eX (aq .ne (item (loc 0) (loc 1)) (lit (.str [10]))) (item (loc 0) (loc 1)) (lit (.str []))),bin .add (loc 1) (lit (.int 1))])],
 aC (tup [neg (lit (.int 1)),loc 1])]⟩
noncomputable def qM:Fn:=⟨["text","p","first","second"],2,[
 eF (cS [ay 2,ay 1]) (aj "_law_run" [loc 0,aj "_law_skipped" [loc 0,bin .add (loc 1) (lit (.int 1)),lit (.str [32])],lit (.str [32,44,47,10,41])]),
 aM 1 (aj "_law_skipped" [loc 0,loc 1,lit (.str [32,10])]),
 site (gw [aq .eq (loc 1) (bN .len [loc 0]),aq .ne (item (loc 0) (loc 1)) (lit (.str [44]))]) [
  aC (tup [eX (aq .eq (loc 1) (bN .len [loc 0])) (neg (lit (.int 1))) (lit (.int 1)),loc 1])] [],
 aM 1 (aj "_law_skipped" [loc 0,bin .add (loc 1) (lit (.int 1)),lit (.str [32,10])]),
 site (aq .eq (loc 1) (bN .len [loc 0])) [
  aC (tup [neg (lit (.int 1)),loc 1])] [],
 eF (cS [ay 3,ay 1]) (aj "_law_run" [loc 0,loc 1,lit (.str [32,44,47,10,41])]),
 aM 1 (aj "_law_skipped" [loc 0,loc 1,lit (.str [32])]),
 aC (eX (aq .eq (item (loc 0) (loc 1)) (lit (.str [41]))) (tup [tup [lit (.str [112,97,105,114]),loc 2,loc 3],bin .add (loc 1) (lit (.int 1))]) (tup [lit (.int 1),loc 1]))]⟩
noncomputable def qN:Fn:=⟨["text","p","times","q","found","run"],2,[
 aM 1 (aj "_law_skipped" [loc 0,loc 1,lit (.str [32,10])]),
 site (aq .eq (loc 1) (bN .len [loc 0])) [
  aC (tup [neg (lit (.int 1)),loc 1])] [],
 site (aq .isin (item (loc 0) (loc 1)) (lit (.str [44,47]))) [
  aC (tup [tup [item (loc 0) (loc 1),lit .none],bin .add (loc 1) (lit (.int 1))])] [],
 f' [2,3] (tup [lit (.int 1),aj "_law_skipped" [loc 0,loc 1,lit (.str [48,49,50,51,52,53,54,55,56,57])]]),
 site (eE [aq .gt (loc 3) (loc 1),aq .eq (item (loc 0) (loc 3)) (lit (.str [42]))]) [
  f' [2,1] (tup [bN .int [gr true (loc 0) (some (loc 1)) (some (loc 3))],bin .add (loc 3) (lit (.int 1))]),
  site (aq .eq (loc 2) (lit (.int 0))) [
   aC (tup [lit (.int 1),loc 1])] [],
  site (aq .isin (item (loc 0) (loc 1)) (lit (.str [32,44,47,10]))) [
   aC (tup [tup [loc 2,lit .none],loc 1])] []] [],
 site (aq .eq (item (loc 0) (loc 1)) (lit (.str [39]))) [
  eF (cS [ay 4,ay 1]) (aj "_law_quoted" [loc 0,loc 1])] [
  site (aq .eq (item (loc 0) (loc 1)) (lit (.str [40]))) [
   eF (cS [ay 4,ay 1]) (aj "_law_pair" [loc 0,loc 1])] [
   eF (cS [ay 5,ay 1]) (aj "_law_run" [loc 0,loc 1,lit (.str [32,44,47,10])]),
   aM 4 (tup [lit (.str [114,117,110]),loc 5])]],
 site (oZ (bN .dJ [loc 4,CK "int"])) [
  aC (tup [loc 4,loc 1])] [],
 aC (eX (aq .dw (item (loc 0) (loc 1)) (lit (.str [32,44,47,10]))) (tup [lit (.int 1),loc 1]) (tup [tup [loc 2,loc 4],loc 1]))]⟩
noncomputable def ot:Fn:=⟨["text","body"],1,[
 aM 1 (eX (aq .isin (gr true (loc 0) none (some (lit (.int 1)))) (tup [lit (.str [43]),lit (.str [45])])) (gr true (loc 0) (some (lit (.int 1))) none) (loc 0)),
 site (gw [aq .eq (loc 1) (lit (.str [])),aq .ne (comp ⟨loc 0,ay 0,oC (loc 1),(some (aq .dw (loc 0) (lit (.str [48,49,50,51,52,53,54,55,56,57])))),["c"],1,[]⟩) (gv [])]) [
  aC (lit .none)] [],
 aC (eX (aq .eq (item (loc 0) (lit (.int 0))) (lit (.str [45]))) (neg (bN .int [loc 1])) (bN .int [loc 1]))]⟩
noncomputable def di:Fn:=⟨["run","digits","top","at","power","body","ahead","point","behind","number","drop","rest","first"],3,[
 aM 3 (bN .min [bin .add (comp ⟨e9 .index (loc 1) [loc 0],ay 0,oC (lit (.str [69,68])),(some (aq .isin (loc 0) (loc 1))),["c","run"],1,[0]⟩) (gv [bN .len [loc 0]])]),
 site (aq .eq (loc 3) (bN .len [loc 0])) [
  aM 3 (bN .max [e9 .rfind (loc 0) [lit (.str [43])],e9 .rfind (loc 0) [lit (.str [45])]]),
  aM 3 (eX (aq .gt (loc 3) (lit (.int 0))) (loc 3) (bN .len [loc 0])),
  aM 4 (eX (aq .eq (loc 3) (bN .len [loc 0])) (lit (.int 0)) (aj "_law_whole" [gr true (loc 0) (some (loc 3)) none]))] [
  aM 4 (aj "_law_whole" [gr true (loc 0) (some (bin .add (loc 3) (lit (.int 1)))) none])],
 aM 5 (eX (aq .isin (gr true (loc 0) none (some (lit (.int 1)))) (tup [lit (.str [43]),lit (.str [45])])) (gr true (loc 0) (some (lit (.int 1))) (some (loc 3))) (gr true (loc 0) none (some (loc 3)))),
 eF (cS [ay 6,ay 7,ay 8]) (e9 .partition (loc 5) [lit (.str [46])]),
 aM 9 (aj "_law_whole" [bin .add (bin .add (lit (.str [43])) (loc 6)) (loc 8)]),
 site (gw [aq .is (loc 9) (lit .none),aq .is (loc 4) (lit .none)]) [
  aC (lit (.int 1))] [],
 eZ 4 .sub (bN .len [loc 8]),
 aM 10 (bN .max [lit (.int 0),bin .sub (bN .len [bN .str [loc 9]]) (loc 1)]),
 eF (cS [ay 9,ay 11]) (bN .divmod [loc 9,bin .pow (lit (.int 10)) (loc 10)]),
 eZ 9 .add (bN .int [cmp .gt (bin .add (bin .mul (lit (.int 2)) (loc 11)) (bin .mod (loc 9) (lit (.int 2)))) (bin .pow (lit (.int 10)) (loc 10))]),
 eZ 4 .add (loc 10),
 iZ (eE [aq .ne (loc 9) (lit (.int 0)),aq .eq (bin .mod (loc 9) (lit (.int 10))) (lit (.int 0))]) [
  f' [9,4] (tup [bin .fdiv (loc 9) (lit (.int 10)),bin .add (loc 4) (lit (.int 1))])],
 aM 12 (bin .sub (bin .add (loc 4) (bN .len [bN .str [loc 9]])) (lit (.int 1))),
 site (gw [aq .eq (loc 9) (lit (.int 0)),aq .lt (loc 12) (neg (loc 2))]) [
  aC (tup [lit (.int 0),lit (.int 0)])] [],
 aC (eX (aq .gt (loc 12) (loc 2)) (lit (.int 2)) (tup [eX (aq .eq (item (loc 0) (lit (.int 0))) (lit (.str [45]))) (neg (loc 9)) (loc 9),loc 4]))]⟩
noncomputable def ow:Fn:=⟨["found","kind","length","limits","parts","wrong","body","number"],4,[
 site (aq .eq (loc 1) (glob 5)) [
  aC (eX (aq .eq (item (loc 0) (lit (.int 0))) (lit (.str [116,101,120,116]))) (gr false (bin .add (item (loc 0) (lit (.int 1))) (bin .mul (lit (.str [32])) (loc 2))) none (some (loc 2))) (lit (.int 1)))] [],
 site (aq .eq (loc 1) (glob 3)) [
  site (gw [aq .ne (item (loc 0) (lit (.int 0))) (lit (.str [112,97,105,114])),aq .eq (item (loc 0) (lit (.int 1))) (lit (.str []))]) [
   aC (lit (.int 1))] [],
  nS 4 ⟨eX (aq .ne (loc 0) (lit (.str []))) (aj "_law_number" [loc 0,attr 7 1 (loc 1),attr 7 3 (loc 1)]) (lit (.int 1)),ay 0,oC (gr true (loc 0) (some (lit (.int 1))) none),none,["run","limits"],1,[3]⟩,
  nS 5 ⟨loc 0,ay 0,oC (loc 4),(some (oZ (bN .dJ [loc 0,CK "int"]))),["part"],1,[]⟩,
  aC (eX (aq .ne (loc 5) (gv [])) (item (loc 5) (lit (.int 0))) (tup [item (loc 4) (lit (.int 0)),item (loc 4) (lit (.int 1))]))] [],
 site (aq .ne (item (loc 0) (lit (.int 0))) (lit (.str [114,117,110]))) [
  aC (lit (.int 1))] [],
 site (aq .eq (loc 1) (glob 4)) [
  aM 6 (eX (aq .eq (item (item (loc 0) (lit (.int 1))) (lit (.int 0))) (lit (.str [46]))) (gr false (item (loc 0) (lit (.int 1))) (some (lit (.int 1))) none) (item (loc 0) (lit (.int 1)))),
  aC (eX (aq .isin (gr true (loc 6) none (some (lit (.int 1)))) (tup [lit (.str [84]),lit (.str [70])])) (cmp .eq (item (loc 6) (lit (.int 0))) (lit (.str [84]))) (lit (.int 1)))] [],
 site (aq .eq (loc 1) (glob 0)) [
  aM 7 (aj "_law_whole" [item (loc 0) (lit (.int 1))]),
  site (aq .is (loc 7) (lit .none)) [
   aC (lit (.int 1))] [],
  aC (eX (tK .le .lt (neg (bin .pow (lit (.int 2)) (bin .sub (attr 7 0 (loc 3)) (lit (.int 1))))) (loc 7) (bin .pow (lit (.int 2)) (bin .sub (attr 7 0 (loc 3)) (lit (.int 1))))) (tup [loc 7]) (lit (.int 2)))] [],
 aC (aj "_law_number" [item (loc 0) (lit (.int 1)),eX (aq .eq (loc 1) (glob 2)) (lit (.int 12)) (attr 7 1 (loc 3)),attr 7 3 (loc 3)])]⟩
noncomputable def qK:Fn:=⟨["records","wanted","limits","text","values","waiting","p","is_fresh","is_ended","kind","length","token","found","meant"],3,[
 aM 3 (e9 .join (lit (.str [])) [comp ⟨bin .add (loc 0) (lit (.str [10])),ay 0,oC (loc 0),none,["record"],1,[]⟩]),
 eF (cS [ay 4,ay 5,ay 6,ay 7,ay 8]) (tup [gv [],gv [],lit (.int 0),lit (.bool true),lit (.bool false)]),
 i5 (cS [ay 9,ay 10]) (oC (loc 1)) [
  iZ (eE [aq .eq (loc 5) (gv []),A' (oZ (loc 8))]) [
   eF (cS [ay 11,ay 6]) (aj "_law_next" [loc 3,loc 6]),
   site (oZ (bN .dJ [loc 11,CK "int"])) [
    aC (loc 11)] [],
   site (aq .eq (item (loc 11) (lit (.int 0))) (lit (.str [47]))) [
    aM 8 (lit (.bool true))] [
    site (aq .eq (item (loc 11) (lit (.int 0))) (lit (.str [44]))) [
     f' [5,7] (tup [eX (oZ (loc 7)) (gv [lit .none]) (gv []),lit (.bool true)])] [
     f' [5,7] (tup [bin .mul (gv [item (loc 11) (lit (.int 1))]) (bN .min [item (loc 11) (lit (.int 0)),lit (.int 9)]),lit (.bool false)])]]],
  aM 12 (eX (aq .eq (loc 5) (gv [])) (lit .none) (e9 .pop (loc 5) [lit (.int 0)])),
  aM 13 (eX (aq .is (loc 12) (lit .none)) (lit .none) (aj "_law_meant" [loc 12,loc 9,loc 10,loc 2])),
  site (eE [oZ (bN .dJ [loc 13,CK "int"]),A' (oZ (bN .dJ [loc 13,CK "bool"]))]) [
   aC (loc 13)] [],
  gu (e9 .append (loc 4) [eX (eE [aq .eq (loc 9) (glob 0),aq .nT (loc 13) (lit .none)]) (item (loc 13) (lit (.int 0))) (loc 13)])],
 aC (tup [lit (.str [111,107]),loc 4,bin .add (e9 .count (gr true (loc 3) none (some (loc 6))) [lit (.str [10])]) (lit (.int 1))])]⟩
noncomputable def oy:Fn:=⟨["records","wanted","limits","source","values","fault"],3,[
 KH [
  aM 3 (aj "ListSource" [loc 0]),
  aM 4 (aj "read_list" [loc 3,loc 1,loc 2])] 2 (some 5) [
  aC (Q9 (loc 5))],
 aC (tup [lit (.str [111,107]),loc 4,attr 6 1 (loc 3)])]⟩
noncomputable def kg:Fn:=⟨["script","pen","limits","bits","wanted","records","items","width","made","plain","rows","heard"],1,[
 aM 1 (aj "_law_pen" [loc 0]),
 aM 2 (Qq "Limits" [("width",lit (.int 16)),("real_digits",lit (.int 9)),("double_digits",lit (.int 12)),("top_exponent",lit (.int 99))]),
 aM 3 (e9 .join (lit (.str [])) [comp ⟨aj "_law_pick" [loc 1,glob 12],ay 0,xK (bin .add (lit (.int 1)) (aj "_law_draw" [loc 1,lit (.int 12)])),none,["spot","pen"],1,[1]⟩]),
 nS 4 ⟨tup [aj "_law_draw" [loc 1,lit (.int 6)],bin .add (lit (.int 1)) (aj "_law_draw" [loc 1,lit (.int 4)])],ay 0,xK (bin .add (lit (.int 1)) (aj "_law_draw" [loc 1,lit (.int 6)])),none,["spot","pen"],1,[1]⟩,
 aM 5 (e9 .split (loc 3) [lit (.str [10])]),
 site (aq .ne (aj "_law_heard" [loc 5,loc 4,loc 2]) (aj "_law_read" [loc 5,loc 4,loc 2])) [
  aC (lit (.bool false))] [],
 nS 6 ⟨aj "_law_value" [loc 1],ay 0,xK (aj "_law_draw" [loc 1,lit (.int 8)]),none,["spot","pen"],1,[1]⟩,
 aM 7 (bin .add (lit (.int 2)) (aj "_law_draw" [loc 1,lit (.int 39)])),
 aM 8 (aj "write_list" [loc 6,loc 7,loc 2]),
 site (aq .ne (loc 8) (aj "_law_laid" [loc 6,loc 7,loc 2])) [
  aC (lit (.bool false))] [],
 nS 9 ⟨loc 0,ay 0,oC (loc 6),(some (aq .ne (item (loc 0) (lit (.int 0))) (glob 5))),["item"],1,[]⟩,
 aM 10 (aj "write_list" [loc 9,loc 7,loc 2]),
 aM 11 (aj "_law_heard" [loc 10,comp ⟨tup [loc 0,lit (.int 0)],cS [ay 0,ay 1],oC (loc 9),none,["kind","value"],2,[]⟩,loc 2]),
 aC (cmp .eq (loc 11) (tup [lit (.str [111,107]),comp ⟨loc 1,cS [ay 0,ay 1],oC (loc 9),none,["kind","value"],2,[]⟩,bN .len [loc 10]]))]⟩
noncomputable def vy:List (Str×Fn):=[
 (Str.ofString "count_digits",jB),
 (Str.ofString "strip_zeros",ky),
 (Str.ofString "round_digits",jx),
 (Str.ofString "round_real",mO),
 (Str.ofString "digits_of",oz),
 (Str.ofString "solid_field",kz),
 (Str.ofString "whole_of",qF),
 (Str.ofString "cut_sign",qS),
 (Str.ofString "in_width",qR),
 (Str.ofString "read_int",qI),
 (Str.ofString "cut_exponent",jA),
 (Str.ofString "field_exponent",gX),
 (Str.ofString "read_figures",jz),
 (Str.ofString "read_real",n9),
 (Str.ofString "read_logical",jy),
 (Str.ofString "fixed_figures",iL),
 (Str.ofString "list_exponent",iK),
 (Str.ofString "list_real",oq),
 (Str.ofString "value_pieces",jw),
 (Str.ofString "put_piece",om),
 (Str.ofString "put_text",qJ),
 (Str.ofString "put_value",oj),
 (Str.ofString "write_list",mN),
 (Str.ofString "sign_here",n8),
 (Str.ofString "step_on",sW),
 (Str.ofString "skip_blanks",kA),
 (Str.ofString "skip_gaps",n6),
 (Str.ofString "take_run",qH),
 (Str.ofString "take_sign",n4),
 (Str.ofString "take_repeat",kq),
 (Str.ofString "take_quoted",ku),
 (Str.ofString "take_pair",n5),
 (Str.ofString "take_constant",iI),
 (Str.ofString "next_constant",iJ),
 (Str.ofString "part_real",oo),
 (Str.ofString "fitted_text",kD),
 (Str.ofString "value_of",qG),
 (Str.ofString "read_item",oh),
 (Str.ofString "read_list",og),
 (Str.ofString "_law_pen",sY),
 (Str.ofString "_law_draw",qQ),
 (Str.ofString "_law_pick",qL),
 (Str.ofString "_law_real",fD),
 (Str.ofString "_law_value",ou),
 (Str.ofString "_law_laid",qP),
 (Str.ofString "_law_skipped",kB),
 (Str.ofString "_law_run",sX),
 (Str.ofString "_law_quoted",mP),
 (Str.ofString "_law_pair",qM),
 (Str.ofString "_law_next",qN),
 (Str.ofString "_law_whole",ot),
 (Str.ofString "_law_number",di),
 (Str.ofString "_law_meant",ow),
 (Str.ofString "_law_read",qK),
 (Str.ofString "_law_heard",oy)]
noncomputable def K0:List (Nat×Str×Fn):=[
 (0,Str.ofString "__init__",iM),
 (2,Str.ofString "__init__",jC),
 (3,Str.ofString "__init__",iN),
 (4,Str.ofString "__init__",fX),
 (4,Str.ofString "turn",fW),
 (5,Str.ofString "__init__",fZ),
 (6,Str.ofString "__init__",fY),
 (6,Str.ofString "next_record",dB)]
noncomputable def gQ:List Str:=["self","width","real_digits","double_digits","top_exponent","steps","continuations","columns","depth"]
noncomputable def K3 (K:Frag)(f:Addr):Bool:=eJ (fnAt K f) λfd=>pY K fd kF&&jg fd.params gQ&&eJ (CY fd.defaults) λT=>eJ (K.lookup T) λo=>eJ (GX o) λvs=>pR [32,7,15,38,1000000,19,72,40] vs.toList
structure PG (G:GC):Prop where
 g:GB G
 fns:∀i x fn,rj vy i=some (x,fn)->cX G.K (Z G x) fn=true
 ms:∀i c x fn,rj K0 i=some (c,x,fn)->cX G.K (dm G c x) fn=true
 lim:K3 G.K (dm G 7 "__init__")=true
section
variable {G:GC}
theorem PG.rg (p:PG G):cX G.K (Z G "count_digits") jB=true:=p.fns 0 _ _ rfl
theorem PG.rN (p:PG G):cX G.K (Z G "strip_zeros") ky=true:=p.fns 1 _ _ rfl
theorem PG.q9 (p:PG G):cX G.K (Z G "round_digits") jx=true:=p.fns 2 _ _ rfl
theorem PG.uM (p:PG G):cX G.K (Z G "round_real") mO=true:=p.fns 3 _ _ rfl
theorem PG.xl (p:PG G):cX G.K (Z G "digits_of") oz=true:=p.fns 4 _ _ rfl
theorem PG.rO (p:PG G):cX G.K (Z G "solid_field") kz=true:=p.fns 5 _ _ rfl
theorem PG.zF (p:PG G):cX G.K (Z G "whole_of") qF=true:=p.fns 6 _ _ rfl
theorem PG.zS (p:PG G):cX G.K (Z G "cut_sign") qS=true:=p.fns 7 _ _ rfl
theorem PG.zR (p:PG G):cX G.K (Z G "in_width") qR=true:=p.fns 8 _ _ rfl
theorem PG.zI (p:PG G):cX G.K (Z G "read_int") qI=true:=p.fns 9 _ _ rfl
theorem PG.rf (p:PG G):cX G.K (Z G "cut_exponent") jA=true:=p.fns 10 _ _ rfl
theorem PG.nO (p:PG G):cX G.K (Z G "field_exponent") gX=true:=p.fns 11 _ _ rfl
theorem PG.rd (p:PG G):cX G.K (Z G "read_figures") jz=true:=p.fns 12 _ _ rfl
theorem PG.w8 (p:PG G):cX G.K (Z G "read_real") n9=true:=p.fns 13 _ _ rfl
theorem PG.rb (p:PG G):cX G.K (Z G "read_logical") jy=true:=p.fns 14 _ _ rfl
theorem PG.oV (p:PG G):cX G.K (Z G "fixed_figures") iL=true:=p.fns 15 _ _ rfl
theorem PG.oU (p:PG G):cX G.K (Z G "list_exponent") iK=true:=p.fns 16 _ _ rfl
theorem PG.xf (p:PG G):cX G.K (Z G "list_real") oq=true:=p.fns 17 _ _ rfl
theorem PG.q8 (p:PG G):cX G.K (Z G "value_pieces") jw=true:=p.fns 18 _ _ rfl
theorem PG.xd (p:PG G):cX G.K (Z G "put_piece") om=true:=p.fns 19 _ _ rfl
theorem PG.zJ (p:PG G):cX G.K (Z G "put_text") qJ=true:=p.fns 20 _ _ rfl
theorem PG.xc (p:PG G):cX G.K (Z G "put_value") oj=true:=p.fns 21 _ _ rfl
theorem PG.uL (p:PG G):cX G.K (Z G "write_list") mN=true:=p.fns 22 _ _ rfl
theorem PG.w7 (p:PG G):cX G.K (Z G "sign_here") n8=true:=p.fns 23 _ _ rfl
theorem PG.Cs (p:PG G):cX G.K (Z G "step_on") sW=true:=p.fns 24 _ _ rfl
theorem PG.rP (p:PG G):cX G.K (Z G "skip_blanks") kA=true:=p.fns 25 _ _ rfl
theorem PG.w6 (p:PG G):cX G.K (Z G "skip_gaps") n6=true:=p.fns 26 _ _ rfl
theorem PG.zH (p:PG G):cX G.K (Z G "take_run") qH=true:=p.fns 27 _ _ rfl
theorem PG.wY (p:PG G):cX G.K (Z G "take_sign") n4=true:=p.fns 28 _ _ rfl
theorem PG.rL (p:PG G):cX G.K (Z G "take_repeat") kq=true:=p.fns 29 _ _ rfl
theorem PG.rM (p:PG G):cX G.K (Z G "take_quoted") ku=true:=p.fns 30 _ _ rfl
theorem PG.wZ (p:PG G):cX G.K (Z G "take_pair") n5=true:=p.fns 31 _ _ rfl
theorem PG.oR (p:PG G):cX G.K (Z G "take_constant") iI=true:=p.fns 32 _ _ rfl
theorem PG.oS (p:PG G):cX G.K (Z G "next_constant") iJ=true:=p.fns 33 _ _ rfl
theorem PG.xe (p:PG G):cX G.K (Z G "part_real") oo=true:=p.fns 34 _ _ rfl
theorem PG.rR (p:PG G):cX G.K (Z G "fitted_text") kD=true:=p.fns 35 _ _ rfl
theorem PG.zG (p:PG G):cX G.K (Z G "value_of") qG=true:=p.fns 36 _ _ rfl
theorem PG.xb (p:PG G):cX G.K (Z G "read_item") oh=true:=p.fns 37 _ _ rfl
theorem PG.w9 (p:PG G):cX G.K (Z G "read_list") og=true:=p.fns 38 _ _ rfl
theorem PG.Cu (p:PG G):cX G.K (Z G "_law_pen") sY=true:=p.fns 39 _ _ rfl
theorem PG.zQ (p:PG G):cX G.K (Z G "_law_draw") qQ=true:=p.fns 40 _ _ rfl
theorem PG.qU (p:PG G):cX G.K (Z G "_law_pick") qL=true:=p.fns 41 _ _ rfl
theorem PG.zL (p:PG G):cX G.K (Z G "_law_real") fD=true:=p.fns 42 _ _ rfl
theorem PG.xi (p:PG G):cX G.K (Z G "_law_value") ou=true:=p.fns 43 _ _ rfl
theorem PG.zP (p:PG G):cX G.K (Z G "_law_laid") qP=true:=p.fns 44 _ _ rfl
theorem PG.rQ (p:PG G):cX G.K (Z G "_law_skipped") kB=true:=p.fns 45 _ _ rfl
theorem PG.Ct (p:PG G):cX G.K (Z G "_law_run") sX=true:=p.fns 46 _ _ rfl
theorem PG.uN (p:PG G):cX G.K (Z G "_law_quoted") mP=true:=p.fns 47 _ _ rfl
theorem PG.zN (p:PG G):cX G.K (Z G "_law_pair") qM=true:=p.fns 48 _ _ rfl
theorem PG.zO (p:PG G):cX G.K (Z G "_law_next") qN=true:=p.fns 49 _ _ rfl
theorem PG.xh (p:PG G):cX G.K (Z G "_law_whole") ot=true:=p.fns 50 _ _ rfl
theorem PG.uO (p:PG G):cX G.K (Z G "_law_number") di=true:=p.fns 51 _ _ rfl
theorem PG.xj (p:PG G):cX G.K (Z G "_law_meant") ow=true:=p.fns 52 _ _ rfl
theorem PG.zM (p:PG G):cX G.K (Z G "_law_read") qK=true:=p.fns 53 _ _ rfl
theorem PG.xk (p:PG G):cX G.K (Z G "_law_heard") oy=true:=p.fns 54 _ _ rfl
theorem PG.oW (p:PG G):cX G.K (dm G 0 "__init__") iM=true:=p.ms 0 _ _ _ rfl
theorem PG.rh (p:PG G):cX G.K (dm G 2 "__init__") jC=true:=p.ms 1 _ _ _ rfl
theorem PG.oX (p:PG G):cX G.K (dm G 3 "__init__") iN=true:=p.ms 2 _ _ _ rfl
theorem PG.mR (p:PG G):cX G.K (dm G 4 "__init__") fX=true:=p.ms 3 _ _ _ rfl
theorem PG.mQ (p:PG G):cX G.K (dm G 4 "turn") fW=true:=p.ms 4 _ _ _ rfl
theorem PG.mT (p:PG G):cX G.K (dm G 5 "__init__") fZ=true:=p.ms 5 _ _ _ rfl
theorem PG.mS (p:PG G):cX G.K (dm G 6 "__init__") fY=true:=p.ms 6 _ _ _ rfl
theorem PG.gq (p:PG G):cX G.K (dm G 6 "next_record") dB=true:=p.ms 7 _ _ _ rfl
end
noncomputable def DF (x:Str):List DictEntry->Option (Option Value)
 |[]=>some none
 |e::r=>IU (GW e.key) λy=>match lH y x with
   |true=>some (some e.val)
   |false=>DF x r
theorem FP {x:Str}{es:List DictEntry}{r:Option Value}(h:DF x es=some r):(match es.find? (·.key.isStr x) with
   |some e=>some (some e.val)
   |none=>if es.any (·.refKey) then none else some none)=some r:=by
 induction es with
 |nil=>exact h
 |cons e es ih=>
  obtain⟨y,hk,h⟩:=kY h
  obtain⟨u,hk⟩:=Av hk
  rw[List.find?_cons,List.any_cons,show e.key.isStr x=(y==x) by rw[hk];rfl,show e.refKey=false by unfold DictEntry.refKey;rw[hk],Bool.false_or]
  cases hq:lH y x with
  |true=>
   rw[hq] at h
   rw[beq_iff_eq.mpr (cB hq)];exact h
  |false=>
   rw[hq] at h
   rw[beq_eq_false_iff_ne.mpr (p8 hq)]
   exact ih h
noncomputable def NA (K:Frag)(x:Str):Option (Option Value):=IU (K.lookup mainGlobals) λo=>IU (DJ o) (DF x)
theorem ye {K:Frag}{x:Str}{r:Option Value}(h:NA K x=some r):nsIn K mainGlobals x=some r:=by
 obtain⟨o,h1,h⟩:=kY h
 obtain⟨es,h2,h⟩:=kY h
 obtain⟨n,h2⟩:=FZ h2
 unfold nsIn
 obtain⟨c,d,dt,sl⟩:=o
 cases(h2:dt=_)
 rw[h1];exact FP h
noncomputable def KJ (K:Frag)(x:Str):Option Addr:=IU (NA K x) λo=>IU o CY
theorem HC {K:Frag}{x:Str}{a:Addr}(h:KJ K x=some a):nsIn K mainGlobals x=some (some (.ref a)):=by
 obtain⟨o,h1,h⟩:=kY h
 obtain⟨v,rfl,h⟩:=kY h
 cases pe h
 exact ye h1
noncomputable def zK (K:Frag)(x:Str):Addr:=(KJ K x).getD 0
noncomputable def aF (K:Frag)(c:Nat)(x:Str):Option Addr:=IU (findIn K (.ref (zK K (clsName c))) x) λo=>IU o CY
noncomputable def aK (K:Frag)(c:Nat)(x:Str):Addr:=match findIn K (.ref (zK K (clsName c))) x with
 |some (some (.ref f))=>f
 |_=>0
noncomputable def SG (K:Frag)(x:Str):Bool:=match NA K x with
 |none=>false
 |some o=>o.isNone
theorem Mx {K:Frag}{x:Str}(h:SG K x=true):nsIn K mainGlobals x=some none:=by
 unfold SG at h
 cases e:NA K x with
 |none=>rw[e] at h;exact nomatch h
 |some o=>rw[e] at h;cases Option.isNone_iff_eq_none.mp h;exact ye e
noncomputable def Kg (K:Frag)(x:Str):Bool:=(KJ K x).isSome
noncomputable def SH (K:Frag)(x:Str):Bool:=Kg K x&&keepIn K (.ref (zK K x))
theorem vh {G:GC}{x:Str}(h:Kg G.K x=true):Z G x=zK G.K x/\nsIn G.K mainGlobals x=some (some (.ref (zK G.K x))):=by
 obtain⟨a,e⟩:=Option.isSome_iff_exists.mp h
 have q:=HC e
 unfold Z zK
 rw[e,q];exact⟨rfl,rfl⟩
theorem Eg {G:GC}{x:Str}(h:SH G.K x=true):Kg G.K x=true/\keepIn G.K (.ref (zK G.K x))=true:=aQ h
noncomputable def Sb (f:V->Value->Bool):List V->List Value->Bool
 |[],cs=>cs.isEmpty
 |v::vs,cs=>match cs with
  |c::r=>f v c&&Sb f vs r
  |[]=>false
noncomputable def vB (K:Frag):Nat->V->Value->Bool
 |0,_,_=>false
 |n+1,v,c=>match v with
  |.int i=>K6 i c
  |.str l=>eJ (GW c) λs=>I3 s.cps.toList l
  |.tup l=>eJ (CY c) λa=>eJ (K.lookup a) λo=>eJ (GX o) λvs=>o.cls==.type "tuple"&&Sb (vB K n) l vs.toList
  |_=>false
theorem Lz {C:Frag}{f:V->Value->Bool}(h:∀v c,f v c=true->br C [] v c){l:List V}:∀{cs:List Value},Sb f l cs=true->aY C [] l cs:=by
 induction l with
 |nil=>intro cs e;cases List.isEmpty_iff.mp e;exact .nil
 |cons v vs ih=>
  intro cs e
  cases cs with
  |nil=>exact nomatch e
  |cons c r=>obtain⟨a,b⟩:=aQ e;exact .cons (h _ _ a) (ih b)
theorem LB {C:Frag}{l:List Nat}{c:Value}(e:eJ (GW c) (λs=>I3 s.cps.toList l)=true):br C [] (.str l) c:=by
 obtain⟨s,h1,h2⟩:=cf e
 obtain⟨u,rfl⟩:=Av h1
 obtain⟨a⟩:=s
 have h:a.toList=l:=pz.mp h2
 rw[show a=l.toArray by rw[←h,Array.toArray_toList]];exact .str l u
theorem PQ {K C:Frag}(up:∀a o,K.lookup a=some o->C.lookup a=some o){n:Nat}:∀{v:V}{c:Value},vB K n v c=true->br C [] v c:=by
 induction n with
 |zero=>intro v c e;exact nomatch e
 |succ n ih=>
  intro v c e
  cases v with
  |int i=>obtain⟨u,rfl⟩:=AM e;exact .int _ _
  |str l=>exact LB e
  |tup l=>
   obtain⟨a,h1,e⟩:=cf e
   obtain⟨o,h2,e⟩:=cf e
   obtain⟨vs,h3,e⟩:=cf e
   obtain⟨k,h3⟩:=Az h3
   obtain⟨h4,h5⟩:=aQ e
   cases pe h1
   exact .tup (.inr (up _ _ h2)) (beq_iff_eq.mp h4) h3 (Lz (λ_ _=>ih) h5)
  |_=>exact nomatch e
noncomputable def UQ (K:Frag)(x:Str)(v:V):Bool:=eJ (NA K x) λo=>eJ o (vB K 3 v)
noncomputable def Sz (K:Frag)(c:Nat)(x:Str):Bool:=eJ (aF K c x) λf=>typeIn K (.ref f)==some (.type "function")
noncomputable def all1 {α:Type}(f:α->Bool):List α->Bool
 |[]=>true
 |a::r=>f a&&all1 f r
theorem dE {α:Type}{f:α->Bool}:∀{l:List α},all1 f l=true->∀a∈l,f a=true:=by
 intro z_
 induction z_ with
 |nil=>
  intro _ a h
  cases h
 |cons b r ih=>
  intro e a h
  obtain⟨e1,e2⟩:=aQ e
  rcases List.mem_cons.mp h with rfl|h
  ·exact e1
  ·exact ih e2 a h
noncomputable def gB (K:Frag):Bool:=
 all1 (SH K) dP&&all1 (SG K) jN&&all1 (λp=>UQ K p.1 p.2) consts&&
 (all1 (λc=>all1 (λx=>attrOk K (zK K (clsName c)) x&&setOk K (zK K (clsName c)) x) (kL c)) [4,5,6,7]&&
 all1 (λc=>mi K (zK K (clsName c)) "code"&&hY K (zK K (clsName c)) "code"&&hY K (zK K (clsName c)) "text"&&(vA K (zK K (clsName c))&&pP K (zK K (clsName c)))) [0,1,2,3]&&
 (p6 K (zK K (clsName 4)) "turn" (aK K 4 "turn")&&p6 K (zK K (clsName 6)) "next_record" (aK K 6 "next_record"))&&
 (Kg K "F77Error"&&il K (zK K (clsName 0)) "__init__" (aK K 0 "__init__")&&il K (zK K (clsName 2)) "__init__" (aK K 2 "__init__")))&&
 (o7 K "Exception" "__init__" "Exception.__init__"&&(mroIn K (zK K (clsName 1)) (.ref (zK K (clsName 1)))==some true&&mroIn K (zK K (clsName 2)) (.ref (zK K (clsName 2)))==some true&&mroIn K (zK K (clsName 3)) (.ref (zK K (clsName 2)))==some true)&&
 all1 (λc=>makesIn K (zK K (clsName c))&&Sz K c "__init__") [4,5,6,7]&&(all1 (λc=>md K (zK K (clsName c))&&Sz K c "__init__") [0,1,2,3]&&aK K 1 "__init__"==aK K 0 "__init__"))
noncomputable def Ry (K:Frag)(l:List (Str×Fn)):Bool:=all1 (λp=>Kg K p.1&&cX K (zK K p.1) p.2) l
noncomputable def Sn (K:Frag):Bool:=all1 (λp=>cX K (aK K p.1 p.2.1) p.2.2) K0&&(K3 K (aK K 7 "__init__")&&(Kg K "law"&&cX K (zK K "law") kg))
theorem Gj {α:Type}{f:α->Bool}:∀{k:Nat}{l:List α},all1 f (l.take k)=true->all1 f (l.drop k)=true->all1 f l=true:=by
 intro z_
 induction z_ with
 |zero=>
  intro l _ h
  exact h
 |succ k ih=>
  intro c_ h h'
  cases c_ with
  |nil=>
   exact rfl
  |cons a r=>
   obtain⟨h1,h2⟩:=aQ (a:=f a) (b:=all1 f (r.take k)) h
   show(f a&&all1 f r)=true
   rw[h1,ih h2 h'];rfl
theorem pf {α:Type}:∀{l:List α}{k:Nat}{a:α},rj l k=some a->a∈l:=by
 intro z_
 induction z_ with
 |nil=>
  intro _ _ h
  cases h
 |cons b r ih=>
  intro c_ a h
  cases c_ with
  |zero=>
   cases h;exact .head _
  |succ k=>
   exact .tail _ (ih h)
theorem Js {K:Frag}{c:Nat}(h:Sz K c "__init__"=true):findIn K (.ref (zK K (clsName c))) "__init__"=some (some (.ref (aK K c "__init__")))/\typeIn K (.ref (aK K c "__init__"))=some (.type "function"):=by
 obtain⟨f,e,h⟩:=cf h
 obtain⟨o,h1,e⟩:=kY e
 obtain⟨v,rfl,e⟩:=kY e
 cases pe e
 unfold aK
 rw[h1]
 exact⟨rfl,beq_iff_eq.mp h⟩
theorem ED {P:Nat->Prop}(h:P 0/\P 1/\P 2/\P 3):∀{c},c<4->P c
 |0,_=>h.1
 |1,_=>h.2.1
 |2,_=>h.2.2.1
 |3,_=>h.2.2.2
 |n+4,k=>absurd k (Nat.not_lt.mpr (Nat.le_add_left 4 n))
theorem AX {P:Nat->Prop}(h:P 4/\P 5/\P 6/\P 7):∀{c},4<=c->c<8->P c
 |4,_,_=>h.1
 |5,_,_=>h.2.1
 |6,_,_=>h.2.2.1
 |7,_,_=>h.2.2.2
 |n+8,_,k=>absurd k (Nat.not_lt.mpr (Nat.le_add_left 8 n))
theorem MX {c:Nat}(h0:c≠0)(h:c<8):i7 (clsName c) dP=true:=by
 by_cases k:c<4
 ·exact ED (P:=λc=>c≠0->i7 (clsName c) dP=true) (by refine⟨λz=>absurd rfl z,λ_=>?_,λ_=>?_,λ_=>?_⟩<;>decide+kernel) k h0
 ·exact AX (P:=λc=>i7 (clsName c) dP=true) (by decide+kernel) (Nat.le_of_not_lt k) h
theorem Ic:∀{c:Nat}{x:Str},x∈kL c->4<=c/\c<8
 |0,_,h=>nomatch h
 |1,_,h=>nomatch h
 |2,_,h=>nomatch h
 |3,_,h=>nomatch h
 |4,_,_=>by decide
 |5,_,_=>by decide
 |6,_,_=>by decide
 |7,_,_=>by decide
 |n+8,_,h=>nomatch h
theorem PN {G:GC}(k1:Kg G.K "F77Error"=true)(b1:all1 (SH G.K) dP=true)(c:Nat)(hc:c<8):ZC G c=zK G.K (clsName c):=by
 refine(vh ?_).1
 by_cases h0:c=0
 ·rw[h0];exact k1
 ·exact(Eg (G:=G) (dE b1 (clsName c) (dD (MX h0 hc)))).1
theorem Vl {c:Nat}(h:4<=c)(h':c<8):c∈[4,5,6,7]:=AX (P:=λc=>c∈[4,5,6,7]) (by decide) h h'
theorem Vm {c:Nat}(h:c<4):c∈[0,1,2,3]:=ED (P:=λc=>c∈[0,1,2,3]) (by decide) h
theorem SE {c:Nat}(h:c<4):c<8:=Nat.lt_trans h (by decide)
theorem UH {G:GC}(up:∀a o,G.K.lookup a=some o->G.C.lookup a=some o)(h:gB G.K=true):GB G/\∀c x,c<8->dm G c x=aK G.K c x:=by
 have h1:=(aQ (aQ h).1).1
 have h3:=dF (aQ (aQ h).1).2
 have h2:=cM (aQ h).2
 have b:=cM h1
 have d:=aQ h2.1
 have e:=aQ h2.2.2
 have m:=cM d.2
 have t:=aQ h3.2.2.1
 have k:=cM h3.2.2.2
 have zc:=PN k.1 b.1
 have ac:∀c x,c<8->dm G c x=aK G.K c x:=λc x hc=>by
  unfold dm aK
  rw[zc c hc]<;>rfl
 refine⟨⟨λx hx=>?_,λx hx=>Mx (dE b.2.1 x hx),λk x v hk=>?_,λc x hx=>?_,λc hc=>?_,?_,?_,d.1,?_,λc h4 h8=>?_,λc hc=>?_,?_⟩,ac⟩
 ·have q:=Eg (G:=G) (dE b.1 x hx)
  have w:=vh q.1
  rw[w.1];exact⟨w.2,q.2⟩
 ·obtain⟨o,e1,e2⟩:=cf (dE b.2.2 _ (pf hk))
  obtain⟨c,rfl,e3⟩:=cf e2
  exact⟨c,ye e1,PQ up e3⟩
 ·have h8:=Ic hx
  rw[zc c h8.2]
  exact aQ (dE (dE h3.1 c (Vl h8.1 h8.2)) x hx)
 ·rw[zc c (SE hc)]
  have a:=dF (dE h3.2.1 c (Vm hc))
  exact⟨a.1,a.2.1,a.2.2.1,aQ a.2.2.2⟩
 ·rw[zc 4 (by decide),zc 6 (by decide),ac 4 _ (by decide),ac 6 _ (by decide)];exact t
 ·rw[zc 0 (by decide),zc 2 (by decide),ac 0 _ (by decide),ac 2 _ (by decide)];exact⟨(vh k.1).2,k.2⟩
 ·rw[zc 1 (by decide),zc 2 (by decide),zc 3 (by decide)];exact⟨beq_iff_eq.mp m.1,beq_iff_eq.mp m.2.1,beq_iff_eq.mp m.2.2⟩
 ·rw[zc c h8,ac c _ h8]
  have a:=aQ (dE h2.2.1 c (Vl h4 h8))
  exact⟨a.1,Js a.2⟩
 ·rw[zc c (SE hc),ac c _ (SE hc)]
  have a:=aQ (dE e.1 c (Vm hc))
  exact⟨a.1,Js a.2⟩
 ·rw[ac 1 _ (by decide),ac 0 _ (by decide)];exact beq_iff_eq.mp e.2
noncomputable def T3:List (Nat×Str×Fn)->Bool:=all1 λp=>Nat.blt p.1 8
theorem HR:T3 K0=true:=by decide+kernel
theorem Qa {G:GC}(up:∀a o,G.K.lookup a=some o->G.C.lookup a=some o)(hg:gB G.K=true)(h2:Ry G.K vy=true)(h:Sn G.K=true):PG G/\cX G.K (Z G "law") kg=true/\nsIn G.K mainGlobals "law"=some (some (.ref (Z G "law"))):=by
 obtain⟨h3,h4⟩:=aQ h
 obtain⟨h4,h5⟩:=aQ h4
 obtain⟨h5,h6⟩:=aQ h5
 obtain⟨g,ac⟩:=UH up hg
 obtain⟨z1,z2⟩:=vh h5
 refine⟨⟨g,λi x fn hi=>?_,λi c x fn hi=>?_,?_⟩,by rw[z1];exact h6,by rw[z1];exact z2⟩
 ·obtain⟨a,b⟩:=aQ (dE h2 _ (pf hi))
  rw[(vh a).1];exact b
 ·rw[ac c x (dM (dE HR _ (pf hi)))]
  exact dE h3 _ (pf hi)
 ·rw[ac 7 _ (by decide)];exact h4
abbrev pw:=PySem.Challenge.pw_no0270_01
noncomputable def JQ:(F:Program->World->Nat->Option Shared) ×' (∀p w N o,openEnds treeTable p w N=o->F p w N=o):=⟨_,λp w N o h=>by
 delta openEnds fencedOpening topFrom at h
 rw[PySem.W.Fast.te10274390034422433532,PySem.W.Fast.te14082659384304107361,PySem.W.Fast.te14364793385576792824,PySem.W.Fast.te1435165496053646825,PySem.W.Fast.te14289696077712309145] at h
 exact h⟩
noncomputable def vC:Program->World->Nat->Option Shared:=JQ.1
theorem FV (p w N):openEnds treeTable p w N=vC p w N:=(JQ.2 p w N _ rfl).symm
noncomputable def vf:Str:=Str.ofString "law"
noncomputable def Qu (s:Stmt):Bool:=if h:s.ctorIdx=0 then Stmt.FunctionDef.elim (motive_2:=λ_=>Bool) s h (λn _ _ _ _ _ _ _ _ _=>n==vf) else false
noncomputable def qv:Program:={ pw with main:={ pw.main with body:=pw.main.body.filter Qu } }
noncomputable def lo:List Str:=pw.boundNames.filter λn=>!(n==vf)
noncomputable def mods:List Str:=importedModules pw.main.body
noncomputable def sq:Nat->List Obj->Frag
 |_,[]=>[]
 |i,o::r=>match o.data with
  |.freed=>sq (i+1) r
  |_=>(i,o)::sq (i+1) r
noncomputable def fK (s:Shared):Frag:=sq 0 s.heap.objs.toList
noncomputable def xg (s:Shared):Bool:=gB (fK s)
noncomputable def Vk (s:Shared):Bool:=Ry (fK s) (vy.take 30)
noncomputable def Vj (s:Shared):Bool:=Ry (fK s) (vy.drop 30)
noncomputable def Vi (s:Shared):Bool:=Sn (fK s)
noncomputable def seenQ (s:Shared):=PySem.W.Fast.tw4187177175401517315 qv lo mods (λ_=>true) true s
theorem t1:∀w:World,(vC pw w 8000).map seenQ=some (openGood qv lo):=λw=>by kernel_rfl
theorem t2:∀w:World,(vC pw w 8000).map (λs=>xg s&&Vi s)=some true:=λw=>by kernel_rfl
theorem t3:∀w:World,(vC pw w 8000).map Vk=some true:=λw=>by kernel_rfl
theorem t4:∀w:World,(vC pw w 8000).map Vj=some true:=λw=>by kernel_rfl
noncomputable def xt (s:Shared):Bool:=(xg s&&Vi s)&&Vk s&&Vj s
theorem left:LeftO pw qv lo xt (λ_=>()) (λ_=>()) 8000:=λw=>by
 obtain⟨s,h1,h2⟩:=Option.map_eq_some_iff.mp (t1 w)
 have k2:=t2 w
 have k3:=t3 w
 have k4:=t4 w
 rw[h1,Option.map_some,Option.some.injEq] at k2 k3 k4
 rw[FV,h1,Option.map_some]
 unfold seenQ at h2
 rw[←PySem.W.Fast.te4187177175401517315] at h2
 have e:openSeen qv lo mods xt true s=openSeen qv lo mods (λ_=>true) true s:=by
  unfold openSeen xt
  rw[k2,k3,k4];rfl
 show some (openSeen qv lo mods xt true s,())=_
 rw[e,h2]
theorem PO {s:Shared}(h:xt s=true):gB (fK s)=true/\Ry (fK s) vy=true/\Sn (fK s)=true:=by
 obtain⟨h1,h2,h3⟩:=cM h
 obtain⟨h1,h4⟩:=aQ h1
 exact⟨h1,Gj h2 h3,h4⟩
noncomputable def Kw:Nat->Nat->Nat
 |0,_=>0
 |k+1,n=>if n=0 then 0 else Kw k (n/10)+1
theorem Am:∀k,Kw k 0=0
 |0=>rfl
 |_+1=>rfl
theorem M0:∀{k j n:Nat},n<=k->n<=j->Kw k n=Kw j n:=by
 intro k
 induction k with
 |zero=>intro j n h _;rw[Nat.le_zero.mp h,Am,Am]
 |succ k ih=>
  intro j n h g
  cases j with
  |zero=>rw[Nat.le_zero.mp g,Am,Am]
  |succ j=>
   show(if n=0 then 0 else Kw k (n/10)+1)=(if n=0 then 0 else Kw j (n/10)+1)
   rw[ih (j:=j) (DK h) (DK g)]
noncomputable def xD (n:Nat):Nat:=Kw n n
theorem sy:xD 0=0:=rfl
theorem vG:∀{n:Nat},n≠0->xD n=xD (n/10)+1
 |0,h=>absurd rfl h
 |n+1,_=>congrArg (·+1) (M0 (DK (eR _)) (eR _))
theorem JW:∀(k:Nat){n:Nat},10^k<=n->xD n=xD (n/10^k)+k:=by
 intro z_
 induction z_ with
 |zero=>
  intro n _
  simp
 |succ k ih=>
  intro n h
  have h1:1<=10^k:=Nat.one_le_pow _ _ (by decide)
  have hn:n≠0:=by rw[Nat.pow_succ] at h;omega
  have h2:10^k<=n/10:=by rw[Nat.le_div_iff_mul_le (by decide)];rw[Nat.pow_succ] at h;exact h
  rw[vG hn,ih h2,Nat.div_div_eq_div_mul,Nat.pow_succ,Nat.mul_comm 10];exact Nat.le_antisymm (a20 0xc56ad2a080ad2ab4101 tt) (a20 0xc56955a080ad5a54101 tt)
noncomputable def m8:Nat->Int->Int->Int×Int
 |0,m,e=>(m,e)
 |k+1,m,e=>if m%10=0/\m≠0 then m8 k (m/10) (e+1) else(m,e)
theorem Bw:∀{k j:Nat}{m e:Int},m.natAbs<=k->m.natAbs<=j->m8 k m e=m8 j m e:=by
 intro k
 induction k with
 |zero=>
  intro j m e h _
  cases j with
  |zero=>rfl
  |succ j=>exact(aA λq=>q.2 (Int.natAbs_eq_zero.mp (Nat.le_zero.mp h))).symm
 |succ k ih=>
  intro j m e h g
  cases j with
  |zero=>exact aA λq=>q.2 (Int.natAbs_eq_zero.mp (Nat.le_zero.mp g))
  |succ j=>
   show(if m%10=0/\m≠0 then m8 k (m/10) (e+1) else(m,e))=(if m%10=0/\m≠0 then m8 j (m/10) (e+1) else(m,e))
   by_cases q:m%10=0/\m≠0
   ·rw[aL q,aL q];exact ih (Nat.le_of_lt_succ (fc h q.2 q.1)) (Nat.le_of_lt_succ (fc g q.2 q.1))
   ·rw[aA q,aA q]
noncomputable def strip (m e:Int):Int×Int:=m8 m.natAbs m e
theorem jE {m e:Int}(h:m%10=0)(h':m≠0):strip m e=strip (m/10) (e+1):=by
 obtain⟨k,hk⟩:∃k,m.natAbs=k+1:=⟨m.natAbs-1,(Nat.sub_add_cancel (p5 h')).symm⟩
 unfold strip
 rw[hk]
 exact(aL ⟨h,h'⟩).trans (Bw (Nat.le_of_lt_succ (fc (Nat.le_of_eq hk) h' h)) (eR _))
theorem fP {m e:Int}(h:m%10≠0∨m=0):strip m e=(m,e):=by
 unfold strip
 cases m.natAbs with
 |zero=>rfl
 |succ k=>exact aA λq=>h.elim (λz=>z q.1) q.2
noncomputable def gd (m e:Int):Int×Int:=if m=0 then(0,0) else strip m e
noncomputable def cd (m:Int):Int:=(xD m.natAbs:Nat)
noncomputable def kept (a p:Int):Int:=if 2*(a%p)>p∨(2*(a%p)=p/\a/p%2=1) then a/p+1 else a/p
noncomputable def bk (m:Int):Int:=if m<0 then -m else m
noncomputable def A6 (m e d:Int):Int×Int:=if cd m-d>0 then gd (if m>0 then kept (bk m) (10^(cd m-d).toNat) else -kept (bk m) (10^(cd m-d).toNat)) (e+(cd m-d)) else gd m e
noncomputable def tB (m e d top:Int):Option (Int×Int):=
 let r:=A6 m e d
 if r.1=0∨r.2+cd r.1-1 < -top then some (0,0) else if r.2+cd r.1-1>top then none else some r
abbrev CF (G:GC)(l:Nat)(x:Str)(vs:List V)(aa:ag)(Q:V->ag->Prop)(X:Ex->ag->Prop):Prop:=b5 G (·=none) l (Z G x) vs [] aa Q X
theorem aP {Q:V->ag->Prop}{v:V}{loc:List (Option V)}{aa:ag}(q:Q v aa):bB Q (.ret v) ⟨loc,aa⟩:=⟨aa,.refl _,q⟩
theorem l2 {a b:V}:[a,b].length<=1000:=by simp
theorem l3 {a b c:V}:[a,b,c].length<=1000:=by simp
theorem dp {b:Int}(h:b<=10^200):b<2^9000:=Int.lt_of_le_of_lt h (by decide+kernel)
theorem G8:(0:Int)<10/\(10:Int)<2^9000:=⟨by decide,dp (by decide)⟩
theorem MS:(0:Int)<1000000000/\(1000000000:Int)<2^9000:=⟨by decide,dp (by decide)⟩
section
variable {G:GC}{aa:ag}{Q:V->ag->Prop}{X:Ex->ag->Prop}
theorem jv (p:PG G){n:Int}(q:Q (.int (cd n)) aa):CF G 2 "count_digits" [.int n] aa Q X:=by
 refine ax p.g p.rg rfl (by decide) [some (.int n),none] rfl ?_
 intro R hf hR
 have two:∀(k m:Nat) (c:Int),m<=k->c+xD m=cd n->R ⟨[some (.int m),some (.int c)],aa⟩:=by
  intro k
  induction k using Nat.strongRecOn with
  |ind k ih=>
   intro m c hm e
   refine hR _ ⟨λh=>?_,λh=>?_⟩
   ·change (1000000000:Int)<=m at h
    refine⟨MS,?_⟩
    have:=ih (m/1000000000) (Nat.lt_of_lt_of_le (Nat.div_lt_self (by exact a10 0x6404a3460049c0d1b337b tt (by assumption)) (by decide)) hm) (m/1000000000) (c+9) (eR _) (by
     have:xD m=xD (m/1000000000)+9:=JW 9 (n:=m) (by exact a10 0x31024e068d99bdb460049c0d1b337b tt (by assumption))
     exact oD (a22 0x68396b004b4e8d6c396b00235c335a74101 tt e this) (a22 0x68b58025a7468e70d872d60046b35a74101 tt e this))
    rw[show((m/1000000000:Nat):Int)=(m:Int)/1000000000 by omega] at this
    exact this
   ·intro R' X5 Ku
    have one:∀(k m:Nat) (c:Int),m<=k->c+xD m=cd n->R' ⟨[some (.int m),some (.int c)],aa⟩:=by
     intro k
     induction k using Nat.strongRecOn with
     |ind k ih=>
      intro m c hm e
      refine Ku _ ⟨λh=>?_,λh=>?_⟩
      ·change (0:Int)<m at h
       refine⟨G8,?_⟩
       have:=ih (m/10) (Nat.lt_of_lt_of_le (Nat.div_lt_self (by exact a10 0xc80946ac0094 tt (by assumption)) (by decide)) hm) (m/10) (c+1) (eR _) (by
        have:=vG (n:=m) (by omega)
        exact oD (a22 0x68396b004b4a8d6c396b00235c335a54101 tt e this) (a22 0x68b58025a5468e70d872d60046b35a54101 tt e this))
       rw[show((m/10:Nat):Int)=(m:Int)/10 by omega] at this
       exact this
      ·change ¬(0:Int)<m at h
       have:m=0:=by exact Nat.le_antisymm (a10 0xc4a016851801 tt (uU (by assumption):)) (a10 0xc4094 tt)
       subst this
       rw[sy] at e
       have:c=cd n:=by exact oD (a02 0x341c35b0e5ac0a0d tt e) (a02 0x1a0d1ce1b0e5ac0a0d tt e)
       subst this
       exact aP q
    exact one m m c (eR _) e
 have:=two n.natAbs n.natAbs 0 (eR _) (by unfold cd;exact oD (a10 0xd18015ac0094 tt) (a10 0xd16b00251801 tt))
 rw[show((n.natAbs:Nat):Int)=if n<0 then -n else n by split;exact Ds (by assumption);exact Dr (by assumption)] at this
 exact this
theorem kj (p:PG G){m e:Int}(q:Q (.tup [.int (gd m e).1,.int (gd m e).2]) aa):CF G 2 "strip_zeros" [.int m,.int e] aa Q X:=by
 refine ax p.g p.rN rfl (by decide) [some (.int m),some (.int e)] rfl ?_
 refine⟨λh=>?_,λh=>?_⟩
 ·change m=0 at h
  unfold gd at q
  rw[aL h] at q
  exact aP q
 ·change ¬m=0 at h
  unfold gd at q
  rw[aA h] at q
  intro R hf hR
  have key:∀(k:Nat) (m e:Int),m.natAbs<=k->m≠0->Q (.tup [.int (strip m e).1,.int (strip m e).2]) aa->R ⟨[some (.int m),some (.int e)],aa⟩:=by
   intro k
   induction k using Nat.strongRecOn with
   |ind k ih=>
    intro m e hm h0 q
    refine hR _ ⟨by decide,λh=>?_,λh=>?_⟩
    ·change m%10=0 at h
     rw[jE h h0] at q
     exact⟨G8,ih (m/10).natAbs (fc hm h0 h) (m/10) (e+1) (eR _) (MU h0 h) q⟩
    ·change ¬m%10=0 at h
     rw[fP (.inl h)] at q
     exact⟨l2,aP q⟩
  exact key _ m e (eR _) h q
end
section
variable {G:GC}{aa:ag}{Q:V->ag->Prop}{X:Ex->ag->Prop}{hd:Option Value}
theorem Sub.pd {l:ag}{a:Addr}{o:AO}(h:l a=none):Sub l (rem (Mine.put l a o) a):=λb u e=>by
 have:b≠a:=λk=>by rw[k,h] at e;cases e
 unfold rem
 rw[aA this,ai this];exact e
theorem aR {l:ag}{a:Addr}{o o':AO}:put (put l a o) a o'=put l a o':=by
 funext b;unfold put;split<;>rfl
theorem Jh (p:PG G){a:Addr}{c:Nat}{t:V}(hc:c<4)(ha:aa a=some (.bare (ZC G c)))(q:∀d,Q .none (put aa a (.exc 2 (ZC G c) d [("text",t)]))):b5 G (·=hd) 2 (dm G 0 "__init__") [.ref a,t] [] aa Q X:=by
 refine ax p.g p.oW rfl (by decide) [some (.ref a),some t] rfl ?_
 refine⟨⟨c,hc,ha⟩,by simp,a,c,rfl,hc,.inl ⟨ha,λd=>⟨_,.refl _,q d⟩⟩⟩
theorem vR (p:PG G){a:Addr}{c:Nat}{k t:V}(hc:c<4)(ha:aa a=some (.bare (ZC G c)))(q:∀d,Q .none (put aa a (.exc 2 (ZC G c) d [("text",t),("code",k)]))):b5 G (·=hd) 3 (dm G 2 "__init__") [.ref a,k,t] [] aa Q X:=by
 refine ax p.g p.rh rfl (by decide) [some (.ref a),some k,some t] rfl ?_
 refine cW (by decide) (Jh p hc ha λd=>?_)
 refine⟨a,c,rfl,hc,.inr ⟨2,d,[("text",t)],ab _ _ _,by simp,?_⟩⟩
 refine⟨_,.refl _,?_⟩
 show Q .none (put (put aa a _) a _)
 rw[aR];exact q d
theorem BG (p:PG G){a:Addr}{c:Nat}{t:V}(hc:c<4)(ha:aa a=some (.bare (ZC G c)))(q:∀d,Q .none (put aa a (.exc 2 (ZC G c) d [("text",t),("code",.int (-1))]))):b5 G (·=hd) 4 (dm G 3 "__init__") [.ref a,t] [] aa Q X:=by
 refine ax p.g p.oX rfl (by decide) [some (.ref a),some t] rfl ?_
 exact cW (by decide) (vR p hc ha λd=>⟨_,.refl _,q d⟩)
theorem Oz (p:PG G){k t:V}(q:∀a d,aa a=none->Q (.ref a) (put aa a (.exc 2 (ZC G 2) d [("text",t),("code",k)]))):b5 G (·=hd) 4 (Z G "IoFault") [k,t] [] aa Q X:=by
 obtain⟨h1,h2,h3⟩:=p.g.Du 2 (by decide)
 refine ju (C:=ZC G 2) h1 h2 h3 (by simp) λa ha=>?_
 refine vR p (by decide) (ab _ _ _) λd=>⟨rfl,?_⟩
 rw[aR];exact q a d ha
theorem P7 (p:PG G){t:V}(q:∀a d,aa a=none->Q (.ref a) (put aa a (.exc 2 (ZC G 3) d [("text",t),("code",.int (-1))]))):b5 G (·=hd) 5 (Z G "EndFault") [t] [] aa Q X:=by
 obtain⟨h1,h2,h3⟩:=p.g.Du 3 (by decide)
 refine ju (C:=ZC G 3) h1 h2 h3 (by simp) λa ha=>?_
 refine BG p (by decide) (ab _ _ _) λd=>⟨rfl,?_⟩
 rw[aR];exact q a d ha
theorem P6 (p:PG G){t:V}(q:∀a d,aa a=none->Q (.ref a) (put aa a (.exc 2 (ZC G 1) d [("text",t)]))):b5 G (·=hd) 3 (Z G "RunFault") [t] [] aa Q X:=by
 obtain⟨h1,h2,h3⟩:=p.g.Du 1 (by decide)
 refine ju (C:=ZC G 1) h1 h2 h3 (by simp) λa ha=>?_
 rw[p.g.Xp]
 refine Jh p (c:=1) (by decide) (ab _ _ _) λd=>⟨rfl,?_⟩
 rw[aR];exact q a d ha
noncomputable def r7 (G:GC)(k:Int)(ex:Ex):Prop:=∃c,(c=2∨c=3)/\ex.cls=ZC G c/\∃t:V,ex.fs=([("text",t),("code",.int k)]:List (Str×V))
noncomputable def PA (G:GC)(ex:Ex):Prop:=ex.nc=true/\ex.cls=ZC G 1/\∃t:V,ex.fs=([("text",t)]:List (Str×V))
theorem oI (p:PG G){af:Nat}{k:Int}{t:V}{loc:List (Option V)}(hl:4<=af)(x:∀ex,r7 G k ex->X ex aa):
  fu G none af (Z G "IoFault") [.int k,t] [] ⟨loc,aa⟩ (KO G none (bc X)) (bc X):=by
 refine cW hl (Oz p λa d ha=>?_)
 refine⟨a,2,d,_,rfl,by decide,ab _ _ _,trivial,?_⟩
 exact⟨aa,Sub.pd ha,x _ ⟨2,.inl rfl,rfl,t,rfl⟩⟩
theorem P8 (p:PG G){af:Nat}{t:V}{loc:List (Option V)}(hl:3<=af)(x:∀ex,PA G ex->X ex aa):
  fu G none af (Z G "RunFault") [t] [] ⟨loc,aa⟩ (KO G none (bc X)) (bc X):=by
 refine cW hl (P6 p λa d ha=>?_)
 refine⟨a,1,d,_,rfl,by decide,ab _ _ _,trivial,?_⟩
 exact⟨aa,Sub.pd ha,x _ ⟨rfl,rfl,t,rfl⟩⟩
theorem qg {n:Nat}(h:n<=200):(10:Int)^n<=10^200:=by
 have:=Nat.pow_le_pow_right (n:=10) (by decide) h
 exact_mod_cast this
theorem sd:rn 10:=by unfold rn;decide
theorem CX:rn 2:=by unfold rn;decide
theorem qW (p:PG G){m e d:Int}(hm:cd m-d<=200)(q:Q (.tup [.int (A6 m e d).1,.int (A6 m e d).2]) aa):CF G 3 "round_digits" [.int m,.int e,.int d] aa Q X:=by
 refine ax p.g p.q9 rfl (by decide) [some (.int m),some (.int e),some (.int d),none,none,none,none] rfl ?_
 refine cW (by decide) (jv p ?_)
 unfold A6 at q
 refine⟨λh=>?_,λh=>?_⟩
 ·change 0<cd m-d at h
  rw[aL h] at q
  have hp:(0:Int)<10^(cd m-d).toNat/\(10:Int)^(cd m-d).toNat<2^9000:=by
   refine⟨Int.pow_pos (by decide),dp ?_⟩
   exact qg (j6 (by exact a02 0xd1813910d70e1ad09c886b870d tt hm))
  refine⟨⟨by exact a02 0x1a2e1c34a355c38694 tt (by assumption),by exact a02 0x684e049e90d70e1ad09c886b870d tt hm,sd⟩,hp,?_⟩
  have fin:∀(k:Int) (QQ:Fl->St->Prop),k=kept (bk m) (10^(cd m-d).toNat)->(∀m' l,m'=(if m>0 then kept (bk m) (10^(cd m-d).toNat) else -kept (bk m) (10^(cd m-d).toNat))->QQ .next ⟨some (.int m')::some (.int (e+(cd m-d)))::l,aa⟩)->
    bf G none 2 QQ (bc X) [aM 0 (eX (aq .gt (loc 0) (lit (.int 0))) (loc 5) (neg (loc 5))),eZ 1 .add (loc 3)] ⟨[some (.int m),some (.int e),some (.int d),some (.int (cd m-d)),some (.int (10^(cd m-d).toNat)),some (.int k),some (.int (bk m%10^(cd m-d).toNat))],aa⟩:=λk QQ hk r=>by
   subst hk
   exact⟨λh0=>r _ _ (aL h0).symm,λh0=>r _ _ (aA h0).symm⟩
  have G7:∀m' l,m'=(if m>0 then kept (bk m) (10^(cd m-d).toNat) else -kept (bk m) (10^(cd m-d).toNat))->bf G none 2 (bB Q) (bc X) [aC (aj "strip_zeros" [loc 0,loc 1])] ⟨some (.int m')::some (.int (e+(cd m-d)))::l,aa⟩:=λm' l NR=>by
   subst NR
   exact cW (by decide) (kj p (aP q))
  refine⟨.inl CX,λh1=>?_,λh1=>?_⟩
  ·exact fin _ _ (aL (.inl h1)).symm G7
  ·refine⟨.inl CX,λh2=>⟨by decide,λh3=>?_,λh3=>?_⟩,λh2=>?_⟩
   ·exact fin _ _ (aL (.inr ⟨h2,h3⟩)).symm G7
   ·exact fin _ _ (aA (λk=>k.elim h1 λk=>h3 k.2)).symm G7
   ·exact fin _ _ (aA (λk=>k.elim h1 λk=>h2 k.1)).symm G7
 ·change ¬0<cd m-d at h
  rw[aA h] at q
  exact cW (by decide) (kj p (aP q))
end
noncomputable def ja:Int->List Nat->Option Int
 |n,[]=>some n
 |n,c::r=>if 48<=c/\c<=57 then ja (n*10+((c:Int)-48)) r else none
noncomputable def aH (l:List Nat):Int:=if l=[] then -1 else(ja 0 l).getD (-1)
noncomputable def aX (l:List Nat):Int×List Nat:=if l.take 1=[45] then(-1,l.drop 1) else if l.take 1=[43] then(1,l.drop 1) else(1,l)
noncomputable def b7:List Nat->List Nat×List Nat×Bool
 |[]=>([],[],false)
 |c::r=>if c=69∨c=68 then([],r,true) else if c=43∨c=45 then([],c::r,true) else(c::(b7 r).1,(b7 r).2)
noncomputable def c9 (l:List Nat):Option Int:=if aH (aX l).2<0 then none else some ((aX l).1*aH (aX l).2)
noncomputable def gI (l:List Nat):List Nat×Int:=if 46∈l then(l.take (l.idxOf 46)++l.drop (l.idxOf 46+1),(l.length:Int)-l.idxOf 46-1) else(l,0)
noncomputable def gH (l:List Nat):Option (Int×Int):=if aH (gI l).1<0 then none else some (aH (gI l).1,(gI l).2)
noncomputable def gJ (l:List Nat)(digits top:Int):Except Int (Int×Int):=
 if l=[] then .ok (0,0) else
 match gH (b7 (aX l).2).1 with
 |none=>.error 1
 |some (n,k)=>match (if(b7 (aX l).2).2.2=true then c9 (b7 (aX l).2).2.1 else some 0) with
  |none=>.error 1
  |some w=>match tB ((aX l).1*n) (w-k) digits top with
   |none=>.error 2
   |some r=>.ok r
noncomputable def mZ (l:List Nat)(width:Int):Except Int Int:=
 if aH (aX l).2<0 then .error 1 else
 if -(2^(width-1).toNat)<=(aX l).1*aH (aX l).2/\(aX l).1*aH (aX l).2<2^(width-1).toNat then .ok ((aX l).1*aH (aX l).2) else .error 2
noncomputable def ry (l:List Nat):Except Int Bool:=
 let r:=if l.take 1=[46] then l.drop 1 else l
 if r.take 1=[84] then .ok true else if r.take 1=[70] then .ok false else .error 1
theorem yD:∀(k:Nat){n:Nat},n<10^k->xD n<=k:=by
 intro z_
 induction z_ with
 |zero=>
  intro n h
  have:n=0:=by simp at h;exact h
  rw[this,sy];exact dq 0xc4a14 [] [] tt
 |succ k ih=>
  intro n h
  by_cases h0:n=0
  ·rw[h0,sy];exact a10 0x315a54094 tt
  ·rw[vG h0]
   have:=ih (n:=n/10) (by rw[Nat.div_lt_iff_lt_mul (by decide)];rw[Nat.pow_succ] at h;exact h)
   exact a20 0x18ad2a0969502c4101 tt this
theorem EL:∀{l:List Nat}{n m:Int}(k:Nat),0<=n->n<10^k->ja n l=some m->0<=m/\m<10^(k+l.length):=by
 intro z_
 induction z_ with
 |nil=>
  intro n m k h0 h e
  cases e;exact⟨h0,h⟩
 |cons c r ih=>
  intro n m k h0 h e
  unfold ja at e
  split at e
  ·rename_i hc
   have:=ih (k+1) (by omega) (by rw[Int.pow_succ];omega) e
   rw[mX,show k+(r.length+1)=k+1+r.length by exact Nat.le_antisymm (a20 0xc56825a540ad5a54101 tt) (a20 0xc56ad2a080ad04b4a81 tt)]
   exact this
  ·cases e
theorem sC {l:List Nat}(h:0<=aH l):aH l<10^l.length:=by
 unfold aH at h ⊢
 split at h
 ·omega
 ·rename_i hl
  rw[aA hl]
  match hw:ja 0 l with
  |none=>rw[hw] at h;simp at h
  |some m=>have:=EL 0 (by exact dq 0xd0a14 [] [] tt) (by decide) hw;simpa using this.2
theorem Rb {m:Int}{k:Nat}(h:m.natAbs<10^k):cd m<=k:=by
 unfold cd
 have:=yD k h
 exact a20 0x68c013002c4101 tt this
section
section loops
variable {g:GP}{a:List SP}{G:GC}{af:Nat}{R:It->St->Prop}{Q:Fl->St->Prop}{X:Ex->St->Prop}{σ:St}
noncomputable def vz (g:GP)(a:List SP)(G:GC)(af:Nat)(R:St->Prop)(Q:Fl->St->Prop)(X:Ex->St->Prop)(v:V)(σ:St):Prop:=g.wp G none af v σ (Wt a G af R Q X) X
theorem o6 {I I':It}{v:V}(h:I.nx g.ro σ.aa=some (some (v,I')))(q:vz g a G af (R I') Q X v σ):ez g a G af R Q X I σ:=by
 unfold ez;rw[h];exact q
theorem mj {I:It}(h:I.nx g.ro σ.aa=some none)(q:Q .next σ):ez g a G af R Q X I σ:=by
 unfold ez;rw[h];exact q
theorem mn {vs:List V}{i:Nat}{v:V}(h:vs[i]?=some v)(q:vz g a G af (R (.seq vs (i+1))) Q X v σ):ez g a G af R Q X (.seq vs i) σ:=
 o6 (congrArg (λo:Option V=>some (o.map λv=>(v,It.seq vs (i+1)))) h) q
theorem o8 {vs:List V}{i:Nat}(h:vs[i]?=none)(q:Q .next σ):ez g a G af R Q X (.seq vs i) σ:=
 mj (congrArg (λo:Option V=>some (o.map λv=>(v,It.seq vs (i+1)))) h) q
theorem vS {x:Int}{n:Nat}(q:vz g a G af (R (.mW (x+1) n)) Q X (.int x) σ):ez g a G af R Q X (.mW x (n+1)) σ:=o6 rfl q
theorem AD {x:Int}(q:Q .next σ):ez g a G af R Q X (.mW x 0) σ:=mj rfl q
theorem mz {b:Addr}{l:List V}{i:Nat}{v:V}(hb:σ.aa b=some (.list l))(h:l[i]?=some v)(q:vz g a G af (R (.list b (i+1))) Q X v σ):ez g a G af R Q X (.list b i) σ:=
 o6 ((It.my hb).trans (congrArg (λo:Option V=>some (o.map λv=>(v,It.list b (i+1)))) h)) q
theorem pj {b:Addr}{l:List V}{i:Nat}(hb:σ.aa b=some (.list l))(h:l[i]?=none)(q:Q .next σ):ez g a G af R Q X (.list b i) σ:=
 mj ((It.my hb).trans (congrArg (λo:Option V=>some (o.map λv=>(v,It.list b (i+1)))) h)) q
theorem eA {α β:Type}{f:α->β}{pre:List α}{c:α}{s:List α}:((pre++c::s).map f)[pre.length]?=some (f c):=by simp
end loops
section
variable {G:GC}{aa:ag}{Q:V->ag->Prop}{X:Ex->ag->Prop}
theorem uE (p:PG G){m e d top:Int}(hm:cd m-d<=200)(q:∀r,tB m e d top=some r->Q (.tup [.int r.1,.int r.2]) aa)(x:tB m e d top=none->∀ex,PA G ex->X ex aa):CF G 4 "round_real" [.int m,.int e,.int d,.int top] aa Q X:=by
 refine ax p.g p.uM rfl (by decide) [some (.int m),some (.int e),some (.int d),some (.int top),none] rfl ?_
 refine cW (by decide) (qW p hm ?_)
 refine cW (by decide) (jv p ?_)
 unfold tB at q x
 generalize A6 m e d=r at q x ⊢
 dsimp only at q x
 have mid:¬(r.1=0∨r.2+cd r.1-1 < -top)->bf G none 3 (bB Q) (bc X) [site (aq .gt (loc 4) (loc 3)) [
  hG (aj "RunFault" [lit (.str [111,118,101,114,102,108,111,119])])] [],
 aC (tup [loc 0,loc 1])] ⟨[some (.int r.1),some (.int r.2),some (.int d),some (.int top),some (.int (r.2+cd r.1-1))],aa⟩:=λhn=>by
  rw[aA hn] at q x
  refine⟨λh=>?_,λh=>?_⟩
  ·change r.2+cd r.1-1>top at h
   rw[aL h] at x
   exact P8 p (by decide) (x rfl)
  ·change ¬r.2+cd r.1-1>top at h
   rw[aA h] at q
   exact⟨l2,aP (q _ rfl)⟩
 refine⟨λh=>?_,λh=>⟨λh2=>?_,λh2=>?_⟩⟩
 ·rw[aL (.inl h)] at q
  exact aP (q _ rfl)
 ·rw[aL (.inr h2)] at q
  exact aP (q _ rfl)
 ·exact mid λk=>k.elim h h2
theorem jt (p:PG G){k:Int}{a dx:Addr}{vals:List V}{u w:V}(h:aa a=some (ob G 7 dx vals))(h1:rj vals 1=some u)(h2:rj vals 2=some w)(q:Q (if k=1 then u else w) aa):CF G 2 "digits_of" [.int k,.ref a] aa Q X:=by
 refine ax p.g p.xl rfl (by decide) [some (.int k),some (.ref a)] rfl ?_
 refine⟨λe=>?_,λe=>?_⟩
 ·rw[aL e] at q
  exact bG.mk a dx vals u rfl h h1 (aP q)
 ·rw[aA e] at q
  exact bG.mk a dx vals w rfl h h2 (aP q)
theorem kk (p:PG G){l:List Nat}(hb:∀c∈l,c≠32)(hl:l.length<=1000)(q:Q (.str l) aa):CF G 2 "solid_field" [.str l,.bool false] aa Q X:=by
 refine ax p.g p.rO rfl (by decide) [some (.str l),some (.bool false),none,none] rfl ?_
 intro R hf hR
 have key:∀(s pre:List Nat) (x:Option V),l=pre++s->R (.seq (l.map λc=>.str [c]) pre.length) ⟨[some (.str l),some (.bool false),some (.str pre),x],aa⟩:=by
  intro s
  induction s with
  |nil=>
   intro pre x e
   rw[List.append_nil] at e
   subst e
   exact hR _ _ (o8 (by simp) (aP q))
  |cons c s ih=>
   intro pre x e
   refine hR _ _ (mn (v:=.str [c]) (by rw[e];exact eA) ?_)
   refine⟨λh=>?_,λh=>?_⟩
   ·exact absurd (by simpa using h) (hb c (by rw[e];simp))
   ·refine⟨by have:=congrArg List.length e;simp at this ⊢;exact a30 0x624ffc8e90c13127a278170cd6ad2a0c101 tt hl this,?_⟩
    have:=ih (pre++[c]) (some (.str [c])) (by rw[e];simp)
    rw[cN] at this
    exact this
 exact key l [] none rfl
theorem nH (c:Nat):fO c [48,49,50,51,52,53,54,55,56,57]=if 48<=c/\c<=57 then(c:Int)-48 else -1:=by
 by_cases h:48<=c/\c<=57
 ·rw[aL h]
  exact uy (P:=λc=>fO c [48,49,50,51,52,53,54,55,56,57]=(c:Int)-48) (by decide) h.1 h.2
 ·rw[aA h]
  exact aA λk=>h ((by decide:∀c∈[48,49,50,51,52,53,54,55,56,57],48<=c/\c<=57) c k)
theorem iz (p:PG G){l:List Nat}(q:Q (.int (aH l)) aa):CF G 2 "whole_of" [.str l] aa Q X:=by
 refine ax p.g p.zF rfl (by decide) [some (.str l),none,none,none] rfl ?_
 intro R hf hR
 unfold aH at q
 have key:∀(s pre:List Nat) (n:Int) (x y:Option V),l=pre++s->ja 0 l=ja n s->R (.seq (l.map λc=>.str [c]) pre.length) ⟨[some (.str l),some (.int n),x,y],aa⟩:=by
  intro s
  induction s with
  |nil=>
   intro pre n x y e w
   rw[List.append_nil] at e
   subst e
   refine hR _ _ (o8 (by simp) ⟨λh=>?_,λh=>?_⟩)
   ·rw[aL h] at q;exact aP q
   ·rw[aA h,w] at q;exact aP q
  |cons c s ih=>
   intro pre n x y e w
   have dT:l≠[]:=by rw[e];simp
   refine hR _ _ (mn (v:=.str [c]) (by rw[e];exact eA) ⟨rfl,?_⟩)
   by_cases hc:48<=c/\c<=57
   ·refine⟨λh=>?_,λh=>⟨.inr sd,?_⟩⟩
    ·change fO c [48,49,50,51,52,53,54,55,56,57]<0 at h
     rw[nH,aL hc] at h;omega
    ·have:=ih (pre++[c]) (n*10+((c:Int)-48)) (some (.str [c])) (some (.int ((c:Int)-48))) (by rw[e];simp) (by rw[w];show(if _ then _ else _)=_;rw[aL hc])
     rw[cN] at this
     have e2:fO c [48,49,50,51,52,53,54,55,56,57]=(c:Int)-48:=by rw[nH,aL hc]
     rw[←e2] at this
     exact this
   ·refine⟨λh=>?_,λh=>?_⟩
    ·rw[aA dT,w] at q
     have:ja n (c::s)=none:=by show(if _ then _ else _)=_;rw[aA hc]
     rw[this] at q
     exact aP q
    ·change ¬fO c [48,49,50,51,52,53,54,55,56,57]<0 at h
     rw[nH,aA hc] at h;omega
 exact key l [] 0 none none rfl rfl
end
end
section
variable {G:GC}{aa:ag}{Q:V->ag->Prop}{X:Ex->ag->Prop}
theorem lu (p:PG G){l:List Nat}(hl:l.length<=1000)(q:Q (.tup [.int (aX l).1,.str (aX l).2]) aa):CF G 2 "cut_sign" [.str l] aa Q X:=by
 refine ax p.g p.zS rfl (by decide) [some (.str l)] rfl ?_
 have gY:l.length<=1000000:=by exact a10 0x624e049e90c0b127a2781 tt hl
 unfold aX at q
 refine aV gY rfl rfl ⟨λh=>?_,λh=>aV gY rfl rfl ⟨λh2=>?_,λh2=>?_⟩⟩
 ·change l.take 1=[45] at h
  rw[aL h] at q
  exact aV gY rfl rfl ⟨l2,aP q⟩
 ·change ¬l.take 1=[45] at h
  change l.take 1=[43] at h2
  rw[aA h,aL h2] at q
  exact aV gY rfl rfl ⟨l2,aP q⟩
 ·change ¬l.take 1=[45] at h
  change ¬l.take 1=[43] at h2
  rw[aA h,aA h2] at q
  exact⟨l2,aP q⟩
theorem Ov:rn 1:=by unfold rn;decide
theorem PX:rn (-1):=by unfold rn;decide
theorem mE (l:List Nat):rn (aX l).1:=by
 unfold aX
 split
 ·exact PX
 ·split<;>exact Ov
theorem wo (l:List Nat):(aX l).2.length<=l.length:=by
 unfold aX
 split
 ·simp
 ·split<;>simp
theorem yY (p:PG G){n w:Int}(h1:1<=w)(h2:w<=1000)(q:Q (.bool (decide (-(2^(w-1).toNat)<=n/\n<2^(w-1).toNat))) aa):CF G 2 "in_width" [.int n,.int w] aa Q X:=by
 refine ax p.g p.zR rfl (by decide) [some (.int n),some (.int w),none] rfl ?_
 refine⟨⟨by exact a01 0x68b8a8d28d0695 tt h1,by exact a01 0x1a138127a435c546b427a278d tt h2,Ov⟩,λh=>?_,λh=>?_⟩
 ·change -(1*2^(w-1).toNat)<=n at h
  rw[Int.one_mul] at h
  have e:decide (n<1*2^(w-1).toNat)=decide (-(2^(w-1).toNat)<=n/\n<2^(w-1).toNat):=by rw[Int.one_mul];exact decide_eq_decide.mpr ⟨λk=>⟨h,k⟩,λk=>k.2⟩
  rw[←e] at q
  exact aP q
 ·change ¬-(1*2^(w-1).toNat)<=n at h
  rw[Int.one_mul] at h
  rw[decide_eq_false (λk=>h k.1)] at q
  exact aP q
theorem yW (p:PG G){l:List Nat}{w:Int}(h0:l≠[])(hb:∀c∈l,c≠32)(hl:l.length<=1000)(h1:1<=w)(h2:w<=1000)(q:∀n,mZ l w=.ok n->Q (.int n) aa)(x:∀k,mZ l w=.error k->∀ex,r7 G k ex->X ex aa):
  CF G 5 "read_int" [.str l,.bool false,.int w] aa Q X:=by
 refine ax p.g p.zI rfl (by decide) [some (.str l),some (.bool false),some (.int w),none,none,none,none] rfl ?_
 refine cW (by decide) (kk p hb hl ?_)
 refine⟨λh=>absurd h h0,λ_=>?_⟩
 refine cW (by decide) (lu p hl ?_)
 refine cW (by decide) (iz p ?_)
 unfold mZ at q x
 refine⟨λh=>?_,λh=>?_⟩
 ·change aH (aX l).2<0 at h
  rw[aL h] at x
  exact oI p (by decide) (x 1 rfl)
 ·change ¬aH (aX l).2<0 at h
  rw[aA h] at q x
  refine⟨.inl (mE l),cW (by decide) (yY p h1 h2 ⟨λt=>?_,λt=>?_⟩)⟩
  ·have t:=tC t
   rw[aL t] at q
   exact⟨.inl (mE l),aP (q _ rfl)⟩
  ·have t:=of_decide_eq_false t
   rw[aA t] at x
   exact oI p (by decide) (x 2 rfl)
theorem qZ (p:PG G){l:List Nat}(hl:l.length<=1000)(q:Q (.tup [.str (b7 l).1,.str (b7 l).2.1,.bool (b7 l).2.2]) aa):CF G 2 "cut_exponent" [.str l] aa Q X:=by
 refine ax p.g p.rf rfl (by decide) [some (.str l),none] rfl ?_
 refine⟨by exact a10 0x31270346ccdec0b127a2781 tt hl,⟨by exact a10 0xd18015c4e068d99bd94 tt,by exact a10 0x1a1381a3666f6c00b127a2781 tt hl⟩,?_⟩
 intro R hf hR
 have key:∀(s pre:List Nat) (x:Option V),l=pre++s->b7 l=(pre++(b7 s).1,(b7 s).2)->R (.mW pre.length s.length) ⟨[some (.str l),x],aa⟩:=by
  intro s
  induction s with
  |nil=>
   intro pre x e w
   rw[List.append_nil] at e
   rw[w] at q
   have w':pre++(b7 []).1=l:=by rw[e];exact List.append_nil _
   rw[w'] at q
   exact hR _ _ (AD ⟨l3,aP q⟩)
  |cons c s ih=>
   intro pre x e w
   have pL:pre.length<=1000:=by have:=congrArg List.length e;simp at this;exact a30 0x1893d13c13127a278170cd6ad2a0c101 tt hl this
   have gY:l.length<=1000000:=by exact a10 0x624e049e90c0b127a2781 tt hl
   have XI:pick l (pre.length:Int)=some c:=by rw[fB,e];simp
   have e1:cut l none (some pre.length)=pre:=by unfold cut jc;rw[e];simp
   have e2:cut l (some (pre.length+1)) none=s:=by
    unfold cut jc;rw[e]
    show(pre++c::s).drop (pre.length+1)=s
    rw[show pre++c::s=(pre++[c])++s by simp,List.drop_left' (by simp)]
   have e3:cut l (some pre.length) none=c::s:=by unfold cut jc;rw[e];simp
   have b2:bound (some (V.int (pre.length+1)))=some (some (pre.length+1)):=aZ (pre.length+1)
   have it:∀{P:V->Prop},P (.str [c])->lL (.str l) (.int pre.length) aa P:=λ{P} h=>item_str XI ⟨by exact a10 0xd18015c4e068d99bd94 tt,by exact a10 0x1a1381a3666f6c00b127a2781 tt pL⟩ h
   have s1:∀{P:V->ag->Prop},P (.str pre) aa->vc G.C true (.str l) none (some (.int pre.length)) aa P:=λ{P} h=>aV gY rfl (aZ _) (by rw[e1];exact h)
   have s2:∀{P:V->ag->Prop},P (.str s) aa->vc G.C true (.str l) (some (.int (pre.length+1))) none aa P:=λ{P} h=>aV gY b2 rfl (by rw[e2];exact h)
   have s3:∀{P:V->ag->Prop},P (.str (c::s)) aa->vc G.C true (.str l) (some (.int pre.length)) none aa P:=λ{P} h=>aV gY (aZ _) rfl (by rw[e3];exact h)
   have w':b7 (c::s)=if c=69∨c=68 then([],s,true) else if c=43∨c=45 then([],c::s,true) else(c::(b7 s).1,(b7 s).2):=rfl
   have ed:c=69∨c=68->bB Q (.ret (.tup [.str pre,.str s,.bool true])) ⟨[some (.str l),some (.int pre.length)],aa⟩:=λh=>by
    rw[w,w',aL h] at q;exact aP (by simpa using q)
   have pm:¬(c=69∨c=68)->c=43∨c=45->bB Q (.ret (.tup [.str pre,.str (c::s),.bool true])) ⟨[some (.str l),some (.int pre.length)],aa⟩:=λh h'=>by
    rw[w,w',aA h,aL h'] at q;exact aP (by simpa using q)
   refine hR _ _ (vS ?_)
   refine it ?_
   refine⟨λh=>?_,λh=>?_⟩
   ·refine s1 ?_;refine s2 ?_;exact⟨l3,ed (.inl (by simpa using h))⟩
   have h:¬c=69:=by simpa using h
   refine it ?_
   refine⟨λh'=>?_,λh'=>?_⟩
   ·refine s1 ?_;refine s2 ?_;exact⟨l3,ed (.inr (by simpa using h'))⟩
   have h':¬c=68:=by simpa using h'
   have n1:¬(c=69∨c=68):=λk=>k.elim h h'
   refine it ?_
   refine⟨λh2=>?_,λh2=>?_⟩
   ·refine s1 ?_;refine s3 ?_;exact⟨l3,pm n1 (.inl (by simpa using h2))⟩
   refine it ?_
   refine⟨λh3=>?_,λh3=>?_⟩
   ·refine s1 ?_;refine s3 ?_;exact⟨l3,pm n1 (.inr (by simpa using h3))⟩
   have h2:¬c=43:=by simpa using h2
   have h3:¬c=45:=by simpa using h3
   have n2:¬(c=43∨c=45):=λk=>k.elim h2 h3
   have:=ih (pre++[c]) (some (.int pre.length)) (by rw[e];simp) (by rw[w,w',aA n1,aA n2];simp)
   rw[cN] at this
   have ec:((pre.length+[c].length:Nat):Int)=(pre.length:Int)+1:=by simp
   rw[ec] at this
   exact this
 have:=key l [] none rfl rfl
 exact this
end
section
variable {G:GC}{aa:ag}{Q:V->ag->Prop}{X:Ex->ag->Prop}
theorem nM (p:PG G){l:List Nat}(hl:l.length<=1000)(q:∀n,c9 l=some n->Q (.int n) aa)(x:c9 l=none->∀ex,r7 G 1 ex->X ex aa):CF G 5 "field_exponent" [.str l] aa Q X:=by
 refine ax p.g p.nO rfl (by decide) [some (.str l),none,none,none] rfl ?_
 refine cW (by decide) (lu p hl ?_)
 refine cW (by decide) (iz p ?_)
 unfold c9 at q x
 refine⟨λh=>?_,λh=>?_⟩
 ·rw[aL h] at x
  exact oI p (by decide) (x rfl)
 ·change ¬aH (aX l).2<0 at h
  rw[aA h] at q
  exact⟨.inl (mE l),aP (q _ rfl)⟩
theorem qY (p:PG G){l:List Nat}(hl:l.length<=1000)(q:∀r,gH l=some r->Q (.tup [.int r.1,.int r.2]) aa)(x:gH l=none->∀ex,r7 G 1 ex->X ex aa):CF G 5 "read_figures" [.str l,.int 0] aa Q X:=by
 refine ax p.g p.rd rfl (by decide) [some (.str l),some (.int 0),none,none,none,none] rfl ?_
 have fin:∀(d:Int) (fs:List Nat) (k:Int),gI l=(fs,k)->bf G none 4 (bB Q) (bc X) [aM 5 (aj "whole_of" [loc 3]),
   site (aq .lt (loc 5) (lit (.int 0))) [
    hG (aj "IoFault" [glob 8,lit (.str [110,111,32,110,117,109,98,101,114,32,105,110,32,116,104,101,32,102,105,101,108,100])])] [],
   aC (tup [loc 5,loc 4])] ⟨[some (.str l),some (.int 0),some (.int d),some (.str fs),some (.int k),none],aa⟩:=λd fs k e=>by
  refine cW (by decide) (iz p ?_)
  unfold gH at q x
  rw[e] at q x
  refine⟨λh=>?_,λh=>?_⟩
  ·rw[aL h] at x
   exact oI p (by decide) (x rfl)
  ·change ¬aH fs<0 at h
   dsimp only at q
   rw[aA h] at q
   exact⟨l2,aP (q _ rfl)⟩
 refine⟨rfl,?_⟩
 unfold gI at fin
 by_cases h:46∈l
 ·have e:fO 46 l=((l.idxOf 46:Nat):Int):=aL h
  refine⟨λh'=>?_,λ_=>?_⟩
  ·have h':fO 46 l<0:=h'
   rw[e] at h';exact False.elim (iY 0 (a11 0xc8a1470d98011ad4a0d tt e (by assumption)))
  ·have hi:l.idxOf 46<l.length:=List.idxOf_lt_length_of_mem h
   refine aV (a:=none) (b:=some (l.idxOf 46)) (by exact a10 0x624e049e90c0b127a2781 tt hl) rfl (by rw[←aZ,←e]) ?_
   refine aV (a:=some (l.idxOf 46+1)) (b:=none) (by exact a10 0x624e049e90c0b127a2781 tt hl) (by rw[←aZ,e];rfl) rfl ?_
   refine⟨?_,by exact a10 0x31270346ccdec0b127a2781 tt hl,?_⟩
   ·unfold cut jc;simp;exact dq 0x3127024f486b420372c49e89e0588106c4084 [_,0,_,_] [] tt hl (Nat.min_le_right _ _:) (Nat.sub_le _ _:)
   ·refine fin (fO 46 l) _ _ ?_
    rw[aL h,e];rfl
 ·have e:fO 46 l=-1:=aA h
  refine⟨λ_=>?_,λh'=>?_⟩
  ·exact fin (fO 46 l) _ _ (aA h)
  ·change ¬fO 46 l<0 at h'
   rw[e] at h';omega
theorem F2:∀(l:List Nat),(b7 l).1.length<=l.length/\(b7 l).2.1.length<=l.length:=by
 intro z_
 induction z_ with
 |nil=>
  exact⟨eR _,eR _⟩
 |cons c r ih=>
  obtain⟨a,b⟩:=ih
  unfold b7
  split
  ·simp
  ·split
   ·simp
   ·simp only[mX];exact⟨dq 0x18ad2a0969502c4101 [_,_,0] [] tt a,dq 0x62b4a8206c4103 [0,_,_] [] tt b⟩
theorem BH (l:List Nat):(gI l).1.length<=l.length:=by
 unfold gI
 split
 ·rename_i h
  have:=List.idxOf_lt_length_of_mem h
  simp;exact Fh this
 ·exact eR _
theorem wm (l:List Nat):(aX l).1=1∨(aX l).1=-1:=by
 unfold aX
 split
 ·exact .inr rfl
 ·split<;>exact .inl rfl
theorem wG (p:PG G){l:List Nat}{d top:Int}(hb:∀c∈l,c≠32)(hl:l.length<=200)(hd:0<=d)(q:∀r,gJ l d top=.ok r->Q (.tup [.int r.1,.int r.2]) aa)(x:∀k,gJ l d top=.error k->∀ex,r7 G k ex->X ex aa):
  CF G 6 "read_real" [.str l,.int 0,.int 0,.bool false,.int d,.int top] aa Q X:=by
 refine ax p.g p.w8 rfl (by decide) [some (.str l),some (.int 0),some (.int 0),some (.bool false),some (.int d),some (.int top),none,none,none,none,none,none,none,none,none] rfl ?_
 refine cW (by decide) (kk p hb (by exact a10 0x1893d13c0b12722181 tt hl) ?_)
 unfold gJ at q x
 refine⟨λh=>?_,λh=>?_⟩
 ·rw[aL h] at q
  exact⟨l2,aP (q _ rfl)⟩
 change ¬l=[] at h
 rw[aA h] at q x
 refine cW (by decide) (lu p (by exact a10 0x1893d13c0b12722181 tt hl) ?_)
 have h1:=wo l
 refine cW (by decide) (qZ p (by exact a20 0x3127a2782624e44302c4082 tt hl h1) ?_)
 obtain⟨h2,h3⟩:=F2 (aX l).2
 refine cW (by decide) (qY p (by exact a30 0x624f44f06c49c8860588104c4103 tt hl h1 h2) ?good λhr=>?bad)
 case bad=>rw[hr] at x;exact λex hex=>⟨_,.refl _,x 1 rfl ex hex⟩
 intro r hr
 rw[hr] at q x
 dsimp only at q x
 have fin:∀(w:Int),(if(b7 (aX l).2).2.2=true then c9 (b7 (aX l).2).2.1 else some 0)=some w->bf G none 5 (bB Q) (bc X) [KH [
  aC (aj "round_real" [bin .mul (loc 7) (loc 12),loc 14,loc 4,loc 5])] 1 none [
  hG (aj "IoFault" [glob 9,lit (.str [116,104,101,32,114,101,97,108,32,105,115,32,116,111,111,32,103,114,101,97,116])])]]
   ⟨[some (.str l),some (.int 0),some (.int 0),some (.bool false),some (.int d),some (.int top),some (.str l),some (.int (aX l).1),some (.str (aX l).2),some (.str (b7 (aX l).2).1),some (.str (b7 (aX l).2).2.1),some (.bool (b7 (aX l).2).2.2),some (.int r.1),some (.int r.2),some (.int (w-r.2))],aa⟩:=λw hw=>by
  rw[hw] at q x
  dsimp only at q x
  have GI:r.1=aH (gI (b7 (aX l).2).1).1/\0<=r.1:=by
   unfold gH at hr
   split at hr
   ·cases hr
   ·cases hr;exact⟨rfl,by exact a01 0x1a0d28d0694 tt (uU (by assumption):)⟩
  have j2:=sC (l:=(gI (b7 (aX l).2).1).1) (by exact a02 0x341c51b0e1ad0694 tt GI.1 GI.2)
  rw[←GI.1] at j2
  have h4:=BH (b7 (aX l).2).1
  have xC:cd ((aX l).1*r.1)<=200:=by
   have:((aX l).1*r.1).natAbs=r.1.natAbs:=by
    rw[Int.natAbs_mul];rcases wm l with e|e<;>rw[e]<;>exact Nat.one_mul _
   unfold cd
   rw[this]
   have:r.1.natAbs<10^(gI (b7 (aX l).2).1).1.length:=by
    have:((r.1.natAbs:Nat):Int)<(10:Int)^(gI (b7 (aX l).2).1).1.length:=Dt GI.2 j2
    exact_mod_cast this
   have:=yD _ this
   exact a50 0xd09c886c02b127221816204131040d88308c4205 tt hl h1 h2 h4 this
  refine⟨.inl (mE l),?_⟩
  refine cW (by decide) (uE p (by exact a02 0xd09c886b868e6834a34272218e tt hd xC) (λr' z0=>?_) λz0 ex hex=>?_)
  ·rw[z0] at q
   exact aP (q _ rfl)
  ·rw[z0] at x
   obtain⟨e1,e2,t,e3⟩:=hex
   refine⟨1,rfl,e2,by rw[e3];simp,λea dx RS=>?_⟩
   change aa ea=none at RS
   refine cW (by decide) (Oz p λa d' ha=>?_)
   refine⟨a,2,d',_,rfl,by decide,ab _ _ _,⟨?_,1,ex.cls,dx,ex.fs,?_,eR _⟩,?_⟩
   ·intro e;subst e
    change put aa ea _ ea=none at ha
    rw[ab] at ha;cases ha
   ·have:ea≠a:=by
     intro e;subst e
     change put aa ea _ ea=none at ha
     rw[ab] at ha;cases ha
    show put (put aa ea _) a _ ea=_
    rw[ai this,ab,e1];rfl
   ·exact⟨aa,(Sub.put RS).trans (Sub.pd ha),x 2 rfl _ ⟨2,.inl rfl,rfl,_,rfl⟩⟩
 refine⟨λh=>?_,λh=>?_⟩
 ·change (b7 (aX l).2).2.2=true at h
  refine cW (by decide) (nM p (by exact a30 0x624f44f06c49c8860588104c4103 tt hl h1 h3) (λn hn=>?_) λhn=>?_)
  ·exact fin n (by rw[aL h];exact hn)
  ·rw[aL h,hn] at x
   exact λex hex=>⟨_,.refl _,x 1 rfl ex hex⟩
 ·change (b7 (aX l).2).2.2=false at h
  exact fin 0 (by rw[h];rfl)
end
inductive Tk where
 |text (t:List Nat)|run (r:List Nat)|pair (a b:List Nat)
noncomputable def Tk.v:Tk->V
 |.text t=>.tup [.str [116,101,120,116],.str t]
 |.run r=>.tup [.str [114,117,110],.str r]
 |.pair a b=>.tup [.str [112,97,105,114],.str a,.str b]
noncomputable def Aa (l:List Nat):Prop:=(∀c∈l,c≠32)/\l.length<=200
noncomputable def Tk.ok:Tk->Prop
 |.text t=>t.length<=500000
 |.run r=>Aa r/\r≠[]
 |.pair a b=>Aa a/\Aa b
noncomputable def bg (l:List Nat)(d:Int):Except Int (Int×Int):=if l=[] then .error 1 else gJ l d 99
noncomputable def tI (s:List Nat)(n:Int):List Nat:=s.take n.toNat++List.replicate (n-s.length).toNat 32
noncomputable def bE (r:Int×Int):V:=.tup [.int r.1,.int r.2]
noncomputable def emap {α β:Type}(f:α->β):Except Int α->Except Int β
 |.ok a=>.ok (f a)
 |.error k=>.error k
noncomputable def fz (t:Tk)(k n:Int):Except Int V:=match t with
 |.text s=>if k=5 then .ok (.str (tI s n)) else .error 1
 |.pair a b=>if k=3 then(match bg a 9 with
   |.error e=>.error e
   |.ok r=>(match bg b 9 with
    |.error e=>.error e
    |.ok r'=>.ok (.tup [bE r,bE r']))) else .error 1
 |.run r=>if k=0 then emap V.int (mZ r 16) else if k=4 then emap V.bool (ry r) else if k=1 then emap bE (bg r 9) else if k=2 then emap bE (bg r 12) else .error 1
inductive lI (G:GC)(aa:ag)(a:Addr):Prop
 |mk (dx:Addr) (r:List V):aa a=some (ob G 7 dx (.int 16::.int 9::.int 12::.int 99::r))->lI G aa a
noncomputable def xW (G:GC)(Q:V->ag->Prop)(X:Ex->ag->Prop)(aa:ag)(r:Except Int V):Prop:=match r with
 |.ok v=>Q v aa
 |.error k=>∀ex,r7 G k ex->X ex aa
section
variable {G:GC}{aa:ag}{Q:V->ag->Prop}{X:Ex->ag->Prop}
theorem mf {l:List Nat}{i:Nat}:cut l (some i) (some (i+1))=(l.drop i).take 1:=by
 unfold cut jc
 show(l.take (i+1)).drop i=_
 rw[List.drop_take];congr 1;omega
theorem pB (n:Nat):bound (some (.int ((n:Int)+1)))=some (some (n+1)):=aZ (n+1)
theorem qX (p:PG G){l:List Nat}(h0:l≠[])(hb:∀c∈l,c≠32)(hl:l.length<=1000)(q:∀b,ry l=.ok b->Q (.bool b) aa)(x:∀k,ry l=.error k->∀ex,r7 G k ex->X ex aa):CF G 5 "read_logical" [.str l] aa Q X:=by
 refine ax p.g p.rb rfl (by decide) [some (.str l),none] rfl ?_
 intro R hf hR
 have gY:l.length<=1000000:=by exact a10 0x624e049e90c0b127a2781 tt hl
 have fin:∀(i:Nat),l.drop i=(if l.take 1=[46] then l.drop 1 else l)->bf G none 4 (bB Q) (bc X) [
  site (aq .eq (gr true (loc 0) (some (loc 1)) (some (bin .add (loc 1) (lit (.int 1))))) (lit (.str [84]))) [
   aC (lit (.bool true))] [],
  site (aq .eq (gr true (loc 0) (some (loc 1)) (some (bin .add (loc 1) (lit (.int 1))))) (lit (.str [70]))) [
   aC (lit (.bool false))] [],
  hG (aj "IoFault" [glob 8,lit (.str [110,101,105,116,104,101,114,32,84,32,110,111,114,32,70,32,105,110,32,116,104,101,32,102,105,101,108,100])])] ⟨[some (.str l),some (.int i)],aa⟩:=λi hi=>by
  unfold ry at q x
  rw[←hi] at q x
  dsimp only at q x
  refine aV gY (aZ i) (pB i) ⟨λh=>?_,λh=>aV gY (aZ i) (pB i) ⟨λh2=>?_,λh2=>?_⟩⟩
  ·rw[mf] at h
   rw[aL h] at q;exact aP (q _ rfl)
  ·rw[mf] at h h2
   rw[aA h,aL h2] at q;exact aP (q _ rfl)
  ·rw[mf] at h h2
   rw[aA h,aA h2] at x
   exact oI p (by decide) (x 1 rfl)
 refine hR _ ⟨by exact a10 0x31270346ccdec0b127a2781 tt hl,λh=>?_,λh=>?_⟩
 ·have hlen:0<l.length:=List.length_pos_iff.mpr h0
  refine item_str (c:=l[0]) (by rw[show(0:Int)=((0:Nat):Int) from rfl,fB];simp) ⟨by decide,by decide⟩ ⟨λh=>?_,λ_=>?_⟩
  ·exact absurd (by simpa using h) (hb l[0] (List.getElem_mem hlen))
  ·refine aV (a:=some 0) (b:=some 1) gY rfl rfl ⟨λh=>?_,λh=>?_⟩
   ·exact fin 1 (aL (c:=l.take 1=[46]) h).symm
   ·exact fin 0 (aA (c:=l.take 1=[46]) h).symm
 ·change ¬(0:Int)<l.length at h
  have:0<l.length:=List.length_pos_iff.mpr h0
  omega
theorem fU (p:PG G){l:List Nat}{k:Int}{a:Addr}(cZ:lI G aa a)(ok:Aa l)(q:xW G Q X aa (emap bE (bg l (if k=1 then 9 else 12)))):CF G 7 "part_real" [.str l,.int k,.ref a] aa Q X:=by
 obtain⟨dx,r,cZ⟩:=cZ
 refine ax p.g p.xe rfl (by decide) [some (.str l),some (.int k),some (.ref a)] rfl ?_
 unfold bg at q
 refine⟨λh=>?_,λh=>?_⟩
 ·rw[aL h] at q
  exact oI p (by decide) q
 ·change ¬l=[] at h
  rw[aA h] at q
  refine cW (by decide) (jt p cZ rfl rfl ?_)
  refine bG.mk a dx _ _ rfl cZ rfl ?_
  have e:(if k=1 then V.int 9 else V.int 12)=V.int (if k=1 then 9 else 12):=by split<;>rfl
  rw[e]
  refine cW (by decide) (wG p ok.1 ok.2 (by split<;>decide) (λr hr=>?_) λk hk=>?_)
  ·rw[hr] at q;exact aP q
  ·rw[hk] at q;exact λex hex=>⟨_,.refl _,q ex hex⟩
theorem rE (p:PG G){l:List Nat}{n:Int}(hl:l.length<=500000)(h0:0<=n)(h1:n<=1000)(q:Q (.str (tI l n)) aa):CF G 2 "fitted_text" [.str l,.int n] aa Q X:=by
 refine ax p.g p.rR rfl (by decide) [some (.str l),some (.int n)] rfl ?_
 obtain⟨k,rfl⟩:=jb h0
 have gY:l.length<=1000000:=by exact a10 0x18938127a4302c49e089ea081 tt hl
 refine aV gY rfl (aZ k) ⟨by exact a10 0xc49c0d1b337b02c49e089ea081 tt hl,⟨rfl,by exact a20 0x3427024f486b98026005a13d13d801 tt h1,by exact a20 0x68b980160097138127a4328c49e089ea081 tt hl⟩,?_,aP q⟩
 unfold cut jc
 rw[pE,List.length_take,List.length_replicate,xY]
 exact fm (Nat.add_le_add (fm (Nat.sub_le ..) (Nat.min_le_left ..)) (Nat.sub_le ..)) (IM (Int.ofNat_le.mp h1) (Int.ofNat_le.mp h1) rfl)
theorem yV (p:PG G){t:Tk}{k n:Int}{a:Addr}(cZ:lI G aa a)(ok:t.ok)(h0:0<=n)(h1:n<=1000)(Kq:0<=k)(XU:k<=5)(q:xW G Q X aa (fz t k n)):CF G 8 "value_of" [t.v,.int k,.int n,.ref a] aa Q X:=by
 refine ax p.g p.zG rfl (by decide) [some t.v,some (.int k),some (.int n),some (.ref a),none] rfl ?_
 have vu:=cZ
 obtain⟨dx,r,hl⟩:=vu
 have post:∀{v:Except Int V} {loc},xW G Q X aa v->xW G (λv l=>bB Q (.ret v) ⟨loc,l⟩) (λex l=>bc X ex ⟨loc,l⟩) aa v:=λ{v loc} h=>by
  cases v with
  |ok v=>exact aP h
  |error k=>exact λex hex=>⟨_,.refl _,h ex hex⟩
 have A7:∀{P:V->Prop} {u:V} {l:List V},P u->lL (.tup (u::l)) (.int 0) aa P:=λh=>item_tup rfl ⟨by decide,by decide⟩ h
 have zZ:∀{P:V->Prop} {u w:V} {l:List V},P w->lL (.tup (u::w::l)) (.int 1) aa P:=λh=>item_tup rfl ⟨by decide,by decide⟩ h
 have Xo:∀{P:V->Prop} {u w z:V} {l:List V},P z->lL (.tup (u::w::z::l)) (.int 2) aa P:=λh=>item_tup rfl ⟨by decide,by decide⟩ h
 have skip:∀{c c' A B:Prop},¬c'->B->(c->(c'->A)/\(¬c'->B))/\(¬c->B):=λh q=>⟨λ_=>⟨λe=>absurd e h,λ_=>q⟩,λ_=>q⟩
 have Jc:∀{c1 c2 c' A B:Prop},¬c'->B->(c1->(c'->A)/\(¬c'->B))/\(¬c1->(c2->(c'->A)/\(¬c'->B))/\(¬c2->B)):=λh q=>⟨λ_=>⟨λe=>absurd e h,λ_=>q⟩,λ_=>⟨λ_=>⟨λe=>absurd e h,λ_=>q⟩,λ_=>q⟩⟩
 cases t with
 |text s=>
  refine A7 ?_
  change xW G Q X aa (if k=5 then .ok (.str (tI s n)) else .error 1) at q
  refine⟨λh=>⟨λ_=>?_,λh'=>absurd rfl h'⟩,λh=>?_⟩
  ·change k=5 at h
   rw[aL h] at q
   refine zZ ?_
   exact cW (by decide) (rE p (by have:s.length<=500000:=ok;exact a10 0x1893c113d4102c49e089ea081 tt this) h0 h1 (aP q))
  ·change ¬k=5 at h
   rw[aA h] at q
   have e1:¬([116,101,120,116]:List Nat)=[112,97,105,114]:=by decide
   have e2:¬([116,101,120,116]:List Nat)=[114,117,110]:=by decide
   refine skip e1 ?_
   refine skip e2 ?_
   refine skip e2 ?_
   refine Jc e2 ?_
   exact oI p (by decide) q
 |run s=>
  refine A7 ?_
  change xW G Q X aa (if k=0 then emap V.int (mZ s 16) else if k=4 then emap V.bool (ry s) else if k=1 then emap bE (bg s 9) else if k=2 then emap bE (bg s 12) else .error 1) at q
  have e1:¬([114,117,110]:List Nat)=[116,101,120,116]:=by decide
  have e2:¬([114,117,110]:List Nat)=[112,97,105,114]:=by decide
  obtain⟨⟨k1,k2⟩,k3⟩:=ok
  refine skip e1 ?_
  refine skip e2 ?_
  refine⟨λh=>⟨λ_=>?_,λh'=>absurd rfl h'⟩,λh=>?_⟩
  ·change k=0 at h
   rw[aL h] at q
   refine zZ ?_
   refine bG.mk a dx _ _ rfl hl rfl ?_
   refine cW (by decide) (yW p k3 k1 (by exact a10 0x1893d13c0b12722181 tt k2) (by decide) (by decide) (λn hn=>?_) λk hk=>?_)
   ·rw[hn] at q;exact aP q
   ·rw[hk] at q;exact λex hex=>⟨_,.refl _,q ex hex⟩
  change ¬k=0 at h
  rw[aA h] at q
  refine⟨λh=>⟨λ_=>?_,λh'=>absurd rfl h'⟩,λh=>?_⟩
  ·change k=4 at h
   rw[aL h] at q
   refine zZ ?_
   refine cW (by decide) (qX p k3 k1 (by exact a10 0x1893d13c0b12722181 tt k2) (λn hn=>?_) λk hk=>?_)
   ·rw[hn] at q;exact aP q
   ·rw[hk] at q;exact λex hex=>⟨_,.refl _,q ex hex⟩
  have h4:¬k=4:=h
  rw[aA h4] at q
  refine⟨λh=>⟨λ_=>?_,λh'=>absurd rfl h'⟩,λh=>⟨λh2=>⟨λ_=>?_,λh'=>absurd rfl h'⟩,λh2=>?_⟩⟩
  ·change k=1 at h
   rw[aL h] at q
   refine zZ ?_
   exact cW (by decide) (fU p cZ ⟨k1,k2⟩ (by rw[aL h];exact post q))
  ·change ¬k=1 at h
   change k=2 at h2
   rw[aA h,aL h2] at q
   refine zZ ?_
   exact cW (by decide) (fU p cZ ⟨k1,k2⟩ (by rw[aA h];exact post q))
  ·change ¬k=1 at h
   change ¬k=2 at h2
   rw[aA h,aA h2] at q
   exact oI p (by decide) q
 |pair s s'=>
  refine A7 ?_
  have e1:¬([112,97,105,114]:List Nat)=[116,101,120,116]:=by decide
  have e2:¬([112,97,105,114]:List Nat)=[114,117,110]:=by decide
  have q:xW G Q X aa (if k=3 then(match bg s 9 with
   |.error e=>.error e
   |.ok r=>(match bg s' 9 with
    |.error e=>.error e
    |.ok r'=>.ok (.tup [bE r,bE r']))) else .error 1):=q
  refine skip e1 ?_
  refine⟨λh=>⟨λ_=>?_,λh'=>absurd rfl h'⟩,λh=>?_⟩
  ·change k=3 at h
   rw[aL h] at q
   refine zZ ?_
   refine cW (by decide) (fU p cZ ok.1 ?_)
   rw[aL rfl]
   match hs:bg s 9 with
   |.error e=>rw[hs] at q;exact λex hex=>⟨_,.refl _,q ex hex⟩
   |.ok r=>
    rw[hs] at q
    refine Xo ?_
    refine cW (by decide) (fU p cZ ok.2 ?_)
    rw[aL rfl]
    match fL:bg s' 9 with
    |.error e=>rw[fL] at q;exact λex hex=>⟨_,.refl _,q ex hex⟩
    |.ok r'=>rw[fL] at q;exact⟨l2,aP q⟩
  ·change ¬k=3 at h
   rw[aA h] at q
   refine skip e2 ?_
   refine skip e2 ?_
   refine Jc e2 ?_
   exact oI p (by decide) q
end
noncomputable def rt (f:List Nat)(top:Int):List Nat:=if top<=0 then[48,46]++List.replicate (-top).toNat 48++f else if(f.length:Int)<=top then f++List.replicate (top-f.length).toNat 48++[46,48] else f.take top.toNat++[46]++f.drop top.toNat
noncomputable def tD (k:Int):List Nat:=if(bp (bk k)).length<2 then 48::bp (bk k) else bp (bk k)
noncomputable def xq (k:Int):List Nat:=if k<0 then 45::tD k else 43::tD k
noncomputable def cL (m e:Int)(c:Nat)(d:Int):List Nat:=
 if m=0 then[48,46,48] else
 let f:=bp (bk m)
 let s:=if m<0 then[45] else[]
 if 0<=(f.length:Int)+e/\(f.length:Int)+e<=d then s++rt f (f.length+e) else s++rt f 1++[c]++xq (f.length+e-1)
inductive Iv where
 |int (n:Int)|log (b:Bool)|chr (t:List Nat)|real (m e:Int)|dbl (m e:Int)|lE (m e m' e':Int)
noncomputable def Iv.kind:Iv->Int
 |.int _=>0|.real ..=>1|.dbl ..=>2|.lE ..=>3|.log _=>4|.chr _=>5
noncomputable def Iv.val:Iv->V
 |.int n=>.int n|.real m e=>.tup [.int m,.int e]|.dbl m e=>.tup [.int m,.int e]|.lE m e m' e'=>.tup [.tup [.int m,.int e],.tup [.int m',.int e']]|.log b=>.bool b|.chr t=>.str t
noncomputable def Iv.v (i:Iv):V:=.tup [.int i.kind,i.val]
noncomputable def CG (m:Int):Prop:=m.natAbs<=3000
noncomputable def IT (m e:Int):Prop:=CG m/\-20<=e/\e<=20
noncomputable def Iv.ok:Iv->Prop
 |.int n=>CG n|.log _=>True|.chr t=>t.length<=20|.real m e=>IT m e|.dbl m e=>IT m e|.lE m e m' e'=>IT m e/\IT m' e'
noncomputable def Iv.Y7:Iv->Bool
 |.lE ..=>true
 |_=>false
noncomputable def iV:Iv->List (List Nat)
 |.int n=>[bp n]
 |.log b=>[if b=true then[84] else[70]]
 |.chr _=>[]
 |.real m e=>[cL m e 69 9]
 |.dbl m e=>[cL m e 68 12]
 |.lE m e m' e'=>[[40]++cL m e 69 9++[44],cL m' e' 69 9++[41]]
structure Ws where
 rows:List (List Nat)
 row:List Nat
 part:Bool
noncomputable def bP (s:Ws):Ws:=⟨s.rows++[s.row],[32],true⟩
noncomputable def a8 (w:Int)(s:Ws)(x:List Nat):Ws:=
 let n:=if s.part=true then x else 32::x
 if(s.row.length:Int)+n.length>w/\s.row≠[32] then⟨s.rows++[s.row],[32]++x,false⟩ else⟨s.rows,s.row++n,false⟩
noncomputable def du (w:Int)(s:Ws)(c:Nat):Ws:=if w<=s.row.length then⟨s.rows++[s.row],[32]++[c],true⟩ else⟨s.rows,s.row++[c],s.part⟩
noncomputable def vi (w:Int)(s:Ws)(t:List Nat):Ws:={ t.foldl (du w) s with part:=true }
noncomputable def ct (w:Int)(s:Ws)(i:Iv):Ws:=match i with
 |.chr t=>vi w s t
 |i=>match iV i with
  |[x]=>a8 w s x
  |[x,y]=>if((x++y).length:Int)<w then a8 w s (x++y) else
    a8 w (bP (a8 w (if s.row≠[32] then bP s else s) x)) y
  |_=>s
noncomputable def fH (w:Int)(l:List Iv):Ws:=bP (l.foldl (ct w) ⟨[],[32],true⟩)
theorem dA {a:Int}(h:a.natAbs<=100000):(bp a).length<=7:=by
 have:=PySem.int_text_length_le10 (a:=a) (k:=6) (by decide) (by exact a10 0x3227024f48605893c16ac01 tt h)
 unfold bp
 have e:((toString a:String):Str).cps.toList.length=(toString a).length:=PySem.ofString_length _
 rw[e];exact a10 0x626c0b15a54d01 tt this
theorem pv {f:List Nat}{t:Int}(hf:f.length<=7)(h:-30<=t)(h':t<=30):(rt f t).length<=50:=by
 unfold rt
 split
 ·have ht:(-t).toNat<=30:=j6 (Int.neg_le_of_neg_le h)
  simp;exact dq 0x3127c168104c4d81624ef02 [_,_] [0] tt hf ht
 ·split
  ·have ht:t.toNat<=30:=j6 h'
   simp;exact dq 0x1893e4b5696060589b02c49de04c4103 [_,_,_] [0] tt hf ht (Nat.sub_le _ _:)
  ·simp;exact dq 0x1893e4b56950609cb1360588104c4083 [_,_,_,0] [0] tt hf (Nat.min_le_right _ _:) (Nat.sub_le _ _:)
theorem eP (m:Int):(bk m).natAbs=m.natAbs:=by
 unfold bk
 split
 ·exact Int.natAbs_neg m
 ·rfl
theorem AJ {k:Int}(h:k.natAbs<=1000):(xq k).length<=9:=by
 have:=dA (a:=bk k) (by rw[eP];exact a10 0xc49e0b5600b127a2781 tt h)
 unfold xq tD
 split<;>split<;>simp<;>omega
theorem bC {m e:Int}{c:Nat}{d:Int}(h:IT m e):(cL m e c d).length<=70:=by
 have hm:=h.1
 unfold CG at hm
 have h1:=dA (a:=bk m) (by rw[eP];exact a10 0xc49e0b5600b127e3701 tt hm)
 unfold cL
 split
 ·simp
 ·dsimp only
  split
  ·have:=pv (f:=bp (bk m)) (t:=(bp (bk m)).length+e) h1 (by have:=h.2;omega) (by have:=h.2;exact a11 0x34277968d600589b02d140d tt h1 this.2)
   simp only[cN]
   split<;>simp<;>omega
  ·have:=pv (f:=bp (bk m)) (t:=1) h1 (by decide) (by decide)
   have:=AJ (k:=(bp (bk m)).length+e-1) (by have:=h.2;exact vn (by exact a11 0x1a2d604f44f5c5568d6004a341ab9414 tt this.1) (by exact a11 0x34604f44f5c5568d600589b02d140d tt h1 this.2))
   simp only[cN,mX,List.length_nil]
   split<;>simp<;>omega
theorem Sub.put2 {l l':ag}{c:Addr}{o:AO}(h:Sub l l'):Sub (Mine.put l c o) (Mine.put l' c o):=λb u e=>by
 by_cases k:b=c
 ·subst k;rw[ab] at e ⊢;exact e
 ·rw[ai k] at e ⊢;exact h b u e
theorem cy {l:ag}{a c:Addr}{o:AO}(h:Mine.put l a o c=none):l c=none/\c≠a:=by
 by_cases k:c=a
 ·subst k;rw[ab] at h;cases h
 ·rw[ai k] at h;exact⟨h,k⟩
section
variable {d:CD}{G:GC}{af:Nat}{acc:Addr}{R:It->St->Prop}{Q:St->Prop}{X:Ex->St->Prop}{σ:St}
noncomputable def vH (d:CD)(G:GC)(af:Nat)(acc:Addr)(R:St->Prop)(X:Ex->St->Prop)(v:V)(σ:St):Prop:=d.tg.wp G none af v σ (c1 d G af acc R X) X
theorem qw {I I':It}{v:V}(h:I.nx d.tg.ro σ.aa=some (some (v,I')))(q:vH d G af acc (R I') X v σ):fA d G af acc R Q X I σ:=by
 unfold fA;rw[h];exact q
theorem nJ {I:It}(h:I.nx d.tg.ro σ.aa=some none)(q:Q σ):fA d G af acc R Q X I σ:=by
 unfold fA;rw[h];exact q
theorem dh {vs:List V}{i:Nat}{v:V}(h:vs[i]?=some v)(q:vH d G af acc (R (.seq vs (i+1))) X v σ):fA d G af acc R Q X (.seq vs i) σ:=
 qw (congrArg (λo:Option V=>some (o.map λv=>(v,It.seq vs (i+1)))) h) q
theorem jr {vs:List V}{i:Nat}(h:vs[i]?=none)(q:Q σ):fA d G af acc R Q X (.seq vs i) σ:=
 nJ (congrArg (λo:Option V=>some (o.map λv=>(v,It.seq vs (i+1)))) h) q
theorem te {x:Int}{n:Nat}(q:vH d G af acc (R (.mW (x+1) n)) X (.int x) σ):fA d G af acc R Q X (.mW x (n+1)) σ:=qw rfl q
theorem wq {x:Int}(q:Q σ):fA d G af acc R Q X (.mW x 0) σ:=nJ rfl q
theorem jX {b:Addr}{l:List V}{i:Nat}{v:V}(hb:σ.aa b=some (.list l))(h:l[i]?=some v)(q:vH d G af acc (R (.list b (i+1))) X v σ):fA d G af acc R Q X (.list b i) σ:=
 qw ((It.my hb).trans (congrArg (λo:Option V=>some (o.map λv=>(v,It.list b (i+1)))) h)) q
theorem mF {b:Addr}{l:List V}{i:Nat}(hb:σ.aa b=some (.list l))(h:l[i]?=none)(q:Q σ):fA d G af acc R Q X (.list b i) σ:=
 nJ ((It.my hb).trans (congrArg (λo:Option V=>some (o.map λv=>(v,It.list b (i+1)))) h)) q
end
section
variable {G:GC}{aa:ag}{Q:V->ag->Prop}{X:Ex->ag->Prop}
theorem dk {a:Nat}:[a].length=1:=rfl
theorem iG (p:PG G){f:List Nat}{t:Int}(hf:f.length<=100)(h0:-100<=t)(h1:t<=100)(q:Q (.str (rt f t)) aa):CF G 2 "fixed_figures" [.str f,.int t] aa Q X:=by
 refine ax p.g p.oV rfl (by decide) [some (.str f),some (.int t)] rfl ?_
 unfold rt at q
 refine⟨λh=>?_,λh=>⟨by exact a10 0x31270346ccdec0b12792081 tt hf,λh2=>?_,λh2=>?_⟩⟩
 ·change t<=0 at h
  rw[aL h] at q
  have ht:(-t).toNat<=100:=j6 (Int.neg_le_of_neg_le h0)
  refine⟨⟨rfl,by omega,by omega⟩,?_,?_,aP q⟩
  ·simp;exact dq 0x18938127a435a04b312792081 [_] [0] tt ht
  ·simp;exact dq 0xc49c093d21ad02b4aad2a09893c9040b12792082 [_,_] [0] tt hf ht
 ·change ¬t<=0 at h
  change (f.length:Int)<=t at h2
  rw[aA h,aL h2] at q
  have ht:t.toNat<=100:=j6 h1
  refine⟨by exact a10 0x31270346ccdec0b12792081 tt hf,⟨rfl,by exact a11 0xd09c093d21ae60046b4279208d tt h1,by exact a11 0x68b98011ab89c093d2194624f24102d4694 tt hf (Nv (by assumption):)⟩,?_,?_,aP q⟩
  ·simp;exact dq 0x18938127a435a0c0b12792081624f24104c4103 [_,_,_] [0] tt hf ht (Nat.sub_le _ _:)
  ·simp;exact dq 0x1893fd23a435a0c0b12792081624f24104c4103 [_,_,_] [0] tt hf ht (Nat.sub_le _ _:)
 ·change ¬t<=0 at h
  change ¬(f.length:Int)<=t at h2
  rw[aA h,aA h2] at q
  obtain⟨n,rfl⟩:=jb (Int.le_of_lt (Int.not_le.mp h))
  have hl:f.length<=1000000:=by exact a10 0x624e049e90c0b12792081 tt hf
  refine aV hl rfl (aZ n) ⟨?_,aV hl (aZ n) rfl ⟨?_,aP q⟩⟩
  ·simp[cut,jc];exact a30 0x1893ff23a4306d580160098938127a4302c4103 tt (Nv (by assumption):) hl (Nat.min_le_left _ _:)
  ·simp[cut,jc];exact dq 0xc49c093d21ad08b4a8372c49e4820588106c4084 [_,0,_,_] [] tt hf (Nat.min_le_right _ _:) (Nat.sub_le _ _:)
theorem oN (p:PG G){k:Int}(hk:k.natAbs<=1000)(q:Q (.str (xq k)) aa):CF G 2 "list_exponent" [.int k] aa Q X:=by
 refine ax p.g p.oU rfl (by decide) [some (.int k),none] rfl ?_
 have hl:=dA (a:=bk k) (by rw[eP];exact a10 0xc49e0b5600b127a2781 tt hk)
 refine⟨by show(bk k).natAbs<_;rw[eP];omega,?_⟩
 have fin:∀QQ:Fl->St->Prop,(∀loc,QQ (.ret (.str (xq k))) ⟨loc,aa⟩)->bf G none 1 QQ (bc X) [site (aq .lt (loc 0) (lit (.int 0))) [
  aC (bin .add (lit (.str [45])) (loc 1))] [],
 aC (bin .add (lit (.str [43])) (loc 1))] ⟨[some (.int k),some (.str (tD k))],aa⟩:=λQQ r=>by
  have gY:(tD k).length<=9:=by
   unfold tD;split
   ·simp;exact a10 0x189c02c8b01 tt (by assumption)
   ·exact a10 0x189d02c4d81 tt hl
  unfold xq at r
  refine⟨λh=>⟨?_,?_⟩,λh=>⟨?_,?_⟩⟩
  ·rw[dk];exact a10 0x624e049e90d6812ac4e81 tt gY
  ·rw[aL h] at r;exact r _
  ·rw[dk];exact a10 0x624e049e90d6812ac4e81 tt gY
  ·rw[aA h] at r;exact r _
 have fin:=fin (bB Q) λ_=>aP q
 unfold tD at fin
 refine⟨by show(bp (bk k)).length<=_;exact a10 0xc49c0d1b337b02c4d81 tt hl,λh=>?_,λh=>?_⟩
 ·change ((bp (bk k)).length:Int)<2 at h
  rw[aL (by exact a10 0xc8b016a59801 tt h)] at fin
  exact⟨by show 1+(bp (bk k)).length<=_;exact a10 0x3127024f486b40956a59801 tt h,fin⟩
 ·change ¬((bp (bk k)).length:Int)<2 at h
  rw[aA (by exact Nat.not_lt.mpr (a10 0xc409668c0096 tt (uU h:)))] at fin
  exact fin
theorem fV (p:PG G){m e d:Int}{c:Nat}(h:IT m e)(q:Q (.str (cL m e c d)) aa):CF G 3 "list_real" [.tup [.int m,.int e],.str [c],.int d] aa Q X:=by
 refine ax p.g p.xf rfl (by decide) [some (.tup [.int m,.int e]),some (.str [c]),some (.int d),none,none,none,none,none] rfl ?_
 have hm:=h.1
 unfold CG at hm
 have he:=h.2
 have hl:=dA (a:=bk m) (by rw[eP];exact a10 0xc49e0b5600b127e3701 tt hm)
 unfold cL at q
 refine⟨λh0=>?_,λh0=>?_⟩
 ·change m=0 at h0
  rw[aL h0] at q;exact aP q
 change ¬m=0 at h0
 rw[aA h0] at q
 dsimp only at q
 have fin:∀s:List Nat,s=(if m<0 then[45] else[])->bf G none 2 (bB Q) (bc X) [aM 6 (bN .str [bN .abs [loc 3]]),
  aM 7 (bin .add (bN .len [loc 6]) (loc 4)),
  site (tK .le .le (lit (.int 0)) (loc 7) (loc 2)) [
   aC (bin .add (loc 5) (aj "fixed_figures" [loc 6,loc 7]))] [],
  aC (bin .add (bin .add (bin .add (loc 5) (aj "fixed_figures" [loc 6,lit (.int 1)])) (loc 1)) (aj "list_exponent" [bin .sub (loc 7) (lit (.int 1))]))]
   ⟨[some (.tup [.int m,.int e]),some (.str [c]),some (.int d),some (.int m),some (.int e),some (.str s),none,none],aa⟩:=λs hs=>by
  rw[←hs] at q
  have o5:s.length<=1:=by rw[hs];split<;>simp
  refine⟨by show(bk m).natAbs<_;rw[eP];omega,by show(bp (bk m)).length<=_;exact a10 0xc49c0d1b337b02c4d81 tt hl,?_⟩
  have small:0<=((bp (bk m)).length:Int)+e/\((bp (bk m)).length:Int)+e<=d->bB Q (.ret (.str (s++rt (bp (bk m)) ((bp (bk m)).length+e)))) ⟨[some (.tup [.int m,.int e]),some (.str [c]),some (.int d),some (.int m),some (.int e),some (.str s),some (.str (bp (bk m))),some (.int ((bp (bk m)).length+e))],aa⟩:=λk=>by
   rw[aL k] at q;exact aP q
  have large:¬(0<=((bp (bk m)).length:Int)+e/\((bp (bk m)).length:Int)+e<=d)->bf G none 2 (bB Q) (bc X) [aC (bin .add (bin .add (bin .add (loc 5) (aj "fixed_figures" [loc 6,lit (.int 1)])) (loc 1)) (aj "list_exponent" [bin .sub (loc 7) (lit (.int 1))]))] ⟨[some (.tup [.int m,.int e]),some (.str [c]),some (.int d),some (.int m),some (.int e),some (.str s),some (.str (bp (bk m))),some (.int ((bp (bk m)).length+e))],aa⟩:=λk=>by
   rw[aA k] at q
   have h1:=pv (f:=bp (bk m)) (t:=1) hl (by decide) (by decide)
   have RR:((bp (bk m)).length+e-1).natAbs<=1000:=vn (by exact a11 0x1a2d604f44f5c5568d6004a341ab9414 tt he.1) (by exact a11 0x34604f44f5c5568d6005a281ac4d81 tt he.2 hl)
   have h2:=AJ (k:=(bp (bk m)).length+e-1) RR
   refine cW (by decide) (iG p (by exact a10 0x624f24102c4d81 tt hl) (by decide) (by decide) ⟨by exact a20 0x624e049e90d68202c4a81624f902 tt o5 h1,?_,cW (by decide) (oN p RR ⟨?_,aP q⟩)⟩)
   ·rw[cN,dk];exact a20 0x18938127a435a5568202c4a81624f902 tt o5 h1
   ·rw[cN,cN,dk];exact a30 0xc49c093d21ad06b4aad040589502c49f204c4e83 tt o5 h1 h2
  refine⟨λh1=>⟨λh2=>?_,λh2=>large λk=>h2 k.2⟩,λh1=>large λk=>h1 k.1⟩
  have SY:(bp (if m<0 then -m else m)).length<=7:=hl
  refine cW (by decide) (iG p (by exact a10 0x624f24102c4d81 tt SY) (by exact a11 0x68b46b002b89e48251a2d1ac0094 tt h1) (by exact a11 0x1a13c90568d6005a281ac4d81 tt he.2 SY) ⟨?_,small ⟨h1,h2⟩⟩)
  have:=pv (f:=bp (bk m)) (t:=(bp (bk m)).length+e) hl (by exact a11 0x1a2d1ac00ae2778a341ab9414 tt he.1) (by exact a11 0x34277968d6005a281ac4d81 tt he.2 hl)
  show s.length+(rt (bp (bk m)) ((bp (bk m)).length+e)).length<=_
  exact a20 0x624e049e90d68202c4a81624f902 tt o5 this
 exact⟨λh1=>fin _ (aL h1).symm,λh1=>fin _ (aA h1).symm⟩
end
noncomputable def sL (l:List (List Nat)):AO:=.list (l.map V.str)
noncomputable def Wr (G:GC)(aa:ag)(a ra:Addr)(w:Int)(s:Ws):Prop:=(∃dx,aa a=some (ob G 4 dx [.int w,.ref ra,.str s.row,.bool s.part]))/\aa ra=some (sL s.rows)
noncomputable def bU (a b:Addr)(l l':ag):Prop:=∀c,c≠a->c≠b->l' c=l c
theorem bU.trans {a b:Addr}{l l' NG:ag}(h:bU a b l l')(k:bU a b l' NG):bU a b l NG:=λc x y=>(k c x y).trans (h c x y)
theorem bU.refl {a b:Addr}(l:ag):bU a b l l:=λ_ _ _=>rfl
section
variable {G:GC}{aa:ag}{Q:V->ag->Prop}{X:Ex->ag->Prop}
theorem qV (p:PG G){i:Iv}{a:Addr}(cZ:lI G aa a)(ok:i.ok)(hc:i.kind≠5)(q:∀c,aa c=none->Q (.ref c) (put aa c (sL (iV i)))):CF G 4 "value_pieces" [.int i.kind,i.val,.ref a] aa Q X:=by
 refine ax p.g p.q8 rfl (by decide) [some (.int i.kind),some i.val,some (.ref a),none] rfl ?_
 have vu:=cZ
 obtain⟨dx,r,hl⟩:=vu
 have nn:∀{a b:Int} {P:Prop},a≠b->a=b->P:=λh e=>absurd e h
 have one:∀{x:List Nat} {loc},iV i=[x]->KV [.str x] ⟨loc,aa⟩ (λv σ=>bB Q (.ret v) σ):=λ{x loc} e c hc=>⟨_,.refl _,by have:=q c hc;rw[e] at this;exact this⟩
 have l1:∀{x:V},[x].length<=1000:=by intro x;simp
 cases i with
 |int n=>
  have hn:n.natAbs<=3000:=ok
  exact⟨λ_=>⟨by omega,l1,one rfl⟩,λh=>absurd rfl h⟩
 |chr t=>exact absurd rfl hc
 |log b=>
  refine⟨nn (show(4:Int)≠0 by decide),λ_=>⟨λ_=>⟨λh=>?_,λh=>?_⟩,λh=>absurd rfl h⟩⟩
  ·subst h;exact⟨l1,one rfl⟩
  ·subst h;exact⟨l1,one rfl⟩
 |real m e=>
  refine⟨nn (show(1:Int)≠0 by decide),λ_=>⟨nn (show(1:Int)≠4 by decide),λ_=>⟨nn (show(1:Int)≠3 by decide),λ_=>⟨nn (show(1:Int)≠2 by decide),λ_=>?_⟩⟩⟩⟩
  refine cW (by decide) (jt p hl rfl rfl ?_)
  exact cW (by decide) (fV p ok ⟨l1,one rfl⟩)
 |dbl m e=>
  refine⟨nn (show(2:Int)≠0 by decide),λ_=>⟨nn (show(2:Int)≠4 by decide),λ_=>⟨nn (show(2:Int)≠3 by decide),λ_=>⟨λ_=>?_,λh=>absurd rfl h⟩⟩⟩⟩
  refine cW (by decide) (jt p hl rfl rfl ?_)
  exact cW (by decide) (fV p ok ⟨l1,one rfl⟩)
 |lE m e m' e'=>
  refine⟨nn (show(3:Int)≠0 by decide),λ_=>⟨nn (show(3:Int)≠4 by decide),λ_=>⟨λ_=>?_,λh=>absurd rfl h⟩⟩⟩
  intro acc cg R hR
  change aa acc=none at cg
  have ha:a≠acc:=λe=>by rw[e,cg] at hl;cases hl
  have la:=bC (c:=69) (d:=9) ok.1
  have lb:=bC (c:=69) (d:=9) ok.2
  refine hR _ _ (dh (v:=.tup [.int m,.int e]) rfl ?_)
  refine bG.mk a dx _ _ rfl (by show put aa acc _ a=_;rw[ai ha];exact hl) rfl ?_
  refine cW (by decide) (fV p ok.1 ⟨[],ab _ _ _,by simp,?_⟩)
  refine hR _ _ (dh (v:=.tup [.int m',.int e']) rfl ?_)
  refine bG.mk a dx _ _ rfl (by show put (put aa acc _) acc _ a=_;rw[aR,ai ha];exact hl) rfl ?_
  refine cW (by decide) (fV p ok.2 ⟨[.str (cL m e 69 9)],ab _ _ _,by simp,?_⟩)
  refine hR _ _ (jr rfl ?_)
  refine bx (l:=[.str (cL m e 69 9),.str (cL m' e' 69 9)]) (ab _ _ _) rfl ⟨by decide,by decide⟩ ⟨by rw[dk];exact a10 0x18938127a435a04ab1271a081 tt la,?_,?_⟩
  ·show([40]++cL m e 69 9).length+[44].length<=_
   rw[cN,dk,dk];exact a10 0x624e049e90d6955a04ab1271a081 tt la
  refine bx (l:=[.str (cL m e 69 9),.str (cL m' e' 69 9)]) (ab _ _ _) rfl ⟨by decide,by decide⟩ ⟨by rw[dk];exact a10 0x18938127a435a540b1271a081 tt lb,l2,?_⟩
  intro c hc
  change put (put (put aa acc _) acc _) acc _ c=none at hc
  rw[aR,aR] at hc
  obtain⟨h1,h2⟩:=cy hc
  refine⟨put aa c (sL (iV (.lE m e m' e'))),?_,q c h1⟩
  show Sub _ (put (put (put (put aa acc _) acc _) acc _) c _)
  rw[aR,aR]
  exact(Sub.put cg).put2
theorem pZ (p:PG G){a ra:Addr}{w:Int}{s:Ws}(h:Wr G aa a ra w s)(hz:s.rows.length<1000)(q:∀led',Wr G led' a ra w (bP s)->bU a ra aa led'->Q .none led'):b5 G (·=none) 2 (dm G 4 "turn") [.ref a] [] aa Q X:=by
 obtain⟨⟨dx,h1⟩,h2⟩:=h
 have ne:a≠ra:=λe=>by rw[e,h2] at h1;cases h1
 refine ax p.g p.mQ rfl (by decide) [some (.ref a)] rfl ?_
 refine bG.mk a dx _ _ rfl h1 rfl ⟨?_,?_⟩
 ·exact lQ h2
 refine bG.mk a dx _ _ rfl h1 rfl ?_
 refine uB h2 (by simp;exact a10 0x644e049e90c0b227a2781 tt hz) ?_
 refine cq.mk a dx _ rfl ((ai ne).trans h1) (dM rfl) ?_
 refine cq.mk a dx _ rfl (ab _ _ _) (dM rfl) ?_
 refine⟨_,.refl _,q _ ⟨⟨dx,ab _ _ _⟩,?_⟩ λc hc hd=>?_⟩
 ·show put (put (put aa ra _) a _) a _ ra=_
  rw[ai (Ne.symm ne),ai (Ne.symm ne),ab];simp[sL,bP]
 ·show put (put (put aa ra _) a _) a _ c=_
  rw[ai hc,ai hc,ai hd]
end
noncomputable def Ws.ok (n:Nat)(s:Ws):Prop:=s.rows.length<=n/\s.row.length<=200
theorem ml {n:Nat}{s:Ws}(h:s.ok n):(bP s).ok (n+1):=by
 unfold Ws.ok bP at *;simp;exact dq 0x188202c4101 [_,_,0] [] tt h.1
theorem dd {n:Nat}{s:Ws}{w:Int}{x:List Nat}(h:s.ok n)(hx:x.length<=180)(hw:w<=100):(a8 w s x).ok (n+1):=by
 unfold Ws.ok a8 at *
 dsimp only
 have CN:(if s.part=true then x else 32::x).length<=181:=by
  split
  ·exact a10 0x1893eb080b127d2101 tt hx
  ·simp;exact a10 0x1893e9080b127d2101 tt hx
 generalize (if s.part=true then x else 32::x)=y at CN ⊢
 split
 ·simp;exact⟨dq 0x188202c4101 [_,_,0,0] [] tt h.1,dq 0x18938f0c23127d2104 [0,0,0,_] [] tt hx⟩
 ·rename_i hc
  refine⟨by show s.rows.length<=_;exact dq 0x62b4a8202c4101 [_,_,0] [] tt h.1,?_⟩
  show(s.row++y).length<=_
  rw[cN]
  by_cases h1:s.row=[32]
  ·rw[h1,dk];exact a10 0x624e4435a04ab127d6101 tt CN
  ·have:¬((s.row.length:Int)+y.length>w):=λk=>hc ⟨k,h1⟩
   clear hc
   exact a21 0xc49c886b4101684f2411ad06ad6009801 tt hw (uU this:)
theorem qc {n:Nat}{s:Ws}{w:Int}{c:Nat}(h:s.ok n)(hw:w<=100):(du w s c).ok (n+1):=by
 unfold Ws.ok du at *
 split
 ·simp;exact dq 0x188202c4101 [_,_,0] [] tt h.1
 ·simp;exact⟨dq 0x62b4a8202c4101 [_,_,0] [0] tt h.1,dq 0x18938f0c1b4279208d6a35803 [0,0,_] [_] tt hw (Nv (by assumption):)⟩
theorem EW {w:Int}(hw:w<=100):∀{t:List Nat}{n:Nat}{s:Ws},s.ok n->(t.foldl (du w) s).ok (n+t.length):=by
 intro z_
 induction z_ with
 |nil=>
  intro n s h
  exact h
 |cons c t ih=>
  intro n s h
  have:=ih (qc (c:=c) h hw)
  rw[mX,show n+(t.length+1)=n+1+t.length by exact Nat.le_antisymm (a20 0xc56825a540ad5a54101 tt) (a20 0xc56ad2a080ad04b4a81 tt)]
  exact this
theorem ER {w:Int}(hw:w<=100){t:List Nat}{n:Nat}{s:Ws}(h:s.ok n):(vi w s t).ok (n+t.length):=EW hw h
section
variable {G:GC}{aa:ag}{Q:V->ag->Prop}{X:Ex->ag->Prop}
theorem js (p:PG G){a ra:Addr}{w:Int}{s:Ws}{x:List Nat}(h:Wr G aa a ra w s)(ok:s.ok 900)(hx:x.length<=180)(q:∀led',Wr G led' a ra w (a8 w s x)->bU a ra aa led'->Q .none led'):CF G 3 "put_piece" [.ref a,.str x] aa Q X:=by
 have h':=h
 obtain⟨⟨dx,h1⟩,h2⟩:=h'
 have iC:=ok
 unfold Ws.ok at iC
 refine ax p.g p.xd rfl (by decide) [some (.ref a),some (.str x),none] rfl ?_
 have grow:∀{aw:ag} {ak:Ws} {y:List Nat} {QQ:Fl->St->Prop},Wr G aw a ra w ak->ak.row.length<=200->y.length<=190->(∀led',Wr G led' a ra w ⟨ak.rows,ak.row++y,false⟩->bU a ra aw led'->∀loc,QQ .next ⟨loc,led'⟩)->bf G none 2 QQ (bc X) [lP 4 2 (loc 0) .add (loc 2),sset (bw 4 3 (loc 0)) (lit (.bool false))] ⟨[some (.ref a),some (.str x),some (.str y)],aw⟩:=by
  intro aw ak y QQ hw hr hy k
  obtain⟨⟨dx,h1⟩,h2⟩:=hw
  have ne:a≠ra:=λe=>by rw[e,h2] at h1;cases h1
  refine bG.mk a dx _ _ rfl h1 rfl ⟨by exact a20 0xc49c093d21ad0405893910c0b127fa102 tt hr hy,?_⟩
  refine cq.mk a dx _ rfl h1 (dM rfl) ?_
  refine cq.mk a dx _ rfl (ab _ _ _) (dM rfl) ?_
  refine k _ ⟨⟨dx,ab _ _ _⟩,?_⟩ (λc hc hd=>?_) _
  ·show put (put aw a _) a _ ra=_
   rw[ai (Ne.symm ne),ai (Ne.symm ne)];exact h2
  ·show put (put aw a _) a _ c=_
   rw[ai hc,ai hc]
 have fin:∀(y:List Nat),y=(if s.part=true then x else 32::x)->bf G none 2 (bB Q) (bc X) [
   site (eE [aq .gt (bin .add (bN .len [attr 4 2 (loc 0)]) (bN .len [loc 2])) (attr 4 0 (loc 0)),aq .ne (attr 4 2 (loc 0)) (lit (.str [32]))]) [
    gu (lR true (loc 0)),
    aM 2 (loc 1)] [],
   lP 4 2 (loc 0) .add (loc 2),
   sset (bw 4 3 (loc 0)) (lit (.bool false))] ⟨[some (.ref a),some (.str x),some (.str y)],aa⟩:=by
  intro y hy
  have V1:y.length<=190:=by
   rw[hy];split
   ·exact a10 0x1893fd080b127d2101 tt hx
   ·simp;exact a10 0x1893fb080b127d2101 tt hx
  have Ot:¬((s.row.length:Int)+y.length>w/\s.row≠[32])->bf G none 2 (bB Q) (bc X) [lP 4 2 (loc 0) .add (loc 2),sset (bw 4 3 (loc 0)) (lit (.bool false))] ⟨[some (.ref a),some (.str x),some (.str y)],aa⟩:=λhn=>by
   refine grow h (by exact dq 0x1893910c1312722182 [0,_] [] tt iC.2) V1 λled' rp fL loc=>⟨_,.refl _,q led' ?_ fL⟩
   unfold a8
   dsimp only
   rw[←hy,aA hn];exact rp
  refine bG.mk a dx _ _ rfl h1 rfl ⟨by exact dq 0x31270346ccdec1312722182 [0,_] [] tt iC.2,?_⟩
  refine⟨by exact a10 0x31270346ccdec0b127fa101 tt V1,?_⟩
  refine bG.mk a dx _ _ rfl h1 rfl ⟨λc1=>?_,λc1=>Ot λk=>c1 k.1⟩
  refine bG.mk a dx _ _ rfl h1 rfl ⟨λc2=>Ot λk=>k.2 c2,λc2=>?_⟩
  refine⟨a,dx,_,rfl,h1,cW (by decide) (pZ p h (by exact dq 0x1913d13c0b12712701 [_,0] [] tt iC.1) λaw ej bh=>?_)⟩
  refine grow ej (by simp[bP]) (by exact a10 0x1893fd080b127d2101 tt hx) λled' rp fL loc=>⟨_,.refl _,q led' ?_ (bh.trans fL)⟩
  unfold a8
  dsimp only
  rw[←hy,aL ⟨c1,c2⟩];exact rp
 refine bG.mk a dx _ _ rfl h1 rfl ⟨λe=>?_,λe=>?_⟩
 ·exact fin _ (aL e).symm
 ·refine⟨by rw[dk];exact a10 0x18938127a435a04ab127d2101 tt hx,fin _ ?_⟩
  change s.part=false at e
  rw[aA (by rw[e];exact xx)];rfl
theorem yX (p:PG G){a ra:Addr}{w:Int}{s:Ws}{t:List Nat}(h:Wr G aa a ra w s)(hw:w<=100)(ok:s.ok 900)(ht:t.length<=50)(q:∀led',Wr G led' a ra w (vi w s t)->bU a ra aa led'->Q .none led'):CF G 3 "put_text" [.ref a,.str t] aa Q X:=by
 refine ax p.g p.zJ rfl (by decide) [some (.ref a),some (.str t),none] rfl ?_
 intro R hf hR
 have key:∀(r pre:List Nat) (y:Option V) (aw:ag) (ak:Ws),t=pre++r->r.foldl (du w) ak=t.foldl (du w) s->ak.ok (900+pre.length)->Wr G aw a ra w ak->bU a ra aa aw->R (.seq (t.map λc=>.str [c]) pre.length) ⟨[some (.ref a),some (.str t),y],aw⟩:=by
  intro r
  induction r with
  |nil=>
   intro pre y aw ak e ef iE ej bh
   change ak=t.foldl (du w) s at ef
   obtain⟨⟨dx,h1⟩,h2⟩:=ej
   have ne:a≠ra:=λe=>by rw[e,h2] at h1;cases h1
   refine hR _ _ (o8 (by rw[e];simp) ?_)
   refine cq.mk a dx _ rfl h1 (dM rfl) ?_
   refine⟨_,.refl _,q _ ?_ (bh.trans λc hc hd=>ai hc)⟩
   unfold vi
   rw[←ef]
   exact⟨⟨dx,ab _ _ _⟩,(ai (Ne.symm ne)).trans h2⟩
  |cons c r ih=>
   intro pre y aw ak e ef iE ej bh
   have pL:pre.length<=50:=by have:=congrArg List.length e;simp at this;exact a30 0x624f902624f90170cd6ad2a0c101 tt ht this
   have sj:=iE
   unfold Ws.ok at sj
   have yp:=ej
   obtain⟨⟨dx,h1⟩,h2⟩:=yp
   have go:∀cR aT,Wr G cR a ra w aT->aT.row.length<=200->(⟨aT.rows,aT.row++[c],aT.part⟩:Ws)=du w ak c->bU a ra aw cR->bf G none 2 (λfl ar=>match fl with
     |.next=>R (.seq (t.map λc=>.str [c]) (pre.length+1)) ar
     |.cont=>R (.seq (t.map λc=>.str [c]) (pre.length+1)) ar
     |.brk=>False
     |.ret v=>bB Q (.ret v) ar) (bc X) [lP 4 2 (loc 0) .add (loc 2)] ⟨[some (.ref a),some (.str t),some (.str [c])],cR⟩:=by
    intro cR aT jd hr es bZ
    obtain⟨⟨dx,h1⟩,h2⟩:=jd
    have ne:a≠ra:=λe=>by rw[e,h2] at h1;cases h1
    refine bG.mk a dx _ _ rfl h1 rfl ⟨by rw[dk];exact a10 0x18938127a435a540b12722181 tt hr,?_⟩
    refine cq.mk a dx _ rfl h1 (dM rfl) ?_
    have:=ih (pre++[c]) (some (.str [c])) (put cR a (ob G 4 dx [.int w,.ref ra,.str (aT.row++[c]),.bool aT.part])) (du w ak c) (by rw[e];simp) ef (by
     have:=qc (c:=c) iE hw
     rw[cN];exact this) (by rw[←es];exact⟨⟨dx,ab _ _ _⟩,(ai (Ne.symm ne)).trans h2⟩) (bh.trans (bZ.trans λc hc hd=>ai hc))
    rw[cN] at this
    exact this
   refine hR _ _ (mn (v:=.str [c]) (by rw[e];exact eA) ?_)
   refine bG.mk a dx _ _ rfl h1 rfl ⟨by exact dq 0x31270346ccdec1b12722183 [0,0,_] [] tt sj.2,?_⟩
   refine bG.mk a dx _ _ rfl h1 rfl ⟨λc1=>?_,λc1=>?_⟩
   ·change w<=(ak.row.length:Int) at c1
    refine⟨a,dx,_,rfl,h1,cW (by decide) (pZ p ej (by exact dq 0x644f44f04c49f202c56812712702 [_,_,0] [] tt pL sj.1) λcR jd bZ=>?_)⟩
    exact go cR _ jd (by simp[bP]) (by unfold du bP;rw[aL c1]) bZ
   ·change ¬w<=(ak.row.length:Int) at c1
    exact go aw ak ej (by exact a11 0x1893910c0b4279208d6a35801 tt hw (Nv (by assumption):)) (by unfold du;rw[aA c1]) (.refl _)
 exact key t [] none aa s rfl rfl ⟨by have:=ok.1;simpa using this,ok.2⟩ h (.refl _)
end
theorem Sub.rem (l:ag)(c:Addr):Sub (Mine.rem l c) l:=λb u e=>by
 unfold Mine.rem at e
 split at e
 ·cases e
 ·exact e
theorem bU.drop {a b c:Addr}{o:AO}{l l':ag}(hc:l c=none)(h:bU a b (Mine.put l c o) l'):bU a b l (Mine.rem l' c):=λx hx hy=>by
 unfold Mine.rem
 split
 ·rename_i e;rw[e,hc]
 ·rename_i e;rw[h x hx hy,ai e]
theorem Wr.put {G:GC}{aa:ag}{a ra c:Addr}{w:Int}{s:Ws}{o:AO}(h:Wr G aa a ra w s)(hc:aa c=none):Wr G (Mine.put aa c o) a ra w s:=by
 obtain⟨⟨dx,h1⟩,h2⟩:=h
 have n1:a≠c:=λe=>by rw[e,hc] at h1;cases h1
 have n2:ra≠c:=λe=>by rw[e,hc] at h2;cases h2
 exact⟨⟨dx,(ai n1).trans h1⟩,(ai n2).trans h2⟩
theorem Wr.rem {G:GC}{aa:ag}{a ra c:Addr}{w:Int}{s:Ws}(h:Wr G aa a ra w s)(n1:a≠c)(n2:ra≠c):Wr G (Mine.rem aa c) a ra w s:=by
 obtain⟨⟨dx,h1⟩,h2⟩:=h
 exact⟨⟨dx,by unfold Mine.rem;rw[aA n1];exact h1⟩,by unfold Mine.rem;rw[aA n2];exact h2⟩
theorem Wr.ne {G:GC}{aa:ag}{a ra c:Addr}{w:Int}{s:Ws}(h:Wr G aa a ra w s)(hc:aa c=none):a≠c/\ra≠c:=by
 obtain⟨⟨dx,h1⟩,h2⟩:=h
 exact⟨λe=>(by rw[e,hc] at h1;cases h1),λe=>(by rw[e,hc] at h2;cases h2)⟩
theorem lI.put {G:GC}{aa:ag}{b c:Addr}{o:AO}(h:lI G aa b)(hc:aa c=none):lI G (Mine.put aa c o) b:=by
 obtain⟨dx,r,h⟩:=h
 have:b≠c:=λe=>by rw[e,hc] at h;cases h
 exact⟨dx,r,(ai this).trans h⟩
theorem tX {w:Int}(hw:w<=100){n:Nat}{s:Ws}{i:Iv}(hi:i.ok)(h:s.ok n):(ct w s i).ok (n+20):=by
 have up:∀{m k:Nat} {s:Ws},s.ok m->m<=k->s.ok k:=λh hk=>⟨fm h.1 hk,h.2⟩
 cases i with
 |chr t=>exact up (ER hw h) (by have:t.length<=20:=hi;exact a20 0x18ad500968104c5401 tt this)
 |int m=>exact up (dd h (by have:m.natAbs<=3000:=hi;have:=dA (a:=m) (by exact a10 0xc49e0b5600b127e3701 tt this);exact a10 0x624fa4202c4d81 tt this) hw) (by exact a10 0xc56a802b4a81 tt)
 |log b=>exact up (dd h (by split<;>simp) hw) (by exact a10 0xc56a802b4a81 tt)
 |real m e=>exact up (dd h (by have:=bC (c:=69) (d:=9) hi;exact a10 0x1893e9080b1271a081 tt this) hw) (by exact a10 0xc56a802b4a81 tt)
 |dbl m e=>exact up (dd h (by have:=bC (c:=68) (d:=12) hi;exact a10 0x1893e9080b1271a081 tt this) hw) (by exact a10 0xc56a802b4a81 tt)
 |lE m e m' e'=>
  have la:=bC (c:=69) (d:=9) hi.1
  have lb:=bC (c:=69) (d:=9) hi.2
  have x1:([40]++cL m e 69 9++[44]).length<=72:=by simp only[cN,dk];exact a10 0x189391056955a04ab1271a081 tt la
  have x2:(cL m' e' 69 9++[41]).length<=71:=by simp only[cN,dk];exact a10 0x624e3c15a540b1271a081 tt lb
  unfold ct
  dsimp only[iV]
  split
  ·exact up (dd h (by rw[cN];exact a20 0x3127d212d040589391040b1271e082 tt x1 x2) hw) (by exact a10 0xc56a802b4a81 tt)
  ·have h1:(if s.row≠[32] then bP s else s).ok (n+1):=by
    split
    ·exact ml h
    ·exact up h (by exact a10 0x315a54081 tt)
   exact up (dd (ml (dd h1 (by exact a10 0x1893e9080b12722081 tt x1) hw)) (by exact a10 0x1893e9080b1271e081 tt x2) hw) (by exact a10 0x315aa00ad2ab4aad2ab4a81 tt)
section
variable {G:GC}{aa:ag}{Q:V->ag->Prop}{X:Ex->ag->Prop}
theorem wJ (p:PG G){a ra b:Addr}{w:Int}{s:Ws}{i:Iv}(h:Wr G aa a ra w s)(cZ:lI G aa b)(hw:w<=100)(hi:i.ok)(ok:s.ok 800)(q:∀led',Wr G led' a ra w (ct w s i)->bU a ra aa led'->Q .none led'):
  CF G 5 "put_value" [.ref a,.int i.kind,i.val,.ref b] aa Q X:=by
 refine ax p.g p.xc rfl (by decide) [some (.ref a),some (.int i.kind),some i.val,some (.ref b),none,none] rfl ?_
 have up:∀{m k:Nat} {s:Ws},s.ok m->m<=k->s.ok k:=λh hk=>⟨fm h.1 hk,h.2⟩
 by_cases h5:i.kind=5
 ·obtain⟨t,rfl⟩:∃t,i=.chr t:=by cases i with|chr t=>exact⟨t,rfl⟩|_=>cases h5
  refine⟨λ_=>?_,λk=>absurd rfl k⟩
  exact cW (by decide) (yX p h hw (up ok (by decide)) (by have:t.length<=20:=hi;exact a10 0xc49f202c5401 tt this) λled' rp fL=>⟨_,.refl _,q led' rp fL⟩)
 refine⟨λk=>absurd k h5,λ_=>?_⟩
 refine cW (by decide) (qV p cZ hi h5 λc hc=>?_)
 obtain⟨n1,n2⟩:=h.ne hc
 have hW:=h.put (o:=sL (iV i)) hc
 have mY:put aa c (sL (iV i)) c=some (sL (iV i)):=ab _ _ _
 have fin:∀{led' s'},Wr G led' a ra w s'->s'=ct w s i->bU a ra (put aa c (sL (iV i))) led'->xV Q .none led':=λ{led' s'} rp e fL=>⟨_,Sub.rem _ c,q _ ((e▸rp).rem n1 n2) (fL.drop hc)⟩
 obtain⟨⟨dx,h1⟩,h2⟩:=hW
 refine⟨rfl,jo mY ?_ ?_⟩
 ·cases i with
  |int n=>have:=dA (a:=n) (by have:n.natAbs<=3000:=hi;exact a10 0xc49e0b5600b127e3701 tt this);simp[iV];exact a10 0x18938127a4302c4d81 tt this
  |log b=>simp[iV];split<;>simp
  |chr t=>simp[iV]
  |real m e=>have:=bC (c:=69) (d:=9) hi;simp[iV];exact a10 0x624e049e90c0b1271a081 tt this
  |dbl m e=>have:=bC (c:=68) (d:=12) hi;simp[iV];exact a10 0x624e049e90c0b1271a081 tt this
  |lE m e m' e'=>have:=bC (c:=69) (d:=9) hi.1;have:=bC (c:=69) (d:=9) hi.2;simp[iV];exact a20 0xc49ff91d21ad5a5569504058938d040b1271a082 tt (by assumption) this
 have one:∀(QQ:Fl->St->Prop) (x:List Nat),(iV i).flatten=x->x.length<=180->ct w s i=a8 w s x->(∀loc l,bB Q (.ret .none) ⟨loc,l⟩->QQ (.ret .none) ⟨loc,l⟩)->bf G none 4 QQ (bc X) [gu (aj "put_piece" [loc 0,loc 5]),Dj]
   ⟨[some (.ref a),some (.int i.kind),some i.val,some (.ref b),some (.ref c),some (.str (iV i).flatten)],put aa c (sL (iV i))⟩:=λQQ x e hx ev r=>by
  rw[e]
  exact cW (by decide) (js p (h.put hc) (up ok (by decide)) hx λled' rp fL=>r _ _ (fin rp ev.symm fL))
 cases i with
 |chr t=>exact absurd rfl h5
 |int n=>
  have:=dA (a:=n) (by have:n.natAbs<=3000:=hi;exact a10 0xc49e0b5600b127e3701 tt this)
  exact fS mY ⟨λ_=>one _ _ (by simp[iV]) (by exact a10 0x624fa4202c4d81 tt this) rfl λ_ _ k=>k,λk=>absurd rfl k⟩
 |log b=>exact fS mY ⟨λ_=>one _ (if b=true then[84] else[70]) (by simp[iV]) (by split<;>simp) rfl λ_ _ k=>k,λk=>absurd rfl k⟩
 |real m e=>
  have:=bC (c:=69) (d:=9) hi
  exact fS mY ⟨λ_=>one _ _ (by simp[iV]) (by exact a10 0x1893e9080b1271a081 tt this) rfl λ_ _ k=>k,λk=>absurd rfl k⟩
 |dbl m e=>
  have:=bC (c:=68) (d:=12) hi
  exact fS mY ⟨λ_=>one _ _ (by simp[iV]) (by exact a10 0x1893e9080b1271a081 tt this) rfl λ_ _ k=>k,λk=>absurd rfl k⟩
 |lE m e m' e'=>
  have la:=bC (c:=69) (d:=9) hi.1
  have lb:=bC (c:=69) (d:=9) hi.2
  have x1:([40]++cL m e 69 9++[44]).length<=72:=by simp only[cN,dk];exact a10 0x189391056955a04ab1271a081 tt la
  have x2:(cL m' e' 69 9++[41]).length<=71:=by simp only[cN,dk];exact a10 0x624e3c15a540b1271a081 tt lb
  have ef:(iV (.lE m e m' e')).flatten=([40]++cL m e 69 9++[44])++(cL m' e' 69 9++[41]):=by simp[iV]
  have ev:ct w s (.lE m e m' e')=if((([40]++cL m e 69 9++[44])++(cL m' e' 69 9++[41])).length:Int)<w then a8 w s (([40]++cL m e 69 9++[44])++(cL m' e' 69 9++[41])) else
    a8 w (bP (a8 w (if s.row≠[32] then bP s else s) ([40]++cL m e 69 9++[44]))) (cL m' e' 69 9++[41]):=rfl
  have hk:∀led',bU a ra (put aa c (sL (iV (.lE m e m' e')))) led'->led' c=some (.list [.str ([40]++cL m e 69 9++[44]),.str (cL m' e' 69 9++[41])]):=λled' hs=>(hs c (Ne.symm n1) (Ne.symm n2)).trans mY
  generalize hx:([40]++cL m e 69 9++[44])=x at *
  generalize hy:(cL m' e' 69 9++[41])=y at *
  refine fS mY ⟨λk=>absurd k (show ¬(2:Int)=1 by decide),λ_=>?_⟩
  refine⟨by rw[ef,cN];exact a20 0x624e068d99bdad040589391040b1271e082 tt x1 x2,?_⟩
  refine bG.mk a dx _ _ rfl h1 rfl ⟨λc1=>?_,λc1=>?_⟩
  ·rw[ef] at c1
   exact one _ _ ef (by rw[cN];exact a20 0x3127d212d040589391040b1271e082 tt x1 x2) (by rw[ev];exact aL c1) λ_ _ k=>k
  rw[ef] at c1
  have ev:=ev.trans (aA c1)
  have go:∀aw ak,Wr G aw a ra w ak->ak.ok 801->ak=(if s.row≠[32] then bP s else s)->bU a ra (put aa c (sL (iV (.lE m e m' e')))) aw->bf G none 4 (bB Q) (bc X) [gu (aj "put_piece" [loc 0,item (loc 4) (lit (.int 0))]),
    gu (lR true (loc 0)),
    gu (aj "put_piece" [loc 0,item (loc 4) (lit (.int 1))])] ⟨[some (.ref a),some (.int 3),some (Iv.lE m e m' e').val,some (.ref b),some (.ref c),some (.str (iV (.lE m e m' e')).flatten)],aw⟩:=λaw ak ej iE Bg bh=>by
   refine bx (hk _ bh) rfl ⟨by decide,by decide⟩ ?_
   refine cW (by decide) (js p ej (up iE (by decide)) (by exact a10 0x1893e9080b12722081 tt x1) λcR jd bZ=>?_)
   have sj:=dd iE (x:=x) (by exact a10 0x1893e9080b12722081 tt x1) hw
   have MA:=jd
   obtain⟨⟨sr,g2⟩,_⟩:=MA
   refine⟨a,sr,_,rfl,g2,cW (by decide) (pZ p jd (by have:=sj.1;exact a10 0x644f44f02c56952786601 tt this) λjh Qz eN=>?_)⟩
   have Qc:=ml sj
   refine bx (hk _ (bh.trans (bZ.trans eN))) rfl ⟨by decide,by decide⟩ ?_
   refine cW (by decide) (js p Qz (up Qc (by decide)) (by exact a10 0x1893e9080b1271e081 tt x2) λMp Qy so=>?_)
   refine fin Qy ?_ (bh.trans (bZ.trans (eN.trans so)))
   rw[ev,Bg]
  refine bG.mk a dx _ _ rfl h1 rfl ⟨λc2=>?_,λc2=>?_⟩
  ·exact go _ s (h.put hc) (up ok (by decide)) (by rw[aA (λk=>k c2)]) (.refl _)
  ·refine⟨a,dx,_,rfl,h1,cW (by decide) (pZ p (h.put hc) (by have:=ok.1;exact a10 0x1913d13c0b12782601 tt this) λaw ej bh=>?_)⟩
   exact go _ _ ej (ml ok) (aL c2).symm bh
theorem uF (p:PG G){w:Int}(hw:2<=w)(q:∀a ra led',aa a=none->aa ra=none->Wr G led' a ra w ⟨[],[32],true⟩->bU a ra aa led'->Q (.ref a) led'):CF G 3 "ListWriter" [.int w] aa Q X:=by
 obtain⟨h1,h2,h3⟩:=p.g.make 4 (by decide) (by decide)
 refine jV (C:=ZC G 4) h1 h2 h3 λa dx ha Nm=>?_
 refine ax p.g p.mR rfl (by decide) [some (.ref a),some (.int w)] rfl ?_
 have e:(if w>2 then w else 2)=w:=by split<;>omega
 refine cq.mk a dx [] rfl (ab _ _ _) (dM rfl) ?_
 refine⟨by simp,λra rY=>?_⟩
 rw[e] at rY ⊢
 change put (put aa a _) a _ ra=none at rY
 rw[aR] at rY
 obtain⟨r1,r2⟩:=cy rY
 refine cq.mk a dx [.int w] rfl ((ai (Ne.symm r2)).trans (ab _ _ _)) (dM rfl) ?_
 refine cq.mk a dx [.int w,.ref ra] rfl (ab _ _ _) (dM rfl) ?_
 refine cq.mk a dx [.int w,.ref ra,.str [32]] rfl (ab _ _ _) (dM rfl) ?_
 refine⟨_,.refl _,rfl,q a ra _ ha r1 ⟨⟨dx,ab _ _ _⟩,?_⟩ λc hc hd=>?_⟩
 ·show put (put (put (put _ ra _) a _) a _) a _ ra=_
  rw[ai r2,ai r2,ai r2,ab];rfl
 ·show put (put (put (put (put (put aa a _) a _) ra _) a _) a _) a _ c=_
  rw[ai hc,ai hc,ai hc,ai hd,ai hc,ai hc]
theorem FK {w:Int}(hw:w<=100):∀{l:List Iv}{n:Nat}{s:Ws},(∀i∈l,i.ok)->s.ok n->(l.foldl (ct w) s).ok (n+20*l.length):=by
 intro z_
 induction z_ with
 |nil=>
  intro n s _ h
  exact h
 |cons i l ih=>
  intro n s hi h
  have:=ih (λj hj=>hi j (.tail _ hj)) (tX hw (hi i (.head _)) h)
  rw[mX,show n+20*(l.length+1)=n+20+20*l.length by exact Nat.le_antisymm (a20 0xc56afa8096a802b57d45a54101 tt) (a20 0xc56afa8b4a8202b57d404b5401 tt)]
  exact this
theorem mJ (p:PG G){b c:Addr}{w:Int}{l:List Iv}(hw:2<=w)(rp:w<=100)(cZ:lI G aa b)(hl:aa c=some (.list (l.map Iv.v)))(hi:∀i∈l,i.ok)(hz:l.length<=20)(q:∀r,aa r=none->Q (.ref r) (put aa r (sL (fH w l).rows))):
  CF G 6 "write_list" [.ref c,.int w,.ref b] aa Q X:=by
 refine ax p.g p.uL rfl (by decide) [some (.ref c),some (.int w),some (.ref b),none,none,none] rfl ?_
 refine cW (by decide) (uF p hw λa ra aw ha rY ej bh=>?_)
 have nc:c≠a/\c≠ra:=⟨λe=>(by rw[e,ha] at hl;cases hl),λe=>(by rw[e,rY] at hl;cases hl)⟩
 have lim:∀{led'},bU a ra aa led'->lI G led' b:=λ{led'} hs=>by
  obtain⟨dx,r,h⟩:=cZ
  have n1:b≠a:=λe=>by rw[e,ha] at h;cases h
  have n2:b≠ra:=λe=>by rw[e,rY] at h;cases h
  exact⟨dx,r,(hs b n1 n2).trans h⟩
 refine⟨⟨_,(bh c nc.1 nc.2).trans hl⟩,?_⟩
 intro R hf hR
 have key:∀(r pre:List Iv) (y z:Option V) (aw:ag) (ak:Ws),l=pre++r->r.foldl (ct w) ak=l.foldl (ct w) ⟨[],[32],true⟩->ak.ok (20*pre.length)->Wr G aw a ra w ak->bU a ra aa aw->R (.list c pre.length) ⟨[some (.ref c),some (.int w),some (.ref b),some (.ref a),y,z],aw⟩:=by
  intro r
  induction r with
  |nil=>
   intro pre y z aw ak e ef iE ej bh
   have hn:(l.map Iv.v)[pre.length]?=none:=by rw[e];simp
   refine hR _ _ (pj ((bh c nc.1 nc.2).trans hl) hn ?_)
   have yp:=ej
   obtain⟨⟨dx,g1⟩,g2⟩:=yp
   have pL:pre.length<=20:=by rw[e] at hz;simp at hz;exact hz
   refine⟨a,dx,_,rfl,g1,cW (by decide) (pZ p ej (by have:=iE.1;omega) λcR jd bZ=>?_)⟩
   change ak=l.foldl (ct w) ⟨[],[32],true⟩ at ef
   rw[ef] at jd
   obtain⟨⟨sr,k1⟩,k2⟩:=jd
   refine bG.mk a sr _ _ rfl k1 rfl ⟨_,?_,q ra rY⟩
   intro x o ho
   by_cases hx:x=ra
   ·subst hx;rw[ab] at ho;rw[←ho];exact k2
   ·rw[ai hx] at ho
    have Xw:x≠a:=λe=>by rw[e,ha] at ho;cases ho
    exact((bh.trans bZ) x Xw hx).trans ho
  |cons i r ih=>
   intro pre y z aw ak e ef iE ej bh
   have hn:(l.map Iv.v)[pre.length]?=some i.v:=by rw[e];exact eA
   have pL:pre.length<=20:=by have:=congrArg List.length e;simp at this;exact a30 0x18a804c540170cd6ad2a0c101 tt hz this
   refine hR _ _ (mz ((bh c nc.1 nc.2).trans hl) hn ?_)
   refine cW (by decide) (wJ p ej (lim bh) rp (hi i (by rw[e];simp)) ⟨by have:=iE.1;omega,iE.2⟩ λcR jd bZ=>?_)
   have:=ih (pre++[i]) (some (.int i.kind)) (some i.val) cR (ct w ak i) (by rw[e];simp) ef (by
    have:=tX rp (hi i (by rw[e];simp)) iE
    rw[cN,show 20*(pre.length+[i].length)=20*pre.length+20 by simp;exact Nat.le_antisymm (a10 0xc56a85f500afa8b4a81 tt) (a10 0xc57d45a540ad50bea01 tt)];exact this) jd (bh.trans bZ)
   rw[cN] at this
   exact this
 exact key l [] none none aw _ rfl rfl ⟨by simp,by simp⟩ ej bh
end
noncomputable def bD:List (List Nat)->List Nat
 |[]=>[]
 |r::rs=>r++10::bD rs
noncomputable def sgn:List Nat->List Nat
 |[]=>[]
 |c::_=>if c=10 then[] else[c]
noncomputable def cV (c:Nat):Bool:=c==32||c==10
noncomputable def eV (c:Nat):Bool:=decide (48<=c)&&decide (c<=57)
noncomputable def aD (s:List Nat):List Nat:=s.dropWhile cV
noncomputable def bV (s:List Nat):List Nat:=s.dropWhile (·==32)
noncomputable def bS:List Nat:=[10,32,44,47]
noncomputable def bo:List Nat:=[10,32,44,47,41]
noncomputable def cP (E s:List Nat):List Nat:=s.takeWhile λc=>!(E.contains c)
noncomputable def dj (E s:List Nat):List Nat:=s.dropWhile λc=>!(E.contains c)
noncomputable def bW (s:List Nat):List Nat:=s.takeWhile eV
noncomputable def eT (s:List Nat):List Nat:=s.dropWhile eV
noncomputable def dC {α β:Type}(x:Except Int α)(f:α->Except Int β):Except Int β:=match x with
 |.ok a=>f a
 |.error k=>.error k
noncomputable def rV (s:List Nat):Except Int (List Nat):=if s=[] then .error (-1) else .ok s
noncomputable def dX (c:Nat)(s:List Nat):Except Int (List Nat):=if s.head?=some c then .ok s.tail else .error 1
noncomputable def oJ:Bool->List Nat->Option (List Nat×List Nat)
 |_,[]=>none
 |b,c::s=>match b with
  |true=>if c=39 then(oJ false s).map λx=>(39::x.1,x.2) else some ([],c::s)
  |false=>if c=39 then oJ true s else(oJ false s).map λx=>(if c=10 then x.1 else c::x.1,x.2)
noncomputable def lG (s:List Nat):Option (List Nat×List Nat):=oJ false s
noncomputable def Bb (s:List Nat):Except Int (Tk×List Nat):=match lG s with
 |none=>.error (-1)
 |some x=>.ok (.text x.1,x.2)
noncomputable def pairE (s:List Nat):Except Int (Tk×List Nat):=
 dC (rV (aD (dj bo (bV s)))) λak=>dC (dX 44 ak) λaT=>dC (rV (aD aT)) λbQ=>dC (dX 41 (bV (dj bo bQ))) λcY=>.ok (.pair (cP bo (bV s)) (cP bo bQ),cY)
noncomputable def GY {α:Type}(x:α×List Nat):Except Int (α×List Nat):=if(bS.contains (x.2.headD 10))=true then .ok x else .error 1
noncomputable def cH (s:List Nat):Except Int (Tk×List Nat):=
 dC (if s.head?=some 39 then Bb s.tail else if s.head?=some 40 then pairE s.tail else .ok (.run (cP bS s),dj bS s)) GY
noncomputable def oH (s:List Nat):Except Int (Int×List Nat):=
 if bW s=[]∨(eT s).head?≠some 42 then .ok (1,s) else if aH (bW s)=0 then .error 1 else .ok (aH (bW s),(eT s).tail)
structure Rs where
 s:List Nat
 left:Int
 held:Option Tk
 eS:Bool
 done:Bool
noncomputable def eo:Option Tk->V
 |none=>.none
 |some t=>t.v
noncomputable def gk (s:List Nat):List Nat:=if s.head?=some 44 then s.tail else s
noncomputable def Ad (t:Rs)(x:Int×List Nat):Except Int (Option Tk×Rs):=
 if bS.contains (x.2.headD 10)=true then .ok (none,{ t with s:=x.2,left:=x.1-1,held:=none,eS:=true }) else
 dC (cH x.2) λy=>.ok (some y.1,{ t with s:=y.2,left:=x.1-1,held:=some y.1,eS:=true })
noncomputable def Ae (t:Rs)(s:List Nat):Except Int (Option Tk×Rs):=
 if s.head?=some 47 then .ok (none,{ t with s:=s,eS:=false,done:=true }) else
 if s.head?=some 44 then .ok (none,{ t with s:=s.tail,eS:=false }) else dC (oH s) (Ad t)
noncomputable def j7 (t:Rs)(s:List Nat):Except Int (Option Tk×Rs):=dC (rV (aD s)) (Ae t)
noncomputable def vl (t:Rs):Except Int (List Nat):=if t.eS=true then dC (rV (aD t.s)) λs=>.ok (gk s) else .ok t.s
noncomputable def b8 (t:Rs):Except Int (Option Tk×Rs):=
 if t.left>0 then .ok (t.held,{ t with left:=t.left-1 }) else
 if t.done=true then .ok (none,t) else dC (vl t) (j7 t)
theorem qb {α β:Type}{x:Except Int α}{a:α}{f:α->Except Int β}(e:x=.ok a):dC x f=f a:=by rw[e];rfl
theorem yE {α β:Type}{x:Except Int α}{k:Int}{f:α->Except Int β}(e:x=.error k):dC x f=.error k:=by rw[e];rfl
noncomputable def dN (recs:List (List Nat)):Prop:=recs.length<=1000/\∀x∈recs,10∉x/\x.length<=200
structure I5 (G:GC)(aa:ag)(r src ra:Addr)(recs:List (List Nat))(t:Rs)(dx dy:Addr)(rec:List Nat)(col at_:Nat):Prop where
 r:aa r=some (ob G 5 dx [.ref src,.str rec,.int col,.int t.left,eo t.held,.bool t.eS,.bool t.done])
 src:aa src=some (ob G 6 dy [.ref ra,.int at_])
 ra:aa ra=some (sL recs)
 s:t.s=rec.drop col++10::bD (recs.drop at_)
 col:col<=rec.length
 nl:10∉rec
 rl:rec.length<=200
 at_:at_<=recs.length
inductive Rd (G:GC)(aa:ag)(r src ra:Addr)(recs:List (List Nat))(t:Rs):Prop
 |mk (dx dy:Addr) (rec:List Nat) (col at_:Nat):I5 G aa r src ra recs t dx dy rec col at_->Rd G aa r src ra recs t
theorem sG:∀(l:List (List Nat)),bD l=[]∨(bD l).getLast?=some 10:=by
 intro z_
 induction z_ with
 |nil=>
  exact .inl rfl
 |cons r rs ih=>
  exact .inr (by
   show(r++10::bD rs).getLast?=_
   rcases ih with h|h
   ·rw[h];simp
   ·simp[List.getLast?_append,List.getLast?_cons,h])
theorem Rd.last {G:GC}{aa:ag}{r src ra:Addr}{recs:List (List Nat)}{t:Rs}(h:Rd G aa r src ra recs t):t.s.getLast?=some 10:=by
 obtain⟨dx,dy,rec,col,at_,h⟩:=h
 rw[h.s]
 rcases sG (recs.drop at_) with e|e
 ·rw[e];simp
 ·simp[List.getLast?_append,List.getLast?_cons,e]
theorem Rd.cons {G:GC}{aa:ag}{r src ra:Addr}{recs:List (List Nat)}{t:Rs}(h:Rd G aa r src ra recs t):∃c s,t.s=c::s/\(c≠10->s≠[]):=by
 have e:=h.last
 cases hs:t.s with
 |nil=>rw[hs] at e;cases e
 |cons c s=>
  refine⟨c,s,rfl,λhc h0=>?_⟩
  rw[hs,h0] at e
  simp at e;exact hc e
section
variable {G:GC}{aa:ag}{Q:V->ag->Prop}{X:Ex->ag->Prop}{r src ra:Addr}{recs:List (List Nat)}{t:Rs}
theorem I5.ne {dx dy:Addr}{rec:List Nat}{col at_:Nat}(h:I5 G aa r src ra recs t dx dy rec col at_):r≠src/\r≠ra/\src≠ra:=by
 refine⟨λe=>?_,λe=>?_,λe=>?_⟩
 ·have h1:=h.r
  rw[e,h.src] at h1
  have h1:=Option.some.inj h1
  injection h1 with _ _ h3
  have e4:((kL 6).zip [V.ref ra,V.int at_])[0]?=some (("records":Str),V.ref ra):=rfl
  have e5:((kL 5).zip [V.ref src,V.str rec,V.int col,V.int t.left,eo t.held,V.bool t.eS,V.bool t.done])[0]?=some (("source":Str),V.ref src):=rfl
  rw[h3,e5] at e4
  cases e4
 ·have h1:=h.r;rw[e,h.ra] at h1;cases h1
 ·have h1:=h.src;rw[e,h.ra] at h1;cases h1
theorem LO {dx dy:Addr}{rec:List Nat}{col at_:Nat}(h:I5 G aa r src ra recs t dx dy rec col at_):sgn t.s=(rec.drop col).take 1:=by
 rw[h.s]
 cases hd:rec.drop col with
 |nil=>rfl
 |cons c s=>
  have:c≠10:=λe=>h.nl (e▸List.mem_of_mem_drop (i:=col) (by rw[hd];exact .head _))
  show(if c=10 then[] else[c])=_
  rw[aA this];rfl
theorem bt (p:PG G)(h:Rd G aa r src ra recs t)(q:Q (.str (sgn t.s)) aa):CF G 2 "sign_here" [.ref r] aa Q X:=by
 obtain⟨dx,dy,rec,col,at_,h⟩:=h
 refine ax p.g p.w7 rfl (by decide) [some (.ref r)] rfl ?_
 rw[LO h] at q
 have hr:=h.rl
 refine bG.mk r dx _ _ rfl h.r rfl (bG.mk r dx _ _ rfl h.r rfl ⟨by exact a10 0x31270346ccdec0b12722181 tt hr,λc=>?_,λc=>?_⟩)
 ·change (col:Int)<rec.length at c
  have c:col<rec.length:=by exact a20 0x64080b56009801 tt (by assumption)
  refine bG.mk r dx _ _ rfl h.r rfl (bG.mk r dx _ _ rfl h.r rfl (item_str (c:=rec[col]) (by rw[fB,List.getElem?_eq_getElem c]) ⟨by exact a10 0xd18015c4e068d99bd94 tt,by exact a20 0xd09c0d1b337b6009893910c0b56005802 tt hr (by assumption)⟩ (aP ?_)))
  rw[List.drop_eq_getElem_cons c] at q;exact q
 ·change ¬(col:Int)<rec.length at c
  rw[List.drop_eq_nil_of_le (by exact a20 0x62080b46009801 tt (uU (by assumption):))] at q
  exact aP q
theorem ko (p:PG G){dy:Addr}{at_:Nat}(h1:aa src=some (ob G 6 dy [.ref ra,.int at_]))(h2:aa ra=some (sL recs))(ok:recs.length<=1000)
  (q:∀x,recs[at_]?=some x->Q (.str x) (put aa src (ob G 6 dy [.ref ra,.int (at_+1:Nat)]))) (x:recs.length<=at_->∀ex,r7 G (-1) ex->X ex aa):b5 G (·=none) 6 (dm G 6 "next_record") [.ref src] [] aa Q X:=by
 refine ax p.g p.gq rfl (by decide) [some (.ref src)] rfl ?_
 have ne:src≠ra:=λe=>by rw[e,h2] at h1;cases h1
 have hlen:(recs.map V.str).length=recs.length:=by simp
 refine bG.mk src dy _ _ rfl h1 rfl (bG.mk src dy _ _ rfl h1 rfl (fS h2 ⟨λc=>?_,λc=>?_⟩))
 ·have c:((recs.map V.str).length:Int)<=at_:=c
  rw[hlen] at c
  refine cW (by decide) (P7 p λa d ha=>?_)
  refine⟨a,3,d,_,rfl,by decide,ab _ _ _,trivial,?_⟩
  exact⟨aa,Sub.pd ha,x (by exact a30 0x620c13866080b4600d801 tt hlen (by assumption)) _ ⟨3,.inr rfl,rfl,_,rfl⟩⟩
 ·change ¬((recs.map V.str).length:Int)<=at_ at c
  rw[hlen] at c
  have j2:at_<recs.length:=by omega
  refine bG.mk src dy _ _ rfl h1 rfl (cq.mk src dy _ rfl h1 (dM rfl) ?_)
  refine bG.mk src dy [.ref ra,.int (at_+1)] _ rfl (ab _ _ _) rfl (bG.mk src dy [.ref ra,.int (at_+1)] _ rfl (ab _ _ _) rfl ?_)
  have e:((at_:Int)+1-1)=(at_:Int):=by exact oD (a10 0x3460057155a55801 tt) (a10 0x345c556956005801 tt)
  refine bx (l:=recs.map V.str) (c:=.str recs[at_]) ((ai (Ne.symm ne)).trans h2) ?_ ?_ (aP (q _ (List.getElem?_eq_getElem j2)))
  ·show pick _ ((at_:Int)+1-1)=_
   rw[e,fB];simp[j2]
  ·show -1000000000<=(at_:Int)+1-1/\(at_:Int)+1-1<=1000000000
   exact⟨dq 0xd17155a558035c4e068d99bd94 [0,0,_] [] tt,by omega⟩
end
section
variable {G:GC}{aa:ag}{Q:V->ag->Prop}{X:Ex->ag->Prop}{r src ra:Addr}{recs:List (List Nat)}{t:Rs}
abbrev Rs.at (t:Rs)(s:List Nat):Rs:={ t with s:=s }
theorem Cg {l:List (List Nat)}{n:Nat}{x:List Nat}(h:l[n]?=some x):l.drop n=x::l.drop (n+1):=by
 obtain⟨h1,h2⟩:=List.getElem?_eq_some_iff.mp h
 rw[List.drop_eq_getElem_cons h1,h2]
theorem sI (p:PG G)(ok:dN recs)(h:Rd G aa r src ra recs t)(q:∀led',t.s.tail≠[]->Rd G led' r src ra recs (t.at t.s.tail)->bU r src aa led'->Q .none led')(x:t.s.tail=[]->∀ex,r7 G (-1) ex->X ex aa):CF G 7 "step_on" [.ref r] aa Q X:=by
 obtain⟨dx,dy,rec,col,at_,h⟩:=h
 refine ax p.g p.Cs rfl (by decide) [some (.ref r)] rfl ?_
 have hr:=h.rl
 obtain⟨n1,n2,n3⟩:=h.ne
 refine bG.mk r dx _ _ rfl h.r rfl (bG.mk r dx _ _ rfl h.r rfl ⟨by exact a10 0x31270346ccdec0b12722181 tt hr,λc=>?_,λc=>?_⟩)
 ·change (col:Int)<rec.length at c
  have c:col<rec.length:=by exact a20 0x64080b56009801 tt (by assumption)
  have hs:t.s.tail=rec.drop (col+1)++10::bD (recs.drop at_):=by
   rw[h.s,List.drop_eq_getElem_cons c];rfl
  refine bG.mk r dx _ _ rfl h.r rfl (cq.mk r dx _ rfl h.r (dM rfl) ⟨_,.refl _,q _ (by rw[hs];simp) ?_ λa ha _=>ai ha⟩)
  exact⟨dx,dy,rec,col+1,at_,⟨ab _ _ _,(ai (Ne.symm n1)).trans h.src,(ai (Ne.symm n2)).trans h.ra,hs,c,h.nl,h.rl,h.at_⟩⟩
 ·change ¬(col:Int)<rec.length at c
  have ht:t.s.tail=bD (recs.drop at_):=by
   rw[h.s,List.drop_eq_nil_of_le (by exact a20 0x62080b46009801 tt (uU (by assumption):))];rfl
  refine bG.mk r dx _ _ rfl h.r rfl ⟨src,dy,_,rfl,h.src,cW (by decide) (ko p h.src h.ra ok.1 (λy hy=>?_) λhle ex hex=>?_)⟩
  ·have hd:=Cg hy
   rw[hd] at ht
   change t.s.tail=y++10::bD (recs.drop (at_+1)) at ht
   refine cq.mk r dx _ rfl ((ai n1).trans h.r) (dM rfl) ?_
   refine cq.mk r dx _ rfl (ab _ _ _) (dM rfl) ⟨_,.refl _,q _ (by rw[ht];simp) ?_ λa ha hb=>?_⟩
   ·have NL:=ok.2 y (List.mem_of_getElem? hy)
    refine⟨dx,dy,y,0,at_+1,⟨ab _ _ _,?_,?_,ht,Nat.zero_le _,NL.1,NL.2,(List.getElem?_eq_some_iff.mp hy).1⟩⟩
    ·exact(ai (Ne.symm n1)).trans ((ai (Ne.symm n1)).trans (ab _ _ _))
    ·exact(ai (Ne.symm n2)).trans ((ai (Ne.symm n2)).trans ((ai (Ne.symm n3)).trans h.ra))
   ·exact(ai ha).trans ((ai ha).trans (ai hb))
  ·refine⟨_,.refl _,x ?_ ex hex⟩
   rw[ht,List.drop_eq_nil_of_le hle];rfl
theorem hV {c:Nat}{s:List Nat}(p:PG G)(ok:dN recs)(h:Rd G aa r src ra recs t)(e:t.s=c::s)(q:∀led',s≠[]->Rd G led' r src ra recs (t.at s)->bU r src aa led'->Q .none led')(x:s=[]->∀ex,r7 G (-1) ex->X ex aa):CF G 7 "step_on" [.ref r] aa Q X:=by
 refine sI p ok h (λled' h1 h2 h3=>?_) λh1=>?_
 ·rw[e] at h1 h2;exact q led' h1 h2 h3
 ·rw[e] at h1;exact x h1
theorem dY {c d:Nat}{s:List Nat}(hd:d≠10):sgn (c::s)=[d]↔c=d:=by
 show(if c=10 then[] else[c])=[d]↔_
 split
 ·rename_i h;simp;omega
 ·simp
theorem Ax {c:Nat}{s:List Nat}:sgn (c::s)=[]↔c=10:=by
 show(if c=10 then[] else[c])=[]↔_
 split<;>simp[*]
theorem km (p:PG G)(ok:dN recs)(h:Rd G aa r src ra recs t)(q:∀led',Rd G led' r src ra recs (t.at (bV t.s))->bU r src aa led'->Q .none led'):CF G 8 "skip_blanks" [.ref r] aa Q X:=by
 refine ax p.g p.rP rfl (by decide) [some (.ref r)] rfl ?_
 intro R hf hR
 have key:∀(s:List Nat) (aw:ag),bV s=bV t.s->Rd G aw r src ra recs (t.at s)->bU r src aa aw->R ⟨[some (.ref r)],aw⟩:=by
  intro s
  induction s with
  |nil=>intro aw e aN bh;obtain⟨c,s,e,_⟩:=aN.cons;cases e
  |cons c s ih=>
   intro aw e aN bh
   refine hR _ (cW (by decide) (bt p aN ⟨λhc=>?_,λhc=>?_⟩))
   ·have hc:c=32:=(dY (by decide)).mp hc
    obtain⟨c',s',e',dT⟩:=aN.cons
    cases e'
    refine cW (by decide) (hV p ok aN rfl (λled' _ cT bZ=>ih led' ?_ cT (bh.trans bZ)) λk=>absurd k (dT (by omega)))
    rw[←e,hc];rfl
   ·have hc:¬c=32:=λk=>hc ((dY (by decide)).mpr k)
    have:bV (c::s)=c::s:=by unfold bV;rw[List.dropWhile_cons_of_neg];simpa using hc
    rw[this] at e
    rw[e] at aN
    exact⟨_,.refl _,q aw aN bh⟩
 exact key t.s aa rfl h (.refl _)
theorem fT (p:PG G)(ok:dN recs)(h:Rd G aa r src ra recs t)(q:∀led',aD t.s≠[]->Rd G led' r src ra recs (t.at (aD t.s))->bU r src aa led'->Q .none led')(x:aD t.s=[]->∀ex led',r7 G (-1) ex->bU r src aa led'->X ex led'):CF G 8 "skip_gaps" [.ref r] aa Q X:=by
 refine ax p.g p.w6 rfl (by decide) [some (.ref r)] rfl ?_
 intro R hf hR
 have key:∀(s:List Nat) (aw:ag),aD s=aD t.s->Rd G aw r src ra recs (t.at s)->bU r src aa aw->R ⟨[some (.ref r)],aw⟩:=by
  intro s
  induction s with
  |nil=>intro aw e aN bh;obtain⟨c,s,e,_⟩:=aN.cons;cases e
  |cons c s ih=>
   intro aw e aN bh
   have go:cV c=true->fu G none 7 (Z G "step_on") [.ref r] [] ⟨[some (.ref r)],aw⟩ (λ_ σ=>R σ) (bc X):=λhg=>by
    have e2:aD (c::s)=aD s:=by unfold aD;rw[List.dropWhile_cons_of_pos hg]
    refine cW (by decide) (hV p ok aN rfl (λled' _ cT bZ=>ih led' (by rw[←e,e2]) cT (bh.trans bZ)) λk ex hex=>⟨_,.refl _,x ?_ ex _ hex bh⟩)
    rw[←e,e2,k];rfl
   refine hR _ (cW (by decide) (bt p aN ⟨λhc=>?_,λhc=>cW (by decide) (bt p aN ⟨λhd=>?_,λhd=>?_⟩)⟩))
   ·have hc:c=32:=(dY (by decide)).mp hc
    exact go (by rw[hc];rfl)
   ·have hd:c=10:=Ax.mp hd
    exact go (by rw[hd];rfl)
   ·have hc:¬c=32:=λk=>hc ((dY (by decide)).mpr k)
    have hd:¬c=10:=λk=>hd (Ax.mpr k)
    have:aD (c::s)=c::s:=by unfold aD cV;rw[List.dropWhile_cons_of_neg];simp[hc,hd]
    rw[this] at e
    rw[e] at aN
    exact⟨_,.refl _,q aw (by rw[←e];simp) aN bh⟩
 exact key t.s aa rfl h (.refl _)
noncomputable def DG (E:List Nat):V:=.tup (E.map λc=>.str (if c=10 then[] else[c]))
theorem mB {c:Nat}{s:List Nat}:∀(E:List Nat),dZ (sgn (c::s)) (E.map λc=>.str (if c=10 then[] else[c]))=E.contains c:=by
 intro z_
 induction z_ with
 |nil=>exact rfl
 |cons d E ih=>
  show(decide ((if d=10 then[] else[d])=sgn (c::s))||dZ _ (E.map _))=_
  rw[ih,List.contains_cons]
  congr 1
  show decide ((if d=10 then[] else[d])=(if c=10 then[] else[c]))=(c==d)
  by_cases h1:d=10
  ·by_cases h2:c=10
   ·rw[h1,h2];rfl
   ·rw[aL h1,aA h2,h1,beq_eq_false_iff_ne.mpr h2];rfl
  ·by_cases h2:c=10
   ·rw[aA h1,aL h2,h2,beq_eq_false_iff_ne.mpr (Ne.symm h1)];rfl
   ·rw[aA h1,aA h2]
    by_cases h3:c=d
    ·rw[h3];simp
    ·rw[beq_eq_false_iff_ne.mpr h3]
     exact decide_eq_false λk=>h3 (by injection k with k;exact k.symm)
theorem FU (E:List Nat):(E.map λc=>V.str (if c=10 then[] else[c])).all ig=true:=by
 induction E with
 |nil=>rfl
 |cons c E ih=>exact ih
theorem lr (p:PG G)(ok:dN recs){E:List Nat}(RX:10∈E)(h:Rd G aa r src ra recs t)(q:∀led',(cP E t.s).length<=200->Rd G led' r src ra recs (t.at (dj E t.s))->bU r src aa led'->Q (.str (cP E t.s)) led'):CF G 8 "take_run" [.ref r,DG E] aa Q X:=by
 refine ax p.g p.zH rfl (by decide) [some (.ref r),some (DG E),none] rfl ?_
 intro R hf hR
 have short:∀{aw:ag} {s:List Nat},Rd G aw r src ra recs (t.at s)->(cP E s).length<=200:=λ{aw s} h=>by
  obtain⟨dx,dy,rec,col,at_,h⟩:=h
  have hs:s=rec.drop col++10::bD (recs.drop at_):=h.s
  rw[hs]
  have:∀(u v:List Nat),(cP E (u++10::v)).length<=u.length:=by
   intro u v
   induction u with
   |nil=>unfold cP;rw[List.nil_append,List.takeWhile_cons_of_neg (by simpa using RX)];simp
   |cons c u ih=>
    unfold cP at ih ⊢
    rw[List.cons_append,List.takeWhile_cons]
    split
    ·simp only[mX];exact a20 0x18ad2a0969502c4101 tt ih
    ·simp
  have h2:=this (rec.drop col) (bD (recs.drop at_))
  have h3:=h.rl
  rw[pE] at h2
  exact dq 0x624e44302c4101624e44306c4182 [_,_,_,0] [] tt h2 h3 (Nat.sub_le _ _:)
 have key:∀(s pre:List Nat) (aw:ag),cP E t.s=pre++cP E s->dj E s=dj E t.s->Rd G aw r src ra recs (t.at s)->bU r src aa aw->R ⟨[some (.ref r),some (DG E),some (.str pre)],aw⟩:=by
  intro s
  induction s with
  |nil=>intro pre aw e1 e aN bh;obtain⟨c,s,e,_⟩:=aN.cons;cases e
  |cons c s ih=>
   intro pre aw e1 e aN bh
   refine hR _ (cW (by decide) (bt p aN ⟨FU E,λhc=>?_,λhc=>?_⟩))
   ·have hc:E.contains c=true:=(mB E)▸hc
    have t1:cP E (c::s)=[]:=by unfold cP;rw[List.takeWhile_cons_of_neg];simpa using hc
    have t2:dj E (c::s)=c::s:=by unfold dj;rw[List.dropWhile_cons_of_neg];simpa using hc
    rw[t1,List.append_nil] at e1
    rw[t2] at e
    rw[e] at aN
    have:=short h
    rw[e1] at q this
    exact⟨_,.refl _,q aw this aN bh⟩
   ·have hc:¬E.contains c=true:=λk=>hc ((mB E).symm▸k)
    have O8:c≠10:=λk=>hc (by rw[k];exact List.contains_iff_mem.mpr RX)
    have t1:cP E (c::s)=c::cP E s:=by unfold cP;rw[List.takeWhile_cons_of_pos];simpa using hc
    have t2:dj E (c::s)=dj E s:=by unfold dj;rw[List.dropWhile_cons_of_pos];simpa using hc
    have es:sgn (c::s)=[c]:=(dY O8).mpr rfl
    have hl:=short h
    rw[e1,t1] at hl
    refine cW (by decide) (bt p aN ?_)
    show xS .add (.str pre) (.str (sgn (c::s))) _
    rw[es]
    refine⟨by simp at hl ⊢;exact a20 0x624ffc8e90c0b127221ad5a54101 tt hl,?_⟩
    obtain⟨c',s',e',dT⟩:=aN.cons
    cases e'
    refine cW (by decide) (hV p ok aN rfl (λled' _ cT bZ=>ih (pre++[c]) led' ?_ ?_ cT (bh.trans bZ)) λk=>absurd k (dT O8))
    ·rw[e1,t1];simp
    ·rw[←e,t2]
 exact key t.s [] aa rfl rfl h (.refl _)
end
theorem jm (c:Nat)(s:List Nat):lG (c::s)=if c=39 then(match s with
   |d::s'=>if d=39 then(lG s').map λx=>(39::x.1,x.2) else some ([],d::s')
   |[]=>none) else(lG s).map λx=>(if c=10 then x.1 else c::x.1,x.2):=by
 cases s<;>rfl
theorem Bs:∀{l:List (List Nat)},(∀x∈l,x.length<=200)->(bD l).length<=201*l.length:=by
 intro z_
 induction z_ with
 |nil=>
  intro _
  exact eR _
 |cons r rs ih=>
  intro h
  have:=ih λx hx=>h x (.tail _ hx)
  have h0:=h r (.head _)
  show(r++10::bD rs).length<=_
  rw[cN,mX,mX];exact a30 0xc57c986b4a825ab4a8106c57c986080b12722183 tt this h0
section
variable {G:GC}{aa:ag}{Q:V->ag->Prop}{X:Ex->ag->Prop}{r src ra:Addr}{recs:List (List Nat)}{t:Rs}
theorem Rd.len (ok:dN recs)(h:Rd G aa r src ra recs t):t.s.length<=202000:=by
 obtain⟨dx,dy,rec,col,at_,h⟩:=h
 rw[h.s,cN,mX,pE]
 have h1:=Bs (l:=recs.drop at_) λx hx=>(ok.2 x (List.mem_of_mem_drop hx)).2
 rw[pE] at h1
 exact fm (Nat.add_le_add (fm (Nat.sub_le ..) h.rl) (Nat.succ_le_succ (fm h1 (Nat.mul_le_mul_left 201 (fm (Nat.sub_le ..) ok.1))))) (by decide)
theorem nX (p:PG G)(ok:dN recs){d:Nat}(hd:d≠10)(h:Rd G aa r src ra recs t)(q:∀s led',dX d t.s=.ok s->Rd G led' r src ra recs (t.at s)->bU r src aa led'->Q .none led')(x:∀k,dX d t.s=.error k->∀ex,r7 G k ex->X ex aa):CF G 8 "take_sign" [.ref r,.str [d]] aa Q X:=by
 refine ax p.g p.wY rfl (by decide) [some (.ref r),some (.str [d])] rfl ?_
 obtain⟨c,s,e,dT⟩:=h.cons
 unfold dX at q x
 rw[e] at q x
 have hs:sgn t.s=[d]↔c=d:=by rw[e];exact dY hd
 refine cW (by decide) (bt p h ⟨λhc=>?_,λhc=>?_⟩)
 ·have hc:c=d:=hs.mp hc
  refine cW (by decide) (hV p ok h e (λled' _ cT bZ=>⟨_,.refl _,q s led' (by rw[hc];simp) cT bZ⟩) λk=>absurd k (dT (by omega)))
 ·have hc:¬c=d:=λk=>hc (hs.mpr k)
  exact oI p (by decide) (x 1 (by simp[hc]))
theorem rD (p:PG G)(ok:dN recs)(h:Rd G aa r src ra recs t)(q:∀y led',lG t.s.tail=some y->y.1.length<=500000->Rd G led' r src ra recs (t.at y.2)->bU r src aa led'->Q (.str y.1) led')(x:lG t.s.tail=none->∀ex led',r7 G (-1) ex->bU r src aa led'->X ex led'):CF G 8 "take_quoted" [.ref r] aa Q X:=by
 refine ax p.g p.rM rfl (by decide) [some (.ref r),none,none] rfl ?_
 have hlen:=h.len ok
 refine cW (by decide) (sI p ok h (λaw h1 h2 h3=>?_) λh1 ex hex=>⟨_,.refl _,x (by rw[h1];rfl) ex _ hex (.refl _)⟩)
 intro R hf hR
 have key:∀(n:Nat) (s:List Nat),s.length<=n->∀(acc:List Nat) (y:Option V) (aw:ag),lG t.s.tail=(lG s).map (λx=>(acc++x.1,x.2))->acc.length+s.length<=202000->Rd G aw r src ra recs (t.at s)->bU r src aa aw->R ⟨[some (.ref r),some (.str acc),y],aw⟩:=by
  intro n
  induction n with
  |zero=>intro s hn acc y aw e hl aN bh;obtain⟨c,s',e',_⟩:=aN.cons;have e':s=_:=e';rw[e'] at hn;simp at hn
  |succ n ih=>
   intro s hn acc y aw e hl aN bh
   obtain⟨c,s',e',dT⟩:=aN.cons
   change s=c::s' at e'
   subst e'
   simp only[mX] at hn hl
   refine hR _ ⟨λ_=>?_,λk=>by cases k⟩
   refine cW (by decide) (bt p aN ?_)
   have sg:sgn (c::s')=if c=10 then[] else[c]:=rfl
   refine cW (by decide) (hV p ok aN rfl (λcR Bd cT bZ=>?_) λk ex hex=>⟨_,.refl _,x ?_ ex _ hex bh⟩)
   ·obtain⟨d,jD,e4,Up⟩:=cT.cons
    have e3:s'=d::jD:=e4
    refine⟨λhc=>?_,λhc=>?_⟩
    ·have hc:c=39:=(dY (by decide)).mp hc
     subst hc
     refine cW (by decide) (bt p cT ⟨λhd=>?_,λhd=>?_⟩)
     ·change sgn s'=[39] at hd
      rw[e3] at hd
      have hd:d=39:=(dY (by decide)).mp hd
      subst hd
      have eq:lG (39::s')=(lG jD).map λx=>(39::x.1,x.2):=by rw[jm,aL rfl,e3];rfl
      rw[eq] at e
      have gY:s'.length=jD.length+1:=by rw[e3];rfl
      refine cW (by decide) (hV p ok cT e4 (λjh _ fG eN=>⟨?_,?_⟩) λk=>absurd k (Up (by decide)))
      ·show acc.length+[39].length<=_;rw[dk];exact dq 0xc49c093d21ad2a05893a1538ad5a54101 [_,_,0] [] tt hl
      ·refine ih jD (by exact a30 0x62081b15a5412d2a05c335a54181 tt hn gY) (acc++[39]) _ jh (by rw[e];cases lG jD<;>simp) (by rw[cN,dk];exact a30 0x1893a1538ad06b4a81624e854e2b56950405c335a54182 tt hl gY) fG (bh.trans (bZ.trans eN))
     ·change ¬sgn s'=[39] at hd
      rw[e3] at hd
      have hd:¬d=39:=λk=>hd ((dY (by decide)).mpr k)
      have eq:lG (39::s')=some ([],s'):=by rw[jm,aL rfl,e3];exact aA hd
      rw[eq] at e
      exact⟨_,.refl _,q (acc,s') cR (by rw[e];simp) (by show acc.length<=_;exact a20 0x31278227a8205893a1538ad5a54101 tt hl) cT (bh.trans bZ)⟩
    ·have hc:¬c=39:=λk=>hc ((dY (by decide)).mpr k)
     have eq:lG (c::s')=(lG s').map λx=>(if c=10 then x.1 else c::x.1,x.2):=by
      rw[jm,aA hc]
     rw[eq] at e
     refine⟨?_,ih s' (by exact a20 0x188202c569504b4a81 tt hn) (acc++sgn (c::s')) _ cR ?_ ?_ cT (bh.trans bZ)⟩
     ·show acc.length+(sgn (c::s')).length<=_
      rw[sg];split<;>simp<;>omega
     ·rw[e,sg];cases lG s'<;>simp<;>split<;>simp
     ·rw[cN,sg];split<;>simp<;>omega
   ·have:lG (c::s')=none:=by
     rw[jm,k]
     split<;>rfl
    rw[e,this];rfl
 exact key _ t.s.tail (eR _) [] none aw (by cases lG t.s.tail<;>simp) (by simp;exact a10 0x624e8d4e205893a153881 tt hlen) h2 h3
end
theorem gP {E s:List Nat}{d:Nat}(hd:d∈E):∀c∈cP E s,c≠d:=by
 induction s with
 |nil=>intro c h;cases h
 |cons a s ih=>
  intro c h e
  unfold cP at h ih
  rw[List.takeWhile_cons] at h
  split at h
  ·rename_i ha
   rcases List.mem_cons.mp h with h|h
   ·rw[h] at e;rw[e] at ha;simp at ha;exact ha hd
   ·exact ih c h e
  ·cases h
section
variable {G:GC}{aa:ag}{Q:V->ag->Prop}{X:Ex->ag->Prop}{r src ra:Addr}{recs:List (List Nat)}{t:Rs}
theorem wF (p:PG G)(ok:dN recs)(h:Rd G aa r src ra recs t)(h0:t.s.head?=some 40)(q:∀y led',pairE t.s.tail=.ok y->y.1.ok->Rd G led' r src ra recs (t.at y.2)->bU r src aa led'->Q y.1.v led')(x:∀k,pairE t.s.tail=.error k->∀ex led',r7 G k ex->bU r src aa led'->X ex led'):CF G 9 "take_pair" [.ref r] aa Q X:=by
 refine ax p.g p.wZ rfl (by decide) [some (.ref r),none,none] rfl ?_
 obtain⟨c,s,e,dT⟩:=h.cons
 rw[e] at h0 q x
 have h0:c=40:=by simpa using h0
 rw[List.tail_cons] at q x
 unfold pairE at q x
 have So:10∈bo:=by decide
 refine cW (by decide) (hV p ok h e (λaw _ aN ak=>?_) λk=>absurd k (dT (by omega)))
 refine cW (by decide) (km p ok aN λcR cT aT=>?_)
 have aT:=ak.trans aT
 refine cW (by decide) (lr (E:=bo) p ok So cT λjh lK fG bQ=>?_)
 have bQ:=aT.trans bQ
 refine cW (by decide) (fT p ok fG (λMp C1 kK cY=>?_) λk ex led' hex hs=>⟨_,.refl _,x (-1) ?_ ex _ hex (bQ.trans hs)⟩)
 rotate_left
 ·change aD (dj bo (bV s))=[] at k
  rw[k];rfl
 have cY:=bQ.trans cY
 have C1:aD (dj bo (bV s))≠[]:=C1
 have UN:rV (aD (dj bo (bV s)))=.ok (aD (dj bo (bV s))):=aA C1
 rw[UN] at q x
 refine cW (by decide) (nX (d:=44) p ok (by decide) kK (λxE yj Lg K8 Ba=>?_) λk hk ex hex=>⟨_,.refl _,x k ?_ ex _ hex cY⟩)
 rotate_left
 ·change dX 44 (aD (dj bo (bV s)))=.error k at hk
  dsimp only[dC];rw[hk]
 have Ba:=cY.trans Ba
 have Lg:dX 44 (aD (dj bo (bV s)))=.ok xE:=Lg
 unfold dC at q x
 dsimp only at q x
 rw[Lg] at q x
 dsimp only at q x
 refine cW (by decide) (fT p ok K8 (λVg KR kJ g9=>?_) λk ex led' hex hs=>⟨_,.refl _,x (-1) ?_ ex _ hex (Ba.trans hs)⟩)
 rotate_left
 ·change aD xE=[] at k
  rw[k];rfl
 have g9:=Ba.trans g9
 have KR:aD xE≠[]:=KR
 have UM:rV (aD xE)=.ok (aD xE):=aA KR
 rw[UM] at q x
 dsimp only at q x
 refine cW (by decide) (lr (E:=bo) p ok So kJ λVf T4 xM pI=>?_)
 have pI:=g9.trans pI
 refine cW (by decide) (km p ok xM λVe K7 pH=>?_)
 have pH:=pI.trans pH
 refine cW (by decide) (nX (d:=41) p ok (by decide) K7 (λTp Mo Lf Uj CV=>?_) λk hk ex hex=>⟨_,.refl _,x k ?_ ex _ hex pH⟩)
 rotate_left
 ·change dX 41 (bV (dj bo (aD xE)))=.error k at hk
  rw[hk]
 have Lf:dX 41 (bV (dj bo (aD xE)))=.ok Tp:=Lf
 rw[Lf] at q
 have VF:32∈bo:=by decide
 exact⟨l3,⟨_,.refl _,q _ Mo rfl ⟨⟨gP VF,lK⟩,gP VF,T4⟩ Uj (pH.trans CV)⟩⟩
theorem oK (p:PG G)(ok:dN recs)(h:Rd G aa r src ra recs t)(h0:bS.contains (t.s.headD 10)=false)(q:∀y led',cH t.s=.ok y->y.1.ok->Rd G led' r src ra recs (t.at y.2)->bU r src aa led'->Q y.1.v led')(x:∀k,cH t.s=.error k->∀ex led',r7 G k ex->bU r src aa led'->X ex led'):CF G 10 "take_constant" [.ref r] aa Q X:=by
 refine ax p.g p.oR rfl (by decide) [some (.ref r),none,none] rfl ?_
 obtain⟨c,s,e,dT⟩:=h.cons
 rw[e] at h0
 change bS.contains c=false at h0
 have hd:t.s.head?=some c:=by rw[e];rfl
 unfold cH at q x
 rw[hd] at q x
 have u0:10∈bS:=by decide
 have sg:∀d,d≠10->(sgn t.s=[d]↔c=d):=λd hd=>by rw[e];exact dY hd
 have fin:∀{y:V} {aw:ag} {tk:Tk} {u:List Nat},Rd G aw r src ra recs (t.at u)->bU r src aa aw->tk.ok->(if(some c:Option Nat)=some 39 then Bb t.s.tail else if(some c:Option Nat)=some 40 then pairE t.s.tail else .ok (.run (cP bS t.s),dj bS t.s))=.ok (tk,u)->bf G none 9 (bB Q) (bc X) [
   site (aq .dw (aj "sign_here" [loc 0]) (glob 10)) [
    hG (aj "IoFault" [glob 8,lit (.str [110,111,32,115,101,112,97,114,97,116,111,114,32,98,101,104,105,110,100,32,97,32,99,111,110,115,116,97,110,116])])] [],
   aC (loc 2)] ⟨[some (.ref r),some y,some tk.v],aw⟩:=λ{y aw tk u} aN ak ht ey=>by
  rw[ey] at q x
  obtain⟨c',s',e',_⟩:=aN.cons
  change u=c'::s' at e'
  have hs:dZ (sgn u) (bS.map λc=>.str (if c=10 then[] else[c]))=bS.contains c':=by rw[e'];exact mB bS
  refine cW (by decide) (bt p aN ⟨rfl,λhc=>?_,λhc=>?_⟩)
  ·have hc:bS.contains c'=true:=hs▸hc
   exact⟨_,.refl _,q (tk,u) aw (by show(if _ then _ else _)=_;rw[e'];exact aL hc) ht aN ak⟩
  ·have hc:¬bS.contains c'=true:=λk=>hc (hs.symm▸k)
   refine oI p (by decide) λex hex=>x 1 (by show(if _ then _ else _)=_;rw[e'];exact aA hc) ex _ hex ak
 refine cW (by decide) (bt p h ⟨λhc=>?_,λhc=>?_⟩)
 ·have hc:c=39:=(sg 39 (by decide)).mp hc
  refine cW (by decide) (rD p ok h (λy led' ey hy aN ak=>⟨l2,?_⟩) λey ex led' hex hs=>⟨_,.refl _,x (-1) ?_ ex _ hex hs⟩)
  ·refine fin (tk:=.text y.1) aN ak hy ?_
   rw[hc,aL rfl];unfold Bb;rw[ey]
  ·rw[hc,aL rfl];unfold Bb;rw[ey];rfl
 ·have hc:¬c=39:=λk=>hc ((sg 39 (by decide)).mpr k)
  have i1:¬(some c:Option Nat)=some 39:=λk=>hc (Option.some.inj k)
  refine⟨λhb=>?_,λhb=>?_⟩
  ·have hb:c=40:=(sg 40 (by decide)).mp hb
   refine cW (by decide) (wF p ok h (by rw[hd,hb]) (λy led' ey hy aN ak=>?_) λk ek ex led' hex hs=>⟨_,.refl _,x k ?_ ex _ hex hs⟩)
   ·refine fin (tk:=y.1) aN ak hy ?_
    rw[aA i1,hb,aL rfl,ey]
   ·rw[aA i1,hb,aL rfl,ek];rfl
  ·have hb:¬c=40:=λk=>hb ((sg 40 (by decide)).mpr k)
   have i2:¬(some c:Option Nat)=some 40:=λk=>hb (Option.some.inj k)
   refine cW (by decide) (lr (E:=bS) p ok u0 h λled' hl aN ak=>⟨l2,?_⟩)
   refine fin (tk:=.run (cP bS t.s)) aN ak ⟨⟨gP (by decide),hl⟩,?_⟩ ?_
   ·rw[e];unfold cP;rw[List.takeWhile_cons_of_pos (by rw[h0];rfl)];simp
   ·rw[aA i1,aA i2]
end
theorem mc {c:Nat}:c∈[48,49,50,51,52,53,54,55,56,57]↔eV c=true:=by
 constructor
 ·exact(by decide:∀c∈[48,49,50,51,52,53,54,55,56,57],eV c=true) c
 ·intro h
  unfold eV at h
  rw[Bool.and_eq_true,decide_eq_true_eq,decide_eq_true_eq] at h
  exact uy (P:=λc=>c∈[48,49,50,51,52,53,54,55,56,57]) (by decide) h.1 h.2
theorem sZ {u v:List Nat}:bW (u++10::v)=bW u/\eT (u++10::v)=eT u++10::v:=by
 induction u with
 |nil=>exact⟨rfl,rfl⟩
 |cons c u ih=>
  unfold bW eT at ih ⊢
  rw[List.cons_append,List.takeWhile_cons,List.dropWhile_cons,List.takeWhile_cons,List.dropWhile_cons]
  split
  ·exact⟨by rw[ih.1],ih.2⟩
  ·exact⟨rfl,rfl⟩
theorem pA (u:List Nat):bW u++eT u=u:=List.takeWhile_append_dropWhile
theorem FY (u:List Nat):u.drop (bW u).length=eT u:=by
 have h:=List.drop_left' (l₁:=bW u) (l₂:=eT u) rfl
 rwa [pA] at h
theorem FW (u:List Nat):u.take (bW u).length=bW u:=by
 have h:=List.take_left' (l₁:=bW u) (l₂:=eT u) rfl
 rwa [pA] at h
theorem wi {u:List Nat}:∀c∈bW u,48<=c/\c<=57:=by
 induction u with
 |nil=>intro c h;cases h
 |cons a u ih=>
  intro c h
  unfold bW at h ih
  rw[List.takeWhile_cons] at h
  split at h
  ·rename_i ha
   rcases List.mem_cons.mp h with h|h
   ·rw[h];unfold eV at ha;simpa using ha
   ·exact ih c h
  ·cases h
section
variable {G:GC}{aa:ag}{Q:V->ag->Prop}{X:Ex->ag->Prop}{r src ra:Addr}{recs:List (List Nat)}{t:Rs}
theorem rC (p:PG G)(ok:dN recs)(h:Rd G aa r src ra recs t)(q:∀n s led',oH t.s=.ok (n,s)->Rd G led' r src ra recs (t.at s)->bU r src aa led'->Q (.int n) led')(x:∀k,oH t.s=.error k->∀ex,r7 G k ex->X ex aa):CF G 5 "take_repeat" [.ref r] aa Q X:=by
 have GN:=h
 obtain⟨dx,dy,rec,col,at_,h⟩:=h
 refine ax p.g p.rL rfl (by decide) [some (.ref r),none,none,none] rfl ?_
 have Gn:=h.rl
 have Uy:=h.col
 obtain⟨n1,n2,n3⟩:=h.ne
 refine bG.mk r dx _ _ rfl h.r rfl (bG.mk r dx _ _ rfl h.r rfl ?_)
 intro R hf hR
 have e1:bW t.s=bW (rec.drop col):=by rw[h.s];exact sZ.1
 have e2:eT t.s=eT (rec.drop col)++10::bD (recs.drop at_):=by rw[h.s];exact sZ.2
 have apps:=pA (rec.drop col)
 have fin:bf G none 4 (bB Q) (bc X) [
   site (gw [aq .eq (loc 2) (attr 5 2 (loc 0)),aq .ne (gr true (loc 1) (some (loc 2)) (some (bin .add (loc 2) (lit (.int 1))))) (lit (.str [42]))]) [
    aC (lit (.int 1))] [],
   aM 3 (aj "whole_of" [gr true (loc 1) (some (attr 5 2 (loc 0))) (some (loc 2))]),
   site (aq .eq (loc 3) (lit (.int 0))) [
    hG (aj "IoFault" [glob 8,lit (.str [97,32,99,111,110,115,116,97,110,116,32,105,115,32,116,111,108,100,32,110,111,32,116,105,109,101,115])])] [],
   sset (bw 5 2 (loc 0)) (bin .add (loc 2) (lit (.int 1))),
   aC (loc 3)] ⟨[some (.ref r),some (.str rec),some (.int (col+(bW (rec.drop col)).length:Nat)),none],aa⟩:=by
  unfold oH at q x
  have hl:rec.length<=1000000:=by exact a10 0x624e049e90c0b12722181 tt Gn
  have hd:rec.drop (col+(bW (rec.drop col)).length)=eT (rec.drop col):=by
   rw[←List.drop_drop]
   exact FY _
  have hh:(eT t.s).head?=some 42↔(eT (rec.drop col)).take 1=[42]:=by
   rw[e2]
   cases eT (rec.drop col) with
   |nil=>simp
   |cons a b=>simp
  have one:bW t.s=[]∨(eT t.s).head?≠some 42->∀loc,bB Q (.ret (.int 1)) ⟨loc,aa⟩:=λk loc=>by
   rw[aL k] at q
   exact aP (q 1 t.s aa rfl GN (.refl _))
  refine bG.mk r dx _ _ rfl h.r rfl ⟨λk=>?_,λk=>?_⟩
  ·change (((col+(bW (rec.drop col)).length:Nat):Int))=col at k
   exact one (.inl (by rw[e1];exact List.eq_nil_of_length_eq_zero (by exact Nat.le_antisymm (a20 0x189404d980160b4101 tt (by assumption)) (dq 0xc4114 [0,_] [] tt)))) _
  ·change ¬(((col+(bW (rec.drop col)).length:Nat):Int))=col at k
   have dT:bW (rec.drop col)≠[]:=λe=>k (by rw[e];simp)
   refine aV hl (aZ _) (pB _) ⟨λk2=>?_,λk2=>?_⟩
   rotate_left
   ·change ¬cut rec _ _=[42] at k2
    rw[mf,hd] at k2
    exact one (.inr λk=>k2 (hh.mp k)) _
   change cut rec _ _=[42] at k2
   rw[mf,hd] at k2
   have hn:¬(bW t.s=[]∨(eT t.s).head?≠some 42):=by
    rw[e1]
    rintro(k|k)
    ·exact dT k
    ·exact k (hh.mpr k2)
   rw[aA hn] at q x
   have hc:cut rec (some col) (some (col+(bW (rec.drop col)).length))=bW t.s:=by
    rw[e1]
    show(rec.take (col+_)).drop col=_
    rw[List.drop_take,Nat.add_sub_cancel_left]
    exact FW _
   refine bG.mk r dx _ _ rfl h.r rfl (aV hl (aZ _) (aZ _) ?_)
   refine cW (by decide) (iz p ?_)
   show bf G none 4 (bB Q) (bc X) [_,_,_] ⟨[_,_,_,some (.int (aH (cut rec _ _)))],aa⟩
   rw[hc]
   refine⟨λk3=>?_,λk3=>?_⟩
   ·change aH (bW t.s)=0 at k3
    rw[aL k3] at x
    exact oI p (by decide) (x 1 rfl)
   ·change ¬aH (bW t.s)=0 at k3
    rw[aA k3] at q
    have hlen:(bW (rec.drop col)).length<(rec.drop col).length:=by
     have t1:=congrArg List.length apps
     rw[cN] at t1
     have:(eT (rec.drop col)).length≠0:=λe=>by rw[List.eq_nil_of_length_eq_zero e] at k2;cases k2
     have t2:=Nat.pos_of_ne_zero this
     omega
    rw[pE] at hlen
    refine cq.mk r dx _ rfl h.r (dM rfl) (aP (q _ _ _ rfl ⟨dx,dy,rec,col+(bW (rec.drop col)).length+1,at_,⟨ab _ _ _,(ai (Ne.symm n1)).trans h.src,(ai (Ne.symm n2)).trans h.ra,?_,Nat.add_lt_of_lt_sub' hlen,h.nl,h.rl,h.at_⟩⟩ λa ha _=>ai ha))
    show(eT t.s).tail=_
    rw[e2,←List.drop_drop,hd]
    cases xB:eT (rec.drop col) with
    |nil=>rw[xB] at k2;cases k2
    |cons a b=>simp
 have key:∀(u pre:List Nat),rec.drop col=pre++u->(∀c∈pre,eV c=true)->R ⟨[some (.ref r),some (.str rec),some (.int (col+pre.length:Nat)),none],aa⟩:=by
  intro u
  induction u with
  |nil=>
   intro pre e hp
   rw[List.append_nil] at e
   have hl:col+pre.length=rec.length:=by have:=congrArg List.length e;rw[pE] at this;rw[←this];exact Nat.add_sub_cancel' Uy
   have hd:bW (rec.drop col)=pre:=by
    rw[e]
    have:∀l:List Nat,(∀c∈l,eV c=true)->bW l=l:=by
     intro l
     induction l with
     |nil=>intro _;rfl
     |cons a l ih=>intro h;unfold bW at ih ⊢;rw[List.takeWhile_cons_of_pos (h a (.head _)),ih λc hc=>h c (.tail _ hc)]
    exact this pre hp
   rw[hd] at fin
   refine hR _ ⟨by exact a10 0x31270346ccdec0b12722181 tt Gn,λk=>?_,λk=>fin⟩
   change ((col+pre.length:Nat):Int)<rec.length at k
   exact False.elim (iY 0 (a30 0x6450a38660d68202d580360b4101 tt hl (by assumption)))
  |cons c u ih=>
   intro pre e hp
   have hl:col+pre.length<rec.length:=by have:=congrArg List.length e;rw[pE,cN,mX] at this;exact Nat.add_lt_of_lt_sub' (this▸Nat.lt_add_of_pos_right (Nat.succ_pos _))
   have hc:rec[col+pre.length]?=some c:=by rw[←List.getElem?_drop,e];simp
   refine hR _ ⟨by exact a10 0x31270346ccdec0b12722181 tt Gn,λk=>?_,λk=>?_⟩
   ·refine item_str (by rw[fB];exact hc) ⟨by exact a20 0x3460b41015c4e068d99bd94 tt,by exact a30 0x34270346ccded82d0609893910c0b202b4182 tt Gn hl⟩ ⟨λk2=>?_,λk2=>?_⟩
    ·change c∈[48,49,50,51,52,53,54,55,56,57] at k2
     have:=ih (pre++[c]) (by rw[e];simp) λd hd=>by
      rcases List.mem_append.mp hd with hd|hd
      ·exact hp d hd
      ·rw[List.mem_singleton.mp hd];exact mc.mp k2
     rw[cN] at this
     exact this
    ·change ¬c∈[48,49,50,51,52,53,54,55,56,57] at k2
     have hd:bW (rec.drop col)=pre:=by
      rw[e]
      have:∀l:List Nat,(∀c∈l,eV c=true)->bW (l++c::u)=l:=by
       intro l
       induction l with
       |nil=>intro _;unfold bW;rw[List.nil_append,List.takeWhile_cons_of_neg (λk=>k2 (mc.mpr k))]
       |cons a l ih=>intro h;unfold bW at ih ⊢;rw[List.cons_append,List.takeWhile_cons_of_pos (h a (.head _)),ih λc hc=>h c (.tail _ hc)]
      exact this pre hp
     rw[hd] at fin
     exact fin
   ·change ¬((col+pre.length:Nat):Int)<rec.length at k
    exact False.elim (iY 0 (a30 0xc8a14640d68202d182d0405803 tt hl (uU (by assumption):)))
 exact key (rec.drop col) [] rfl λc hc=>by cases hc
end
section
variable {G:GC}{aa:ag}{Q:V->ag->Prop}{X:Ex->ag->Prop}{r src ra:Addr}{recs:List (List Nat)}{t:Rs}
theorem I5.set {dx dy:Addr}{rec:List Nat}{col at_:Nat}(h:I5 G aa r src ra recs t dx dy rec col at_)(n:Int)(o:Option Tk)(b d:Bool):
  I5 G (put aa r (ob G 5 dx [.ref src,.str rec,.int col,.int n,eo o,.bool b,.bool d])) r src ra recs ⟨t.s,n,o,b,d⟩ dx dy rec col at_:=by
 obtain⟨n1,n2,n3⟩:=h.ne
 exact⟨ab _ _ _,(ai (Ne.symm n1)).trans h.src,(ai (Ne.symm n2)).trans h.ra,h.s,h.col,h.nl,h.rl,h.at_⟩
noncomputable def GH (o:Option Tk):Prop:=∀k,o=some k->k.ok
theorem oM (p:PG G)(ok:dN recs)(h:Rd G aa r src ra recs t)(hk:GH t.held)(q:∀o t' led',b8 t=.ok (o,t')->GH o->GH t'.held->Rd G led' r src ra recs t'->bU r src aa led'->Q (eo o) led')(x:∀k,b8 t=.error k->∀ex led',r7 G k ex->bU r src aa led'->X ex led'):CF G 11 "next_constant" [.ref r] aa Q X:=by
 refine ax p.g p.oS rfl (by decide) [some (.ref r)] rfl ?_
 have no:GH none:=λk e=>by cases e
 obtain⟨out,hn⟩:∃out,b8 t=out:=⟨_,rfl⟩
 rw[hn] at q x
 unfold b8 at hn
 have GN:=h
 obtain⟨dx,dy,rec,col,at_,h⟩:=h
 refine bG.mk r dx _ _ rfl h.r rfl ⟨λc=>?_,λc=>?_⟩
 ·change t.left>0 at c
  rw[aL c] at hn
  refine bG.mk r dx _ _ rfl h.r rfl (cq.mk r dx _ rfl h.r (dM rfl) ?_)
  refine bG.mk r dx [.ref src,.str rec,.int col,.int (t.left-1),eo t.held,.bool t.eS,.bool t.done] _ rfl (ab _ _ _) rfl ?_
  exact aP (q _ _ _ hn.symm hk hk ⟨dx,dy,rec,col,at_,h.set (t.left-1) t.held t.eS t.done⟩ λa ha _=>ai ha)
 change ¬t.left>0 at c
 rw[aA c] at hn
 refine bG.mk r dx _ _ rfl h.r rfl ⟨λd=>?_,λd=>?_⟩
 ·rw[aL d] at hn
  exact aP (q _ _ _ hn.symm no hk GN (.refl _))
 have d':¬t.done=true:=λk=>by rw[k] at d;cases d
 rw[aA d'] at hn
 have fin:∀(aw:ag) (ak:List Nat),vl t=.ok ak->Rd G aw r src ra recs { t with s:=ak,eS:=false }->bU r src aa aw->bf G none 10 (bB Q) (bc X) [
   gu (aj "skip_gaps" [loc 0]),
   site (aq .eq (aj "sign_here" [loc 0]) (lit (.str [47]))) [
    sset (bw 5 6 (loc 0)) (lit (.bool true)),
    aC (lit .none)] [],
   site (aq .eq (aj "sign_here" [loc 0]) (lit (.str [44]))) [
    gu (aj "step_on" [loc 0]),
    aC (lit .none)] [],
   sset (bw 5 3 (loc 0)) (bin .sub (aj "take_repeat" [loc 0]) (lit (.int 1))),
   sset (bw 5 4 (loc 0)) (lit .none),
   site (aq .dw (aj "sign_here" [loc 0]) (glob 10)) [
    sset (bw 5 4 (loc 0)) (aj "take_constant" [loc 0])] [],
   sset (bw 5 5 (loc 0)) (lit (.bool true)),
   aC (attr 5 4 (loc 0))] ⟨[some (.ref r)],aw⟩:=λaw ak Bg aN bh=>by
  have hn:j7 t ak=out:=(qb Bg).symm.trans hn
  refine cW (by decide) (fT p ok aN (λcR Bd cT bZ=>?_) λk ex led' hex hs=>⟨_,.refl _,x (-1) ?_ ex _ hex (bh.trans hs)⟩)
  rotate_left
  ·change aD ak=[] at k
   rw[←hn];unfold j7;rw[k];rfl
  have bZ:=bh.trans bZ
  have Bd:aD ak≠[]:=Bd
  have hn:Ae t (aD ak)=out:=(qb (aA Bd)).symm.trans hn
  have cT:Rd G cR r src ra recs { t with s:=aD ak,eS:=false }:=cT
  generalize aD ak=aT at cT hn
  obtain⟨cj,tG,lU,dT⟩:=cT.cons
  have lU:aT=cj::tG:=lU
  subst lU
  have sg:∀d,d≠10->(sgn (cj::tG)=[d]↔cj=d):=λd hd=>dY hd
  have hp:∀d,cj=d->(cj::tG).head?=some d:=λd e=>by rw[e];rfl
  have hm:∀d,¬cj=d->¬(cj::tG).head?=some d:=λd e k=>e (Option.some.inj k)
  have Qx:=cT
  obtain⟨sr,Q4,LV,MV,Rl,OV⟩:=Qx
  refine cW (by decide) (bt p cT ⟨λk=>?_,λk=>?_⟩)
  ·have k:cj=47:=(sg 47 (by decide)).mp k
   have hn:=(aL (hp _ k)).symm.trans hn
   refine cq.mk r sr _ rfl OV.r (dM rfl) ?_
   exact aP (q _ _ _ hn.symm no hk ⟨sr,Q4,LV,MV,Rl,OV.set t.left t.held false true⟩ (bZ.trans λa ha _=>ai ha))
  have Xm:¬cj=47:=λe=>k ((sg 47 (by decide)).mpr e)
  have hn:=(aA (hm _ Xm)).symm.trans hn
  refine cW (by decide) (bt p cT ⟨λk=>?_,λk=>?_⟩)
  ·have k:cj=44:=(sg 44 (by decide)).mp k
   have hn:=(aL (hp _ k)).symm.trans hn
   exact cW (by decide) (hV p ok cT rfl (λjh _ fG eN=>aP (q _ _ _ hn.symm no hk fG (bZ.trans eN))) λe=>absurd e (dT (by omega)))
  have Xn:¬cj=44:=λe=>k ((sg 44 (by decide)).mpr e)
  have hn:dC (oH (cj::tG)) (Ad t)=out:=(aA (hm _ Xn)).symm.trans hn
  refine cW (by decide) (rC p ok cT (λn bQ jh C8 fG eN=>?_) λk hk ex hex=>⟨_,.refl _,x k ?_ ex _ hex bZ⟩)
  rotate_left
  ·exact(hn.symm.trans (yE hk):)
  have eN:=bZ.trans eN
  have hn:Ad t (n,bQ)=out:=(qb C8).symm.trans hn
  obtain⟨iF,vD,hZ,ij,vI,vg⟩:=fG
  refine cq.mk r iF _ rfl vg.r (dM rfl) ?_
  refine cq.mk r iF [.ref src,.str hZ,.int ij,.int (n-1),eo t.held,.bool false,.bool t.done] rfl (ab _ _ _) (dM rfl) ?_
  have T9:=vg.set (n-1) none false t.done
  have pp:∀{l:ag} {o o':AO},put (put l r o) r o'=put l r o':=aR
  have kK:Rd G (put jh r (ob G 5 iF [.ref src,.str hZ,.int ij,.int (n-1),.none,.bool false,.bool t.done])) r src ra recs { t with s:=bQ,left:=n-1,held:=none,eS:=false }:=⟨iF,vD,hZ,ij,vI,T9⟩
  have so:bU r src aa (put jh r (ob G 5 iF [.ref src,.str hZ,.int ij,.int (n-1),.none,.bool false,.bool t.done])):=eN.trans λa ha _=>ai ha
  rw[←pp (o:=ob G 5 iF [.ref src,.str hZ,.int ij,.int (n-1),eo t.held,.bool false,.bool t.done])] at kK so
  obtain⟨G9,Tq,DH,_⟩:=kK.cons
  have DH:bQ=G9::Tq:=DH
  have Gs:dZ (sgn bQ) (bS.map λc=>.str (if c=10 then[] else[c]))=bS.contains (bQ.headD 10):=by rw[DH];exact mB bS
  refine cW (by decide) (bt p kK ⟨rfl,λk=>?_,λk=>?_⟩)
  ·have k:bS.contains (bQ.headD 10)=true:=Gs▸k
   have hn:=(aL k).symm.trans hn
   obtain⟨DI,Q3,DY,EC,Rk,C3⟩:=kK
   refine cq.mk r DI _ rfl C3.r (dM rfl) ?_
   refine bG.mk r DI [.ref src,.str DY,.int EC,.int (n-1),.none,.bool true,.bool t.done] _ rfl (ab _ _ _) rfl ?_
   exact aP (q _ _ _ hn.symm no no ⟨DI,Q3,DY,EC,Rk,C3.set (n-1) none true t.done⟩ (so.trans λa ha _=>ai ha))
  ·have k:¬bS.contains (bQ.headD 10)=true:=λe=>k (Gs.symm▸e)
   have hn:dC (cH bQ) _=out:=(aA k).symm.trans hn
   have k:bS.contains (bQ.headD 10)=false:=by simpa using k
   refine cW (by decide) (oK p ok kK k (λy yj ey hy K8 QA=>?_) λk ek ex led' hex hs=>⟨_,.refl _,x k ?_ ex _ hex (so.trans hs)⟩)
   rotate_left
   ·exact(hn.symm.trans (yE ek):)
   have hn:=(qb ey).symm.trans hn
   have NL:GH (some y.1):=λk e=>by cases e;exact hy
   obtain⟨Al,Q2,x8,yB,Rj,C3⟩:=K8
   refine cq.mk r Al _ rfl C3.r (dM rfl) ?_
   refine cq.mk r Al [.ref src,.str x8,.int yB,.int (n-1),y.1.v,.bool false,.bool t.done] rfl (ab _ _ _) (dM rfl) ?_
   refine bG.mk r Al [.ref src,.str x8,.int yB,.int (n-1),y.1.v,.bool true,.bool t.done] _ rfl (ab _ _ _) rfl ?_
   refine⟨_,.refl _,q (some y.1) ⟨y.2,n-1,some y.1,true,t.done⟩ _ hn.symm NL NL ⟨Al,Q2,x8,yB,Rj,?_⟩ λa ha hb=>?_⟩
   ·show I5 G (put (put yj r _) r _) r src ra recs _ _ _ _ _ _
    rw[aR]
    exact C3.set (n-1) (some y.1) true t.done
   ·show put (put yj r _) r _ a=_
    rw[ai ha,ai ha]
    exact(so.trans QA) a ha hb
 refine bG.mk r dx _ _ rfl h.r rfl ⟨λb=>?_,λb=>?_⟩
 ·change t.eS=true at b
  refine cW (by decide) (fT p ok GN (λcR Bd cT bZ=>?_) λk ex led' hex hs=>⟨_,.refl _,x (-1) ?_ ex _ hex hs⟩)
  rotate_left
  ·exact(hn.symm.trans (yE ((aL b).trans (by rw[k];rfl))):)
  have iT:vl t=.ok (gk (aD t.s)):=(aL b).trans (qb (aA Bd))
  have cT:Rd G cR r src ra recs (t.at (aD t.s)):=cT
  obtain⟨cj,tG,lU,dT⟩:=cT.cons
  have lU:aD t.s=cj::tG:=lU
  rw[lU] at cT
  refine cW (by decide) (bt p cT ⟨λk=>?_,λk=>?_⟩)
  ·have k:cj=44:=(dY (by decide)).mp k
   rw[show gk (aD t.s)=tG by rw[lU];unfold gk;simp[k]] at iT
   refine cW (by decide) (hV p ok cT rfl (λjh _ fG eN=>?_) λe=>absurd e (dT (by omega)))
   obtain⟨iF,vD,hZ,ij,vI,vg⟩:=fG
   refine cq.mk r iF _ rfl vg.r (dM rfl) ?_
   exact fin _ _ iT ⟨iF,vD,hZ,ij,vI,vg.set t.left t.held false t.done⟩ ((bZ.trans eN).trans λa ha _=>ai ha)
  ·have k:¬cj=44:=λe=>k ((dY (by decide)).mpr e)
   rw[show gk (aD t.s)=cj::tG by rw[lU];unfold gk;simp[k]] at iT
   obtain⟨iF,vD,hZ,ij,vI,vg⟩:=cT
   refine cq.mk r iF _ rfl vg.r (dM rfl) ?_
   exact fin _ _ iT ⟨iF,vD,hZ,ij,vI,vg.set t.left t.held false t.done⟩ (bZ.trans λa ha _=>ai ha)
 ·change t.eS=false at b
  refine fin aa t.s (aA (by rw[b];exact xx)) ?_ (.refl _)
  have:({ t with s:=t.s,eS:=false }:Rs)=t:=by cases t;cases b;rfl
  rw[this];exact GN
end
noncomputable def fM (t:Rs)(k n:Int):Except Int (V×Rs):=dC (b8 t) λx=>match x.1 with
 |none=>.ok (.none,x.2)
 |some tk=>dC (fz tk k n) λv=>.ok (v,x.2)
noncomputable def listE:List (Int×Int)->Rs->Except Int (List V×Rs)
 |[],t=>.ok ([],t)
 |(k,n)::w,t=>dC (fM t k n) λx=>dC (listE w x.2) λy=>.ok (x.1::y.1,y.2)
noncomputable def gK (recs:List (List Nat)):Rs:=⟨bD recs,0,none,false,false⟩
noncomputable def dW (w:Int×Int):V:=.tup [.int w.1,.int w.2]
noncomputable def GF (w:Int×Int):Prop:=0<=w.1/\w.1<=5/\0<=w.2/\w.2<=1000
noncomputable def Keeps (src:Addr)(l l':ag):Prop:=∀a o,a≠src->l a=some o->l' a=some o
theorem count_tail:∀{l:List (List Nat)},(∀x∈l,10∉x)->(bD l).count 10=l.length:=by
 intro z_
 induction z_ with
 |nil=>
  intro _
  exact rfl
 |cons r rs ih=>
  intro h
  show(r++10::bD rs).count 10=_
  rw[List.count_append,List.count_cons_self,ih λx hx=>h x (.tail _ hx),List.count_eq_zero.mpr (h r (.head _)),mX];exact Nat.le_antisymm (a10 0x315a540ad5a54094 tt) (a10 0x315ab4a8128b4a81 tt)
section
variable {G:GC}{aa:ag}{Q:V->ag->Prop}{X:Ex->ag->Prop}{r src ra:Addr}{recs:List (List Nat)}{t:Rs}
theorem Rd.cnt (ok:dN recs)(h:Rd G aa r src ra recs t):∃dy at_:Nat,aa src=some (ob G 6 dy [.ref ra,.int at_])/\at_+t.s.count 10=recs.length+1:=by
 obtain⟨dx,dy,rec,col,at_,h⟩:=h
 refine⟨dy,at_,h.src,?_⟩
 rw[h.s,List.count_append,List.count_cons_self,count_tail λx hx=>(ok.2 x (List.mem_of_mem_drop hx)).1,List.count_eq_zero.mpr λm=>h.nl (List.mem_of_mem_drop m),pE]
 rw[Nat.zero_add,←Nat.add_assoc,Nat.add_sub_cancel' h.at_]
theorem Rd.other {led':ag}(h:Rd G aa r src ra recs t)(e:∀a o,aa a=some o->(a=r∨a=src∨a=ra)->led' a=some o):Rd G led' r src ra recs t:=by
 obtain⟨dx,dy,rec,col,at_,h⟩:=h
 exact⟨dx,dy,rec,col,at_,⟨e _ _ h.r (.inl rfl),e _ _ h.src (.inr (.inl rfl)),e _ _ h.ra (.inr (.inr rfl)),h.s,h.col,h.nl,h.rl,h.at_⟩⟩
theorem wI (p:PG G)(ok:dN recs){b:Addr}{w:Int×Int}(cZ:lI G aa b)(hb:b≠r/\b≠src)(hw:GF w)(h:Rd G aa r src ra recs t)(hk:GH t.held)(q:∀v t' led',fM t w.1 w.2=.ok (v,t')->GH t'.held->Rd G led' r src ra recs t'->bU r src aa led'->Q v led')(x:∀k,fM t w.1 w.2=.error k->∀ex led',r7 G k ex->bU r src aa led'->X ex led'):CF G 12 "read_item" [.ref r,.int w.1,.int w.2,.ref b] aa Q X:=by
 refine ax p.g p.xb rfl (by decide) [some (.ref r),some (.int w.1),some (.int w.2),some (.ref b),none] rfl ?_
 unfold fM at q x
 refine cW (by decide) (oM p ok h hk (λo t' aw e h1 h2 h3 hs=>?_) λk e ex led' hex hs=>⟨_,.refl _,x k (by rw[e];rfl) ex _ hex hs⟩)
 rw[e] at q x
 cases o with
 |none=>exact aP (q _ _ _ rfl h2 h3 hs)
 |some tk=>
  change ∀v GG led',(dC (fz tk w.1 w.2) λv=>.ok (v,t'))=.ok (v,GG)->GH GG.held->Rd G led' r src ra recs GG->bU r src aa led'->Q v led' at q
  change ∀k,(dC (fz tk w.1 w.2) λv=>(.ok (v,t'):Except Int (V×Rs)))=.error k->∀ex led',r7 G k ex->bU r src aa led'->X ex led' at x
  have lim:lI G aw b:=by
   obtain⟨dx,r',h⟩:=cZ
   exact⟨dx,r',(hs b hb.1 hb.2).trans h⟩
  have go:fu G none 11 (Z G "value_of") [tk.v,.int w.1,.int w.2,.ref b] [] ⟨[some (.ref r),some (.int w.1),some (.int w.2),some (.ref b),some tk.v],aw⟩ (λv σ=>bB Q (.ret v) σ) (bc X):=by
   refine cW (by decide) (yV p lim (h1 tk rfl) hw.2.2.1 hw.2.2.2 hw.1 hw.2.1 ?_)
   cases hm:fz tk w.1 w.2 with
   |ok v=>rw[hm] at q;exact aP (q v t' _ rfl h2 h3 hs)
   |error k=>rw[hm] at x;exact λex hex=>⟨_,.refl _,x k rfl ex _ hex hs⟩
  cases tk<;>exact go
theorem uG (p:PG G)(q:∀a dy,aa a=none->Q (.ref a) (put aa a (ob G 6 dy [.ref ra,.int (0:Nat)]))):CF G 3 "ListSource" [.ref ra] aa Q X:=by
 obtain⟨h1,h2,h3⟩:=p.g.make 6 (by decide) (by decide)
 refine jV (C:=ZC G 6) h1 h2 h3 λa dx ha Nm=>?_
 refine ax p.g p.mS rfl (by decide) [some (.ref a),some (.ref ra)] rfl ?_
 refine cq.mk a dx [] rfl (ab _ _ _) (dM rfl) ?_
 refine cq.mk a dx [.ref ra] rfl (ab _ _ _) (dM rfl) ⟨_,.refl _,rfl,?_⟩
 show Q _ (put (put (put aa a _) a _) a _)
 rw[aR,aR]
 exact q a dx ha
theorem uH (p:PG G)(ok:dN recs)(h0:recs≠[]){dy:Addr}(h1:aa src=some (ob G 6 dy [.ref ra,.int (0:Nat)]))(h2:aa ra=some (sL recs))(q:∀r led',aa r=none->Rd G led' r src ra recs (gK recs)->bU r src aa led'->Q (.ref r) led'):CF G 8 "ListReader" [.ref src] aa Q X:=by
 obtain⟨m1,m2,m3⟩:=p.g.make 5 (by decide) (by decide)
 refine jV (C:=ZC G 5) m1 m2 m3 λr dx hr Nm=>?_
 refine ax p.g p.mT rfl (by decide) [some (.ref r),some (.ref src)] rfl ?_
 have n1:src≠r:=λe=>by rw[e,hr] at h1;cases h1
 have n2:ra≠r:=λe=>by rw[e,hr] at h2;cases h2
 have n3:src≠ra:=λe=>by rw[e,h2] at h1;cases h1
 obtain⟨x0,rest,hx⟩:∃x0 rest,recs=x0::rest:=by
  cases recs with
  |nil=>exact absurd rfl h0
  |cons a b=>exact⟨a,b,rfl⟩
 refine cq.mk r dx [] rfl (ab _ _ _) (dM rfl) ?_
 have g1:put (put aa r (.inst (ZC G 5) dx [])) r (ob G 5 dx [.ref src]) src=some (ob G 6 dy [.ref ra,.int (0:Nat)]):=by rw[aR,ai n1];exact h1
 refine⟨src,dy,_,rfl,g1,cW (by decide) (ko (ra:=ra) (recs:=recs) p g1 ?_ ok.1 (λx xr=>?_) λhle=>?_)⟩
 ·show put (put aa r _) r _ ra=_
  rw[aR,ai n2];exact h2
 ·rw[hx] at xr
  have xr:x0=x:=by simpa using xr
  subst xr
  refine cq.mk r dx [.ref src] rfl ((ai (Ne.symm n1)).trans (ab _ _ _)) (dM rfl) ?_
  refine cq.mk r dx [.ref src,.str x0] rfl (ab _ _ _) (dM rfl) ?_
  refine cq.mk r dx [.ref src,.str x0,.int 0] rfl (ab _ _ _) (dM rfl) ?_
  refine cq.mk r dx [.ref src,.str x0,.int 0,.int 0] rfl (ab _ _ _) (dM rfl) ?_
  refine cq.mk r dx [.ref src,.str x0,.int 0,.int 0,.none] rfl (ab _ _ _) (dM rfl) ?_
  refine cq.mk r dx [.ref src,.str x0,.int 0,.int 0,.none,.bool false] rfl (ab _ _ _) (dM rfl) ?_
  refine⟨_,.refl _,rfl,q r _ hr ⟨dx,dy,x0,0,1,⟨ab _ _ _,?_,?_,?_,Nat.zero_le _,?_,?_,?_⟩⟩ λc hc hd=>?_⟩
  ·exact(ai n1).trans ((ai n1).trans ((ai n1).trans ((ai n1).trans ((ai n1).trans ((ai n1).trans (ab _ _ _))))))
  ·refine(ai n2).trans ((ai n2).trans ((ai n2).trans ((ai n2).trans ((ai n2).trans ((ai n2).trans ((ai (Ne.symm n3)).trans ((ai n2).trans ((ai n2).trans h2))))))))
  ·rw[hx];rfl
  ·exact(ok.2 x0 (by rw[hx];exact .head _)).1
  ·exact(ok.2 x0 (by rw[hx];exact .head _)).2
  ·rw[hx];simp
  ·exact(ai hc).trans ((ai hc).trans ((ai hc).trans ((ai hc).trans ((ai hc).trans ((ai hc).trans ((ai hd).trans ((ai hc).trans (ai hc))))))))
 ·rw[hx] at hle;simp at hle
end
section
variable {G:GC}{aa:ag}{Q:V->ag->Prop}{X:Ex->ag->Prop}{r src ra:Addr}{recs:List (List Nat)}{t:Rs}
theorem wH (p:PG G)(ok:dN recs)(h0:recs≠[]){dy b kr:Addr}{wanted:List (Int×Int)}(cZ:lI G aa b)(hw:∀w∈wanted,GF w)(hz:wanted.length<=1000)(xu:aa kr=some (.list (wanted.map dW)))
  (h1:aa src=some (ob G 6 dy [.ref ra,.int (0:Nat)])) (h2:aa ra=some (sL recs)) (hb:b≠src)
  (q:∀vs t' led' c N0 (at_:Nat),listE wanted (gK recs)=.ok (vs,t')->aa c=none->led' c=some (.list vs)->led' src=some (ob G 6 N0 [.ref ra,.int at_])->at_+t'.s.count 10=recs.length+1->Keeps src aa led'->Q (.ref c) led')
  (x:∀k,listE wanted (gK recs)=.error k->∀ex led',r7 G k ex->Keeps src aa led'->X ex led'):CF G 13 "read_list" [.ref src,.ref kr,.ref b] aa Q X:=by
 refine ax p.g p.w9 rfl (by decide) [some (.ref src),some (.ref kr),some (.ref b),none] rfl ?_
 refine cW (by decide) (uH p ok h0 h1 h2 λr aw hr JI bh=>?_)
 have keep:∀{l:ag},(∀a o,a≠r->a≠src->aw a=some o->l a=some o)->Keeps src aa l:=λ{l} h a o hn e=>by
  have:a≠r:=λk=>by rw[k,hr] at e;cases e
  exact h a o this hn ((bh a this hn).trans e)
 have NB:kr≠r:=λk=>by rw[k,hr] at xu;cases xu
 have Sw:kr≠src:=λk=>by rw[k,h1] at xu;cases xu
 have Sx:b≠r:=λk=>by obtain⟨d,rr,h⟩:=cZ;rw[k,hr] at h;cases h
 have lj:aw kr=some (.list (wanted.map dW)):=(bh kr NB Sw).trans xu
 have AN:lI G aw b:=by obtain⟨d,rr,h⟩:=cZ;exact⟨d,rr,(bh b Sx hb).trans h⟩
 refine⟨⟨_,lj⟩,?_⟩
 intro acc cg R hR
 change aw acc=none at cg
 have Gm:acc≠r/\acc≠src/\acc≠ra:=by
  obtain⟨dx,dy,rec,col,at_,h⟩:=JI
  exact⟨λk=>(by have:=h.r;rw[←k,cg] at this;cases this),λk=>(by have:=h.src;rw[←k,cg] at this;cases this),λk=>(by have:=h.ra;rw[←k,cg] at this;cases this)⟩
 have key:∀(w pre:List (Int×Int)) (ys:List V) (t:Rs) (l₂:ag) (u v:Option V),wanted=pre++w->ys.length=pre.length->
   (∀vs t',listE w t=.ok (vs,t')->listE wanted (gK recs)=.ok (ys++vs,t'))->(∀k,listE w t=.error k->listE wanted (gK recs)=.error k)->
   GH t.held->Rd G l₂ r src ra recs t->l₂ acc=some (.list ys)->(∀a o,a≠r->a≠src->a≠acc->aw a=some o->l₂ a=some o)->R (.list kr pre.length) ⟨[u,v,some (.ref b),some (.ref r)],l₂⟩:=by
  intro w
  induction w with
  |nil=>
   intro pre ys t l₂ u v e el eq ex hk GN ha Kp
   have hn:(wanted.map dW)[pre.length]?=none:=by rw[e];simp
   refine hR _ _ (mF (Kp kr _ NB Sw (λk=>by rw[k,cg] at lj;cases lj) lj) hn ?_)
   obtain⟨N0,at_,c1,c2⟩:=GN.cnt ok
   have e0:=eq [] t rfl
   rw[List.append_nil] at e0
   have xN:aa acc=none:=by
    have:=bh acc Gm.1 Gm.2.1
    rw[←this];exact cg
   exact⟨_,.refl _,q ys t l₂ acc N0 at_ e0 xN ha c1 c2 (keep λa o h1 h2 h3=>Kp a o h1 h2 (λk=>by rw[k,cg] at h3;cases h3) h3)⟩
  |cons w0 w ih=>
   intro pre ys t l₂ u v e el eq ex hk GN ha Kp
   have hn:(wanted.map dW)[pre.length]?=some (dW w0):=by rw[e];exact eA
   have pL:pre.length<=1000:=by have:=congrArg List.length e;simp at this;exact a30 0x1893d13c13127a278170cd6ad2a0c101 tt hz this
   refine hR _ _ (jX (Kp kr _ NB Sw (λk=>by rw[k,cg] at lj;cases lj) lj) hn ?_)
   have Xd:b≠acc:=λk=>by obtain⟨d,rr,h⟩:=AN;rw[k,cg] at h;cases h
   have Mm:lI G l₂ b:=by obtain⟨d,rr,h⟩:=AN;exact⟨d,rr,Kp b _ Sx hb Xd h⟩
   have j9:listE (w0::w) t=dC (fM t w0.1 w0.2) λx=>dC (listE w x.2) λy=>.ok (x.1::y.1,y.2):=rfl
   refine cW (by decide) (wI (w:=w0) p ok Mm ⟨Sx,hb⟩ (hw w0 (by rw[e];simp)) GN hk (λy t' lK ey CP UD eN=>?_) λk ek I2 lK hex eN=>?_)
   ·rw[ey] at j9
    change listE (w0::w) t=dC (listE w t') λz=>.ok (y::z.1,z.2) at j9
    have QR:lK acc=some (.list ys):=(eN acc Gm.1 Gm.2.1).trans ha
    refine⟨ys,QR,by exact a20 0xc89c0b52730166080b127a2782 tt el pL,?_⟩
    have:=ih (pre++[w0]) (ys++[y]) t' (put lK acc (.list (ys++[y]))) (some (.int w0.1)) (some (.int w0.2)) (by rw[e];simp) (by simp[el])
     (λvs GG e2=>by rw[eq (y::vs) GG (by rw[j9,e2];rfl)];simp) (λk e2=>ex k (by rw[j9,e2];rfl)) CP
     (UD.other λa o h1 h2=>by rw[ai];exact h1;rintro rfl;rcases h2 with h2|h2|h2;exact Gm.1 h2;exact Gm.2.1 h2;exact Gm.2.2 h2)
     (ab _ _ _) (λa o h1 h2 h3 h4=>(ai h3).trans ((eN a h1 h2).trans (Kp a o h1 h2 h3 h4)))
    rw[cN] at this
    exact this
   ·rw[ek] at j9
    refine⟨_,.refl _,x k (ex k j9) I2 _ hex (keep λa o h1 h2 h3=>?_)⟩
    have n3:a≠acc:=λk=>by rw[k,cg] at h3;cases h3
    exact(eN a h1 h2).trans (Kp a o h1 h2 n3 h3)
 refine key wanted [] [] (gK recs) _ none none rfl rfl (λvs t' e=>by rw[e];simp) (λk e=>e) (λk e=>by cases e) (JI.other λa o h1 h2=>?_) (ab _ _ _) λa o h1 h2 h3 h4=>by rw[ai h3];exact h4
 rw[ai];exact h1
 rintro rfl
 rcases h2 with h2|h2|h2
 ·exact Gm.1 h2
 ·exact Gm.2.1 h2
 ·exact Gm.2.2 h2
theorem Ca {t k:V}:hU "code" ([("text",t),("code",k)]:List (Str×V))=some k:=by
 show(if("text":Str)="code" then some t else if("code":Str)="code" then some k else none)=_
 rw[aA (by decide),aL rfl]
noncomputable def ka (recs:List (List Nat))(wanted:List (Int×Int)):Except Int (List V×Int):=dC (listE wanted (gK recs)) λy=>.ok (y.1,(recs.length:Int)+1-(y.2.s.count 10:Nat))
noncomputable def Nf (c:Addr)(n:Int):V:=.tup [.str [111,107],.ref c,.int n]
noncomputable def J9 (Q:V->ag->Prop)(aa:ag)(o:Except Int (List V×Int)):Prop:=match o with
 |.error k=>Q (.int k) aa
 |.ok y=>∀c,aa c=none->Q (Nf c y.2) (put aa c (.list y.1))
theorem AB (p:PG G)(ok:dN recs)(h0:recs≠[]){b kr:Addr}{wanted:List (Int×Int)}(cZ:lI G aa b)(hw:∀w∈wanted,GF w)(hz:wanted.length<=1000)(xu:aa kr=some (.list (wanted.map dW)))
  (h2:aa ra=some (sL recs)) (q:J9 Q aa (ka recs wanted)):CF G 14 "_law_heard" [.ref ra,.ref kr,.ref b] aa Q X:=by
 refine ax p.g p.xk rfl (by decide) [some (.ref ra),some (.ref kr),some (.ref b),none,none,none] rfl ?_
 unfold ka at q
 refine cW (by decide) (uG p λsrc dy C5=>?_)
 have sub:∀{l'},Keeps src (put aa src (ob G 6 dy [.ref ra,.int (0:Nat)])) l'->Sub aa l':=λ{l'} hk a o e=>by
  have:a≠src:=λk=>by rw[k,C5] at e;cases e
  exact hk a o this ((ai this).trans e)
 have RC:ra≠src:=λk=>by rw[k,C5] at h2;cases h2
 have NB:kr≠src:=λk=>by rw[k,C5] at xu;cases xu
 refine cW (by decide) (wH (src:=src) (dy:=dy) p ok h0 (cZ.put C5) hw hz ((ai NB).trans xu) (ab _ _ _) ((ai RC).trans h2) (λk=>by obtain⟨d,rr,h⟩:=cZ;rw[k,C5] at h;cases h) (λvs t' l' c N0 at_ e hc h3 h4 h5 hk=>?_) λk e ex l' hex hk=>?_)
 ·rw[e] at q
  change ∀c,aa c=none->Q (Nf c ((recs.length:Int)+1-(t'.s.count 10:Nat))) (put aa c (.list vs)) at q
  refine bG.mk src N0 _ _ rfl h4 rfl ⟨l3,?_⟩
  obtain⟨mY,Gv⟩:=cy hc
  refine⟨put aa c (.list vs),?_,?_⟩
  ·intro a o ho
   by_cases ha:a=c
   ·subst ha;rw[ab] at ho;exact h3.trans ho
   ·rw[ai ha] at ho;exact sub hk a o ho
  ·have:=q c mY
   have e5:((recs.length:Int)+1-(t'.s.count 10:Nat))=at_:=by exact oD (a30 0x1a3002b98025a5580370cd69506b4101 tt h5) (a30 0x345cc012d2ac01b002cd69506b4101 tt h5)
   rw[e5] at this
   exact this
 ·rw[e] at q
  obtain⟨j,hj,O7,tt,IX⟩:=hex
  refine⟨j,by rcases hj with rfl|rfl<;>rfl,O7,by rw[IX];simp,λea dx RS=>?_⟩
  refine⟨ea,(if ex.nc then 1 else 0),j,dx,ex.fs,.int k,rfl,by rcases hj with rfl|rfl<;>decide,?_,by rw[IX];exact Ca,⟨.ref ea,rfl⟩,aa,?_,q⟩
  ·rw[←O7];exact ab _ _ _
  ·exact(sub hk).trans (Sub.put RS)
end
section
variable {G:GC}{aa:ag}{Q:V->ag->Prop}{X:Ex->ag->Prop}
structure gL (x:List Nat):Prop where
 last:x.getLast?=some 10
 len:x.length<=600
theorem drop_cons {x:List Nat}{p:Nat}{c:Nat}{s:List Nat}(h:x.drop p=c::s):p<x.length/\x[p]?=some c/\x.drop (p+1)=s:=by
 have j2:p<x.length:=by
  rcases Nat.lt_or_ge p x.length with h'|h'
  ·exact h'
  ·rw[List.drop_eq_nil_of_le h'] at h;cases h
 rw[List.drop_eq_getElem_cons j2] at h
 injection h with h1 h2
 exact⟨j2,by rw[List.getElem?_eq_getElem j2,h1],h2⟩
theorem drop_nil {x:List Nat}{p:Nat}(h:x.drop p=[]):x.length<=p:=List.drop_eq_nil_iff.mp h
theorem gL.next {x:List Nat}(ok:gL x){p c:Nat}{s:List Nat}(h:x.drop p=c::s)(hc:c≠10):s≠[]:=by
 intro e
 subst e
 have h1:x=x.take p++[c]:=by rw[←h,List.take_append_drop]
 have:=ok.last
 rw[h1] at this
 simp at this
 exact hc this
theorem eM {x:List Nat}{p c:Nat}{s:List Nat}{P:V->Prop}(ok:gL x)(h:x.drop p=c::s)(q:P (.str [c])):lL (.str x) (.int (p:Int)) aa P:=by
 obtain⟨h1,h2,_⟩:=drop_cons h
 have:=ok.len
 exact item_str (by rw[fB];exact h2) ⟨by exact a10 0xd18015c4e068d99bd94 tt,by exact a20 0x34270346ccded80164080b12762482 tt h1 this⟩ q
theorem yk {x:List Nat}{p c d:Nat}{s:List Nat}{P:V->Prop}(ok:gL x)(h:x.drop p=c::d::s)(q:P (.str [d])):lL (.str x) (.int ((p:Int)+1)) aa P:=by
 have:=eM (aa:=aa) (P:=P) ok (drop_cons h).2.2 q
 exact this
theorem fh (p:PG G){x B:List Nat}{i:Nat}(ok:gL x)(hi:i<=x.length)(q:∀j:Nat,i<=j->j<=x.length->x.drop j=(x.drop i).dropWhile (λc=>B.contains c)->Q (.int j) aa):CF G 2 "_law_skipped" [.str x,.int i,.str B] aa Q X:=by
 refine ax p.g p.rQ rfl (by decide) [some (.str x),some (.int i),some (.str B)] rfl ?_
 have hl:=ok.len
 intro R hf hR
 have key:∀(n j:Nat),x.length-j<=n->i<=j->j<=x.length->(x.drop i).dropWhile (λc=>B.contains c)=(x.drop j).dropWhile (λc=>B.contains c)->R ⟨[some (.str x),some (.int j),some (.str B)],aa⟩:=by
  intro n
  induction n with
  |zero=>
   intro j hn CQ hj e
   have lD:j=x.length:=by exact Nat.le_antisymm (dq 0x188304c4182 [0,_,_] [] tt hj) (a30 0xc410362500b15a08083 tt hn (Sl _ _:))
   refine hR _ ⟨by exact a10 0x31270346ccdec0b12762481 tt hl,λk=>?_,λk=>?_⟩
   ·change (j:Int)<x.length at k
    exact False.elim (iY 0 (a20 0x6450a3866080b56009801 tt lD (by assumption)))
   ·refine aP (q j CQ hj ?_)
    rw[e,lD,List.drop_length];rfl
  |succ n ih=>
   intro j hn CQ hj e
   refine hR _ ⟨by exact a10 0x31270346ccdec0b12762481 tt hl,λk=>?_,λk=>?_⟩
   ·change (j:Int)<x.length at k
    have k:j<x.length:=Int.ofNat_lt.mp k
    have hd:x.drop j=x[j]::x.drop (j+1):=List.drop_eq_getElem_cons k
    refine eM ok hd ⟨λk2=>?_,λk2=>?_⟩
    ·change x[j]∈B at k2
     refine ih (j+1) (gV hn) (Nat.le_succ_of_le CQ) k ?_
     rw[e,hd,List.dropWhile_cons_of_pos (by simpa using k2)]
    ·change ¬x[j]∈B at k2
     refine aP (q j CQ hj ?_)
     rw[e,hd,List.dropWhile_cons_of_neg (by simpa using k2)]
   ·change ¬(j:Int)<x.length at k
    refine aP (q j CQ hj ?_)
    rw[e,List.drop_eq_nil_of_le (by exact a20 0x62041346005802 tt (uU (by assumption):))];rfl
 exact key (x.length-i) i (eR _) (eR _) hi rfl
theorem EA {x:List Nat}{i j:Nat}{f:Nat->Bool}(hi:i<=j)(hj:j<=x.length)(h:x.drop j=(x.drop i).dropWhile f):cut x (some i) (some j)=(x.drop i).takeWhile f:=by
 show(x.take j).drop i=_
 have e:=List.takeWhile_append_dropWhile (p:=f) (l:=x.drop i)
 have hl:((x.drop i).takeWhile f).length=j-i:=by
  have h1:=congrArg List.length e
  have h2:=congrArg List.length h
  rw[cN] at h1
  rw[pE] at h1 h2
  exact Bt hi hj h1 h2
 rw[List.drop_take,←hl]
 have h3:=List.take_left' (l₁:=(x.drop i).takeWhile f) (l₂:=(x.drop i).dropWhile f) rfl
 rw[e] at h3
 exact h3
theorem Dm (p:PG G){x E:List Nat}{i:Nat}(ok:gL x)(hi:i<=x.length)(q:∀j:Nat,i<=j->j<=x.length->x.drop j=(x.drop i).dropWhile (λc=>!(E.contains c))->Q (.tup [.str ((x.drop i).takeWhile λc=>!(E.contains c)),.int j]) aa):CF G 2 "_law_run" [.str x,.int i,.str E] aa Q X:=by
 refine ax p.g p.Ct rfl (by decide) [some (.str x),some (.int i),some (.str E),none] rfl ?_
 have hl:=ok.len
 intro R hf hR
 have fin:∀j:Nat,i<=j->j<=x.length->x.drop j=(x.drop i).dropWhile (λc=>!(E.contains c))->bf G none 1 (bB Q) (bc X) [aC (tup [gr true (loc 0) (some (loc 1)) (some (loc 3)),loc 3])] ⟨[some (.str x),some (.int i),some (.str E),some (.int j)],aa⟩:=λj h1 h2 h3=>by
  refine aV (by exact a10 0x624e049e90c0b12762481 tt hl) (aZ i) (aZ j) ⟨l2,?_⟩
  have:=q j h1 h2 h3
  rw[←EA h1 h2 h3] at this
  exact aP this
 have key:∀(n j:Nat),x.length-j<=n->i<=j->j<=x.length->(x.drop i).dropWhile (λc=>!(E.contains c))=(x.drop j).dropWhile (λc=>!(E.contains c))->R ⟨[some (.str x),some (.int i),some (.str E),some (.int j)],aa⟩:=by
  intro n
  induction n with
  |zero=>
   intro j hn CQ hj e
   have lD:j=x.length:=by exact Nat.le_antisymm (dq 0x188304c4182 [0,_,_] [] tt hj) (a30 0xc410362500b15a08083 tt hn (Sl _ _:))
   refine hR _ ⟨by exact a10 0x31270346ccdec0b12762481 tt hl,λk=>?_,λk=>?_⟩
   ·change (j:Int)<x.length at k
    exact False.elim (iY 0 (a20 0x6450a3866080b56009801 tt lD (by assumption)))
   ·refine fin j CQ hj ?_
    rw[e,lD,List.drop_length];rfl
  |succ n ih=>
   intro j hn CQ hj e
   refine hR _ ⟨by exact a10 0x31270346ccdec0b12762481 tt hl,λk=>?_,λk=>?_⟩
   ·change (j:Int)<x.length at k
    have k:j<x.length:=Int.ofNat_lt.mp k
    have hd:x.drop j=x[j]::x.drop (j+1):=List.drop_eq_getElem_cons k
    refine eM ok hd ⟨λk2=>?_,λk2=>?_⟩
    ·change x[j]'k∈E at k2
     refine fin j CQ hj ?_
     rw[e,hd,List.dropWhile_cons_of_neg (by simpa using k2)]
    ·change ¬x[j]'k∈E at k2
     refine ih (j+1) (gV hn) (Nat.le_succ_of_le CQ) k ?_
     rw[e,hd,List.dropWhile_cons_of_pos (by simpa using k2)]
   ·change ¬(j:Int)<x.length at k
    refine fin j CQ hj ?_
    rw[e,List.drop_eq_nil_of_le (by exact a20 0x62041346005802 tt (uU (by assumption):))];rfl
 exact key (x.length-i) i (eR _) (eR _) hi rfl
end
noncomputable def Tk.len (n:Nat):Tk->Prop
 |.text t=>t.length<=n
 |.run r=>r.length<=n
 |.pair a b=>a.length<=n/\b.length<=n
theorem ji {x:List Nat}{f:Nat->Bool}:(x.dropWhile f).length<=x.length:=by
 have:=congrArg List.length (List.takeWhile_append_dropWhile (p:=f) (l:=x))
 rw[cN] at this;exact a30 0x620c13306b4101 tt this
theorem pW {x:List Nat}{f:Nat->Bool}:(x.takeWhile f).length<=x.length:=by
 have:=congrArg List.length (List.takeWhile_append_dropWhile (p:=f) (l:=x))
 rw[cN] at this;exact a30 0x620c0b306b4101 tt this
theorem yx:(λc=>([32,10]:List Nat).contains c)=cV:=by
 funext c;rw[Bool.eq_iff_iff];unfold cV;simp
theorem J0:(λc=>([32]:List Nat).contains c)=(λc=>c==32):=by
 funext c;rw[Bool.eq_iff_iff];simp
theorem Ab:(λc=>!(([32,44,47,10,41]:List Nat).contains c))=(λc=>!(bo.contains c)):=
 funext λ_=>congrArg not (List.Perm.contains_eq (by decide))
theorem Je {c:Nat}:([32,44,47,10]:List Nat).contains c=bS.contains c:=List.Perm.contains_eq (by decide)
theorem PZ:(λc=>!(([32,44,47,10]:List Nat).contains c))=(λc=>!(bS.contains c)):=by
 funext c;rw[Je]
theorem tM {c:Nat}:c∈([32,44,47,10]:List Nat)↔bS.contains c=true:=by
 rw[←Je];simp
theorem Q6:(λc=>([48,49,50,51,52,53,54,55,56,57]:List Nat).contains c)=eV:=by
 funext c;rw[Bool.eq_iff_iff,List.contains_iff_mem];exact mc
section
variable {G:GC}{aa:ag}{Q:V->ag->Prop}{X:Ex->ag->Prop}
theorem BF (p:PG G){x:List Nat}{i:Nat}(ok:gL x)(hi:i<x.length)(q:∀y (j:Nat),lG (x.drop (i+1))=some y->j<=x.length->x.drop j=y.2->y.1.length<=600->Q (.tup [.tup [.str [116,101,120,116],.str y.1],.int j]) aa)(z:lG (x.drop (i+1))=none->∀j:Nat,j<=x.length->Q (.tup [.int (-1),.int j]) aa):CF G 2 "_law_quoted" [.str x,.int i] aa Q X:=by
 refine ax p.g p.uN rfl (by decide) [some (.str x),some (.int i),none] rfl ?_
 have hl:=ok.len
 refine⟨l2,?_⟩
 intro R hf hR
 have key:∀(n j:Nat) (acc:List Nat),x.length-j<=n->j<=x.length->acc.length<=j->lG (x.drop (i+1))=(lG (x.drop j)).map (λy=>(acc++y.1,y.2))->R ⟨[some (.str x),some (.int j),some (.str acc)],aa⟩:=by
  intro n
  induction n with
  |zero=>
   intro j acc hn hj ha e
   have lD:j=x.length:=by exact Nat.le_antisymm (dq 0x188304c4182 [0,_,_] [] tt hj) (a30 0xc410362500b15a08083 tt hn (Sl _ _:))
   refine hR _ ⟨by exact a10 0x31270346ccdec0b12762481 tt hl,λk=>?_,λk=>?_⟩
   ·change (j:Int)<x.length at k
    exact False.elim (iY 0 (a20 0x6450a3866080b56009801 tt lD (by assumption)))
   ·exact⟨l2,aP (z (by rw[e,lD,List.drop_length];rfl) j hj)⟩
  |succ n ih=>
   intro j acc hn hj ha e
   refine hR _ ⟨by exact a10 0x31270346ccdec0b12762481 tt hl,λk=>?_,λk=>?_⟩
   rotate_left
   ·change ¬(j:Int)<x.length at k
    exact⟨l2,aP (z (by rw[e,List.drop_eq_nil_of_le (by exact a20 0x62041346005802 tt (uU (by assumption):))];rfl) j hj)⟩
   change (j:Int)<x.length at k
   have hd:x.drop j=x[j]'(Int.ofNat_lt.mp k)::x.drop (j+1):=List.drop_eq_getElem_cons (Int.ofNat_lt.mp k)
   generalize x[j]'(Int.ofNat_lt.mp k)=c at hd
   rw[hd,jm] at e
   refine eM ok hd ⟨λhc=>?_,λhc=>?_⟩
   ·have hc:c=39:=by simpa using hc
    subst hc
    rw[aL rfl] at e
    have dT:=ok.next hd (by decide)
    obtain⟨d,s',hs⟩:∃d s',x.drop (j+1)=d::s':=by
     cases h:x.drop (j+1) with
     |nil=>exact absurd h dT
     |cons d s'=>exact⟨d,s',rfl⟩
    rw[hs] at hd e
    obtain⟨g1,g2,g3⟩:=drop_cons hs
    refine yk ok hd ⟨λhd2=>?_,λhd2=>?_⟩
    ·have hd2:d=39:=by simpa using hd2
     subst hd2
     change lG (x.drop (i+1))=((lG s').map λx=>(39::x.1,x.2)).map (λy=>(acc++y.1,y.2)) at e
     refine eM ok hd ⟨λ_=>?_,λk=>absurd rfl k⟩
     refine yk ok hd ⟨λk=>absurd k (by decide),λ_=>?_⟩
     refine yk ok hd ⟨by rw[dk];exact a30 0x18938127a435a541312762481620c13202b4a83 tt hl ha g1,?_⟩
     have:=ih (j+2) (acc++[39]) (zy hn) (by exact a20 0x18825a580b204b4a81 tt g1) (by rw[cN,dk];exact a20 0x18ad2c0969502c4101 tt ha) (by rw[e,show j+2=(j+1)+1 from rfl,g3];cases lG s'<;>simp)
     exact⟨l2,this⟩
    ·have hd2:¬d=39:=by simpa using hd2
     change lG (x.drop (i+1))=((if d=39 then(lG s').map λx=>(39::x.1,x.2) else some ([],d::s'))).map (λy=>(acc++y.1,y.2)) at e
     rw[aA hd2] at e
     exact⟨l2,l2,aP (q (acc,d::s') (j+1) (by rw[e];simp) (by exact a20 0x18825a540b56009801 tt (by assumption)) hs (by show acc.length<=_;exact a30 0x1893b1241312762481620c13202b4a83 tt hl ha g1))⟩
   ·have hc:¬c=39:=by simpa using hc
    rw[aA hc] at e
    refine eM ok hd ⟨λk=>absurd (by simpa using k) hc,λ_=>?_⟩
    have Wc:j+1<=x.length:=by exact a20 0x18825a540b56009801 tt (by assumption)
    refine eM ok hd ⟨λk2=>?_,λk2=>?_⟩
    ·have k2:c=10:=by simpa using k2
     refine⟨by show acc.length+0<=_;exact a30 0x18938127a435a501312762481620c1356005803 tt hl ha (by assumption),?_⟩
     have:=ih (j+1) (acc++[]) (gV hn) Wc (by simp;exact a20 0x62b4a8202c4101 tt ha) (by rw[e,k2];cases lG (x.drop (j+1))<;>simp)
     exact⟨l2,this⟩
    ·have k2:¬c=10:=by simpa using k2
     refine eM ok hd ⟨by rw[dk];exact a30 0x18938127a435a541312762481620c1356005803 tt hl ha (by assumption),?_⟩
     have:=ih (j+1) (acc++[c]) (gV hn) Wc (by rw[cN,dk];exact a20 0x18ad2a0969502c4101 tt ha) (by rw[e];cases lG (x.drop (j+1))<;>simp[k2])
     exact⟨l2,this⟩
 have:=key x.length (i+1) [] (by exact dq 0x188206c4103 [0,_,_] [] tt (Nat.sub_le _ _:)) (by exact a20 0x620969502c8101 tt hi) (by simp) (by cases lG (x.drop (i+1))<;>simp)
 exact this
noncomputable def Hd (Q:V->ag->Prop)(aa:ag)(x:List Nat)(o:Except Int (Tk×List Nat)):Prop:=match o with
 |.ok y=>∀j:Nat,j<=x.length->x.drop j=y.2->Q (.tup [y.1.v,.int j]) aa
 |.error k=>∀j:Nat,j<=x.length->Q (.tup [.int k,.int j]) aa
theorem Hx (p:PG G){x:List Nat}{i:Nat}(ok:gL x)(hi:i<x.length)(q:Hd Q aa x (pairE (x.drop (i+1)))):CF G 3 "_law_pair" [.str x,.int i] aa Q X:=by
 refine ax p.g p.zN rfl (by decide) [some (.str x),some (.int i),none,none] rfl ?_
 have hl:=ok.len
 unfold pairE at q
 refine cW (by decide) (fh (i:=i+1) p ok (by exact a20 0x620969502c8101 tt hi) λbR Pt pM eu=>?_)
 rw[J0] at eu
 refine cW (by decide) (Dm p ok pM λeH pN kN cj=>?_)
 rw[Ab] at cj
 refine cW (by decide) (fh p ok kN λgz Ha xQ G9=>?_)
 rw[yx] at G9
 have UJ:x.drop gz=aD (dj bo (bV (x.drop (i+1)))):=by rw[G9,cj,eu];rfl
 have jZ:((x.drop bR).takeWhile λc=>!(([32,44,47,10,41]:List Nat).contains c))=cP bo (bV (x.drop (i+1))):=by rw[Ab,eu];rfl
 rw[jZ]
 rw[←UJ] at q
 refine⟨by exact a10 0x31270346ccdec0b12762481 tt hl,λk=>?_,λk=>?_⟩
 ·change (gz:Int)=x.length at k
  have hn:x.drop gz=[]:=List.drop_eq_nil_of_le (by exact a20 0x310209c366009801 tt (by assumption))
  rw[hn] at q
  change ∀j:Nat,j<=x.length->Q (.tup [.int (-1),.int j]) aa at q
  exact⟨by exact a10 0x31270346ccdec0b12762481 tt hl,λ_=>⟨l2,aP (q gz xQ)⟩,λk'=>absurd k k'⟩
 change ¬(gz:Int)=x.length at k
 have lt:gz<x.length:=Nat.lt_of_le_of_ne xQ λe=>k (by rw[e])
 have fG:x.drop gz=x[gz]'lt::x.drop (gz+1):=List.drop_eq_getElem_cons lt
 generalize x[gz]'lt=c at fG
 have TU:rV (x.drop gz)=.ok (x.drop gz):=aA (by rw[fG];simp)
 rw[TU,fG] at q
 change Hd Q aa x (dC (dX 44 (c::x.drop (gz+1))) λaT=>dC (rV (aD aT)) λbQ=>dC (dX 41 (bV (dj bo bQ))) λcY=>.ok (.pair (cP bo (bV (x.drop (i+1)))) (cP bo bQ),cY)) at q
 refine eM ok fG ⟨λkc=>?_,λkc=>?_⟩
 rotate_left
 ·have kc:¬c=44:=by simpa using kc
  have:dX 44 (c::x.drop (gz+1))=.error 1:=aA (by simpa using kc)
  rw[this] at q
  change ∀j:Nat,j<=x.length->Q (.tup [.int 1,.int j]) aa at q
  exact⟨by exact a10 0x31270346ccdec0b12762481 tt hl,λk'=>absurd k' k,λ_=>⟨l2,aP (q gz xQ)⟩⟩
 have kc:c=44:=by simpa using kc
 have:dX 44 (c::x.drop (gz+1))=.ok (x.drop (gz+1)):=aL (by rw[kc];rfl)
 rw[this] at q
 change Hd Q aa x (dC (rV (aD (x.drop (gz+1)))) λbQ=>dC (dX 41 (bV (dj bo bQ))) λcY=>.ok (.pair (cP bo (bV (x.drop (i+1)))) (cP bo bQ),cY)) at q
 refine cW (by decide) (fh (i:=gz+1) p ok (by omega) λiS YZ Po Pk=>?_)
 rw[yx] at Pk
 have UI:x.drop iS=aD (x.drop (gz+1)):=Pk
 rw[←UI] at q
 refine⟨by exact a10 0x31270346ccdec0b12762481 tt hl,λk4=>?_,λk4=>?_⟩
 ·change (iS:Int)=x.length at k4
  have hn:x.drop iS=[]:=List.drop_eq_nil_of_le (by exact a20 0x310209c366009801 tt (by assumption))
  rw[hn] at q
  change ∀j:Nat,j<=x.length->Q (.tup [.int (-1),.int j]) aa at q
  exact⟨l2,aP (q iS Po)⟩
 change ¬(iS:Int)=x.length at k4
 have C1:rV (x.drop iS)=.ok (x.drop iS):=aA (λe=>by have:=drop_nil e;omega)
 rw[C1] at q
 change Hd Q aa x (dC (dX 41 (bV (dj bo (x.drop iS)))) λcY=>.ok (.pair (cP bo (bV (x.drop (i+1)))) (cP bo (x.drop iS)),cY)) at q
 refine cW (by decide) (Dm p ok Po λYW YY UX Pj=>?_)
 rw[Ab] at Pj
 have Tt:((x.drop iS).takeWhile λc=>!(([32,44,47,10,41]:List Nat).contains c))=cP bo (x.drop iS):=by rw[Ab];rfl
 rw[Tt]
 refine cW (by decide) (fh p ok UX λxJ YX UW Ph=>?_)
 rw[J0] at Ph
 have O9:x.drop xJ=bV (dj bo (x.drop iS)):=by rw[Ph,Pj];rfl
 rw[←O9] at q
 have Qg:x.drop xJ≠[]:=λe=>by
  have h4:x.drop iS≠[]:=λe=>by have:=drop_nil e;omega
  have QK:(x.drop iS).getLast?=some 10:=by
   have:=ok.last
   rw[←List.take_append_drop iS x,List.getLast?_append] at this
   cases hg:(x.drop iS).getLast? with
   |none=>rw[List.getLast?_eq_none_iff] at hg;exact absurd hg h4
   |some a=>rw[hg] at this;simpa using this
  have Nh:10∈x.drop iS:=List.mem_of_getLast? QK
  have Pd:∀(f:Nat->Bool) (l:List Nat),f 10=false->10∈l->10∈l.dropWhile f:=by
   intro f l hf
   induction l with
   |nil=>intro h;cases h
   |cons a l ih=>
    intro h
    rw[List.dropWhile_cons]
    split
    ·rename_i ha
     rcases List.mem_cons.mp h with h|h
     ·rw[←h,hf] at ha;cases ha
     ·exact ih h
    ·exact h
  have m:10∈x.drop xJ:=by
   rw[O9]
   exact Pd _ _ rfl (Pd _ _ (by decide) Nh)
  rw[e] at m;cases m
 obtain⟨d,g9,kJ⟩:∃d s,x.drop xJ=d::s:=by
  cases h:x.drop xJ with
  |nil=>exact absurd h Qg
  |cons d s=>exact⟨d,s,rfl⟩
 rw[kJ] at q
 refine eM ok kJ ⟨λkd=>?_,λkd=>?_⟩
 ·have kd:d=41:=by simpa using kd
  have:dX 41 (d::g9)=.ok g9:=aL (by rw[kd];rfl)
  rw[this] at q
  change ∀j:Nat,j<=x.length->x.drop j=g9->Q (.tup [.tup [.str [112,97,105,114],.str (cP bo (bV (x.drop (i+1)))),.str (cP bo (x.drop iS))],.int j]) aa at q
  obtain⟨g1,g2,g3⟩:=drop_cons kJ
  exact⟨l3,l2,aP (q (xJ+1) (by exact a20 0x620969502c8101 tt g1) g3)⟩
 ·have kd:¬d=41:=by simpa using kd
  have:dX 41 (d::g9)=.error 1:=aA (by simpa using kd)
  rw[this] at q
  change ∀j:Nat,j<=x.length->Q (.tup [.int 1,.int j]) aa at q
  exact⟨l2,aP (q xJ UW)⟩
end
inductive Tok where
 |sep (c:Nat)|rep (n:Int) (o:Option Tk)
noncomputable def Tok.v:Tok->V
 |.sep c=>.tup [.str [c],.none]
 |.rep n o=>.tup [.int n,eo o]
noncomputable def fp (s:List Nat):Except Int (Tok×List Nat):=
 dC (rV (aD s)) λak=>
 if ak.head?=some 44∨ak.head?=some 47 then .ok (.sep (ak.headD 0),ak.tail) else
 dC (oH ak) λx=>
 if bS.contains (x.2.headD 10)=true then .ok (.rep x.1 none,x.2) else
 dC (cH x.2) λy=>.ok (.rep x.1 (some y.1),y.2)
noncomputable def tJ (Q:V->ag->Prop)(aa:ag)(x:List Nat)(o:Except Int (Tok×List Nat)):Prop:=match o with
 |.ok y=>∀j:Nat,j<=x.length->x.drop j=y.2->Q (.tup [y.1.v,.int j]) aa
 |.error k=>∀j:Nat,j<=x.length->Q (.tup [.int k,.int j]) aa
theorem Bn:∀{l:List Nat}{n:Nat},(∀c∈l,48<=c/\c<=57)->ja n l=some ((l.foldl (λa c=>a*10+(c-48)) n:Nat):Int):=by
 intro z_
 induction z_ with
 |nil=>
  intro n _
  exact rfl
 |cons c l ih=>
  intro n h
  have hc:=h c (.head _)
  show(if 48<=c/\c<=57 then ja ((n:Int)*10+((c:Int)-48)) l else none)=_
  rw[aL hc,show(n:Int)*10+((c:Int)-48)=((n*10+(c-48):Nat):Int) from congrArg (λz=>(n:Int)*10+z) (Int.ofNat_sub hc.1).symm]
  exact ih λd hd=>h d (.tail _ hd)
theorem iw {l:List Nat}(h0:l≠[])(h:∀c∈l,48<=c/\c<=57):aH l=((l.foldl (λa c=>a*10+(c-48)) 0:Nat):Int)/\0<=aH l:=by
 have:aH l=((l.foldl (λa c=>a*10+(c-48)) 0:Nat):Int):=by
  unfold aH
  have:=Bn (n:=0) h
  rw[aA h0,show(0:Int)=((0:Nat):Int) from rfl,this];rfl
 exact⟨this,by rw[this];exact a10 0x68c0094 tt⟩
theorem lq {l:List Nat}(h:¬∀c∈l,48<=c/\c<=57):aH l=-1:=by
 have:∀(l:List Nat) (n:Int),(¬∀c∈l,48<=c/\c<=57)->ja n l=none:=by
  intro l
  induction l with
  |nil=>intro n h;exact absurd (λc hc=>by cases hc) h
  |cons c l ih=>
   intro n h
   show(if 48<=c/\c<=57 then _ else none)=none
   split
   ·rename_i hc
    refine ih _ λk=>h λd hd=>?_
    rcases List.mem_cons.mp hd with e|e
    ·rw[e];exact hc
    ·exact k d e
   ·rfl
 unfold aH
 split
 ·rfl
 ·rw[this l 0 h];rfl
theorem ur {l:List Nat}(h0:l≠[])(h:∀c∈l,48<=c/\c<=57)(hl:l.length<=640):PySem.intText? ⟨l.toArray⟩=some (aH l):=by
 rw[(iw h0 h).1]
 exact intText_digits (x:=⟨l.toArray⟩) (λc hc=>h c (by simpa using hc)) (by simpa using h0) (by show l.toArray.size<=_;simp;exact a10 0xc49cc87040b12702501 tt hl)
theorem gN {C:Frag}{nm:Bool}{l r:List Nat}{lo hi:Option V}{a b:Option Nat}{aa:ag}{Q:V->ag->Prop}(hl:l.length<=1000000)(ha:bound lo=some a)(hb:bound hi=some b)(e:cut l a b=r)(q:Q (.str r) aa):vc C nm (.str l) lo hi aa Q:=
 aV hl ha hb (by rw[e];exact q)
theorem Ez {f:Nat->Bool}{l:List Nat}(hf:f 10=false):10∈l->10∈l.dropWhile f:=by
 induction l with
 |nil=>intro h;cases h
 |cons a l ih=>
  intro h
  rw[List.dropWhile_cons]
  split
  ·rename_i ha
   rcases List.mem_cons.mp h with h|h
   ·rw[←h,hf] at ha;cases ha
   ·exact ih h
  ·exact h
theorem gL.nI {x:List Nat}(ok:gL x){j:Nat}(h:x.drop j≠[]):(x.drop j).getLast?=some 10:=by
 have:=ok.last
 rw[←List.take_append_drop j x,List.getLast?_append] at this
 cases hg:(x.drop j).getLast? with
 |none=>rw[List.getLast?_eq_none_iff] at hg;exact absurd hg h
 |some a=>rw[hg] at this;simpa using this
theorem nr {f:Nat->Bool}(l:List Nat):∃a,l=a++l.dropWhile f:=⟨_,(List.takeWhile_append_dropWhile (p:=f)).symm⟩
theorem cI {α β:Type}{x:Except Int α}{f:α->Except Int β}{y:β}(h:dC x f=.ok y):∃a,x=.ok a/\f a=.ok y:=by
 cases x with
 |ok a=>exact⟨a,rfl,h⟩
 |error k=>cases h
theorem nj {s t:List Nat}(h:rV s=.ok t):t=s:=by
 unfold rV at h;split at h
 ·cases h
 ·cases h;rfl
theorem qd {c:Nat}{s t:List Nat}(h:dX c s=.ok t):s=c::t:=by
 unfold dX at h;split at h
 ·rename_i e
  cases s with
  |nil=>cases e
  |cons a l=>cases h;rw[show a=c by simpa using e];rfl
 ·cases h
theorem BL {l:List Nat}{y:Tk×List Nat}(h:pairE l=.ok y):∃a,l=a++41::y.2:=by
 unfold pairE at h
 obtain⟨ak,e1,h⟩:=cI h
 obtain⟨aT,e2,h⟩:=cI h
 obtain⟨bQ,e3,h⟩:=cI h
 obtain⟨cY,e4,h⟩:=cI h
 have e1:=nj e1
 have e2:=qd e2
 have e3:=nj e3
 have e4:=qd e4
 cases h
 obtain⟨a1,f1⟩:=nr (f:=(·==32)) l
 obtain⟨a2,f2⟩:=nr (f:=λc=>!(bo.contains c)) (bV l)
 obtain⟨a3,f3⟩:=nr (f:=cV) (dj bo (bV l))
 obtain⟨a5,f5⟩:=nr (f:=cV) aT
 obtain⟨a6,f6⟩:=nr (f:=λc=>!(bo.contains c)) bQ
 obtain⟨a7,f7⟩:=nr (f:=(·==32)) (dj bo bQ)
 refine⟨a1++(a2++(a3++(44::(a5++(a6++a7))))),?_⟩
 have g7:dj bo bQ=a7++41::cY:=f7.trans (congrArg (a7++·) e4)
 have g6:bQ=a6++(a7++41::cY):=f6.trans (congrArg (a6++·) g7)
 have g5:aT=a5++(a6++(a7++41::cY)):=f5.trans (congrArg (a5++·) (e3.symm.trans g6))
 have g4:ak=44::(a5++(a6++(a7++41::cY))):=e2.trans (congrArg (44::·) g5)
 have g3:dj bo (bV l)=a3++(44::(a5++(a6++(a7++41::cY)))):=f3.trans (congrArg (a3++·) (e1.symm.trans g4))
 have g2:bV l=a2++(a3++(44::(a5++(a6++(a7++41::cY))))):=f2.trans (congrArg (a2++·) g3)
 have g1:=f1.trans (congrArg (a1++·) g2)
 simpa using g1
section
variable {G:GC}{aa:ag}{Q:V->ag->Prop}{X:Ex->ag->Prop}
theorem Hy (p:PG G){x:List Nat}{i:Nat}(ok:gL x)(hi:i<=x.length)(q:tJ Q aa x (fp (x.drop i))):CF G 4 "_law_next" [.str x,.int i] aa Q X:=by
 refine ax p.g p.zO rfl (by decide) [some (.str x),some (.int i),none,none,none,none] rfl ?_
 have hl:=ok.len
 unfold fp at q
 refine cW (by decide) (fh p ok hi λbR Pt pM eu=>?_)
 rw[yx] at eu
 have eu:x.drop bR=aD (x.drop i):=eu
 rw[←eu] at q
 refine⟨by exact a10 0x31270346ccdec0b12762481 tt hl,λk=>?_,λk=>?_⟩
 ·change (bR:Int)=x.length at k
  have hn:x.drop bR=[]:=List.drop_eq_nil_of_le (by exact a20 0x310209c366009801 tt (by assumption))
  rw[hn] at q
  change ∀j:Nat,j<=x.length->Q (.tup [.int (-1),.int j]) aa at q
  exact⟨l2,aP (q bR pM)⟩
 change ¬(bR:Int)=x.length at k
 have lt:bR<x.length:=Nat.lt_of_le_of_ne pM λe=>k (by rw[e])
 have aN:x.drop bR=x[bR]'lt::x.drop (bR+1):=List.drop_eq_getElem_cons lt
 generalize x[bR]'lt=c at aN
 have TV:rV (x.drop bR)=.ok (x.drop bR):=aA (by rw[aN];simp)
 rw[TV] at q
 change tJ Q aa x (if(x.drop bR).head?=some 44∨(x.drop bR).head?=some 47 then .ok (.sep ((x.drop bR).headD 0),(x.drop bR).tail) else dC (oH (x.drop bR)) λx=>if bS.contains (x.2.headD 10)=true then .ok (.rep x.1 none,x.2) else dC (cH x.2) λy=>.ok (.rep x.1 (some y.1),y.2)) at q
 obtain⟨g1,g2,g3⟩:=drop_cons aN
 refine eM ok aN ⟨λkc=>?_,λkc=>?_⟩
 ·change c∈[44,47] at kc
  have kc:c=44∨c=47:=by simpa using kc
  rw[aL (by rw[aN];simpa using kc),aN] at q
  change ∀j:Nat,j<=x.length->x.drop j=x.drop (bR+1)->Q (.tup [.tup [.str [c],.none],.int j]) aa at q
  exact eM ok aN ⟨l2,l2,aP (q (bR+1) (by omega) rfl)⟩
 change ¬c∈[44,47] at kc
 have kc:¬(c=44∨c=47):=λe=>kc (by simpa using e)
 rw[aA (by rw[aN];simpa using kc)] at q
 have ng:cV c=false:=by
  have:∀l:List Nat,aD l=c::x.drop (bR+1)->cV c=false:=by
   intro l
   unfold aD
   induction l with
   |nil=>intro h;cases h
   |cons a l ih=>
    intro h
    rw[List.dropWhile_cons] at h
    split at h
    ·exact ih h
    ·rename_i ha;cases h;simpa using ha
  exact this _ (by rw[←eu,aN])
 have KS:bS.contains c=false:=by
  unfold cV at ng
  rw[Bool.or_eq_false_iff] at ng
  have e1:c≠32:=by simpa using ng.1
  have e2:c≠10:=by simpa using ng.2
  rw[Bool.eq_false_iff]
  intro h
  have:c=10∨c=32∨c=44∨c=47:=by simpa[bS] using h
  omega
 have fin:∀(n:Int) (j q':Nat),j<=x.length->bS.contains ((x.drop j).headD 10)=false->(∃d s,x.drop j=d::s)->tJ Q aa x (dC (cH (x.drop j)) λy=>.ok (.rep n (some y.1),y.2))->bf G none 3 (bB Q) (bc X) [
   site (aq .eq (item (loc 0) (loc 1)) (lit (.str [39]))) [
    eF (cS [ay 4,ay 1]) (aj "_law_quoted" [loc 0,loc 1])] [
    site (aq .eq (item (loc 0) (loc 1)) (lit (.str [40]))) [
     eF (cS [ay 4,ay 1]) (aj "_law_pair" [loc 0,loc 1])] [
     eF (cS [ay 5,ay 1]) (aj "_law_run" [loc 0,loc 1,lit (.str [32,44,47,10])]),
     aM 4 (tup [lit (.str [114,117,110]),loc 5])]],
   site (oZ (bN .dJ [loc 4,CK "int"])) [
    aC (tup [loc 4,loc 1])] [],
   aC (eX (aq .dw (item (loc 0) (loc 1)) (lit (.str [32,44,47,10]))) (tup [lit (.int 1),loc 1]) (tup [tup [loc 2,loc 4],loc 1]))] ⟨[some (.str x),some (.int j),some (.int n),some (.int q'),none,none],aa⟩:=by
  intro n j q' hj hs ⟨d,s,hd⟩ q
  obtain⟨g1,g2,g3⟩:=drop_cons hd
  have out:∀(o:Except Int (Tk×List Nat)) (j':Nat) (y:Option V),j'<=x.length->tJ Q aa x (dC (dC o GY) λy=>.ok (.rep n (some y.1),y.2))->(∀k,o=.error k->bf G none 3 (bB Q) (bc X) [
   site (oZ (bN .dJ [loc 4,CK "int"])) [
    aC (tup [loc 4,loc 1])] [],
   aC (eX (aq .dw (item (loc 0) (loc 1)) (lit (.str [32,44,47,10]))) (tup [lit (.int 1),loc 1]) (tup [tup [loc 2,loc 4],loc 1]))] ⟨[some (.str x),some (.int j'),some (.int n),some (.int q'),some (.int k),y],aa⟩)/\
    (∀tk s',o=.ok (tk,s')->(∃d s,s'=d::s)->x.drop j'=s'->bf G none 3 (bB Q) (bc X) [
   site (oZ (bN .dJ [loc 4,CK "int"])) [
    aC (tup [loc 4,loc 1])] [],
   aC (eX (aq .dw (item (loc 0) (loc 1)) (lit (.str [32,44,47,10]))) (tup [lit (.int 1),loc 1]) (tup [tup [loc 2,loc 4],loc 1]))] ⟨[some (.str x),some (.int j'),some (.int n),some (.int q'),some tk.v,y],aa⟩):=by
   intro o j' y lD q
   refine⟨λk ek=>?_,λtk s' ek fL vb=>?_⟩
   ·rw[ek] at q
    change ∀j:Nat,j<=x.length->Q (.tup [.int k,.int j]) aa at q
    exact⟨λ_=>⟨l2,aP (q j' lD)⟩,λk=>by cases k⟩
   ·rw[ek] at q
    obtain⟨d',jD,fL⟩:=fL
    change tJ Q aa x (dC (if bS.contains (s'.headD 10)=true then .ok (tk,s') else .error 1) λy=>.ok (.rep n (some y.1),y.2)) at q
    rw[fL] at vb q
    change tJ Q aa x (dC (if bS.contains d'=true then .ok (tk,d'::jD) else .error 1) λy=>.ok (.rep n (some y.1),y.2)) at q
    have go:(eX (aq .dw (item (loc 0) (loc 1)) (lit (.str [32,44,47,10]))) (tup [lit (.int 1),loc 1]) (tup [tup [loc 2,loc 4],loc 1])).wp G none 3 ⟨[some (.str x),some (.int j'),some (.int n),some (.int q'),some tk.v,y],aa⟩ (λv ae=>bB Q (.ret v) ae) (bc X):=by
     refine eM ok vb ⟨λkd=>?_,λkd=>?_⟩
     ·change d'∈[32,44,47,10] at kd
      rw[aL (tM.mp kd)] at q
      change ∀j:Nat,j<=x.length->x.drop j=d'::jD->Q (.tup [.tup [.int n,tk.v],.int j]) aa at q
      exact⟨l2,l2,aP (q j' lD vb)⟩
     ·change ¬d'∈[32,44,47,10] at kd
      rw[aA (λe=>kd (tM.mpr e))] at q
      change ∀j:Nat,j<=x.length->Q (.tup [.int 1,.int j]) aa at q
      exact⟨l2,aP (q j' lD)⟩
    cases tk with
    |text t=>exact⟨λk=>(by cases k),λ_=>go⟩
    |run t=>exact⟨λk=>(by cases k),λ_=>go⟩
    |pair t u=>exact⟨λk=>(by cases k),λ_=>go⟩
  unfold cH at q
  have hh:(x.drop j).head?=some d:=by rw[hd];rfl
  rw[hh] at q
  refine eM ok hd ⟨λkd=>?_,λkd=>?_⟩
  ·have kd:d=39:=by simpa using kd
   rw[aL (by rw[kd])] at q
   have ht:(x.drop j).tail=x.drop (j+1):=by rw[hd,g3];rfl
   rw[ht] at q
   unfold Bb at q
   refine cW (by decide) (BF p ok g1 (λy j' ey lD vb hy=>?_) λey j' lD=>?_)
   ·rw[ey] at q
    refine(out _ j' none lD q).2 (.text y.1) y.2 rfl ?_ vb
    have:∀(b:Bool) (l:List Nat) (y:List Nat×List Nat),oJ b l=some y->∃d s,y.2=d::s:=by
     intro b l
     induction l generalizing b with
     |nil=>intro y h;cases b<;>cases h
     |cons a l ih=>
      intro y h
      cases b with
      |true=>
       change (if a=39 then(oJ false l).map λx=>(39::x.1,x.2) else some ([],a::l))=some y at h
       split at h
       ·obtain⟨z,hz,e⟩:=Option.map_eq_some_iff.mp h
        obtain⟨d,s,e2⟩:=ih false z hz
        exact⟨d,s,by rw[←e];exact e2⟩
       ·cases h;exact⟨_,_,rfl⟩
      |false=>
       change (if a=39 then oJ true l else(oJ false l).map λx=>(if a=10 then x.1 else a::x.1,x.2))=some y at h
       split at h
       ·exact ih true y h
       ·obtain⟨z,hz,e⟩:=Option.map_eq_some_iff.mp h
        obtain⟨d,s,e2⟩:=ih false z hz
        exact⟨d,s,by rw[←e];exact e2⟩
    exact this _ _ y ey
   ·rw[ey] at q
    exact(out _ j' none lD q).1 (-1) rfl
  ·have kd:¬d=39:=by simpa using kd
   have Xk:¬(some d:Option Nat)=some 39:=λe=>kd (Option.some.inj e)
   rw[aA Xk] at q
   refine eM ok hd ⟨λkb=>?_,λkb=>?_⟩
   ·have kb:d=40:=by simpa using kb
    rw[aL (by rw[kb])] at q
    have ht:(x.drop j).tail=x.drop (j+1):=by rw[hd,g3];rfl
    rw[ht] at q
    refine cW (by decide) (Hx p ok g1 ?_)
    cases hp:pairE (x.drop (j+1)) with
    |error k=>
     rw[hp] at q
     exact λj' lD=>(out _ j' none lD q).1 k rfl
    |ok y=>
     rw[hp] at q
     refine λj' lD vb=>(out _ j' none lD q).2 y.1 y.2 rfl ?_ vb
     cases hy:y.2 with
     |cons a l=>exact⟨a,l,rfl⟩
     |nil=>
      exfalso
      rw[hy] at vb
      obtain⟨a,ha⟩:=BL hp
      have K9:(x.drop (j+1)).getLast?=some 10:=ok.nI (by
       intro e
       rw[e] at hp
       exact absurd hp (by unfold pairE;exact λh=>by cases h))
      rw[hy] at ha
      have:(x.drop (j+1)).getLast?=some 41:=by rw[ha];simp
      rw[K9] at this;cases this
   ·have kb:¬d=40:=by simpa using kb
    have Xl:¬(some d:Option Nat)=some 40:=λe=>kb (Option.some.inj e)
    rw[aA Xl] at q
    refine cW (by decide) (Dm p ok hj λj' h1 h2 h3=>?_)
    rw[PZ] at h3 ⊢
    refine⟨l2,(out _ j' (some (.str (cP bS (x.drop j)))) h2 q).2 (.run (cP bS (x.drop j))) _ rfl ?_ h3⟩
    have K9:(x.drop j).getLast?=some 10:=ok.nI (by rw[hd];simp)
    have Nh:10∈x.drop j:=List.mem_of_getLast? K9
    have m:10∈dj bS (x.drop j):=Ez (by decide) Nh
    cases hr:dj bS (x.drop j) with
    |nil=>rw[hr] at m;cases m
    |cons a l=>exact⟨a,l,rfl⟩
 refine cW (by decide) (fh p ok pM λeH pN kN cj=>?_)
 rw[Q6] at cj
 have cj:x.drop eH=eT (x.drop bR):=cj
 have oF:cut x (some bR) (some eH)=bW (x.drop bR):=EA (f:=eV) pN kN cj
 have hT:bW (x.drop bR)=[]↔eH=bR:=by
  have h1:=congrArg List.length (pA (x.drop bR))
  have h2:=congrArg List.length cj
  rw[cN,pE] at h1
  rw[pE] at h2
  constructor
  ·intro e;rw[e,List.length_nil,Nat.zero_add,←h2] at h1;exact(Nat.sub_sub_self kN).symm.trans ((congrArg (x.length - ·) h1).trans (Nat.sub_sub_self pM))
  ·intro e;rw[e] at h2;exact List.eq_nil_of_length_eq_zero (Nat.add_right_cancel (h1.trans (h2.trans (Nat.zero_add _).symm)))
 have Nh:10∈x.drop eH:=by
  rw[cj]
  exact Ez (by decide) (List.mem_of_getLast? (ok.nI (by rw[aN];simp)))
 obtain⟨d,aT,hd⟩:∃d s,x.drop eH=d::s:=by
  cases h:x.drop eH with
  |nil=>rw[h] at Nh;cases Nh
  |cons d s=>exact⟨d,s,rfl⟩
 obtain⟨e1,e2,e3⟩:=drop_cons hd
 unfold oH at q
 rw[←cj,hd] at q
 have one:(bW (x.drop bR)=[]∨¬d=42)->tJ Q aa x (dC (cH (x.drop bR)) λy=>.ok (.rep 1 (some y.1),y.2)):=λho=>by
  rw[aL (ho.imp id λk e=>k (by simpa using e))] at q
  change tJ Q aa x (if bS.contains ((x.drop bR).headD 10)=true then .ok (.rep 1 none,x.drop bR) else dC (cH (x.drop bR)) λy=>.ok (.rep 1 (some y.1),y.2)) at q
  rw[aA (by rw[aN];show ¬bS.contains c=true;rw[KS];exact xx)] at q
  exact q
 refine⟨l2,λk2=>?_,λk2=>?_⟩
 rotate_left
 ·change ¬(bR:Int)<eH at k2
  exact fin 1 bR eH pM (by rw[aN];exact KS) ⟨_,_,aN⟩ (one (.inl (hT.mpr (by exact Nat.le_antisymm (a20 0x62041346005802 tt (uU (by assumption):)) (a20 0x188202c4101 tt pN)))))
 change (bR:Int)<eH at k2
 have dT:¬bW (x.drop bR)=[]:=λe=>Int.lt_irrefl (bR:Int) (by have z:=k2;rw[hT.mp e] at z;exact z)
 refine eM ok hd ⟨λkd=>?_,λkd=>?_⟩
 rotate_left
 ·have kd:¬d=42:=by simpa using kd
  exact fin 1 bR eH pM (by rw[aN];exact KS) ⟨_,_,aN⟩ (one (.inr kd))
 have kd:d=42:=by simpa using kd
 rw[aA (λk=>k.elim dT λk=>k (by rw[kd];rfl))] at q
 have XG:=ok.next hd (by omega)
 obtain⟨f,bQ,hf⟩:∃f s,x.drop (eH+1)=f::s:=by
  cases h:x.drop (eH+1) with
  |nil=>rw[e3] at h;exact absurd h XG
  |cons d s=>exact⟨d,s,rfl⟩
 have OT:(bW (x.drop bR)).length<=600:=by have:=pW (x:=x.drop bR) (f:=eV);rw[pE] at this;unfold bW;exact dq 0x624ec4904c49d8920588304c4083 [_,_,_,0] [] tt hl this (Nat.sub_le _ _:)
 refine gN (by exact a10 0x624e049e90c0b12762481 tt hl) (aZ _) (aZ _) oF ⟨by exact a10 0x189381280b12762481 tt OT,aH (bW (x.drop bR)),ur dT wi (by exact a10 0x189381280b12762481 tt OT),?_⟩
 refine⟨l2,λk3=>?_,λk3=>?_⟩
 ·change aH (bW (x.drop bR))=0 at k3
  rw[aL k3] at q
  change ∀j:Nat,j<=x.length->Q (.tup [.int 1,.int j]) aa at q
  exact⟨l2,aP (q (eH+1) (by exact a20 0x620969502c8101 tt e1))⟩
 change ¬aH (bW (x.drop bR))=0 at k3
 rw[aA k3] at q
 change tJ Q aa x (if bS.contains (aT.headD 10)=true then .ok (.rep (aH (bW (x.drop bR))) none,aT) else dC (cH aT) λy=>.ok (.rep (aH (bW (x.drop bR))) (some y.1),y.2)) at q
 rw[←e3] at q
 obtain⟨f1,f2,f3⟩:=drop_cons hf
 have Wd:(x.drop (eH+1)).headD 10=f:=by rw[hf];rfl
 rw[Wd] at q
 refine eM (p:=eH+1) ok hf ⟨λkf=>?_,λkf=>?_⟩
 ·change f∈[32,44,47,10] at kf
  rw[aL (tM.mp kf)] at q
  change ∀j:Nat,j<=x.length->x.drop j=x.drop (eH+1)->Q (.tup [.tup [.int (aH (bW (x.drop bR))),.none],.int j]) aa at q
  exact⟨l2,l2,aP (q (eH+1) (by exact a20 0x620969502c8101 tt e1) rfl)⟩
 ·change ¬f∈[32,44,47,10] at kf
  have ns:bS.contains f=false:=by
   rw[Bool.eq_false_iff];exact λe=>kf (tM.mpr e)
  rw[aA (by rw[ns];exact xx)] at q
  exact fin _ (eH+1) eH (by exact a20 0x620969502c8101 tt e1) (by rw[Wd];exact ns) ⟨_,_,hf⟩ q
end
noncomputable def G1:Option Int->V
 |none=>.none
 |some n=>.int n
theorem yu {l:List Nat}:dZ l [.str [43],.str [45]]=true↔l=[43]∨l=[45]:=by
 show(decide ([43]=l)||(decide ([45]=l)||false))=true↔_
 rw[Bool.or_false,Bool.or_eq_true,decide_eq_true_eq,decide_eq_true_eq]
 constructor
 ·rintro(h|h)<;>simp[←h]
 ·rintro(h|h)<;>simp[h]
theorem jW {l:List Nat}:(aX l).2=if l.take 1=[43]∨l.take 1=[45] then l.drop 1 else l:=by
 unfold aX
 by_cases h1:l.take 1=[45]
 ·rw[aL h1,aL (.inr h1)]
 ·rw[aA h1]
  by_cases h2:l.take 1=[43]
  ·rw[aL h2,aL (.inl h2)]
  ·rw[aA h2,aA (λk=>k.elim h2 h1)]
section
variable {G:GC}{aa:ag}{Q:V->ag->Prop}{X:Ex->ag->Prop}
theorem vT {aa:ag}{a b:Addr}{xs ys:List V}{P:Bool->Prop}(h1:aa a=some (.list xs))(h2:aa b=some (.list ys))(h:lV (gG aa 7) xs ys)(q:P true):CZ aa a b P:=
 ⟨cQ h1 (cQ h2 (.inr ⟨cQ h1 (cQ h2 h),q⟩))⟩
theorem p3 {aa:ag}{a b:Addr}{xs ys:List V}{P:Bool->Prop}(h1:aa a=some (.list xs))(h2:aa b=some (.list ys))(h:xs.length≠ys.length)(q:P false):CZ aa a b P:=
 ⟨cQ h1 (cQ h2 (.inl ⟨h,q⟩))⟩
theorem l6 {aa:ag}{a b:Addr}{P:Bool->Prop}(h1:aa a=some (.list []))(h2:aa b=some (.list []))(q:P true):CZ aa a b P:=
 vT h1 h2 ⟨rfl,λi x y e=>by simp at e⟩ q
theorem mq (p:PG G){l:List Nat}(hl:l.length<=600)(q:Q (G1 (c9 l)) aa):CF G 2 "_law_whole" [.str l] aa Q X:=by
 refine ax p.g p.xh rfl (by decide) [some (.str l),none] rfl ?_
 have gY:l.length<=1000000:=by exact a10 0x624e049e90c0b12762481 tt hl
 have bl:(aX l).2.length<=l.length:=wo l
 have fin:∀b,b=(aX l).2->bf G none 1 (bB Q) (bc X) [
  site (gw [aq .eq (loc 1) (lit (.str [])),aq .ne (comp ⟨loc 0,ay 0,oC (loc 1),(some (aq .dw (loc 0) (lit (.str [48,49,50,51,52,53,54,55,56,57])))),["c"],1,[]⟩) (gv [])]) [
   aC (lit .none)] [],
  aC (eX (aq .eq (item (loc 0) (lit (.int 0))) (lit (.str [45]))) (neg (bN .int [loc 1])) (bN .int [loc 1]))] ⟨[some (.str l),some (.str b)],aa⟩:=by
  intro b hb
  rw[←hb] at bl
  have ev:c9 l=if aH b<0 then none else some ((aX l).1*aH b):=by rw[hb];rfl
  refine⟨λh=>?_,λh=>?_⟩
  ·change b=[] at h
   have:aH b=-1:=by rw[h];rfl
   rw[ev,this] at q
   exact aP q
  have dT:¬b=[]:=h
  intro acc cg R hR
  change aa acc=none at cg
  have go:∀(ys:List V),(ys=[]↔∀c∈b,48<=c/\c<=57)->∀(l₁:ag),l₁=put aa acc (.list ys)->(aq .ne (comp ⟨loc 0,ay 0,oC (loc 1),(some (aq .dw (loc 0) (lit (.str [48,49,50,51,52,53,54,55,56,57])))),["c"],1,[]⟩) (gv [])).wp=(aq .ne (comp ⟨loc 0,ay 0,oC (loc 1),(some (aq .dw (loc 0) (lit (.str [48,49,50,51,52,53,54,55,56,57])))),["c"],1,[]⟩) (gv [])).wp->(gv []).wp G none 1 ⟨[some (.str l),some (.str b)],l₁⟩ (λv ar=>Bh .ne ar.aa (.ref acc) v λt=>match t with
    |true=>bf G none 1 (λfl ae=>match fl with
      |.next=>False
      |.brk=>False
      |.cont=>False
      |.ret v=>bB Q (.ret v) ae) (bc X) [aC (lit .none)] ar
    |false=>bf G none 1 (bB Q) (bc X) [aC (eX (aq .eq (item (loc 0) (lit (.int 0))) (lit (.str [45]))) (neg (bN .int [loc 1])) (bN .int [loc 1]))] ar) (bc X):=by
   intro ys rX l₁ QI _
   subst QI
   refine⟨by simp,λc hc=>?_⟩
   change put aa acc _ c=none at hc
   obtain⟨Wh,Wg⟩:=cy hc
   have r1:put (put aa acc (.list ys)) c (.list []) acc=some (.list ys):=by rw[ai (Ne.symm Wg),ab]
   have sub:Sub aa (put (put aa acc (.list ys)) c (.list [])):=(Sub.put cg).trans (Sub.put hc)
   by_cases hd:∀c∈b,48<=c/\c<=57
   ·have he:=rX.mpr hd
    subst he
    refine l6 r1 (ab _ _ _) ?_
    obtain⟨w1,w2⟩:=iw dT hd
    rw[ev,aA (by exact Int.not_lt.mpr (a11 0x6834a386cc008d tt w1))] at q
    have Ko:l≠[]:=λe=>dT (by rw[hb,e];rfl)
    obtain⟨a,t,xw⟩:∃a t,l=a::t:=by
     cases l with
     |nil=>exact absurd rfl Ko
     |cons a t=>exact⟨a,t,rfl⟩
    have Oy:(aX l).1=if a=45 then -1 else 1:=by
     unfold aX
     rw[xw]
     show((if[a]=[45] then _ else _):Int×List Nat).1=_
     by_cases RW:a=45
     ·rw[aL (by rw[RW]),aL RW]
     ·rw[aA (by simpa using RW),aA RW];split<;>rfl
    refine item_str (c:=a) (by rw[xw];rfl) ⟨by decide,by decide⟩ ⟨λk=>?_,λk=>?_⟩
    ·have k:a=45:=by simpa using k
     rw[Oy,aL k] at q
     refine⟨by exact a20 0x312702502624ec4902c4082 tt hl bl,aH b,ur dT hd (by exact a20 0x312702502624ec4902c4082 tt hl bl),_,sub,?_⟩
     change Q (.int (-1*aH b)) aa at q
     rw[show(-1:Int)*aH b=-aH b by omega] at q
     exact q
    ·have k:¬a=45:=by simpa using k
     rw[Oy,aA k] at q
     refine⟨by exact a20 0x312702502624ec4902c4082 tt hl bl,aH b,ur dT hd (by exact a20 0x312702502624ec4902c4082 tt hl bl),_,sub,?_⟩
     change Q (.int (1*aH b)) aa at q
     rw[Int.one_mul] at q
     exact q
   ·have he:ys≠[]:=λe=>hd (rX.mp e)
    refine p3 r1 (ab _ _ _) (by simpa using he) ?_
    rw[ev,lq hd] at q
    exact⟨_,sub,q⟩
  have key:∀(s pre:List Nat) (ys:List V) (u:Option V),b=pre++s->(ys=[]↔∀c∈pre,48<=c/\c<=57)->ys.length<=pre.length->R (.seq (b.map λc=>.str [c]) pre.length) ⟨[u],put aa acc (.list ys)⟩:=by
   intro s
   induction s with
   |nil=>
    intro pre ys u e rX hlen
    rw[List.append_nil] at e
    subst e
    exact hR _ _ (jr (by simp) (go ys rX _ rfl rfl))
   |cons c s ih=>
    intro pre ys u e rX hlen
    have Gp:pre.length<=600:=by have:=congrArg List.length e;simp at this;exact a40 0x312762483624ec4902c408270cd6ad2a10182 tt hl bl this
    refine hR _ _ (dh (v:=.str [c]) (by rw[e];exact eA) ⟨λh=>?_,λh=>?_⟩)
    ·change c∈[48,49,50,51,52,53,54,55,56,57] at h
     have hd:48<=c/\c<=57:=by have:=mc.mp h;unfold eV at this;simpa using this
     have:=ih (pre++[c]) ys (some (.str [c])) (by rw[e];simp) (by
      rw[rX]
      constructor
      ·intro k d gZ
       rcases List.mem_append.mp gZ with gZ|gZ
       ·exact k d gZ
       ·rw[List.mem_singleton.mp gZ];exact hd
      ·intro k d gZ;exact k d (by simp[gZ])) (by simp;exact a20 0x62b4a8202c4101 tt hlen)
     rw[cN] at this
     exact this
    ·change ¬c∈[48,49,50,51,52,53,54,55,56,57] at h
     have hd:¬(48<=c/\c<=57):=λk=>h (mc.mpr (by unfold eV;simpa using k))
     refine⟨ys,ab _ _ _,by exact a20 0xc89c0b52730162080b12762482 tt hlen Gp,?_⟩
     have:=ih (pre++[c]) (ys++[.str [c]]) (some (.str [c])) (by rw[e];simp) (by
      constructor
      ·intro k;simp at k
      ·intro k;exact absurd (k c (by simp)) hd) (by simp;exact a20 0x188202c4101 tt hlen)
     rw[cN] at this
     show R _ ⟨_,put (put aa acc _) acc _⟩
     rw[aR]
     exact this
  exact key b [] [] none rfl ⟨λ_ c h=>(by cases h),λ_=>rfl⟩ (eR _)
 refine aV gY rfl rfl ⟨l2,rfl,λh=>?_,λh=>?_⟩
 ·have h:l.take 1=[43]∨l.take 1=[45]:=yu.mp h
  refine aV gY rfl rfl (fin _ ?_)
  rw[jW,aL h];rfl
 ·have h:¬(l.take 1=[43]∨l.take 1=[45]):=λk=>h (yu.mpr k)
  refine fin _ ?_
  rw[jW,aA h]
end
noncomputable def Bm (l:List Nat)(at_:Nat)(w:Option Int):Prop:=
 ((l[at_]?=some 69∨l[at_]?=some 68)/\(∀k,k<at_->l[k]?≠some 69/\l[k]?≠some 68)/\w=c9 (l.drop (at_+1)))∨
 ((∀k:Nat,l[k]?≠some 69/\l[k]?≠some 68)/\((0<at_/\(l[at_]?=some 43∨l[at_]?=some 45)/\(∀k,at_<k->l[k]?≠some 43/\l[k]?≠some 45)/\w=c9 (l.drop at_))∨(at_=l.length/\(∀k,0<k->l[k]?≠some 43/\l[k]?≠some 45)/\w=some 0)))
noncomputable def eW (l:List Nat)(at_:Nat):List Nat:=if l.take 1=[43]∨l.take 1=[45] then(l.take at_).drop 1 else l.take at_
noncomputable def bI (b:List Nat):List Nat:=b.takeWhile λd=>decide (d≠46)
noncomputable def a9 (b:List Nat):List Nat:=(b.dropWhile λd=>decide (d≠46)).drop 1
noncomputable def eG (n:Int):Int:=((bp n).length:Nat)
noncomputable def cG (n d:Int):Int:=if eG n-d>0 then eG n-d else 0
noncomputable def iR (n d:Int):Int:=n/10^(cG n d).toNat+(if decide (10^(cG n d).toNat<2*(n%10^(cG n d).toNat)+(n/10^(cG n d).toNat)%2) then 1 else 0)
noncomputable def p0 (l:List Nat)(n e d top:Int):Except Int (Int×Int):=
 let r:=strip (iR n d) (e+cG n d)
 if r.1=0∨r.2+eG r.1-1 < -top then .ok (0,0) else if top<r.2+eG r.1-1 then .error 2 else .ok (if l.take 1=[45] then -r.1 else r.1,r.2)
noncomputable def sa (l:List Nat)(at_:Nat)(w:Option Int)(d top:Int):Except Int (Int×Int):=
 match c9 ([43]++bI (eW l at_)++a9 (eW l at_)) with
 |none=>.error 1
 |some n=>match w with
  |none=>.error 1
  |some w=>p0 l n (w-(a9 (eW l at_)).length) d top
noncomputable def Bj (Q:V->ag->Prop)(aa:ag)(o:Except Int (Int×Int)):Prop:=match o with
 |.ok r=>Q (bE r) aa
 |.error k=>Q (.int k) aa
theorem jq {n:Int}:1<=(bp n).length:=by
 unfold bp
 rw[show((toString n:String):Str).cps.toList.length=(toString n).length from PySem.ofString_length _]
 cases n with
 |ofNat m=>
  show 1<=(Nat.repr m).length
  have:(Nat.repr m).length≠0:=by
   rw[←String.length_toList,Nat.toList_repr]
   intro e
   exact absurd (List.eq_nil_of_length_eq_zero e) Nat.toDigits_ne_nil
  omega
 |negSucc m=>
  show 1<=("-"++Nat.repr (m+1)).length
  rw[String.length_append]
  have:"-".length=1:=rfl
  exact a20 0x315a0809570cca81 tt this
theorem AU {n:Int}{k:Nat}(hk:0<k)(h:n.natAbs<10^k):(bp n).length<=k+1:=by
 unfold bp
 rw[show((toString n:String):Str).cps.toList.length=(toString n).length from PySem.ofString_length _]
 exact PySem.int_text_length_le10 hk h
section
variable {G:GC}{aa:ag}{Q:V->ag->Prop}{X:Ex->ag->Prop}
theorem A5 {op:jY}{a b:Addr}{xs ys:List V}{aa:ag}{P:V->ag->Prop}(ho:op=.add)(h1:aa a=some (.list xs))(h2:aa b=some (.list ys))(hz:xs.length+ys.length<=1000000)(q:∀c,aa c=none->P (.ref c) (put aa c (.list (xs++ys)))):C0 op a (.ref b) aa P:=
 ⟨by subst ho;exact cQ h1 (cQ h2 ⟨hz,q⟩)⟩
theorem nF {c:Nat}{l:List Nat}:∀{k:Nat},k<l.idxOf c->l[k]?≠some c:=by
 induction l with
 |nil=>intro k h;simp at h
 |cons a l ih=>
  intro k h
  rw[List.idxOf_cons] at h
  cases k with
  |zero=>simp;intro e;subst e;simp at h
  |succ k=>
   simp
   cases ha:a==c with
   |true=>rw[ha] at h;exact absurd h (by simp)
   |false=>rw[ha] at h;exact ih (by simpa using h)
theorem yo {c:Nat}{l:List Nat}(h:c∈l):l[l.idxOf c]?=some c:=by
 have hl:=List.idxOf_lt_length_of_mem h
 rw[List.getElem?_eq_getElem hl]
 simp
theorem HP {a:Addr}{ns:List Int}{aa:ag}{P:V->Prop}(h:aa a=some (.list (ns.map .int)))(dT:ns≠[])(q:∀M,M∈ns->(∀x∈ns,M<=x)->P (.int M)):KN .min a aa P:=
 ⟨cQ h ⟨ns,rfl,dT,q⟩⟩
theorem DZ {n:Nat}(h:n<=200):(0:Int)<10^n/\(10:Int)^n<2^9000:=⟨Int.pow_pos (by decide),dp (qg h)⟩
theorem DV {n:Int}(h:n.natAbs<10^201):n.natAbs<2^1920:=Nat.lt_of_lt_of_le h (by decide+kernel)
theorem sJ (p:PG G){l:List Nat}{d top:Int}(h0:l≠[])(hl:l.length<=198)(hd:1<=d)(q:∀a w,Bm l a w->Bj Q aa (sa l a w d top)):CF G 3 "_law_number" [.str l,.int d,.int top] aa Q X:=by
 refine ax p.g p.uO rfl (by decide) [some (.str l),some (.int d),some (.int top),none,none,none,none,none,none,none,none,none,none] rfl ?_
 have gY:l.length<=1000000:=by exact a10 0x624e049e90c0b1271a181 tt hl
 have UL:∀(led':ag),Sub aa led'->∀(a:Nat) (b ah pt be:List Nat) (m e dr r:Int),0<=m->m.natAbs<10^201->(let x:=strip m e
   Bj Q aa (if x.1=0∨x.2+eG x.1-1 < -top then .ok (0,0) else if top<x.2+eG x.1-1 then .error 2 else .ok (if l.take 1=[45] then -x.1 else x.1,x.2)))->
   bf G none 2 (bB Q) (bc X) (di.body.drop 11) ⟨[some (.str l),some (.int d),some (.int top),some (.int a),some (.int e),some (.str b),some (.str ah),some (.str pt),some (.str be),some (.int m),some (.int dr),some (.int r),none],led'⟩:=by
  intro led' gA a b ah pt be m e dr r hm NQ q
  intro R hf hR
  have key:∀(k:Nat) (m e:Int),m.natAbs<=k->0<=m->m.natAbs<10^201->(let x:=strip m e
   Bj Q aa (if x.1=0∨x.2+eG x.1-1 < -top then .ok (0,0) else if top<x.2+eG x.1-1 then .error 2 else .ok (if l.take 1=[45] then -x.1 else x.1,x.2)))->R ⟨[some (.str l),some (.int d),some (.int top),some (.int a),some (.int e),some (.str b),some (.str ah),some (.str pt),some (.str be),some (.int m),some (.int dr),some (.int r),none],led'⟩:=by
   intro k
   induction k using Nat.strongRecOn with
   |ind k ih=>
    intro m e hk hm NQ q
    have stop:m%10≠0∨m=0->bf G none 2 (bB Q) (bc X) (di.body.drop 12) ⟨[some (.str l),some (.int d),some (.int top),some (.int a),some (.int e),some (.str b),some (.str ah),some (.str pt),some (.str be),some (.int m),some (.int dr),some (.int r),none],led'⟩:=λhs=>by
     rw[fP hs] at q
     dsimp only at q
     have o5:(bp m).length<=202:=AU (by decide) NQ
     refine⟨DV NQ,by exact a10 0x31270346ccdec0b1272a181 tt o5,?_⟩
     change Bj Q aa (if m=0∨e+eG m-1 < -top then .ok (0,0) else if top<e+eG m-1 then .error 2 else .ok (if l.take 1=[45] then -m else m,e)) at q
     have zero:m=0∨e+eG m-1 < -top->∀loc,bB Q (.ret (.tup [.int 0,.int 0])) ⟨loc,led'⟩:=λhz loc=>by
      rw[aL hz] at q
      exact⟨_,gA,q⟩
     refine⟨λh=>⟨l2,zero (.inl h) _⟩,λh=>⟨λh2=>⟨l2,zero (.inr h2) _⟩,λh2=>?_⟩⟩
     have hz:¬(m=0∨e+eG m-1 < -top):=λk=>k.elim h h2
     rw[aA hz] at q
     refine⟨λh3=>?_,λh3=>?_⟩
     ·change top<e+eG m-1 at h3
      rw[aL h3] at q
      exact⟨_,gA,q⟩
     ·change ¬top<e+eG m-1 at h3
      rw[aA h3] at q
      obtain⟨x0,t0,hx⟩:∃x0 t0,l=x0::t0:=by
       cases l with
       |nil=>exact absurd rfl h0
       |cons x0 t0=>exact⟨x0,t0,rfl⟩
      refine item_str (c:=x0) (by rw[hx];rfl) ⟨by decide,by decide⟩ ⟨λh4=>?_,λh4=>?_⟩
      ·have h4:x0=45:=by simpa using h4
       rw[aL (by rw[hx,h4];rfl)] at q
       exact⟨l2,_,gA,q⟩
      ·have h4:¬x0=45:=by simpa using h4
       rw[aA (by rw[hx];simpa using h4)] at q
       exact⟨l2,_,gA,q⟩
    refine hR _ ⟨λh=>stop (.inr h),λh=>⟨by decide,λh2=>?_,λh2=>stop (.inl h2)⟩⟩
    change ¬m=0 at h
    change m%10=0 at h2
    rw[jE h2 h] at q
    exact⟨G8,l2,ih (m/10).natAbs (fc hk h h2) (m/10) (e+1) (eR _) (Int.ediv_nonneg hm (by decide)) (Nat.lt_trans (fc (eR _) h h2) NQ) q⟩
  exact key _ m e (eR _) hm NQ q
 have fin:∀(a:Nat) (w:Option Int) (led':ag),Sub aa led'->a<=l.length->Bm l a w->bf G none 2 (bB Q) (bc X) (di.body.drop 2) ⟨[some (.str l),some (.int d),some (.int top),some (.int a),some (G1 w),none,none,none,none,none,none,none,none],led'⟩:=by
  intro a w led' gA ha xw
  have q:=q a w xw
  have fin2:∀b,b=eW l a->bf G none 2 (bB Q) (bc X) (di.body.drop 3) ⟨[some (.str l),some (.int d),some (.int top),some (.int a),some (G1 w),some (.str b),none,none,none,none,none,none,none],led'⟩:=by
   intro b hb
   have CR:b.length<=198:=by
    rw[hb];unfold eW;split
    ·simp;exact fm (Nat.min_le_right _ _) (k9 hl rfl)
    ·simp;exact fm (Nat.min_le_right _ _) hl
   unfold sa at q
   rw[←hb] at q
   have h1:(bI b).length<=198:=fm pW CR
   have h2:(a9 b).length<=198:=by
    unfold a9
    rw[pE]
    have:=ji (x:=b) (f:=λd=>decide (d≠46))
    exact a30 0x624e34306c49c6860588104c4103 tt CR this (Nat.sub_le _ _:)
   have h3:(bI b).length+(a9 b).length<=198:=by
    have:=congrArg List.length (List.takeWhile_append_dropWhile (p:=λd=>decide (d≠46)) (l:=b))
    rw[cN] at this
    unfold bI a9
    rw[pE];exact a40 0x624e3435a10131271a181660568304c4184 tt CR this (Nat.sub_le _ _:)
   refine⟨rfl,by exact a10 0x624e049e90c0b1271a181 tt CR,?_⟩
   refine⟨by rw[dk];show 1+(bI b).length<=_;exact a10 0x18938127a435a04ab1271a181 tt h1,?_,?_⟩
   ·show([43]++bI b).length+(a9 b).length<=_
    rw[cN,dk];exact a20 0x3127024f486b412d02558938d0c0b1271a182 tt h1 h2
   refine cW (by decide) (mq p (by show([43]++bI b++a9 b).length<=_;rw[cN,cN,dk];exact a20 0xc49d892b412d02558938d0c0b1271a182 tt h1 h2) ?_)
   have XM:∀n,c9 ([43]++bI b++a9 b)=some n->0<=n/\n<10^199:=by
    intro n hn
    unfold c9 at hn
    split at hn
    ·cases hn
    ·rename_i hw
     have e:aX ([43]++bI b++a9 b)=(1,bI b++a9 b):=rfl
     rw[e] at hn hw
     change ¬aH (bI b++a9 b)<0 at hw
     have j2:=sC (l:=bI b++a9 b) (by exact a01 0x1a0d28d0694 tt (uU (by assumption):))
     have:(10:Int)^(bI b++a9 b).length<=10^199:=by
      have:=Nat.pow_le_pow_right (n:=10) (by decide) (show(bI b++a9 b).length<=199 by rw[cN];exact a20 0x18938f0d68202c49c686b4101 tt h3)
      exact_mod_cast this
     have hn:=Option.some.inj hn
     change ¬aH (bI b++a9 b)<0 at hw
     change 1*aH (bI b++a9 b)=n at hn
     rw[←hn,Int.one_mul];exact⟨Int.not_lt.mp hw,Int.lt_of_lt_of_le j2 this⟩
   match hf:c9 ([43]++bI b++a9 b) with
   |none=>
    rw[hf] at q
    exact⟨_,gA,q⟩
   |some n=>
    rw[hf] at q
    cases w with
    |none=>exact⟨_,gA,q⟩
    |some w=>
     obtain⟨n0,n1⟩:=XM n hf
     have Wb:n.natAbs<10^199:=by
      have:((n.natAbs:Nat):Int)<(10:Int)^199:=Dt n0 n1
      exact_mod_cast this
     have o5:(bp n).length<=200:=AU (by decide) Wb
     have Uq:n.natAbs<10^201:=Nat.lt_of_lt_of_le Wb (Nat.pow_le_pow_right (by decide) (by decide))
     have xB:0<=cG n d/\cG n d<=199:=by
      unfold cG eG;split
      ·exact⟨by omega,by omega⟩
      ·decide
     have hd2:(cG n d).toNat<=200:=j6 (Int.le_trans xB.2 (by decide))
     change Bj Q aa (p0 l n (w-(a9 b).length) d top) at q
     refine⟨by show(a9 b).length<=_;exact a10 0x31270346ccdec0b1271a181 tt h2,DV Uq,by exact a10 0x31270346ccdec0b12722181 tt o5,?_⟩
     refine⟨⟨xB.1,Int.le_trans xB.2 (by decide),sd⟩,DZ hd2,?_⟩
     refine⟨.inl CX,by decide,⟨xB.1,Int.le_trans xB.2 (by decide),sd⟩,?_⟩
     have pp:=(DZ (n:=(cG n d).toNat) hd2).1
     have b0:0<=n/10^(cG n d).toNat:=Int.ediv_nonneg n0 (Int.le_of_lt pp)
     have b1:n/10^(cG n d).toNat<=n:=Int.ediv_le_self _ n0
     have b2:0<=iR n d/\iR n d<=n+1:=by
      unfold iR
      split
      ·exact⟨Int.add_nonneg b0 (by decide),Int.add_le_add b1 (Int.le_refl 1)⟩
      ·exact⟨Int.add_nonneg b0 (by decide),Int.add_le_add b1 (by decide)⟩
     refine UL led' gA a b (bI b) _ (a9 b) (iR n d) (w-(a9 b).length+cG n d) _ _ b2.1 ?_ q
     have:((iR n d).natAbs:Int)<(10:Int)^201:=by
      have e1:(10:Int)^199+1<=10^201:=by decide+kernel
      exact Dt b2.1 (Int.lt_of_le_of_lt b2.2 (Int.lt_of_lt_of_le (Int.add_lt_add_right n1 1) e1))
     exact_mod_cast this
  have hp:=yu (l:=l.take 1)
  refine aV gY rfl rfl ⟨l2,rfl,λh=>?_,λh=>?_⟩
  ·have h:=hp.mp h
   exact aV (a:=some 1) (b:=some a) gY rfl (aZ a) (fin2 _ (aL h).symm)
  ·have h:=λk=>h (hp.mpr k)
   exact aV (a:=none) (b:=some a) gY rfl (aZ a) (fin2 _ (aA h).symm)
 intro acc cg R hR
 change aa acc=none at cg
 have go:∀(ns:List Int),(∀n∈ns,(n=(l.idxOf 69:Nat)/\69∈l)∨(n=(l.idxOf 68:Nat)/\68∈l))->(69∈l->((l.idxOf 69:Nat):Int)∈ns)->(68∈l->((l.idxOf 68:Nat):Int)∈ns)->ns.length<=2->∀u,R (.seq [.str [69],.str [68]] 2) ⟨[u,some (.str l)],put aa acc (.list (ns.map .int))⟩:=by
  intro ns hn RV Yn hlen u
  refine hR _ _ (jr rfl ⟨by exact a10 0x31270346ccdec0b1271a181 tt hl,by simp,λb hb=>?_⟩)
  change put aa acc _ b=none at hb
  obtain⟨Y9,RU⟩:=cy hb
  have r1:put (put aa acc (.list (ns.map .int))) b (.list [.int l.length]) acc=some (.list (ns.map .int)):=by rw[ai (Ne.symm RU),ab]
  refine A5 rfl r1 (ab _ _ _) (by simp;exact a10 0x1893ff23a4302c4b01 tt hlen) λc hc=>?_
  change put (put aa acc _) b _ c=none at hc
  have sub:Sub aa (put (put (put aa acc (.list (ns.map .int))) b (.list [.int l.length])) c (.list (ns.map V.int++[.int l.length]))):=((Sub.put cg).trans (Sub.put hb)).trans (Sub.put hc)
  refine HP (ns:=ns++[(l.length:Int)]) ((ab _ _ _).trans (by simp)) (by simp) λM hM C6=>?_
  have hle:M<=l.length:=C6 _ (by simp)
  have Yq:0<=M:=by
   rcases List.mem_append.mp hM with h|h
   ·rcases hn M h with h|h<;>omega
   ·have:=List.mem_singleton.mp h;exact a11 0x6834a386cc008d tt this
  obtain⟨m,rfl⟩:=jb Yq
  have no:∀k:Nat,k<m->l[k]?≠some 69/\l[k]?≠some 68:=by
   intro k hk
   constructor
   ·intro e
    have lN:=List.mem_of_getElem? e
    have:=C6 _ (List.mem_append_left _ (RV lN))
    exact nF (show k<l.idxOf 69 by exact a30 0xc818164080b4600d802 tt hk this) e
   ·intro e
    have lN:=List.mem_of_getElem? e
    have:=C6 _ (List.mem_append_left _ (Yn lN))
    exact nF (show k<l.idxOf 68 by exact a30 0xc818164080b4600d802 tt hk this) e
  refine⟨by exact a10 0x31270346ccdec0b1271a181 tt hl,λh=>?_,λh=>?_⟩
  ·change (m:Int)=l.length at h
   have all:∀k:Nat,l[k]?≠some 69/\l[k]?≠some 68:=by
    intro k
    by_cases hk:k<m
    ·exact no k hk
    ·rw[List.getElem?_eq_none (by exact a30 0x620c1386cc013002c4181 tt (by assumption) (ND hk:))];simp
   refine⟨rfl,λr1 GI=>⟨rfl,λr2 Kj=>?_⟩⟩
   have TQ:∀M2:Int,M2=(if r2>r1 then r2 else r1)->(M2<=0->∀k:Nat,0<k->l[k]?≠some 43/\l[k]?≠some 45)/\(0<M2->(l[M2.toNat]?=some 43∨l[M2.toNat]?=some 45)/\∀k:Nat,M2.toNat<k->l[k]?≠some 43/\l[k]?≠some 45):=by
    intro M2 IZ
    have f1:∀k:Nat,r1<k->l[k]?≠some 43:=by
     intro k hk e
     rcases GI with⟨_,h⟩|⟨i,hi,_,h⟩
     ·exact h (List.mem_of_getElem? e)
     ·exact h k (by exact a21 0x640413560046b86cc010d tt hk hi) e
    have f2:∀k:Nat,r2<k->l[k]?≠some 45:=by
     intro k hk e
     rcases Kj with⟨_,h⟩|⟨i,hi,_,h⟩
     ·exact h (List.mem_of_getElem? e)
     ·exact h k (by exact a21 0x640413560046b86cc010d tt hk hi) e
    have m1:r1<=M2:=by rw[IZ];split<;>omega
    have m2:r2<=M2:=by rw[IZ];split<;>omega
    refine⟨λhle k hk=>⟨f1 k (by exact a12 0x3560046b41c35a141cc8094 tt m1 hle hk),f2 k (by exact a12 0x3560046b41c35a141cc8094 tt m2 hle hk)⟩,λj2=>⟨?_,λk hk=>⟨f1 k (by exact a22 0x1ab00435a0e1ac810168c008e tt m1 hk (Int.self_le_toNat _:)),f2 k (by exact a22 0x1ab00435a0e1ac810168c008e tt m2 hk (Int.self_le_toNat _:))⟩⟩⟩
    by_cases hc:r2>r1
    ·rw[aL hc] at IZ
     rcases Kj with⟨h,_⟩|⟨i,hi,h,_⟩
     ·exact False.elim (iY 0 (a02 0x191428d870d6a34a365c54a0e tt IZ j2 h))
     ·right;rw[IZ,hi];simpa using h
    ·rw[aA hc] at IZ
     rcases GI with⟨h,_⟩|⟨i,hi,h,_⟩
     ·exact False.elim (iY 0 (a02 0x191428d870d6a34a365c54a0e tt IZ j2 h))
     ·left;rw[IZ,hi];simpa using h
   have cont:∀(M2:Int) (QQ:Fl->St->Prop),(M2<=0->∀k:Nat,0<k->l[k]?≠some 43/\l[k]?≠some 45)/\(0<M2->(l[M2.toNat]?=some 43∨l[M2.toNat]?=some 45)/\∀k:Nat,M2.toNat<k->l[k]?≠some 43/\l[k]?≠some 45)->
     (∀(a:Nat) w,a<=l.length->Bm l a w->QQ .next ⟨[some (.str l),some (.int d),some (.int top),some (.int a),some (G1 w),none,none,none,none,none,none,none,none],put (put (put aa acc (.list (ns.map .int))) b (.list [.int l.length])) c (.list (ns.map V.int++[.int l.length]))⟩)->
     bf G none 2 QQ (bc X) [aM 3 (eX (aq .gt (loc 3) (lit (.int 0))) (loc 3) (bN .len [loc 0])),
      aM 4 (eX (aq .eq (loc 3) (bN .len [loc 0])) (lit (.int 0)) (aj "_law_whole" [gr true (loc 0) (some (loc 3)) none]))] ⟨[some (.str l),some (.int d),some (.int top),some (.int M2),none,none,none,none,none,none,none,none,none],put (put (put aa acc (.list (ns.map .int))) b (.list [.int l.length])) c (.list (ns.map V.int++[.int l.length]))⟩:=by
    intro M2 QQ pm qq
    refine⟨λh2=>?_,λh2=>?_⟩
    ·change 0<M2 at h2
     obtain⟨at2,Xb⟩:=pm.2 h2
     have j2:M2.toNat<l.length:=by
      rcases at2 with e|e<;>exact(List.getElem?_eq_some_iff.mp e).1
     obtain⟨m2,rfl⟩:=jb (Int.le_of_lt h2)
     refine⟨by exact a10 0x31270346ccdec0b1271a181 tt hl,λh3=>?_,λ_=>?_⟩
     ·change (m2:Int)=l.length at h3
      simp at j2;exact False.elim (iY 0 (a20 0x6450a320405c366009801 tt j2 (by assumption)))
     ·refine gN (r:=l.drop m2) gY (aZ m2) rfl rfl (cW (by decide) (mq p (by rw[pE];exact dq 0x312762483624e34302c4083 [_,0,_] [] tt hl (Nat.sub_le _ _:)) ?_))
      exact qq m2 _ (by simp at j2;exact a20 0x188202c8101 tt j2) (.inr ⟨all,.inl ⟨by exact a10 0xc80946ac0094 tt (by assumption),by simpa using at2,by simpa using Xb,rfl⟩⟩)
    ·change ¬0<M2 at h2
     refine⟨by exact a10 0x31270346ccdec0b1271a181 tt hl,by exact a10 0x31270346ccdec0b1271a181 tt hl,λ_=>?_,λh3=>absurd rfl h3⟩
     exact qq l.length (some 0) (eR _) (.inr ⟨all,.inr ⟨rfl,pm.1 (by exact a01 0x1a141ad0a0d tt (uU (by assumption):)),rfl⟩⟩)
   exact cont _ _ (TQ _ rfl) λa w h1 h2=>fin a w _ sub h1 h2
  ·change ¬(m:Int)=l.length at h
   have YQ:l[m]?=some 69∨l[m]?=some 68:=by
    rcases List.mem_append.mp hM with hm|hm
    ·rcases hn _ hm with⟨e,lN⟩|⟨e,lN⟩
     ·left;rw[show m=l.idxOf 69 by exact Nat.le_antisymm (a20 0x62080b66009801 tt e) (a20 0x310209c366009801 tt e)];exact yo lN
     ·right;rw[show m=l.idxOf 68 by exact Nat.le_antisymm (a20 0x62080b66009801 tt e) (a20 0x310209c366009801 tt e)];exact yo lN
    ·have:=List.mem_singleton.mp hm;omega
   refine gN (r:=l.drop (m+1)) gY (pB m) rfl rfl (cW (by decide) (mq p (by rw[pE];exact dq 0x312762482624e34302c4082 [_,_,0] [] tt hl (Nat.sub_le _ _:)) ?_))
   exact fin m _ _ sub (by exact a20 0x62080b46009801 tt hle) (.inl ⟨YQ,no,rfl⟩)
 have VA:∀(ns:List Int),(∀n∈ns,n=(l.idxOf 69:Nat)/\69∈l)->(69∈l->((l.idxOf 69:Nat):Int)∈ns)->ns.length<=1->∀u,R (.seq [.str [69],.str [68]] 1) ⟨[u,some (.str l)],put aa acc (.list (ns.map .int))⟩:=by
  intro ns hn RV hlen u
  refine hR _ _ (dh (v:=.str [68]) rfl ⟨λh=>?_,λh=>?_⟩)
  ·change 68∈l at h
   refine⟨rfl,h,ns.map .int,ab _ _ _,by simp;exact a10 0x1913816a4e602c4a81 tt hlen,?_⟩
   have:=go (ns++[((l.idxOf 68:Nat):Int)]) (λn hm=>by
    rcases List.mem_append.mp hm with hm|hm
    ·exact .inl (hn n hm)
    ·exact .inr ⟨List.mem_singleton.mp hm,h⟩) (λk=>by simp[RV k]) (λk=>by simp) (by simp;exact a10 0x189502c4a81 tt hlen) (some (.str [68]))
   show R _ ⟨_,put (put aa acc _) acc _⟩
   rw[aR]
   rw[List.map_append] at this
   exact this
  ·change ¬68∈l at h
   exact go ns (λn hm=>.inl (hn n hm)) RV (λk=>absurd k h) (by exact a10 0x189602c4a81 tt hlen) _
 refine hR _ _ (dh (v:=.str [69]) rfl ⟨λh=>?_,λh=>?_⟩)
 ·change 69∈l at h
  refine⟨rfl,h,[],ab _ _ _,by simp,?_⟩
  show R _ ⟨_,put (put aa acc _) acc _⟩
  rw[aR]
  exact VA [((l.idxOf 69:Nat):Int)] (λn hm=>⟨List.mem_singleton.mp hm,h⟩) (λ_=>by simp) (by simp) _
 ·change ¬69∈l at h
  exact VA [] (λn hm=>by cases hm) (λk=>absurd k h) (by simp) _
end
theorem Mg:∀(n:Nat),n<10^xD n:=by
 intro n
 induction n using Nat.strongRecOn with
 |ind n ih=>
  by_cases h:n=0
  ·subst h;rw[sy];decide
  ·rw[vG h,Nat.pow_succ]
   have:=ih (n/10) (yA h)
   exact Nat.lt_of_lt_of_le (Nat.lt_mul_div_succ n (by decide:0<10)) (by rw[Nat.mul_comm];exact Nat.mul_le_mul_right 10 this)
theorem AV {n:Int}(h:0<n):eG n=cd n:=by
 obtain⟨m,rfl⟩:=jb (Int.le_of_lt h)
 have hm:0<m:=by exact a10 0xc80946ac0094 tt h
 unfold eG cd bp
 rw[show((toString (m:Int):String):Str).cps.toList.length=(toString (m:Int)).length from PySem.ofString_length _]
 have e:toString (m:Int)=Nat.repr m:=rfl
 rw[e]
 have e2:(m:Int).natAbs=m:=rfl
 rw[e2]
 have hc:0<xD m:=by rw[vG (by omega)];exact a10 0x325a54094 tt
 have l1:(Nat.repr m).length<=xD m:=(Nat.length_repr_le_iff hc).mpr (Mg m)
 have l0:0<(Nat.repr m).length:=by
  have:=jq (n:=(m:Int))
  unfold bp at this
  rw[show((toString (m:Int):String):Str).cps.toList.length=(toString (m:Int)).length from PySem.ofString_length _] at this
  exact this
 have l2:xD m<=(Nat.repr m).length:=yD _ ((Nat.length_repr_le_iff l0).mp (eR _))
 exact oD (a20 0x68c013002c4101 tt l1) (a20 0x68c00b004c4082 tt l2)
theorem PY:eG 0=1:=rfl
theorem EH (m:Int):cd (-m)=cd m:=by unfold cd;rw[Int.natAbs_neg]
theorem Bv:∀(k:Nat)(m e:Int),m.natAbs<=k->strip (-m) e=(-(strip m e).1,(strip m e).2):=by
 intro k
 induction k using Nat.strongRecOn with
 |ind k ih=>
  intro m e hk
  by_cases h:m%10=0/\m≠0
  ·rw[jE h.1 h.2,jE (m:=-m) (AI.mpr h.1) (Int.neg_ne_zero.mpr h.2),Im h.1]
   exact ih (m/10).natAbs (fc hk h.2 h.1) (m/10) (e+1) (eR _)
  ·have h1:m%10≠0∨m=0:=by
    by_cases h0:m=0
    ·exact .inr h0
    ·exact .inl λk=>h ⟨k,h0⟩
   rw[fP h1,fP (m:=-m) (h1.imp (mt AI.mp) λz=>by rw[z];rfl)]
theorem ES:∀(k:Nat)(m e:Int),m.natAbs<=k->0<=m->0<=(strip m e).1:=by
 intro k
 induction k using Nat.strongRecOn with
 |ind k ih=>
  intro m e hk hm
  by_cases h:m%10=0/\m≠0
  ·rw[jE h.1 h.2]
   exact ih (m/10).natAbs (fc hk h.2 h.1) (m/10) (e+1) (eR _) (Int.ediv_nonneg hm (by decide))
  ·have h1:m%10≠0∨m=0:=by
    by_cases h0:m=0
    ·exact .inr h0
    ·exact .inl λk=>h ⟨k,h0⟩
   rw[fP h1];exact hm
theorem D7 {n d:Int}(h:cG n d=0):iR n d=n:=by
 unfold iR
 rw[h]
 simp
 rw[aA (show ¬(1:Int)<n%2 from Int.not_lt.mpr (Int.le_of_lt_add_one (Int.emod_lt_of_pos n (by decide)))),Int.add_zero]
theorem AE {a p r:Int}(h:r=0∨r=1):p<a+r↔a>p∨a=p/\r=1:=by
 rcases h with rfl|rfl<;>omega
theorem D6 {n d:Int}:iR n d=kept n (10^(cG n d).toNat):=by
 unfold iR kept
 generalize (10:Int)^(cG n d).toNat=p
 have h2:(n/p)%2=0∨(n/p)%2=1:=Int.emod_two_eq _
 by_cases h:p<2*(n%p)+n/p%2
 ·rw[decide_eq_true h,aL rfl,aL];exact(AE h2).mp h
 ·rw[decide_eq_false h,aA xx,aA]
  ·exact oD (a01 0x341ab4a0d tt) (a01 0x345a5068d tt)
  ·exact λk=>h ((AE h2).mpr k)
theorem BB {l:List Nat}:(aX l).1=if l.take 1=[45] then -1 else 1:=by
 unfold aX
 split
 ·rfl
 ·split<;>rfl
noncomputable def xG (o:Option (Int×Int)):Except Int (Int×Int):=match o with
 |none=>.error 2
 |some r=>.ok r
theorem E4 {l:List Nat}{n e d top:Int}(hn:0<=n)(hd:1<=d):p0 l n e d top=xG (tB ((aX l).1*n) e d top):=by
 unfold p0 tB
 by_cases h0:n=0
 ·subst h0
  have xB:cG 0 d=0:=by unfold cG;rw[PY,aA (by exact Int.not_lt.mpr (a01 0x685170d2ad0695 tt hd))]
  have e1:(aX l).1*0=0:=by omega
  have e2:A6 0 e d=(0,0):=by
   unfold A6
   have:cd 0=0:=by unfold cd;rw[show(0:Int).natAbs=0 from rfl,sy];rfl
   rw[this,aA (by exact Int.not_lt.mpr (a01 0x685170d28d0695 tt hd))];rfl
  rw[D7 xB,xB,fP (.inr rfl),e1,e2]
  simp[xG]
 ·have SX:0<n:=by omega
  have xC:eG n=cd n:=AV SX
  have s1:(aX l).1=1∨(aX l).1=-1:=wm l
  have UC:cd ((aX l).1*n)=cd n:=by
   rcases s1 with h|h
   ·rw[h,Int.one_mul]
   ·rw[h,show(-1:Int)*n=-n by omega,EH]
  have key:A6 ((aX l).1*n) e d=(if iR n d=0 then(0,0) else((aX l).1*(strip (iR n d) (e+cG n d)).1,(strip (iR n d) (e+cG n d)).2)):=by
   have sz:∀(m x:Int),gd ((aX l).1*m) x=if m=0 then(0,0) else((aX l).1*(strip m x).1,(strip m x).2):=by
    intro m x
    unfold gd
    rcases s1 with h|h
    ·rw[h,Int.one_mul];simp
    ·rw[h]
     have:(-1:Int)*m=-m:=by omega
     rw[this]
     by_cases hm:m=0
     ·rw[aL hm,aL (by omega)]
     ·rw[aA hm,aA (by omega),Bv _ m x (eR _)]
      congr 1;omega
   unfold A6
   rw[UC]
   by_cases xB:cd n-d>0
   ·rw[aL xB]
    have e1:cG n d=cd n-d:=by unfold cG;rw[xC,aL xB]
    have e2:bk ((aX l).1*n)=n:=by
     unfold bk
     rcases s1 with h|h<;>rw[h]
     ·rw[Int.one_mul,aA (by exact Int.not_lt.mpr (a01 0x1a0d28d0694 tt hn))]
     ·rw[aL (by omega)];omega
    have e3:(if(aX l).1*n>0 then kept (bk ((aX l).1*n)) (10^(cd n-d).toNat) else -kept (bk ((aX l).1*n)) (10^(cd n-d).toNat))=(aX l).1*iR n d:=by
     rw[e2,D6,e1]
     rcases s1 with h|h<;>rw[h]
     ·rw[Int.one_mul,aL (by omega),Int.one_mul]
     ·rw[aA (by omega)];omega
    rw[e3,sz,e1]
   ·rw[aA xB]
    have e1:cG n d=0:=by unfold cG;rw[xC,aA xB]
    rw[sz,e1,D7 e1,Int.add_zero]
  have nn:0<=iR n d:=by
   rw[D6]
   unfold kept
   have:0<=n/10^(cG n d).toNat:=Int.ediv_nonneg hn (Int.le_of_lt (Int.pow_pos (by decide)))
   split<;>omega
  rw[key]
  by_cases hz:iR n d=0
  ·rw[aL hz,hz,fP (.inr rfl)]
   simp[xG]
  ·rw[aA hz]
   have sn:=ES _ (iR n d) (e+cG n d) (eR _) nn
   generalize strip (iR n d) (e+cG n d)=r at sn
   dsimp only
   by_cases hr:r.1=0
   ·rw[aL (.inl hr),aL (.inl (by rw[hr];omega))];rfl
   ·have z0:0<r.1:=by omega
    have c1:cd ((aX l).1*r.1)=eG r.1:=by
     rw[AV z0]
     rcases s1 with h|h
     ·rw[h,Int.one_mul]
     ·rw[h,show(-1:Int)*r.1=-r.1 by omega,EH]
    have z1:¬(aX l).1*r.1=0:=by rcases s1 with h|h<;>rw[h]<;>omega
    rw[c1]
    by_cases h2:r.2+eG r.1-1 < -top
    ·rw[aL (.inr h2),aL (.inr h2)];rfl
    ·have n1:¬(r.1=0∨r.2+eG r.1-1 < -top):=λk=>k.elim hr h2
     have n2:¬((aX l).1*r.1=0∨r.2+eG r.1-1 < -top):=λk=>k.elim z1 h2
     rw[aA n1,aA n2]
     by_cases h3:top<r.2+eG r.1-1
     ·rw[aL h3,aL (show r.2+eG r.1-1>top from h3)];rfl
     ·rw[aA h3,aA (show ¬r.2+eG r.1-1>top from h3)]
      show Except.ok _=Except.ok _
      congr 1
      rw[BB]
      congr 1
      split<;>omega
theorem yy (b:List Nat):gI b=(bI b++a9 b,((a9 b).length:Int)):=by
 unfold gI bI a9
 by_cases h:46∈b
 ·rw[aL h]
  obtain⟨t1,t2⟩:=mI (c:=46) (x:=b) (i:=b.idxOf 46) (yo h) (λk hk=>nF hk)
  have j2:=List.idxOf_lt_length_of_mem h
  rw[←t1,←t2]
  congr 1
  rw[pE,Int.ofNat_sub j2];exact Int.sub_sub _ _ _
 ·rw[aA h]
  have C7:∀c∈b,decide (c≠46)=true:=λc hc=>by
   rw[decide_eq_true_eq];exact λe=>h (e▸hc)
  have t1:b.takeWhile (λd=>decide (d≠46))=b:=by
   have:∀b:List Nat,(∀c∈b,decide (c≠46)=true)->b.takeWhile (λd=>decide (d≠46))=b:=by
    intro b
    induction b with
    |nil=>intro _;rfl
    |cons a b ih=>intro h;rw[List.takeWhile_cons,aL (h a (.head _)),ih λc hc=>h c (.tail _ hc)]
   exact this b C7
  have t2:b.dropWhile (λd=>decide (d≠46))=[]:=by
   have:=List.takeWhile_append_dropWhile (p:=λd=>decide (d≠46)) (l:=b)
   rw[t1] at this
   exact List.append_cancel_left (this.trans (List.append_nil b).symm)
  rw[t1,t2];simp
theorem tail_eq {l:List Nat}{a:Nat}{w:Option Int}{d top:Int}(hd:1<=d):sa l a w d top=(match gH (eW l a) with
  |none=>.error 1
  |some (n,k)=>match w with
   |none=>.error 1
   |some w=>xG (tB ((aX l).1*n) (w-k) d top)):=by
 unfold sa gH
 rw[yy]
 have e:c9 ([43]++bI (eW l a)++a9 (eW l a))=if aH (bI (eW l a)++a9 (eW l a))<0 then none else some (1*aH (bI (eW l a)++a9 (eW l a))):=rfl
 rw[e]
 by_cases h:aH (bI (eW l a)++a9 (eW l a))<0
 ·rw[aL h,aL h]
 ·rw[aA h,aA h]
  cases w with
  |none=>rfl
  |some w=>
   show p0 l _ _ d top=xG (tB _ _ d top)
   rw[E4 (by exact a01 0x68be08d28d0694 tt (uU h:)) hd,Int.one_mul]
noncomputable def Ti (r:List Nat)(a:Nat)(w:Option Int):Prop:=
 ((r[a]?=some 69∨r[a]?=some 68)/\(∀k,k<a->r[k]?≠some 69/\r[k]?≠some 68)/\w=c9 (r.drop (a+1)))∨
 ((∀k:Nat,r[k]?≠some 69/\r[k]?≠some 68)/\(((r[a]?=some 43∨r[a]?=some 45)/\(∀k,a<k->r[k]?≠some 43/\r[k]?≠some 45)/\w=c9 (r.drop a))∨(a=r.length/\(∀k:Nat,r[k]?≠some 43/\r[k]?≠some 45)/\w=some 0)))
theorem mD {c x:Nat}{r:List Nat}(hc:c=43∨c=45)(hx:x∈r)(hb:¬(48<=x/\x<=57)):c9 (c::r)=none:=by
 have e:(aX (c::r)).2=r:=by rw[jW,aL (by rcases hc with h|h<;>rw[h]<;>simp)];rfl
 unfold c9
 rw[e,lq (λk=>hb (k x hx)),aL (by decide)]
noncomputable def Cuts (r:List Nat)(a:Nat)(w:Option Int):Prop:=
 (r.take a=(b7 r).1/\w=if(b7 r).2.2=true then c9 (b7 r).2.1 else some 0)∨
 ((∃x∈r.take a,x=43∨x=45)/\(b7 r).2.2=true/\c9 (b7 r).2.1=none)
theorem UP:∀(r:List Nat)(a:Nat)(w:Option Int),Ti r a w->Cuts r a w:=by
 intro z_
 induction z_ with
 |nil=>
  intro a w h
  rcases h with⟨h,_⟩|⟨_,⟨h,_⟩|⟨h,_,hw⟩⟩
  ·simp at h
  ·simp at h
  ·exact .inl ⟨by simp[b7],hw⟩
 |cons c r ih=>
  intro a w h
  have ce:b7 (c::r)=if c=69∨c=68 then([],r,true) else if c=43∨c=45 then([],c::r,true) else(c::(b7 r).1,(b7 r).2):=rfl
  unfold Cuts
  by_cases h1:c=69∨c=68
  ·rw[ce,aL h1]
   rcases h with⟨h,rZ,hw⟩|⟨rZ,_⟩
   ·have a0:a=0:=by
     rcases Nat.eq_zero_or_pos a with h'|h'
     ·exact h'
     ·have:=rZ 0 h'
      simp at this
      rcases h1 with e|e
      ·exact absurd e this.1
      ·exact absurd e this.2
    subst a0
    exact .inl ⟨rfl,hw⟩
   ·have:=rZ 0
    simp at this
    rcases h1 with e|e
    ·exact absurd e this.1
    ·exact absurd e this.2
  ·by_cases h2:c=43∨c=45
   ·rw[ce,aA h1,aL h2]
    rcases h with⟨h,rZ,hw⟩|⟨rZ,⟨h,lM,hw⟩|⟨_,lM,_⟩⟩
    ·cases a with
     |zero=>simp at h;exact absurd h h1
     |succ a=>
      refine .inr ⟨⟨c,by simp,h2⟩,rfl,?_⟩
      have h:r[a]?=some 69∨r[a]?=some 68:=by simpa using h
      rcases h with e|e
      ·exact mD h2 (List.mem_of_getElem? e) (by decide)
      ·exact mD h2 (List.mem_of_getElem? e) (by decide)
    ·cases a with
     |zero=>exact .inl ⟨rfl,hw⟩
     |succ a=>
      refine .inr ⟨⟨c,by simp,h2⟩,rfl,?_⟩
      have h:r[a]?=some 43∨r[a]?=some 45:=by simpa using h
      rcases h with e|e
      ·exact mD h2 (List.mem_of_getElem? e) (by decide)
      ·exact mD h2 (List.mem_of_getElem? e) (by decide)
    ·have:=lM 0
     simp at this
     rcases h2 with e|e
     ·exact absurd e this.1
     ·exact absurd e this.2
   ·rw[ce,aA h1,aA h2]
    cases a with
    |zero=>
     exfalso
     rcases h with⟨h,_⟩|⟨_,⟨h,_⟩|⟨h,_⟩⟩
     ·simp at h;exact h1 h
     ·simp at h;exact h2 h
     ·simp at h
    |succ a=>
     have hr:Ti r a w:=by
      rcases h with⟨h,rZ,hw⟩|⟨rZ,⟨h,lM,hw⟩|⟨h,lM,hw⟩⟩
      ·exact .inl ⟨by simpa using h,λk hk=>by simpa using rZ (k+1) (by exact a20 0x192d2a0969502c8101 tt hk),hw⟩
      ·exact .inr ⟨λk=>by simpa using rZ (k+1),.inl ⟨by simpa using h,λk hk=>by simpa using lM (k+1) (by exact a20 0x192d2a0969502c8101 tt hk),hw⟩⟩
      ·exact .inr ⟨λk=>by simpa using rZ (k+1),.inr ⟨by simpa using h,λk=>by simpa using lM (k+1),hw⟩⟩
     rcases ih a w hr with⟨e1,e2⟩|⟨⟨x,hx,V3⟩,e2,e3⟩
     ·exact .inl ⟨by rw[List.take_succ_cons,e1],e2⟩
     ·exact .inr ⟨⟨x,by rw[List.take_succ_cons];exact .tail _ hx,V3⟩,e2,e3⟩
theorem IG {l:List Nat}{a:Nat}{w:Option Int}(h0:l≠[])(h:Bm l a w):∃a',eW l a=((aX l).2).take a'/\Ti (aX l).2 a' w:=by
 obtain⟨c,t,rfl⟩:∃c t,l=c::t:=by
  cases l with
  |nil=>exact absurd rfl h0
  |cons c t=>exact⟨c,t,rfl⟩
 unfold eW
 rw[jW]
 by_cases hs:(c::t).take 1=[43]∨(c::t).take 1=[45]
 ·rw[aL hs,aL hs]
  have hc:c=43∨c=45:=by simpa using hs
  cases a with
  |zero=>
   exfalso
   rcases h with⟨h,_⟩|⟨_,⟨h,_⟩|⟨h,_⟩⟩
   ·simp at h;omega
   ·exact iY 0 (dq 0x191428c8a14 [] [] tt h)
   ·simp at h
  |succ a=>
   refine⟨a,by simp,?_⟩
   rcases h with⟨h,rZ,hw⟩|⟨rZ,⟨h,h',lM,hw⟩|⟨h,lM,hw⟩⟩
   ·exact .inl ⟨by simpa using h,λk hk=>by simpa using rZ (k+1) (by exact a20 0x192d2a0969502c8101 tt hk),hw⟩
   ·exact .inr ⟨λk=>by simpa using rZ (k+1),.inl ⟨by simpa using h',λk hk=>by simpa using lM (k+1) (by exact a20 0x192d2a0969502c8101 tt hk),hw⟩⟩
   ·exact .inr ⟨λk=>by simpa using rZ (k+1),.inr ⟨by simpa using h,λk=>by simpa using lM (k+1) (by exact a10 0x325a54094 tt),hw⟩⟩
 ·rw[aA hs,aA hs]
  have hc:¬(c=43∨c=45):=by simpa using hs
  refine⟨a,rfl,?_⟩
  rcases h with h|⟨rZ,⟨h,h',lM,hw⟩|⟨h,lM,hw⟩⟩
  ·exact .inl h
  ·exact .inr ⟨rZ,.inl ⟨h',lM,hw⟩⟩
  ·refine .inr ⟨rZ,.inr ⟨h,λk=>?_,hw⟩⟩
   cases k with
   |zero=>simp;omega
   |succ k=>exact lM (k+1) (by exact a10 0x325a54094 tt)
theorem L8 {l:List Nat}{a:Nat}{w:Option Int}{d top:Int}(h0:l≠[])(hd:1<=d)(h:Bm l a w):sa l a w d top=gJ l d top:=by
 obtain⟨a',hb,hr⟩:=IG h0 h
 rw[tail_eq hd,hb]
 unfold gJ
 rw[aA h0]
 rcases UP _ _ _ hr with⟨e1,e2⟩|⟨⟨x,hx,V3⟩,e2,e3⟩
 ·rw[e1,←e2]
  cases gH (b7 (aX l).2).1 with
  |none=>rfl
  |some n=>cases w<;>rfl
 ·have bad:gH ((aX l).2.take a')=none:=by
   unfold gH
   rw[yy]
   have hm:x∈bI ((aX l).2.take a')++a9 ((aX l).2.take a'):=by
    have:=List.takeWhile_append_dropWhile (p:=λd=>decide (d≠46)) (l:=(aX l).2.take a')
    rw[←this] at hx
    unfold bI a9
    rcases List.mem_append.mp hx with hx|hx
    ·exact List.mem_append_left _ hx
    ·refine List.mem_append_right _ ?_
     cases hd:((aX l).2.take a').dropWhile (λd=>decide (d≠46)) with
     |nil=>rw[hd] at hx;cases hx
     |cons y ys=>
      rw[hd] at hx
      rcases List.mem_cons.mp hx with e|e
      ·exfalso
       have:decide (y≠46)=false:=by
        have:∀(m:List Nat) (y:Nat) (ys:List Nat),m.dropWhile (λd=>decide (d≠46))=y::ys->decide (y≠46)=false:=by
         intro m
         induction m with
         |nil=>intro y ys h;cases h
         |cons a m ih=>
          intro y ys h
          rw[List.dropWhile_cons] at h
          split at h
          ·exact ih y ys h
          ·rename_i ha;cases h;simpa using ha
        exact this _ y ys hd
       have:y=46:=by simpa using this
       omega
      ·exact e
   rw[lq (λk=>by have:=k x hm;omega),aL (by decide)]
  rw[bad,e2,e3]
  cases gH (b7 (aX l).2).1 with
  |none=>rfl
  |some n=>rfl
noncomputable def LM (Q:V->ag->Prop)(aa:ag)(k:Int)(o:Except Int V):Prop:=match o with
 |.error c=>Q (.int c) aa
 |.ok v=>Q (if k=0 then .tup [v] else v) aa
noncomputable def fJ (l:List Nat)(d:Int):V:=match bg l d with
 |.ok r=>bE r
 |.error k=>.int k
theorem MN {s:List Nat}{n:Nat}:(s++List.replicate n 32).take n=tI s n:=by
 unfold tI
 rw[List.take_append]
 congr 1
 rw[List.take_replicate,Nat.min_eq_left (Nat.sub_le ..),xY]
section
variable {G:GC}{aa:ag}{Q:V->ag->Prop}{X:Ex->ag->Prop}
theorem D5 {l:List Nat}{d:Int}(h0:l≠[])(hd:1<=d){a:Nat}{w:Option Int}(h:Bm l a w)(q:Q (fJ l d) aa):Bj Q aa (sa l a w d 99):=by
 rw[L8 h0 hd h]
 unfold fJ bg at q
 rw[aA h0] at q
 cases hr:gJ l d 99 with
 |ok r=>rw[hr] at q;exact q
 |error k=>rw[hr] at q;exact q
theorem E2 (p:PG G){t:Tk}{k n:Int}{a:Addr}(cZ:lI G aa a)(ok:t.ok)(hlen:t.len 198)(h0:0<=n)(h1:n<=1000)(Kq:0<=k)(XU:k<=5)(q:LM Q aa k (fz t k n)):CF G 4 "_law_meant" [t.v,.int k,.int n,.ref a] aa Q X:=by
 refine ax p.g p.xj rfl (by decide) [some t.v,some (.int k),some (.int n),some (.ref a),none,none,none,none] rfl ?_
 have vu:=cZ
 obtain⟨dx,r,hl⟩:=vu
 obtain⟨m,rfl⟩:∃m:Nat,n=m:=⟨n.toNat,by omega⟩
 have nn:∀{a b:List Nat} {P:Prop},a≠b->a=b->P:=λh e=>absurd e h
 have A7:∀{aa:ag} {P:V->Prop} {u:V} {l:List V},P u->lL (.tup (u::l)) (.int 0) aa P:=λh=>item_tup rfl ⟨by decide,by decide⟩ h
 have zZ:∀{aa:ag} {P:V->Prop} {u w:V} {l:List V},P w->lL (.tup (u::w::l)) (.int 1) aa P:=λh=>item_tup rfl ⟨by decide,by decide⟩ h
 have one:∀{l:List Nat} {c:Nat} {s:List Nat} {aa:ag} {P:V->Prop},l=c::s->P (.str [c])->lL (.str l) (.int 0) aa P:=λe q=>item_str (by rw[e];rfl) ⟨by decide,by decide⟩ q
 have WW:¬([116,101,120,116]:List Nat)=[112,97,105,114]:=by decide
 have WV:¬([116,101,120,116]:List Nat)=[114,117,110]:=by decide
 have WU:¬([112,97,105,114]:List Nat)=[116,101,120,116]:=by decide
 have WT:¬([112,97,105,114]:List Nat)=[114,117,110]:=by decide
 have WS:¬([114,117,110]:List Nat)=[116,101,120,116]:=by decide
 have WR:¬([114,117,110]:List Nat)=[112,97,105,114]:=by decide
 cases t with
 |text s=>
  change LM Q aa k (if k=5 then .ok (.str (tI s m)) else .error 1) at q
  have hs:s.length<=198:=hlen
  refine⟨λh=>A7 ⟨λ_=>?_,λk=>absurd rfl k⟩,λh=>⟨λh3=>A7 ⟨λe=>absurd e WW,λ_=>?_⟩,λh3=>A7 ⟨λe=>absurd e WV,λ_=>?_⟩⟩⟩
  ·change k=5 at h
   subst h
   refine zZ ⟨⟨rfl,by exact a10 0x1a138127a436005a13d13d801 tt h1,by exact a10 0x1a3002b89c093d2194 tt⟩,by simp;exact a20 0x624e049e90d68104d09e89ec00b1271a182 tt h1 hs,?_⟩
   refine gN (a:=none) (b:=some m) (r:=tI s m) (by simp;exact a20 0x624e049e90d68104d09e89ec00b1271a182 tt h1 hs) rfl (aZ m) ?_ (aP q)
   rw[←MN];rfl
  ·change ¬k=5 at h
   rw[aA h] at q;exact aP q
  ·change ¬k=5 at h
   rw[aA h] at q;exact aP q
 |pair x y=>
  have q:LM Q aa k (if k=3 then(match bg x 9 with
   |.error e=>.error e
   |.ok r=>(match bg y 9 with
    |.error e=>.error e
    |.ok r'=>.ok (.tup [bE r,bE r']))) else .error 1):=q
  refine⟨λh=>A7 ⟨λe=>absurd e WU,λ_=>?_⟩,λh5=>⟨λh=>?_,λh=>A7 ⟨λe=>absurd e WT,λ_=>?_⟩⟩⟩
  ·change k=5 at h
   rw[aA (by omega)] at q;exact aP q
  rotate_left
  ·change ¬k=3 at h
   rw[aA h] at q;exact aP q
  change k=3 at h
  subst h
  rw[aL rfl] at q
  refine A7 ⟨λ_=>zZ ⟨λe=>?_,λe=>?_⟩,λe=>absurd rfl e⟩
  ·change x=[] at e
   have:bg x 9=.error 1:=aL e
   rw[this] at q;exact aP q
  have hx:¬x=[]:=e
  have q:Q (match bg x 9 with
   |.error e=>.int e
   |.ok r=>(match bg y 9 with
    |.error e=>.int e
    |.ok r'=>.tup [bE r,bE r'])) aa:=by
   cases h1:bg x 9 with
   |error e=>rw[h1] at q;exact q
   |ok r=>
    rw[h1] at q
    cases h2:bg y 9 with
    |error e=>rw[h2] at q;exact q
    |ok r'=>rw[h2] at q;exact q
  refine Bz (k:=1) (by decide) (by simp) (by simp) ?_
  intro acc cg R hR
  change aa acc=none at cg
  have na:a≠acc:=λe=>by rw[e,cg] at hl;cases hl
  have OS:∀ys,(put aa acc (.list ys)) a=some (ob G 7 dx (.int 16::.int 9::.int 12::.int 99::r)):=λys=>(ai na).trans hl
  have elt:∀(l:List Nat) (ys:List V) (QQ:V->St->Prop),l.length<=198->QQ (fJ l 9) ⟨[some (.str l),some (.ref a)],put aa acc (.list ys)⟩->
    (eX (aq .ne (loc 0) (lit (.str []))) (aj "_law_number" [loc 0,attr 7 1 (loc 1),attr 7 3 (loc 1)]) (lit (.int 1))).wp G none 3 ⟨[some (.str l),some (.ref a)],put aa acc (.list ys)⟩ QQ (λex cn=>bc X ex ⟨[some (Tk.pair x y).v,some (.int 3),some (.int m),some (.ref a),none,none,none,none],cn.aa⟩):=by
   intro l ys QQ XR qq
   refine⟨λe=>?_,λe=>?_⟩
   ·change l=[] at e
    have:fJ l 9=.int 1:=by unfold fJ bg;rw[aL e]
    rw[this] at qq;exact qq
   ·change ¬l=[] at e
    refine bG.mk a dx _ _ rfl (OS ys) rfl (bG.mk a dx _ _ rfl (OS ys) rfl (cW (by decide) (sJ p e XR (by decide) λa' w' xw=>D5 e (by decide) xw qq)))
  refine hR _ _ (dh (v:=.str x) rfl (elt x [] _ hlen.1 ⟨[],ab _ _ _,by simp,?_⟩))
  show R _ ⟨_,put (put aa acc _) acc _⟩
  rw[aR]
  refine hR _ _ (dh (v:=.str y) rfl (elt y [fJ x 9] _ hlen.2 ⟨[fJ x 9],ab _ _ _,by simp,?_⟩))
  show R _ ⟨_,put (put aa acc _) acc _⟩
  rw[aR]
  refine hR _ _ (jr rfl ?_)
  have l4:(put aa acc (.list [fJ x 9,fJ y 9])) acc=some (.list [fJ x 9,fJ y 9]):=ab _ _ _
  refine⟨⟨_,l4⟩,?_⟩
  intro A9 La R2 Wj
  change put aa acc (.list [fJ x 9,fJ y 9]) A9=none at La
  obtain⟨g1,g2⟩:=cy La
  have Oq:∀ys,Sub aa (put (put aa acc (.list [fJ x 9,fJ y 9])) A9 (.list ys)):=λys=>(Sub.put cg).trans (Sub.put La)
  have k4:∀ys,(put (put aa acc (.list [fJ x 9,fJ y 9])) A9 (.list ys)) acc=some (.list [fJ x 9,fJ y 9]):=λys=>(ai (Ne.symm g2)).trans l4
  have Y6:∀(l:List Nat) (QQ:Bool->Prop),(match bg l 9 with|.ok _=>QQ false|.error _=>QQ true)->GV (.bool (match bg l 9 with|.ok _=>false|.error _=>true)) QQ:=by
   intro l QQ h
   cases hp:bg l 9 with
   |ok r=>rw[hp] at h;exact⟨λe=>(by cases e),λ_=>h⟩
   |error e=>rw[hp] at h;exact⟨λ_=>h,λe=>(by cases e)⟩
  have fin:∀ys:List V,ys=(match bg x 9 with|.ok _=>[]|.error e=>[V.int e])++(match bg y 9 with|.ok _=>[]|.error e=>[V.int e])->∀u,R2 (.list acc 2) ⟨[u],put (put aa acc (.list [fJ x 9,fJ y 9])) A9 (.list ys)⟩:=by
   intro ys rX u
   refine Wj _ _ (mF (k4 ys) rfl ⟨by simp,λc hc=>?_⟩)
   change put (put aa acc _) A9 _ c=none at hc
   have r1:put (put (put aa acc (.list [fJ x 9,fJ y 9])) A9 (.list ys)) c (.list []) A9=some (.list ys):=by
    obtain⟨e1,e2⟩:=cy hc
    rw[ai (Ne.symm e2),ab]
   have KD:Sub aa (put (put (put aa acc (.list [fJ x 9,fJ y 9])) A9 (.list ys)) c (.list [])):=(Oq ys).trans (Sub.put hc)
   have r4:put (put (put aa acc (.list [fJ x 9,fJ y 9])) A9 (.list ys)) c (.list []) acc=some (.list [fJ x 9,fJ y 9]):=by
    have:acc≠c:=λe=>by rw[←e,k4 ys] at hc;cases hc
    rw[ai this];exact k4 ys
   cases h1:bg x 9 with
   |error e=>
    rw[h1] at rX q
    change ys=V.int e::(match bg y 9 with|.ok _=>[]|.error e=>[V.int e]) at rX
    refine p3 r1 (ab _ _ _) (by rw[rX];simp) ?_
    exact bx r1 (by rw[rX];rfl) ⟨by decide,by decide⟩ ⟨_,KD,q⟩
   |ok WZ=>
    rw[h1] at rX q
    cases h2:bg y 9 with
    |error e=>
     rw[h2] at rX q
     refine p3 r1 (ab _ _ _) (by rw[rX];simp) ?_
     exact bx r1 (by rw[rX];rfl) ⟨by decide,by decide⟩ ⟨_,KD,q⟩
    |ok WY=>
     rw[h2] at rX q
     change ys=[] at rX
     subst rX
     refine l6 r1 (ab _ _ _) ?_
     have px:fJ x 9=bE WZ:=by unfold fJ;rw[h1]
     have py:fJ y 9=bE WY:=by unfold fJ;rw[h2]
     refine bx r4 rfl ⟨by decide,by decide⟩ (bx r4 rfl ⟨by decide,by decide⟩ ⟨l2,_,KD,?_⟩)
     rw[px,py];exact q
  have Vz:∀(l:List Nat) (i:Nat) (ys:List V),([fJ x 9,fJ y 9]:List V)[i]?=some (fJ l 9)->ys.length<=3->(∀v,R2 (.list acc (i+1)) ⟨[v],put (put aa acc (.list [fJ x 9,fJ y 9])) A9 (.list (ys++(match bg l 9 with|.ok _=>[]|.error e=>[V.int e])))⟩)->∀v,R2 (.list acc i) ⟨[v],put (put aa acc (.list [fJ x 9,fJ y 9])) A9 (.list ys)⟩:=by
   intro l i ys hi hz hn v
   refine Wj _ _ (jX (k4 ys) hi ?_)
   unfold fJ
   cases hp:bg l 9 with
   |ok r=>
    rw[hp] at hn
    refine⟨λe=>(by cases e),λ_=>?_⟩
    have:=hn (some (bE r))
    rw[List.append_nil] at this
    unfold fJ at this
    exact this
   |error e=>
    rw[hp] at hn
    refine⟨λ_=>⟨ys,ab _ _ _,by exact a10 0x1913816a4e602c4b81 tt hz,?_⟩,λe=>(by cases e)⟩
    show R2 _ ⟨_,put (put (put aa acc _) A9 _) A9 _⟩
    rw[aR]
    have:=hn (some (.int e))
    unfold fJ at this
    exact this
  refine Vz x 0 [] rfl (by simp) (Vz y 1 _ rfl ?_ (fin _ rfl)) none
  rw[List.nil_append]
  cases bg x 9<;>simp
 |run s=>
  obtain⟨⟨hb,SY⟩,dT⟩:=ok
  have hs:s.length<=198:=hlen
  have XF:s.length<=1000000:=by exact a10 0x624e049e90c0b1271a181 tt hs
  change LM Q aa k (if k=0 then emap V.int (mZ s 16) else if k=4 then emap V.bool (ry s) else if k=1 then emap bE (bg s 9) else if k=2 then emap bE (bg s 12) else .error 1) at q
  obtain⟨c,s',hc⟩:∃c s',s=c::s':=by
   cases s with
   |nil=>exact absurd rfl dT
   |cons c s'=>exact⟨c,s',rfl⟩
  refine⟨λh=>A7 ⟨λe=>absurd e WS,λ_=>?_⟩,λh5=>⟨λh=>A7 ⟨λe=>absurd e WR,λ_=>?_⟩,λh3=>A7 ⟨λ_=>?_,λe=>absurd rfl e⟩⟩⟩
  ·change k=5 at h
   subst h;exact aP q
  ·change k=3 at h
   subst h;exact aP q
  change ¬k=5 at h5
  change ¬k=3 at h3
  refine⟨λh4=>?_,λh4=>?_⟩
  ·change k=4 at h4
   subst h4
   change LM Q aa 4 (emap V.bool (ry s)) at q
   have tf:∀{l:List Nat},dZ l [.str [84],.str [70]]=true↔l=[84]∨l=[70]:=by
    intro l
    show(decide ([84]=l)||(decide ([70]=l)||false))=true↔_
    rw[Bool.or_false,Bool.or_eq_true,decide_eq_true_eq,decide_eq_true_eq]
    constructor
    ·rintro(h|h)<;>simp[←h]
    ·rintro(h|h)<;>simp[h]
   have fin:∀b:List Nat,b=(if s.take 1=[46] then s.drop 1 else s)->bf G none 3 (bB Q) (bc X) [aC (eX (aq .isin (gr true (loc 6) none (some (lit (.int 1)))) (tup [lit (.str [84]),lit (.str [70])])) (cmp .eq (item (loc 6) (lit (.int 0))) (lit (.str [84]))) (lit (.int 1)))]
     ⟨[some (Tk.run s).v,some (.int 4),some (.int m),some (.ref a),none,none,some (.str b),none],aa⟩:=by
    intro b RU
    have CR:b.length<=1000000:=by
     rw[RU];split
     ·simp;exact a10 0x624e0c9e90c0b1271a181 tt hs
     ·exact a10 0x624e049e90c0b1271a181 tt hs
    unfold ry at q
    rw[←RU] at q
    dsimp only at q
    refine aV CR rfl rfl ⟨l2,rfl,λh=>?_,λh=>?_⟩
    ·have h:b.take 1=[84]∨b.take 1=[70]:=tf.mp h
     rcases h with h|h
     ·rw[aL h] at q
      obtain⟨b',S8⟩:∃b',b=84::b':=by
       cases b with
       |nil=>cases h
       |cons x b'=>exact⟨b',by rw[show x=84 by simpa using h]⟩
      exact one S8 (aP q)
     ·rw[aA (by rw[h];decide),aL h] at q
      obtain⟨b',S8⟩:∃b',b=70::b':=by
       cases b with
       |nil=>cases h
       |cons x b'=>exact⟨b',by rw[show x=70 by simpa using h]⟩
      exact one S8 (aP q)
    ·have h:¬(b.take 1=[84]∨b.take 1=[70]):=λk=>h (tf.mpr k)
     rw[aA (λk=>h (.inl k)),aA (λk=>h (.inr k))] at q
     exact aP q
   refine zZ (one hc ⟨λh=>?_,λh=>?_⟩)
   ·have h:c=46:=by simpa using h
    refine zZ (gN (r:=s.drop 1) XF rfl rfl rfl (fin _ ?_))
    rw[aL (by rw[hc,h];rfl)]
   ·have h:¬c=46:=by simpa using h
    refine zZ (fin _ ?_)
    rw[aA (by rw[hc];simpa using h)]
  change ¬k=4 at h4
  refine⟨λNq=>?_,λNq=>?_⟩
  ·change k=0 at Nq
   subst Nq
   change LM Q aa 0 (emap V.int (mZ s 16)) at q
   refine zZ (cW (by decide) (mq p (by exact a10 0x1893b1240b1271a181 tt hs) ?_))
   unfold mZ at q
   unfold c9
   by_cases hw:aH (aX s).2<0
   ·rw[aL hw] at q ⊢
    exact aP q
   ·rw[aA hw] at q ⊢
    have p1:(0:Int)<=16-1/\(16:Int)-1<=1000000/\rn 2:=⟨by decide,by decide,CX⟩
    refine bG.mk a dx _ _ rfl hl rfl ⟨p1,λKm=>bG.mk a dx _ _ rfl hl rfl ⟨p1,λS5=>?_,λS5=>?_⟩,λKm=>?_⟩
    ·rw[aL ⟨Km,S5⟩] at q
     exact⟨by simp,aP q⟩
    ·rw[aA (λk=>S5 k.2)] at q
     exact aP q
    ·rw[aA (λk=>Km k.1)] at q
     exact aP q
  change ¬k=0 at Nq
  rw[aA Nq,aA h4] at q
  have fin:∀d:Int,1<=d->LM Q aa k (emap bE (bg s d))->fu G none 3 (Z G "_law_number") [.str s,.int d,.int 99] [] ⟨[some (Tk.run s).v,some (.int k),some (.int m),some (.ref a),none,none,none,none],aa⟩ (λv σ=>bB Q (.ret v) σ) (bc X):=by
   intro d hd q
   refine cW (by decide) (sJ p dT hs hd λa' w' xw=>D5 dT hd xw ?_)
   unfold fJ
   cases hp:bg s d with
   |ok r=>
    rw[hp] at q
    change Q (if k=0 then .tup [bE r] else bE r) aa at q
    rw[aA Nq] at q;exact aP q
   |error e=>rw[hp] at q;exact aP q
  refine zZ ⟨λh2=>?_,λh2=>?_⟩
  ·change k=2 at h2
   subst h2
   exact bG.mk a dx _ _ rfl hl rfl (fin 12 (by decide) q)
  ·change ¬k=2 at h2
   have GQ:k=1:=by omega
   subst GQ
   exact bG.mk a dx _ _ rfl hl rfl (bG.mk a dx _ _ rfl hl rfl (fin 9 (by decide) q))
end
theorem yU (s:List Nat):aD (aD s)=aD s:=by
 unfold aD
 induction s with
 |nil=>rfl
 |cons c s ih=>
  rw[List.dropWhile_cons]
  split
  ·exact ih
  ·rename_i h;rw[List.dropWhile_cons,aA h]
theorem RB {t:Rs}(h1:¬t.left>0)(h2:t.done=false)(h3:t.eS=false):b8 t=(match fp t.s with
  |.error k=>.error k
  |.ok (.sep c,s')=>if c=47 then .ok (none,{ t with s:=aD t.s,eS:=false,done:=true }) else .ok (none,{ t with s:=s',eS:=false })
  |.ok (.rep n o,s')=>.ok (o,{ t with s:=s',left:=n-1,held:=o,eS:=true })):=by
 unfold b8 fp
 rw[aA h1,aA (by rw[h2];exact xx)]
 rw[show vl t=.ok t.s from aA (by rw[h3];exact xx)]
 show j7 t t.s=_
 unfold j7
 by_cases he:aD t.s=[]
 ·rw[he];rfl
 ·have:rV (aD t.s)=.ok (aD t.s):=aA he
  rw[this]
  show Ae t (aD t.s)=_
  unfold Ae
  dsimp only[dC]
  by_cases I0:(aD t.s).head?=some 47
  ·rw[aL I0,aL (.inr I0)]
   have:(aD t.s).headD 0=47:=by cases hs:aD t.s with|nil=>rw[hs] at I0;cases I0|cons a b=>rw[hs] at I0;simpa using I0
   rw[this];rfl
  ·rw[aA I0]
   by_cases z5:(aD t.s).head?=some 44
   ·rw[aL z5,aL (.inl z5)]
    have:(aD t.s).headD 0=44:=by cases hs:aD t.s with|nil=>rw[hs] at z5;cases z5|cons a b=>rw[hs] at z5;simpa using z5
    rw[this];rfl
   ·have hn:¬((aD t.s).head?=some 44∨(aD t.s).head?=some 47):=λk=>k.elim z5 I0
    rw[aA z5,aA hn]
    cases oH (aD t.s) with
    |error k=>rfl
    |ok x=>
     dsimp only[Ad]
     by_cases hs:bS.contains (x.2.headD 10)=true
     ·rw[aL hs,aL hs]
     ·rw[aA hs,aA hs]
      cases cH x.2 with
      |error k=>rfl
      |ok y=>rfl
theorem tZ {s s':List Nat}{c:Nat}(h:fp s=.ok (.sep c,s')):(c=44∨c=47)/\aD s=c::s':=by
 unfold fp at h
 obtain⟨ak,e1,h⟩:=cI h
 have e1:=nj e1
 subst e1
 split at h
 ·rename_i hc
  cases hs:aD s with
  |nil=>rw[hs] at hc;simp at hc
  |cons a b=>
   rw[hs] at h hc
   cases h
   exact⟨by simpa using hc,rfl⟩
 ·obtain⟨x,e2,h⟩:=cI h
  split at h
  ·cases h
  ·obtain⟨y,e3,h⟩:=cI h
   cases h
theorem VN {t:Rs}(h1:¬t.left>0)(h2:t.done=false)(h3:t.eS=true):(∀s',fp t.s=.ok (.sep 44,s')->b8 t=b8 { t with s:=s',eS:=false })/\((∀s',fp t.s≠.ok (.sep 44,s'))->b8 t=b8 { t with eS:=false }):=by
 have e0:b8 t=dC (dC (rV (aD t.s)) λs=>.ok (gk s)) (j7 t):=by
  unfold b8 vl
  rw[aA h1,aA (by rw[h2];exact xx),aL h3]
 have ef:∀s,b8 { t with s:=s,eS:=false }=j7 t s:=by
  intro s
  unfold b8
  rw[aA h1,aA (by show ¬t.done=true;rw[h2];exact xx)];rfl
 by_cases he:aD t.s=[]
 ·refine⟨λs' h=>?_,λ_=>?_⟩
  ·have:=(tZ h).2;rw[he] at this;cases this
  ·rw[e0,he]
   have:b8 { t with eS:=false }=b8 { t with s:=t.s,eS:=false }:=rfl
   rw[this,ef];unfold j7;rw[he];rfl
 ·have hn:rV (aD t.s)=.ok (aD t.s):=aA he
  rw[hn] at e0
  refine⟨λs' h=>?_,λh=>?_⟩
  ·have hs:=(tZ h).2
   rw[hs] at e0
   rw[e0,ef];rfl
  ·have hc:gk (aD t.s)=aD t.s:=by
    unfold gk
    rw[aA]
    intro z5
    refine h (aD t.s).tail ?_
    unfold fp
    rw[hn]
    dsimp only[dC]
    rw[aL (.inl z5)]
    cases hs:aD t.s with
    |nil=>rw[hs] at z5;cases z5
    |cons a b=>rw[hs] at z5;rw[show a=44 by simpa using z5];rfl
   have:b8 { t with eS:=false }=b8 { t with s:=t.s,eS:=false }:=rfl
   rw[this,ef,e0]
   show j7 t (gk (aD t.s))=_
   rw[hc]
   unfold j7
   rw[yU]
theorem HB {s s':List Nat}{n:Int}(h:oH s=.ok (n,s')):1<=n/\s'.length<=s.length:=by
 unfold oH at h
 have hd:(eT s).length<=s.length:=ji
 split at h
 ·cases h;exact⟨by decide,eR _⟩
 ·rename_i hn
  split at h
  ·cases h
  ·rename_i h0
   cases h
   have:bW s≠[]:=λe=>hn (.inl e)
   have:=(iw this wi).2
   exact⟨by omega,by rw[List.length_tail];exact a30 0x31040d88202c4083 tt hd (Nat.sub_le _ _:)⟩
theorem E8:∀{l:List Nat}{b:Bool}{y:List Nat×List Nat},oJ b l=some y->y.1.length<=l.length:=by
 intro l
 induction l with
 |nil=>intro b y h;cases b<;>cases h
 |cons a l ih=>
  intro b y h
  cases b with
  |true=>
   change (if a=39 then(oJ false l).map λx=>(39::x.1,x.2) else some ([],a::l))=some y at h
   split at h
   ·obtain⟨z,hz,e⟩:=Option.map_eq_some_iff.mp h
    have:=ih hz
    rw[←e];simp;exact a20 0x188202c4101 tt this
   ·cases h;simp
  |false=>
   change (if a=39 then oJ true l else(oJ false l).map λx=>(if a=10 then x.1 else a::x.1,x.2))=some y at h
   split at h
   ·have:=ih h;simp;exact a20 0x62b4a8202c4101 tt this
   ·obtain⟨z,hz,e⟩:=Option.map_eq_some_iff.mp h
    have:=ih hz
    rw[←e]
    dsimp only
    split<;>simp<;>omega
set_option tactic.hygienic true in
theorem F3 {s:List Nat}{y:Tk×List Nat}{n:Nat}(hn:n<=200)(hl:s.length<=n)(h0:bS.contains (s.headD 10)=false)(h:cH s=.ok y):y.1.ok/\y.1.len n:=by
 unfold cH at h
 obtain⟨z,e,h⟩:=cI h
 unfold GY at h
 split at h
 ·cases h
  have tl:s.tail.length<=n:=by rw[List.length_tail];exact a30 0x31040d88202c4083 tt hl (Nat.sub_le _ _:)
  split at e
  ·unfold Bb at e
   split at e
   ·cases e
   ·rename_i q hq
    cases e
    have:=E8 hq
    exact⟨by show q.1.length<=_;exact a30 0x1893c113d4106c49c8860588104c4103 tt hn tl this,by show q.1.length<=_;exact a30 0x31040d88202c4083 tt tl this⟩
  ·split at e
   ·unfold pairE at e
    obtain⟨ak,e1,e⟩:=cI e
    obtain⟨aT,e2,e⟩:=cI e
    obtain⟨bQ,e3,e⟩:=cI e
    obtain⟨cY,e4,e⟩:=cI e
    have e1:=nj e1
    have e2:=qd e2
    have e3:=nj e3
    cases e
    have a1:(cP bo (bV s.tail)).length<=n:=fm (fm pW ji) tl
    have b1:ak.length<=n:=by rw[e1];exact fm (fm ji (fm ji ji)) tl
    have b2:aT.length<=n:=by rw[e2] at b1;simp at b1;exact a20 0x62080b104b4a81 tt b1
    have b3:bQ.length<=n:=by rw[e3];exact fm ji b2
    have a2:(cP bo bQ).length<=n:=fm pW b3
    exact⟨⟨⟨gP (by decide),by exact a20 0x312722182624e44302c4082 tt hn a1⟩,⟨gP (by decide),by exact a20 0x312722182624e44302c4082 tt hn a2⟩⟩,a1,a2⟩
   ·cases e
    have a1:(cP bS s).length<=n:=fm pW hl
    refine⟨⟨⟨gP (by decide),by exact a20 0x312722182624e44302c4082 tt hn a1⟩,?_⟩,a1⟩
    cases s with
    |nil=>cases h0
    |cons a b=>
     change bS.contains a=false at h0
     unfold cP
     rw[List.takeWhile_cons,h0]
     simp
 ·cases h
theorem Hp {s s':List Nat}{n:Int}{o:Option Tk}{m:Nat}(hm:m<=200)(hl:s.length<=m)(h:fp s=.ok (.rep n o,s')):1<=n/\∀k,o=some k->k.ok/\k.len m:=by
 unfold fp at h
 obtain⟨ak,e1,h⟩:=cI h
 have e1:=nj e1
 have l1:ak.length<=m:=by rw[e1];exact fm ji hl
 split at h
 ·cases h
 ·obtain⟨x,e2,h⟩:=cI h
  obtain⟨p1,p2⟩:=HB (s':=x.2) (n:=x.1) e2
  split at h
  ·cases h;exact⟨p1,λk e=>by cases e⟩
  ·rename_i hs
   obtain⟨y,e3,h⟩:=cI h
   cases h
   refine⟨p1,λk e=>?_⟩
   cases e
   exact F3 hm (by exact a30 0x31040d88202c4083 tt l1 p2) (by simpa using hs) e3
theorem sF:∀(recs:List (List Nat)),(recs.map λr=>r++[10]).flatten=bD recs:=by
 intro z_
 induction z_ with
 |nil=>
  exact rfl
 |cons r rs ih=>
  rw[List.map_cons,List.flatten_cons,ih]
  show r++[10]++bD rs=r++10::bD rs
  simp
theorem wO {t:Tk}{k n:Int}{v:V}(h:fz t k n=.ok v):(∃b,v=.bool b)∨(∃s,v=.str s)∨(∃l,v=.tup l)∨(k=0/\∃n,v=.int n):=by
 cases t with
 |text s=>
  change (if k=5 then .ok (.str (tI s n)) else .error 1:Except Int V)=.ok v at h
  split at h
  ·cases h;exact .inr (.inl ⟨_,rfl⟩)
  ·cases h
 |pair a b=>
  have h:(if k=3 then(match bg a 9 with
   |.error e=>.error e
   |.ok r=>(match bg b 9 with
    |.error e=>.error e
    |.ok r'=>.ok (.tup [bE r,bE r']))) else .error 1:Except Int V)=.ok v:=h
  split at h
  ·split at h
   ·cases h
   ·split at h
    ·cases h
    ·cases h;exact .inr (.inr (.inl ⟨_,rfl⟩))
  ·cases h
 |run r=>
  have em:∀{α:Type} {f:α->V} {x:Except Int α},emap f x=.ok v->∃a,v=f a:=by
   intro α f x h
   cases x with
   |ok a=>cases h;exact⟨a,rfl⟩
   |error e=>cases h
  change (if k=0 then emap V.int (mZ r 16) else if k=4 then emap V.bool (ry r) else if k=1 then emap bE (bg r 9) else if k=2 then emap bE (bg r 12) else .error 1:Except Int V)=.ok v at h
  split at h
  ·rename_i hk;exact .inr (.inr (.inr ⟨hk,em h⟩))
  ·split at h
   ·exact .inl (em h)
   ·split at h
    ·obtain⟨a,e⟩:=em h;exact .inr (.inr (.inl ⟨_,e⟩))
    ·split at h
     ·obtain⟨a,e⟩:=em h;exact .inr (.inr (.inl ⟨_,e⟩))
     ·cases h
structure LI (x:List Nat)(t:Rs)(w:Nat)(fr en:Bool)(j m:Nat):Prop where
 hk:∀k,t.held=some k->k.ok/\k.len 198
 left:t.left=(w:Int)∨((w:Int)<=t.left/\m<=w)
 done:t.done=en
 RI:j<=x.length
 cnt:(x.drop j).count 10=t.s.count 10
 at_:en=false->x.drop j=t.s
 eS:en=false->t.eS=!fr
theorem Cj {x:List Nat}{j:Nat}:((x.take j).count 10:Nat)+(x.drop j).count 10=x.count 10:=by
 rw[←List.count_append,List.take_append_drop]
theorem HO {a:Addr}{x:V}{n:Int}{aa:ag}{P:V->ag->Prop}(h1:aa a=some (.list [x]))(hz:0<=n/\n<=1000)(q:∀c,aa c=none->P (.ref c) (put aa c (.list (List.replicate n.toNat x)))):C0 .mul a (.int n) aa P:=
 ⟨cQ h1 ⟨rfl,hz,q⟩⟩
noncomputable def Rz (o:Option Tk)(k n:Int):Except Int V:=match o with
 |none=>.ok .none
 |some tk=>fz tk k n
noncomputable def RE:List SP:=[
  site (eE [oZ (bN .dJ [loc 13,CK "int"]),A' (oZ (bN .dJ [loc 13,CK "bool"]))]) [
   aC (loc 13)] [],
  gu (e9 .append (loc 4) [eX (eE [aq .eq (loc 9) (glob 0),aq .nT (loc 13) (lit .none)]) (item (loc 13) (lit (.int 0))) (loc 13)])]
noncomputable def VU:List SP:=aM 13 (eX (aq .is (loc 12) (lit .none)) (lit .none) (aj "_law_meant" [loc 12,loc 9,loc 10,loc 2]))::RE
noncomputable def VV:List SP:=aM 12 (eX (aq .eq (loc 5) (gv [])) (lit .none) (e9 .pop (loc 5) [lit (.int 0)]))::VU
section
variable {G:GC}{aa:ag}{Q:V->ag->Prop}{X:Ex->ag->Prop}{ra:Addr}{recs:List (List Nat)}
theorem BU {vals:Addr}{ys:List V}{k:Int}{u y:V}{l:ag}{QF:Fl->St->Prop}{s0 s1 s2 s3 s5 s6 s7 s8 u0 j1 o3:Option V}
  (hu:(u=.none/\y=.none)∨(k=0/\u=.tup [y])∨(k≠0/\y=u/\((∃b,u=.bool b)∨(∃s,u=.str s)∨(∃l,u=.tup l)))) (hl:l vals=some (.list ys)) (hz:ys.length<=1000)
  (q:QF .next ⟨[s0,s1,s2,s3,some (.ref vals),s5,s6,s7,s8,some (.int k),u0,j1,o3,some u],put l vals (.list (ys++[y]))⟩):
  bf G none 4 QF (bc X) RE ⟨[s0,s1,s2,s3,some (.ref vals),s5,s6,s7,s8,some (.int k),u0,j1,o3,some u],l⟩:=by
 have app:∀v,v=y->SD .append [.ref vals,v] l (λu' l'=>QF .next ⟨[s0,s1,s2,s3,some (.ref vals),s5,s6,s7,s8,some (.int k),u0,j1,o3,some u],l'⟩):=λv e=>by
  subst e;exact uB hl (by exact a10 0x644e049e90c0b127a2781 tt hz) q
 rcases hu with⟨rfl,rfl⟩|⟨hk,rfl⟩|⟨hk,rfl,⟨b,rfl⟩|⟨s,rfl⟩|⟨t,rfl⟩⟩
 ·exact⟨λh=>(by cases h),λ_=>⟨lQ hl,λ_=>app _ rfl,λ_=>app _ rfl⟩⟩
 ·exact⟨λh=>(by cases h),λ_=>⟨lQ hl,λ_=>item_tup rfl ⟨by decide,by decide⟩ (app _ rfl),λh=>absurd hk h⟩⟩
 ·exact⟨λ_=>⟨λ_=>⟨lQ hl,λh=>absurd h hk,λ_=>app _ rfl⟩,λh=>(by cases h)⟩,λh=>(by cases h)⟩
 ·exact⟨λh=>(by cases h),λ_=>⟨lQ hl,λh=>absurd h hk,λ_=>app _ rfl⟩⟩
 ·exact⟨λh=>(by cases h),λ_=>⟨lQ hl,λh=>absurd h hk,λ_=>app _ rfl⟩⟩
theorem zf (p:PG G){b vals wt:Addr}{ys ws:List V}{o:Option Tk}{k n:Int}{w':Nat}{held:V}{l:ag}{QF:Fl->St->Prop}{s0 s1 s3 s6 s7 s8 j1 o3 Gk:Option V}
  (cZ:lI G l b) (hw:GF (k,n)) (ho:∀t,o=some t->t.ok/\t.len 198) (hv:l vals=some (.list ys)) (hz:ys.length<=1000) (tE:l wt=some (.list ws)) (dT:vals≠wt)
  (SK:ws=eo o::List.replicate w' held∨(ws=[]/\o=none/\w'=0))
  (er:∀c,Rz o k n=.error c->∀loc l',(∀a u,a≠wt->l a=some u->l' a=some u)->QF (.ret (.int c)) ⟨loc,l'⟩)
  (q:∀y l' CJ Nw,Rz o k n=.ok y->(∀a u,a≠vals->a≠wt->l a=some u->l' a=some u)->l' vals=some (.list (ys++[y]))->l' wt=some (.list (List.replicate w' held))->
   QF .next ⟨[s0,s1,some (.ref b),s3,some (.ref vals),some (.ref wt),s6,s7,s8,some (.int k),some (.int n),j1,CJ,Nw],l'⟩):
  bf G none 4 QF (bc X) VV ⟨[s0,s1,some (.ref b),s3,some (.ref vals),some (.ref wt),s6,s7,s8,some (.int k),some (.int n),j1,o3,Gk],l⟩:=by
 refine⟨Nat.zero_le _,λg hg=>?_⟩
 change l g=none at hg
 have nw:wt≠g:=λe=>by rw[e,hg] at tE;cases tE
 have nb:b≠wt:=λe=>by obtain⟨dx,r,h⟩:=cZ;rw[e,tE] at h;cases h
 have go:∀(l₂:ag),(∀a u,a≠wt->l a=some u->l₂ a=some u)->l₂ wt=some (.list (List.replicate w' held))->
   bf G none 4 QF (bc X) VU ⟨[s0,s1,some (.ref b),s3,some (.ref vals),some (.ref wt),s6,s7,s8,some (.int k),some (.int n),j1,some (eo o),Gk],l₂⟩:=by
  intro l₂ hk h2
  have v2:l₂ vals=some (.list ys):=hk _ _ dT hv
  have fin:∀u y OA,Rz o k n=.ok y->((u=.none/\y=.none)∨(k=0/\u=.tup [y])∨(k≠0/\y=u/\((∃b,u=.bool b)∨(∃s,u=.str s)∨(∃l,u=.tup l))))->
    bf G none 4 QF (bc X) RE ⟨[s0,s1,some (.ref b),s3,some (.ref vals),some (.ref wt),s6,s7,s8,some (.int k),some (.int n),j1,OA,some u],l₂⟩:=λu y OA e hu=>
   BU hu v2 hz (q y _ _ _ e (λa z h1 h3 h4=>(ai h1).trans (hk a z h3 h4)) (ab _ _ _) ((ai (Ne.symm dT)).trans h2))
  cases o with
  |none=>exact fin .none .none _ rfl (.inl ⟨rfl,rfl⟩)
  |some tk=>
   have call:fu G none 4 (Z G "_law_meant") [tk.v,.int k,.int n,.ref b] [] ⟨[s0,s1,some (.ref b),s3,some (.ref vals),some (.ref wt),s6,s7,s8,some (.int k),some (.int n),j1,some tk.v,Gk],l₂⟩ (λu σ=>bf G none 4 QF (bc X) RE (iQ 13 u σ)) (bc X):=by
    have T7:lI G l₂ b:=by obtain⟨dx,r,h⟩:=cZ;exact⟨dx,r,hk b _ nb h⟩
    refine cW (eR _) (E2 p T7 (ho tk rfl).1 (ho tk rfl).2 hw.2.2.1 hw.2.2.2 hw.1 hw.2.1 ?_)
    cases hm:fz tk k n with
    |error c=>exact⟨λ_=>⟨λh=>(by cases h),λ_=>er c hm _ _ hk⟩,λh=>(by cases h)⟩
    |ok v=>
     refine fin _ v _ hm ?_
     by_cases Kq:k=0
     ·rw[aL Kq];exact .inr (.inl ⟨Kq,rfl⟩)
     ·rw[aA Kq]
      refine .inr (.inr ⟨Kq,rfl,?_⟩)
      rcases wO hm with h|h|h|⟨h,_⟩
      ·exact .inl h
      ·exact .inr (.inl h)
      ·exact .inr (.inr h)
      ·exact absurd h Kq
   cases tk<;>exact call
 rcases SK with rfl|⟨rfl,rfl,rfl⟩
 ·refine p3 ((ai nw).trans tE) (ab _ _ _) (by simp) ?_
  refine⟨lQ ((ai nw).trans tE),HD ((ai nw).trans tE) (go _ (λa u h1 h2=>(ai h1).trans (Sub.put hg _ _ h2)) (ab _ _ _))⟩
 ·exact l6 ((ai nw).trans tE) (ab _ _ _) (go _ (λa u h1 h2=>Sub.put hg _ _ h2) ((ai nw).trans tE))
end
noncomputable def VT:List SP:=[
   eF (cS [ay 11,ay 6]) (aj "_law_next" [loc 3,loc 6]),
   site (oZ (bN .dJ [loc 11,CK "int"])) [
    aC (loc 11)] [],
   site (aq .eq (item (loc 11) (lit (.int 0))) (lit (.str [47]))) [
    aM 8 (lit (.bool true))] [
    site (aq .eq (item (loc 11) (lit (.int 0))) (lit (.str [44]))) [
     f' [5,7] (tup [eX (oZ (loc 7)) (gv [lit .none]) (gv []),lit (.bool true)])] [
     f' [5,7] (tup [bin .mul (gv [item (loc 11) (lit (.int 1))]) (bN .min [item (loc 11) (lit (.int 0)),lit (.int 9)]),lit (.bool false)])]]]
section
variable {G:GC}{aa:ag}{Q:V->ag->Prop}{X:Ex->ag->Prop}{ra:Addr}{recs:List (List Nat)}
theorem ze (p:PG G){x:List Nat}(ok:gL x)(hx:x.length<=198){t:Rs}{w m j:Nat}{fr en:Bool}(inv:LI x t w fr en j (m+1))(hm:m<=8){wt:Addr}{l:ag}{QF:Fl->St->Prop}{s0 s1 s2 s4 s9 u0 j1 o3 Gk:Option V}
  (tE:l wt=some (.list (List.replicate w (eo t.held))))
  (er:∀c,b8 t=.error c->∀loc l',Sub l l'->QF (.ret (.int c)) ⟨loc,l'⟩)
  (q:∀o t' ws w' Gx CU j' lF l' pD,b8 t=.ok (o,t')->LI x t' w' Gx CU j' m->(∀k,o=some k->k.ok/\k.len 198)->Sub l l'->l' lF=some (.list ws)->(lF=wt∨l lF=none)->
   (ws=eo o::List.replicate w' (eo t'.held)∨(ws=[]/\o=none/\w'=0))->
   QF .next ⟨[s0,s1,s2,some (.str x),s4,some (.ref lF),some (.int j'),some (.bool Gx),some (.bool CU),s9,u0,pD,o3,Gk],l'⟩):
  (iZ (eE [aq .eq (loc 5) (gv []),A' (oZ (loc 8))]) VT).wp G none 4 ⟨[s0,s1,s2,some (.str x),s4,some (.ref wt),some (.int j),some (.bool fr),some (.bool en),s9,u0,j1,o3,Gk],l⟩ QF (bc X):=by
 intro R hf hR
 have exit:∀o t' ws w' Gx CU j' lF l' pD,b8 t=.ok (o,t')->LI x t' w' Gx CU j' m->(∀k,o=some k->k.ok/\k.len 198)->Sub l l'->l' lF=some (.list ws)->(lF=wt∨l lF=none)->
   (ws=eo o::List.replicate w' (eo t'.held)∨(CU=true/\ws=[]/\o=none/\w'=0))->
   R ⟨[s0,s1,s2,some (.str x),s4,some (.ref lF),some (.int j'),some (.bool Gx),some (.bool CU),s9,u0,pD,o3,Gk],l'⟩:=by
  intro o t' ws w' Gx CU j' lF l' pD h1 h2 h3 h4 h5 h6 h7
  refine hR _ ⟨Nat.zero_le _,λg hg=>?_⟩
  change l' g=none at hg
  have ng:lF≠g:=λe=>by rw[e,hg] at h5;cases h5
  have sub:Sub l (put l' g (.list [])):=h4.trans (Sub.put hg)
  rcases h7 with h7|⟨h7,h8⟩
  ·refine p3 ((ai ng).trans h5) (ab _ _ _) (by rw[h7];simp) ?_
   exact q o t' ws w' Gx CU j' lF _ pD h1 h2 h3 sub ((ai ng).trans h5) h6 (.inl h7)
  ·have h9:=h5
   rw[h8.1] at h9
   refine l6 ((ai ng).trans h9) (ab _ _ _) ⟨λ_=>?_,λh=>(by rw[h7] at h;cases h)⟩
   exact q o t' ws w' Gx CU j' lF _ pD h1 h2 h3 sub ((ai ng).trans h5) h6 (.inr h8)
 by_cases hw:w=0
 rotate_left
 ·
  obtain⟨w',rfl⟩:=Nat.exists_eq_add_one_of_ne_zero hw
  have QJ:t.left>0:=by
   rcases inv.left with h|h
   ·exact a11 0x1a8d28e1b305a5408d tt h
   ·have h2:=h.1;exact dq 0x351a51a0d60b4a81 [_,0] [_] tt h.1
  refine exit t.held { t with left:=t.left-1 } _ w' fr en j wt l j1 ?_ ⟨inv.hk,?_,inv.done,inv.RI,inv.cnt,inv.at_,inv.eS⟩ inv.hk (Sub.refl _) tE (.inl rfl) (.inl rfl)
  ·unfold b8;rw[aL QJ]
  ·show t.left-1=(w':Int)∨((w':Int)<=t.left-1/\m<=w')
   exact inv.left.imp (λh=>by exact oD (a11 0x68c00ae2a35b305a5408d tt h) (a11 0x345c546b002e1b305a5408d tt h)) λh=>⟨by have h:=h.1;omega,Nat.le_of_succ_le_succ h.2⟩
 subst hw
 have Ko:t.left=0:=by have:=inv.left;omega
 have CN:¬t.left>0:=by exact Int.not_lt.mpr (a01 0x1a141ad8a0d tt Ko)
 cases en with
 |true=>
  refine exit none t [] 0 fr true j wt l j1 ?_ ⟨inv.hk,.inl Ko,inv.done,inv.RI,inv.cnt,inv.at_,inv.eS⟩ (λk e=>by cases e) (Sub.refl _) tE (.inl rfl) (.inr ⟨rfl,rfl,rfl,rfl⟩)
  unfold b8
  rw[aA CN,aL inv.done]
 |false=>
 have turn:∀(jZ:Rs) (vx:Bool) (bR:Nat) (nR:Addr) (l₁:ag) (pD:Option V),jZ.left=0->jZ.done=false->(∀k,jZ.held=some k->k.ok/\k.len 198)->bR<=x.length->x.drop bR=jZ.s->
   Sub l l₁->l₁ nR=some (.list [])->(nR=wt∨l nR=none)->
   (∀c,fp jZ.s=.error c->b8 t=.error c)->(∀s',fp jZ.s=.ok (.sep 47,s')->b8 t=.ok (none,{ jZ with s:=aD jZ.s,eS:=false,done:=true }))->
   (∀n o s',fp jZ.s=.ok (.rep n o,s')->b8 t=.ok (o,{ jZ with s:=s',left:=n-1,held:=o,eS:=true }))->
   (∀s' j' lF l' xF,fp jZ.s=.ok (.sep 44,s')->j'<=x.length->x.drop j'=s'->Sub l l'->l lF=none->(vx=true->l' lF=some (.list [.none]))->(vx=false->l' lF=some (.list []))->
    R ⟨[s0,s1,s2,some (.str x),s4,some (.ref lF),some (.int j'),some (.bool true),some (.bool false),s9,u0,xF,o3,Gk],l'⟩)->
   R ⟨[s0,s1,s2,some (.str x),s4,some (.ref nR),some (.int bR),some (.bool vx),some (.bool false),s9,u0,pD,o3,Gk],l₁⟩:=by
  intro jZ vx bR nR l₁ pD k1 k2 k3 k4 k5 k6 k7 k8 kE kS kR kC
  refine hR _ ⟨Nat.zero_le _,λg hg=>?_⟩
  change l₁ g=none at hg
  have ng:nR≠g:=λe=>by rw[e,hg] at k7;cases k7
  refine l6 ((ai ng).trans k7) (ab _ _ _) ⟨λh=>(by cases h),λ_=>?_⟩
  have sub:Sub l (put l₁ g (.list [])):=k6.trans (Sub.put hg)
  have w2:put l₁ g (.list []) nR=some (.list []):=(ai ng).trans k7
  generalize put l₁ g (.list [])=l₂ at sub w2
  have nn:∀{a:Addr},l₂ a=none->l a=none:=λ{a} ha=>by
   cases e:l a with
   |none=>rfl
   |some u=>rw[sub a u e] at ha;cases ha
  refine cW (eR _) (Hy p ok k4 ?_)
  rw[k5]
  cases ht:fp jZ.s with
  |error c=>exact λj' lD=>⟨λ_=>er c (kE c ht) _ _ sub,λh=>(by cases h)⟩
  |ok y=>
   obtain⟨tk,s'⟩:=y
   intro j' lD hd
   cases tk with
   |sep c=>
    obtain⟨hc,hs⟩:=tZ ht
    refine⟨λh=>(by cases h),λ_=>item_tup rfl ⟨by decide,by decide⟩ ⟨λh=>?_,λh=>item_tup rfl ⟨by decide,by decide⟩ ⟨λh'=>?_,λh'=>?_⟩⟩⟩
    ·have h:c=47:=by simpa using h
     subst h
     refine exit none _ [] 0 vx true j' nR l₂ _ (kS s' ht) ⟨k3,.inl k1,rfl,lD,?_,(λe=>by cases e),(λe=>by cases e)⟩ (λk e=>by cases e) sub w2 k8 (.inr ⟨rfl,rfl,rfl,rfl⟩)
     show(x.drop j').count 10=(aD jZ.s).count 10
     rw[hs,hd];rfl
    ·have h:¬c=47:=by simpa using h
     have h':c=44:=by simpa using h'
     subst h'
     refine⟨λtF=>⟨dM rfl,λa ha=>⟨l2,?_⟩⟩,λtF=>⟨Nat.zero_le _,λa ha=>⟨l2,?_⟩⟩⟩
     ·exact kC s' j' a _ _ ht lD hd (sub.trans (Sub.put ha)) (nn ha) (λ_=>ab _ _ _) (λe=>by rw[tF] at e;cases e)
     ·exact kC s' j' a _ _ ht lD hd (sub.trans (Sub.put ha)) (nn ha) (λe=>by rw[tF] at e;cases e) (λ_=>ab _ _ _)
    ·exfalso
     have h:¬c=47:=by simpa using h
     have h':¬c=44:=by simpa using h'
     exact hc.elim h' h
   |rep n o=>
    obtain⟨hn,ho⟩:=Hp (m:=198) (by decide) (by rw[←k5,pE];exact dq 0x31271a182624e34302c4082 [_,_,0] [] tt hx (Nat.sub_le _ _:)) ht
    refine⟨λh=>(by cases h),λ_=>item_tup rfl ⟨by decide,by decide⟩ (item_tup rfl ⟨by decide,by decide⟩ ?_)⟩
    refine item_tup rfl ⟨by decide,by decide⟩ ⟨dM rfl,λa ha=>item_tup rfl ⟨by decide,by decide⟩ ?_⟩
    change l₂ a=none at ha
    have C6:∃w',(if 9<n then(9:Int) else n)=((w'+1:Nat):Int)/\(n-1=(w':Int)∨((w':Int)<=n-1/\m<=w'))/\w'<=8:=by
     by_cases h9:9<n
     ·exact⟨8,by rw[aL h9];rfl,.inr ⟨by exact a01 0x345c546b038d469d tt h9,hm⟩,eR _⟩
     ·obtain⟨w',rp⟩:=jb (x:=n-1) (Int.sub_nonneg.mpr hn)
      exact⟨w',by rw[aA h9];exact oD (a11 0x68c16950235b3002b8a8d tt rp) (a11 0x341ac169502e1b3002b8a8d tt rp),.inl rp,by exact a11 0x313805a1d1ae1b3002b8a8d tt (uU h9:) rp⟩
    obtain⟨w',e1,e2,e3⟩:=C6
    refine HO (x:=eo o) (ab _ _ _) ?_ λc hc=>⟨l2,?_⟩
    ·rw[e1];exact⟨a10 0x1a305a54094 tt,a10 0xd09e89ec169502c4e01 tt e3⟩
    ·change put l₂ a _ c=none at hc
     obtain⟨Wh,Wg⟩:=cy hc
     refine exit o _ (List.replicate (if 9<n then(9:Int) else n).toNat (eo o)) w' false false j' c _ _ (kR n o s' ht) ⟨ho,e2,k2,lD,by rw[hd],λ_=>hd,λ_=>rfl⟩ ho ((sub.trans (Sub.put ha)).trans (Sub.put hc)) (ab _ _ _) (.inr (nn Wh)) (.inl ?_)
     rw[e1];rfl
 have second:∀(oF:Rs) (eH:Nat) (r9:Addr) (l₂:ag) (pD:Option V),oF.left=0->oF.done=false->oF.eS=false->(∀k,oF.held=some k->k.ok/\k.len 198)->eH<=x.length->x.drop eH=oF.s->b8 t=b8 oF->
   Sub l l₂->l₂ r9=some (.list [])->(r9=wt∨l r9=none)->
   R ⟨[s0,s1,s2,some (.str x),s4,some (.ref r9),some (.int eH),some (.bool true),some (.bool false),s9,u0,pD,o3,Gk],l₂⟩:=by
  intro oF eH r9 l₂ pD k1 k2 kb k3 k4 k5 kn k6 k7 k8
  have n1:=RB (t:=oF) (by exact Int.not_lt.mpr (a01 0x1a141ad8a0d tt k1)) k2 kb
  rw[←kn] at n1
  refine turn oF true eH r9 l₂ pD k1 k2 k3 k4 k5 k6 k7 k8 (λc e=>by rw[n1,e]) (λs' e=>by rw[n1,e];rfl) (λn o s' e=>by rw[n1,e]) λs' j' lF l' xF e lD hd hs hn h1 _=>?_
  refine exit none { oF with s:=s',eS:=false } [.none] 0 true false j' lF l' xF (by rw[n1,e];rfl) ⟨k3,.inl k1,k2,lD,by rw[hd],λ_=>hd,λ_=>rfl⟩ (λk e=>by cases e) hs (h1 rfl) (.inr hn) (.inl rfl)
 have at_:=inv.at_ rfl
 have eS:=inv.eS rfl
 cases fr with
 |true=>exact second t j wt l j1 Ko inv.done eS inv.hk inv.RI at_ rfl (Sub.refl _) tE (.inl rfl)
 |false=>
  obtain⟨n2,n3⟩:=VN CN inv.done eS
  have n1:=RB (t:={ t with eS:=false }) CN inv.done rfl
  have Sy:(∀s',fp t.s≠.ok (.sep 44,s'))->b8 t=(match fp t.s with
   |.error k=>.error k
   |.ok (.sep c,s')=>if c=47 then .ok (none,{ t with s:=aD t.s,eS:=false,done:=true }) else .ok (none,{ t with s:=s',eS:=false })
   |.ok (.rep n o,s')=>.ok (o,{ t with s:=s',left:=n-1,held:=o,eS:=true })):=λh=>(n3 h).trans n1
  refine turn t false j wt l j1 Ko inv.done inv.hk inv.RI at_ (Sub.refl _) tE (.inl rfl) (λc e=>?_) (λs' e=>?_) (λn o s' e=>?_) λs' j' lF l' xF e lD hd hs hn _ h2=>?_
  ·rw[Sy (λs' h=>by rw[e] at h;cases h),e]
  ·rw[Sy (λs' h=>by rw[e] at h;cases h),e];rfl
  ·rw[Sy (λs' h=>by rw[e] at h;cases h),e]
  ·exact second { t with s:=s',eS:=false } j' lF l' xF Ko inv.done rfl inv.hk lD hd (n2 s' e) hs (h2 rfl) (.inr hn)
end
section
variable {G:GC}{aa:ag}{Q:V->ag->Prop}{X:Ex->ag->Prop}{ra:Addr}{recs:List (List Nat)}
theorem AA (p:PG G)(ok:dN recs)(h0:recs≠[])(hx:(bD recs).length<=198){b kr:Addr}{wanted:List (Int×Int)}(cZ:lI G aa b)(hw:∀w∈wanted,GF w)(hz:wanted.length<=9)(xu:aa kr=some (.list (wanted.map dW)))
  (h2:aa ra=some (sL recs)) (q:J9 Q aa (ka recs wanted)):CF G 5 "_law_read" [.ref ra,.ref kr,.ref b] aa Q X:=by
 refine ax p.g p.zM rfl (by decide) [some (.ref ra),some (.ref kr),some (.ref b),none,none,none,none,none,none,none,none,none,none,none] rfl ?_
 have qE:∀k,listE wanted (gK recs)=.error k->Q (.int k) aa:=λk e=>by unfold ka at q;rw[e] at q;exact q
 have qO:∀vs t',listE wanted (gK recs)=.ok (vs,t')->∀c,aa c=none->Q (Nf c ((recs.length:Int)+1-(t'.s.count 10:Nat))) (put aa c (.list vs)):=λvs t' e=>by unfold ka at q;rw[e] at q;exact q
 have tx:gL (bD recs):=⟨by
  rcases sG recs with h|h
  ·cases recs with
   |nil=>exact absurd rfl h0
   |cons a r=>change a++10::bD r=[] at h;simp at h
  ·exact h,by exact a10 0x1893b1240b1271a181 tt hx⟩
 have body:∀l₁:ag,Sub aa l₁->bf G none 4 (bB Q) (bc X) [
  eF (cS [ay 4,ay 5,ay 6,ay 7,ay 8]) (tup [gv [],gv [],lit (.int 0),lit (.bool true),lit (.bool false)]),
  i5 (cS [ay 9,ay 10]) (oC (loc 1)) (iZ (eE [aq .eq (loc 5) (gv []),A' (oZ (loc 8))]) VT::VV),
  aC (tup [lit (.str [111,107]),loc 4,bin .add (e9 .count (gr true (loc 3) none (some (loc 6))) [lit (.str [10])]) (lit (.int 1))])]
   ⟨[some (.ref ra),some (.ref kr),some (.ref b),some (.str (bD recs)),none,none,none,none,none,none,none,none,none,none],l₁⟩:=by
  intro l₁ ak
  refine⟨Nat.zero_le _,λvals hv=>⟨Nat.zero_le _,λwt tE=>⟨dM rfl,?_⟩⟩⟩
  change l₁ vals=none at hv
  change put l₁ vals (.list []) wt=none at tE
  have V5:=(cy tE).2
  have nv:aa vals=none:=by
   cases e:aa vals with
   |none=>rfl
   |some u=>rw[ak _ _ e] at hv;cases hv
  have aT:Sub aa (put (put l₁ vals (.list [])) wt (.list [])):=(ak.trans (Sub.put hv)).trans (Sub.put tE)
  have e1:put (put l₁ vals (.list [])) wt (.list []) vals=some (.list []):=(ai (Ne.symm V5)).trans (ab _ _ _)
  have e2:put (put l₁ vals (.list [])) wt (.list []) wt=some (.list []):=ab _ _ _
  have nw:aa wt=none:=by
   cases e:aa wt with
   |none=>rfl
   |some u=>rw[(ak.trans (Sub.put hv)) _ _ e] at tE;cases tE
  generalize put (put l₁ vals (.list [])) wt (.list [])=l₂ at aT e1 e2
  refine⟨⟨_,aT _ _ xu⟩,λR hf hR=>?_⟩
  have key:∀(w pre:List (Int×Int)) (ys:List V) (t:Rs) (m:Nat) (fr en:Bool) (j:Nat) (wt:Addr) (l:ag) (u9 Ka pD CJ Nw:Option V),wanted=pre++w->ys.length=pre.length->LI (bD recs) t m fr en j w.length->
    (∀vs t',listE w t=.ok (vs,t')->listE wanted (gK recs)=.ok (ys++vs,t'))->(∀k,listE w t=.error k->listE wanted (gK recs)=.error k)->
    Sub aa l->l vals=some (.list ys)->l wt=some (.list (List.replicate m (eo t.held)))->aa wt=none->wt≠vals->
    R (.list kr pre.length) ⟨[some (.ref ra),some (.ref kr),some (.ref b),some (.str (bD recs)),some (.ref vals),some (.ref wt),some (.int j),some (.bool fr),some (.bool en),u9,Ka,pD,CJ,Nw],l⟩:=by
   intro w
   induction w with
   |nil=>
    intro pre ys t m fr en j wt l u9 Ka pD CJ Nw e el inv eq ex sb RN RM Wa dT
    have hn:(wanted.map dW)[pre.length]?=none:=by rw[e];simp
    refine hR _ _ (pj (sb _ _ xu) hn ?_)
    have e0:=eq [] t rfl
    rw[List.append_nil] at e0
    refine aV (b:=some j) (by exact a10 0x624e049e90c0b1271a181 tt hx) rfl (aZ j) ⟨rfl,l3,put aa vals (.list ys),?_,?_⟩
    ·intro a o ho
     by_cases ha:a=vals
     ·subst ha;rw[ab] at ho;exact RN.trans ho
     ·rw[ai ha] at ho;exact sb a o ho
    ·have:=qO ys t e0 vals nv
     have c1:=Cj (x:=bD recs) (j:=j)
     rw[inv.cnt,count_tail λx hx=>(ok.2 x hx).1] at c1
     have c2:((recs.length:Int)+1-(t.s.count 10:Nat))=((cut (bD recs) none (some j)).count 10:Nat)+1:=by
      show _=(((bD recs).take j).count 10:Nat)+(1:Int)
      exact oD (a30 0x1a2d2ac00ae6009695600dc3306b4101 tt c1) (a30 0x345cc012d2ac01ad2ac00b306b4101 tt c1)
     rw[c2] at this
     exact this
   |cons w0 w ih=>
    intro pre ys t m fr en j wt l u9 Ka pD CJ Nw e el inv eq ex sb RN RM Wa dT
    have hn:(wanted.map dW)[pre.length]?=some (dW w0):=by rw[e];exact eA
    have hlen:pre.length+(w.length+1)<=9:=by have:=congrArg List.length e;simp at this;exact a30 0x189d5ab4a8304c4e8170cd6ad2a0c101 tt hz this
    refine hR _ _ (mz (sb _ _ xu) hn ?_)
    have j9:listE (w0::w) t=dC (fM t w0.1 w0.2) λx=>dC (listE w x.2) λy=>.ok (x.1::y.1,y.2):=rfl
    have Qv:∀{a:Addr},l a=none->aa a=none:=λ{a} ha=>by
     cases e:aa a with
     |none=>rfl
     |some u=>rw[sb a u e] at ha;cases ha
    refine ze p tx hx inv (by exact a20 0x189c04c4ead5a54101 tt hlen) RM (λc hc loc l' hs=>?_) λo t' ws w' Gx CU j' lF l' xF GJ Ue ho hs Uk Be SK=>?_
    ·refine⟨aa,sb.trans hs,qE c (ex c ?_)⟩
     rw[j9];unfold fM;rw[hc];rfl
    ·change Sub l l' at hs
     change lF=wt∨l lF=none at Be
     have hit:fM t w0.1 w0.2=dC (Rz o w0.1 w0.2) λy=>.ok (y,t'):=by
      unfold fM;rw[GJ];cases o<;>rfl
     have lw:aa lF=none:=by
      rcases Be with h|h
      ·rw[h];exact Wa
      ·exact Qv h
     have VO:vals≠lF:=by
      rcases Be with h|h
      ·rw[h];exact Ne.symm dT
      ·intro h';rw[←h',RN] at h;cases h
     have T8:lI G l' b:=by obtain⟨dx,r,h⟩:=cZ;exact⟨dx,r,hs _ _ (sb _ _ h)⟩
     have KU:∀{a u},aa a=some u->a≠lF/\a≠vals:=λ{a u} ha=>⟨λh=>(by rw[h,lw] at ha;cases ha),λh=>(by rw[h,nv] at ha;cases ha)⟩
     refine zf p T8 (hw w0 (by rw[e];simp)) ho (hs _ _ RN) (by exact a30 0xc49e89e0598202c4ead5a54182 tt el hlen) Uk VO SK (λc hc loc NG hk=>?_) λy NG Ts Tr hy hk h3 h4=>?_
     ·refine⟨aa,λa u ha=>hk a u (KU ha).1 (hs _ _ (sb _ _ ha)),qE c (ex c ?_)⟩
      rw[j9,hit,hc];rfl
     ·have ly:∀{r},dC (listE w t') (λz=>.ok (y::z.1,z.2))=r->listE (w0::w) t=r:=λ{r} h=>by
       rw[j9,hit,hy];exact h
      have:=ih (pre++[w0]) (ys++[y]) t' w' Gx CU j' lF NG (some (.int w0.1)) (some (.int w0.2)) xF Ts Tr (by rw[e];simp) (by simp[el]) Ue
       (λvs GG e2=>by rw[eq (y::vs) GG (ly (by rw[e2];rfl))];simp) (λc e2=>ex c (ly (by rw[e2];rfl)))
       (λa u ha=>hk a u (KU ha).2 (KU ha).1 (hs _ _ (sb _ _ ha))) h3 h4 lw (Ne.symm VO)
      rw[cN] at this
      exact this
  exact key wanted [] [] (gK recs) 0 true false 0 wt l₂ none none none none none rfl rfl ⟨(λk e=>by cases e),.inl rfl,rfl,Nat.zero_le _,rfl,λ_=>rfl,λ_=>rfl⟩ (λvs t' e=>by rw[e];simp) (λk e=>e) aT e1 e2 nw V5
 refine⟨rfl,⟨_,h2⟩,λacc cg R hR=>?_⟩
 change aa acc=none at cg
 have RC:ra≠acc:=λk=>by rw[k,cg] at h2;cases h2
 have key:∀(rs pre:List (List Nat)) (u:Option V),recs=pre++rs->R (.list ra pre.length) ⟨[u],put aa acc (.list ((pre.map λr=>r++[10]).map V.str))⟩:=by
  intro rs
  induction rs with
  |nil=>
   intro pre u e
   have hn:(recs.map V.str)[pre.length]?=none:=by rw[e];simp
   refine hR _ _ (mF ((ai RC).trans h2) hn ?_)
   rw[List.append_nil] at e
   rw[←e]
   refine jo (ab _ _ _) (by rw[sF];exact a10 0x624e049e90c0b1271a181 tt hx) ?_
   rw[sF]
   exact body _ (Sub.put cg)
  |cons r rs ih=>
   intro pre u e
   have hn:(recs.map V.str)[pre.length]?=some (.str r):=by rw[e];exact eA
   refine hR _ _ (jX ((ai RC).trans h2) hn ⟨?_,_,ab _ _ _,?_,?_⟩)
   ·have:=(ok.2 r (by rw[e];simp)).2
    simp;exact a10 0x624ffc8e90c0b12722181 tt this
   ·have:=congrArg List.length e
    have:=ok.1
    simp at *;exact a30 0x644e05a939813127a278170cd6ad2a0c101 tt (by assumption) this
   ·have:=ih (pre++[r]) (some (.str r)) (by rw[e];simp)
    rw[cN,List.map_append,List.map_append] at this
    show R _ ⟨_,put (put aa acc _) acc _⟩
    rw[aR]
    exact this
 exact key recs [] none rfl
end
noncomputable def b6 (a b:Int):AO:=.list [.int a,.int b]
section
variable {G:GC}{aa:ag}{Q:V->ag->Prop}{X:Ex->ag->Prop}{cA:Addr}
theorem ew (p:PG G){a b m:Int}(h:aa cA=some (b6 a b))(hm:0<m/\m<2^9000)(q:∀f a' b',0<=f->f<m->Q (.int f) (put aa cA (b6 a' b'))):CF G 2 "_law_draw" [.ref cA,.int m] aa Q X:=by
 refine ax p.g p.zQ rfl (by decide) [some (.ref cA),some (.int m),none] rfl ?_
 have fin:∀(a b:Int) (l:ag),l cA=some (b6 a b)->(∀o,put l cA o=put aa cA o)->bf G none 1 (bB Q) (bc X) [
   eF (cS [Ky (loc 0) (lit (.int 0)),ay 2]) (bN .divmod [item (loc 0) (lit (.int 0)),loc 1]),
   aC (loc 2)] ⟨[some (.ref cA),some (.int m),none],l⟩:=by
  intro a b l hl hp
  refine bx hl rfl ⟨by decide,by decide⟩ ⟨hm,Dk hl (by decide) (dM rfl) ⟨_,.refl _,?_⟩⟩
  show Q (.int (a%m)) (put l cA (b6 (a/m) b))
  rw[hp]
  exact q _ _ _ (Int.emod_nonneg _ (Int.ne_of_gt hm.1)) (Int.emod_lt_of_pos _ hm.1)
 refine bx h rfl ⟨by decide,by decide⟩ ⟨λ_=>?_,λ_=>fin a b aa h λo=>rfl⟩
 refine⟨cA,1,[.int a,.int b],.int b,rfl,rfl,h,by decide,by decide,rfl,Dk h (by decide) (dM rfl) ?_⟩
 refine bx (ab _ _ _) rfl ⟨by decide,by decide⟩ ⟨.inl (by unfold rn;decide),Dk (ab _ _ _) (by decide) (dM rfl) ?_⟩
 exact fin _ _ _ (ab _ _ _) λo=>by rw[aR,aR]
theorem AG {α:Type}{l:List α}{f:Int}(h0:0<=f)(h:f<l.length):∃c,pick l f=some c/\c∈l:=by
 obtain⟨n,rfl⟩:∃n:Nat,f=n:=⟨f.toNat,by omega⟩
 have hn:n<l.length:=by exact a20 0x64080b56009801 tt h
 exact⟨l[n],by rw[fB,List.getElem?_eq_getElem hn],List.getElem_mem hn⟩
theorem D0 {n:Nat}(h:n<=1000):(n:Int)<2^9000:=dp (by
 have:(n:Int)<=1000:=by exact a10 0xd09e89ec00b127a2781 tt h
 exact Int.le_trans this (by decide+kernel))
theorem EZ (p:PG G){a b:Int}{vs:List V}(h:aa cA=some (b6 a b))(h0:0<vs.length)(h1:vs.length<=1000)(q:∀v a' b',v∈vs->Q v (put aa cA (b6 a' b'))):CF G 3 "_law_pick" [.ref cA,.tup vs] aa Q X:=by
 refine ax p.g p.qU rfl (by decide) [some (.ref cA),some (.tup vs)] rfl ?_
 refine⟨by exact a10 0x31270346ccdec0b127a2781 tt h1,cW (by decide) (ew p h ⟨by exact a10 0xd580128c8094 tt h0,D0 h1⟩ λf a' b' f0 f1=>?_)⟩
 obtain⟨c,e,m⟩:=AG f0 f1
 exact item_tup e ⟨by exact a01 0x341ab89c0d1b337b28d0694 tt f0,by exact a11 0x34270346ccdec6b127a27816ac008d tt h1 f1⟩ (aP (q c a' b' m))
theorem E0 (p:PG G){a b:Int}{l:List Nat}(h:aa cA=some (b6 a b))(h0:0<l.length)(h1:l.length<=1000)(q:∀c a' b',c∈l->Q (.str [c]) (put aa cA (b6 a' b'))):CF G 3 "_law_pick" [.ref cA,.str l] aa Q X:=by
 refine ax p.g p.qU rfl (by decide) [some (.ref cA),some (.str l)] rfl ?_
 refine⟨by exact a10 0x31270346ccdec0b127a2781 tt h1,cW (by decide) (ew p h ⟨by exact a10 0xd580128c8094 tt h0,D0 h1⟩ λf a' b' f0 f1=>?_)⟩
 obtain⟨c,e,m⟩:=AG f0 f1
 exact item_str e ⟨by exact a01 0x341ab89c0d1b337b28d0694 tt f0,by exact a11 0x34270346ccdec6b127a27816ac008d tt h1 f1⟩ (aP (q c a' b' m))
theorem P4 (p:PG G){sc:Addr}{l:List Int}(h:sm G.C aa sc (l.map V.int))(q:∀c a,aa c=none->Q (.ref c) (put aa c (b6 a 0))):CF G 2 "_law_pen" [.ref sc] aa Q X:=by
 refine ax p.g p.Cu rfl (by decide) [some (.ref sc),none,none] rfl ?_
 refine BA (a:=none) (b:=some 24) h rfl rfl λc hc=>⟨⟨_,ab _ _ _⟩,λR hf hR=>?_⟩
 change aa c=none at hc
 have key:∀(rs pre:List Int) (n:Int) (u:Option V),l.take 24=pre++rs->R (.list c pre.length) ⟨[some (.ref sc),some (.int n),u],put aa c (.list ((l.take 24).map V.int))⟩:=by
  intro rs
  induction rs with
  |nil=>
   intro pre n u e
   have hn:((l.take 24).map V.int)[pre.length]?=none:=by rw[e];simp
   refine hR _ _ (pj (ab _ _ _) hn ⟨dM rfl,λd hd=>?_⟩)
   change put aa c _ d=none at hd
   obtain⟨X8,hd2⟩:=cy hd
   refine⟨put aa d (b6 n 0),λa o ho=>?_,q d n X8⟩
   by_cases ha:a=d
   ·subst ha;rw[ab] at ho;cases ho;exact ab _ _ _
   ·rw[ai ha] at ho;exact(ai ha).trans (Sub.put hc _ _ ho)
  |cons r rs ih=>
   intro pre n u e
   have hn:((l.take 24).map V.int)[pre.length]?=some (.int r):=by rw[e];exact eA
   refine hR _ _ (mz (ab _ _ _) hn ⟨.inr (by unfold rn;decide),.inl CX,?_⟩)
   have:=ih (pre++[r])
   rw[cN] at this
   exact this _ _ (by rw[e];simp)
 have e0:cut (l.map V.int) none (some 24)=(l.take 24).map V.int:=by
  show((l.map V.int).take 24).drop 0=_
  rw[List.drop_zero,List.map_take]
 rw[e0]
 exact key (l.take 24) [] 7 none rfl
end
theorem Vs {n:Nat}{l:List Value}(h:l.length=n+4):∃a b c d t,t.length=n/\a::b::c::d::t=l:=by
 obtain⟨a,b,_,k,rfl⟩:=Se h
 obtain⟨c,d,t,j,rfl⟩:=Se k
 exact⟨a,b,c,d,t,j,rfl⟩
theorem Qn {l:List Value}(h:l.length=8):∃a b c d e f g i,l=[a,b,c,d,e,f,g,i]:=by
 obtain⟨a,b,c,d,_,k,rfl⟩:=Vs h
 obtain⟨f,g,i,j,t,l,rfl⟩:=Vs (n:=0) k
 cases List.eq_nil_of_length_eq_zero l
 exact⟨a,b,c,d,f,g,i,j,rfl⟩
noncomputable def SA:List (Option Expr×Pos)->List Str->List Arg
 |_,[]=>[]
 |f,n::r=>⟨n,(f.headD (none,⟨0,0,0,0⟩)).1,(f.headD (none,⟨0,0,0,0⟩)).2⟩::SA f.tail r
theorem Md:∀as:List Arg,SA (as.map λa=>(a.annotation,a.pos)) (as.map (·.arg))=as:=by
 intro z_
 induction z_ with
 |nil=>
  exact rfl
 |cons A8 r ih=>
  obtain⟨_,_,_⟩:=A8
  exact congrArg (_::·) ih
theorem HE {p:Arguments}{ns:List Str}(hp:jg p ns=true):∃f x y,p=⟨[],SA f ns,none,[],x,none,y⟩:=by
 obtain⟨h1,h2,h3,h4⟩:=dF hp
 obtain⟨h4,h5⟩:=aQ h4
 obtain⟨x1,x2,x3,x4,x5,x6,x7⟩:=p
 cases List.isEmpty_iff.mp h1;cases List.isEmpty_iff.mp h3;cases Option.isNone_iff_eq_none.mp h4;cases Option.isNone_iff_eq_none.mp h5
 cases AR h2
 exact⟨_,x5,x7,congrArg (λz=>Arguments.mk [] z none [] x5 none x7) (Md x2).symm⟩
theorem Fp {s:Shared}{fd:FuncData}{T:Addr}{o:Obj}{vs:Array Value}{n:Nat}(hp:jg fd.params gQ=true)(hd:fd.defaults=.ref T)(ho:s.heap.get? T=some o)(hs:o.data=.seq vs n)
  {d0 d1 d2 d3 d4 d5 d6 d7 c x1 x2 x3 x4:Value} (hv:vs=#[d0,d1,d2,d3,d4,d5,d6,d7]):
  BindsTo s fd ⟨[c],[("width",x1),("real_digits",x2),("double_digits",x3),("top_exponent",x4)]⟩ (gQ.zip [c,x1,x2,x3,x4,d4,d5,d6,d7]):=by
 subst hv
 obtain⟨f,x,y,e⟩:=HE hp
 refine BindsTo.of_defaults hd ho hs (k:=?_) ?_ ?_
 rotate_left
 ·refine(congrArg (λp=>bindArgs {fd with params:=p} _) e).trans ?_
  rfl
 ·rfl
section
variable {G:GC}{aa:ag}{Q:V->ag->Prop}{X:Ex->ag->Prop}
theorem mA {C:Frag}{D:Led}{x:Str}{v:V}{kw:List (Str×V)}{ks:List (Str×Value)}(h:kh C D ((x,v)::kw) ks):∃c r,ks=(x,c)::r/\br C D v c/\kh C D kw r:=by
 cases h with
 |cons a b=>exact⟨_,_,rfl,a,b⟩
noncomputable def kI:List V:=[.int 16,.int 9,.int 12,.int 99,.int 1000000,.int 19,.int 72,.int 40]
theorem HT {K:Frag}{f:Addr}(h:K3 K f=true):∃fd T o vs n,fnAt K f=some fd/\pY K fd kF=true/\jg fd.params gQ=true/\fd.defaults=.ref T/\K.lookup T=some o/\o.data=.seq vs n/\
  pR [32,7,15,38,1000000,19,72,40] vs.toList=true:=by
 obtain⟨fd,hf,h⟩:=cf h
 obtain⟨h1,h2,h3⟩:=cM h
 obtain⟨T,hT,h3⟩:=cf h3
 obtain⟨o,hK,h3⟩:=cf h3
 obtain⟨vs,hs,h3⟩:=cf h3
 obtain⟨n,hs⟩:=Az hs
 exact⟨fd,T,o,vs,n,hf,h1,h2,pe hT,hK,hs,h3⟩
theorem Mn {fd:FuncData}{T:Addr}{o:Obj}{vs:Array Value}{n:Nat}(hp:jg fd.params gQ=true)(hd:fd.defaults=.ref T)(hs:o.data=.seq vs n)(hi:pR [32,7,15,38,1000000,19,72,40] vs.toList=true){u:V}
  {s:Shared} {D:Led} {cs:List Value} {ks:List (Str×Value)} (ho:s.heap.get? T=some o) (hv:aY G.C D [u] cs) (hk:kh G.C D [("width",.int 16),("real_digits",.int 9),("double_digits",.int 12),("top_exponent",.int 99)] ks):
  ∃Nr,aY G.C D (u::kI) Nr/\BindsTo s fd ⟨cs,ks⟩ (gQ.zip Nr):=by
 have iv:aY G.C D ([32,7,15,38,1000000,19,72,40].map V.int) vs.toList:=B6 hi
 obtain⟨d0,d1,d2,d3,d4,d5,d6,d7,e⟩:=Qn iv.length
 rw[e] at iv
 have iv:=iv.drop 4
 obtain⟨_,rfl,i0⟩:=fb hv
 obtain⟨_,_,rfl,i1,RR⟩:=mA hk
 obtain⟨_,_,rfl,i2,XZ⟩:=mA RR
 obtain⟨_,_,rfl,i3,XY⟩:=mA XZ
 obtain⟨_,_,rfl,i4,XW⟩:=mA XY
 cases XW
 exact⟨_,.cons i0 (.cons i1 (.cons i2 (.cons i3 (.cons i4 iv)))),Fp hp hd ho hs (by rw[←Array.toArray_toList (xs:=vs),e])⟩
theorem E3 (p:PG G)(q:∀a dx,aa a=none->Q (.ref a) (put aa a (ob G 7 dx kI))):
  b5 G (·=none) 3 (Z G "Limits") [] [("width",.int 16),("real_digits",.int 9),("double_digits",.int 12),("top_exponent",.int 99)] aa Q X:=by
 obtain⟨h1,h2,h3⟩:=p.g.make 7 (by decide) (by decide)
 refine jV (C:=ZC G 7) h1 h2 h3 λa dx ha Nm=>?_
 obtain⟨fd,T,o,vs,n,k1,k2,k3,k4,k5,k6,k7⟩:=HT p.lim
 refine qT (vs:=.ref a::kI) p.g k1 k2 rfl ?_ (by decide) [some (.ref a),some (.int 16),some (.int 9),some (.int 12),some (.int 99),some (.int 1000000),some (.int 19),some (.int 72),some (.int 40)] rfl ?_
 ·exact λs D cs ks hK hv hk=>Mn k3 k4 k6 k7 (hK _ _ k5) hv hk
 ·refine cq.mk a dx [] rfl (ab _ _ _) (Nat.zero_le _) ?_
  refine cq.mk a dx (kI.take 1) rfl (ab _ _ _) (dM rfl) ?_
  refine cq.mk a dx (kI.take 2) rfl (ab _ _ _) (dM rfl) ?_
  refine cq.mk a dx (kI.take 3) rfl (ab _ _ _) (dM rfl) ?_
  refine cq.mk a dx (kI.take 4) rfl (ab _ _ _) (dM rfl) ?_
  refine cq.mk a dx (kI.take 5) rfl (ab _ _ _) (dM rfl) ?_
  refine cq.mk a dx (kI.take 6) rfl (ab _ _ _) (dM rfl) ?_
  refine cq.mk a dx (kI.take 7) rfl (ab _ _ _) (dM rfl) ⟨_,.refl _,rfl,?_⟩
  show Q _ (put (put (put (put (put (put (put (put (put aa a _) a _) a _) a _) a _) a _) a _) a _) a _)
  rw[aR,aR,aR,aR,aR,aR,aR,aR]
  exact q a dx ha
end
noncomputable def dS (n:Nat):List Nat:=(Nat.toDigits 10 n).map Char.toNat
theorem cJ (n:Nat):bp n=dS n:=PySem.W.KIN.signs_num n
theorem wh:∀d:Nat,d<10->(Nat.digitChar d).toNat=48+d:=by decide
theorem sv {n:Nat}(h:n<10):dS n=[48+n]:=by
 unfold dS;rw[Nat.toDigits_of_lt_base h,List.map_cons,List.map_nil,wh n h]
theorem vF {n:Nat}(h:10<=n):dS n=dS (n/10)++[48+n%10]:=by
 unfold dS;rw[Nat.toDigits_of_base_le (by decide) h,List.map_append,List.map_cons,List.map_nil,wh _ (Nat.mod_lt n (by decide))]
noncomputable def zp (k r:Nat):List Nat:=List.replicate (k-(dS r).length) 48++dS r
theorem N8 {k:Nat}(h:1<=k):zp k 0=List.replicate k 48:=by
 unfold zp
 rw[sv (n:=0) (by decide)]
 obtain⟨j,rfl⟩:=Nat.exists_eq_add_one_of_ne_zero (Nat.ne_of_gt h)
 rw[List.replicate_succ'];rfl
theorem To {k r:Nat}(h:1<=k):zp (k+1) r=zp k (r/10)++[48+r%10]:=by
 by_cases hr:r<10
 ·rw[Nat.div_eq_of_lt hr,N8 h,Nat.mod_eq_of_lt hr]
  unfold zp
  rw[sv hr];rfl
 ·unfold zp
  rw[vF (n:=r) (by exact a10 0x18813cc409e tt (ND hr:)),cN,rW]
  show List.replicate (k+1-((dS (r/10)).length+1)) 48++_=_
  rw[Nat.add_sub_add_right]
theorem qu:∀(k:Nat){n:Nat},1<=k->10^k<=n->dS n=dS (n/10^k)++zp k (n%10^k)
 |0,_,h,_=>absurd h (by decide)
 |1,n,_,h=>by
  rw[Nat.pow_one] at h ⊢
  rw[vF h]
  unfold zp
  rw[sv (Nat.mod_lt n (by decide))];rfl
 |k+2,n,_,h=>by
  rw[Nat.pow_succ 10 (k+1),Nat.mul_comm] at h ⊢
  have RX:1<=10^(k+1):=Nat.one_le_pow _ _ (by decide)
  have hn:10<=n:=fm (Nat.le_mul_of_pos_right 10 RX) h
  have h':10^(k+1)<=n/10:=(Nat.le_div_iff_mul_le (by decide)).mpr (by rw[Nat.mul_comm];exact h)
  rw[vF hn,qu (k+1) (Nat.le_add_left 1 k) h',To (Nat.le_add_left 1 k),Nat.div_div_eq_div_mul,rW,Nat.mod_mul_right_div_self,Nat.mod_mul_right_mod]
theorem nt {k n:Nat}(hk:1<=k)(h:n<10^k):(dS n).length<=k:=by
 unfold dS;rw[List.length_map];exact PyProof.Rows.digits10_le hk h
theorem Ci {k n:Nat}(h:10^k<=n):k+1<=(dS n).length:=by
 unfold dS;rw[List.length_map];exact PyProof.Rows.digits10_ge h
theorem ll (n:Nat):1<=(dS n).length:=by
 have:=jq (n:=n);rw[cJ] at this;exact this
theorem Lw {k r:Nat}(hk:1<=k)(h:r<10^k):(zp k r).length=k:=by
 have:=nt hk h
 unfold zp;rw[cN,List.length_replicate];exact Nat.sub_add_cancel this
theorem MT (n:Nat):n<10^(dS n).length/\(0<n->10^((dS n).length-1)<=n):=by
 constructor
 ·exact Nat.lt_of_not_le λh=>by have:=Ci h;exact iY 0 (a10 0x6450a3102b4a81 tt this)
 ·intro h0
  refine Nat.le_of_not_lt λh=>?_
  by_cases h1:(dS n).length-1=0
  ·rw[h1] at h;exact iY 0 (a10 0x32285190128c8a81 tt h0 h)
  ·have:=nt (Nat.pos_of_ne_zero h1) h;exact Nat.not_le.mpr (Nat.sub_lt (ll n) Nat.one_pos) this
theorem QZ {a:Nat}{e:Int}(h:0<a)(he:0<=e):rt (dS a) ((dS a).length+e)=dS (a*10^e.toNat)++[46,48]:=by
 have hp:=ll a
 obtain⟨k,rfl⟩:=jb he
 unfold rt
 rw[aA (by exact Int.not_le.mpr (a20 0x1aad600980128c4095 tt hp)),aL (by exact a20 0x68b58026005801 tt)]
 congr 1
 rw[show((dS a).length+(k:Int)-(dS a).length)=k from Int.add_comm _ _▸Int.add_sub_cancel _ _,Int.toNat_natCast]
 by_cases hk:k=0
 ·subst hk;simp
 ·have Un:0<10^k:=Nat.pos_of_ne_zero (by simp)
  rw[qu k (n:=a*10^k) (by omega) (Nat.le_mul_of_pos_left _ h),Nat.mul_div_cancel _ Un,Nat.mul_mod_left,N8 (by omega)]
theorem QY {a k:Nat}(h:0<a)(hk:1<=k)(hl:k<=(dS a).length):rt (dS a) ((dS a).length+-(k:Int))=dS (a/10^k)++[46]++zp k (a%10^k):=by
 obtain⟨b1,b2⟩:=MT a
 by_cases h1:k=(dS a).length
 ·have j2:a<10^k:=by rw[h1];exact b1
  unfold rt
  rw[aL (by omega),Nat.div_eq_of_lt j2,Nat.mod_eq_of_lt j2,sv (n:=0) (by decide)]
  unfold zp
  rw[h1,Int.add_right_neg,Nat.sub_self]
  rfl
 ·have Ks:10^k<=a:=fm (Nat.pow_le_pow_right (by decide) (Nat.le_sub_one_of_lt (Nat.lt_of_le_of_ne hl h1))) (b2 h)
  have hs:=qu k hk Ks
  have hz:(zp k (a%10^k)).length=k:=Lw hk (Nat.mod_lt _ (Nat.pos_of_ne_zero (by simp)))
  have hL:(dS a).length=(dS (a/10^k)).length+k:=by
   have:=congrArg List.length hs
   rw[cN,hz] at this;exact this
  unfold rt
  rw[aA (by omega),aA (by omega),show((dS a).length+-(k:Int)).toNat=(dS (a/10^k)).length by rw[hL,Int.natCast_add,Int.add_neg_cancel_right];rfl]
  have t1:(dS a).take (dS (a/10^k)).length=dS (a/10^k):=by rw[hs];exact List.take_left' rfl
  have t2:(dS a).drop (dS (a/10^k)).length=zp k (a%10^k):=by rw[hs];exact List.drop_left' rfl
  rw[t1,t2]
theorem QX {f:List Nat}{c:Nat}{r:List Nat}(h:f=c::r):rt f 1=[c]++[46]++(if r≠[] then r else[48]):=by
 subst h
 unfold rt
 rw[aA (by decide)]
 cases r with
 |nil=>rfl
 |cons d r=>
  rw[aA (by simp;exact a10 0x6ab4aad2ac0095 tt),aL (by simp)];rfl
theorem Qo (k:Int):xq k=(if k<0 then[45] else[43])++List.replicate (2-((bp (bk k)).length:Int)).toNat 48++bp (bk k):=by
 have:=jq (n:=bk k)
 have e:tD k=List.replicate (2-((bp (bk k)).length:Int)).toNat 48++bp (bk k):=by
  unfold tD
  split
  ·rw[show((bp (bk k)).length:Int)=1 by exact oD (a10 0xd0ab002c8b01 tt (by assumption)) (a10 0xd18012ac4095 tt this)];rfl
  ·rw[Kz (by exact a10 0x3428b98012cc4096 tt (ND (by assumption):))];rfl
 unfold xq
 rw[e]
 split<;>rfl
section
variable {G:GC}{aa:ag}{Q:V->ag->Prop}{X:Ex->ag->Prop}
theorem Qd {k L:Nat}(h:L<=4):(-1000000:Int)<=- -(k:Int)-L:=by omega
theorem Jp {k L:Nat}(h:k<=20):- -(k:Int)-L<=(20:Nat):=by omega
theorem mG (m:Int):bk m=(m.natAbs:Nat):=by
 unfold bk
 split
 ·exact(Ds (by assumption)).symm
 ·exact(Dr (by assumption)).symm
theorem M8 {n k:Nat}(hk:k<=100)(h:n<10^k):n<2^1920:=
 Nat.lt_of_lt_of_le h (fm (Nat.pow_le_pow_right (by decide) hk) (by decide+kernel))
theorem o9 (p:PG G){m e d:Int}{c:Nat}(h:IT m e)(hd:d<=100)(q:Q (.str (cL m e c d)) aa):CF G 3 "_law_real" [.tup [.int m,.int e],.str [c],.int d] aa Q X:=by
 refine ax p.g p.zL rfl (by decide) [some (.tup [.int m,.int e]),some (.str [c]),some (.int d),none,none,none,none,none,none,none,none] rfl ?_
 obtain⟨hm,NV,NU⟩:=h
 unfold CG at hm
 unfold cL at q
 refine⟨λh0=>?_,λh0=>?_⟩
 ·change m=0 at h0
  rw[aL h0] at q;exact aP q
 change ¬m=0 at h0
 rw[aA h0] at q
 dsimp only at q
 have main:∀(s:List Nat),s=(if m<0 then[45] else[])->s.length<=1->bf G none 2 (bB Q) (bc X) (fD.body.drop 3) ⟨[some (.tup [.int m,.int e]),some (.str [c]),some (.int d),some (.int m),some (.int e),some (.str s),some (.str (bp (bk m))),none,none,none,none],aa⟩:=by
  intro s hs o5
  rw[←hs,mG,cJ] at q
  rw[mG,cJ]
  have ha:0<m.natAbs:=p5 h0
  generalize hA:m.natAbs=a at *
  have Gw:(if m<0 then -m else m)=(a:Int):=by rw[←hA];exact mG m
  have hlen:(dS a).length<=4:=nt (by decide) (Nat.lt_of_le_of_lt hm (by decide))
  have rz:=ll a
  have Ul:rn (if m<0 then -m else m):=by rw[Gw];unfold rn;rw[Int.natAbs_natCast];exact Nat.lt_of_le_of_lt hm (by decide)
  have So:∀k:Nat,(0:Int)<10^k:=λk=>Int.pow_pos (by decide)
  have tail:¬(0<=((dS a).length:Int)+e/\((dS a).length:Int)+e<=d)->bf G none 2 (bB Q) (bc X) (fD.body.drop 4) ⟨[some (.tup [.int m,.int e]),some (.str [c]),some (.int d),some (.int m),some (.int e),some (.str s),some (.str (dS a)),none,none,none,none],aa⟩:=by
   intro hn
   rw[aA hn] at q
   obtain⟨c0,r,hr⟩:∃c0 r,dS a=c0::r:=by
    cases h:dS a with
    |nil=>rw[h] at rz;simp at rz
    |cons c0 r=>exact⟨c0,r,rfl⟩
   rw[QX hr,Qo] at q
   generalize hP:((dS a).length:Int)+e-1=P at q
   have Yh:P.natAbs<=100:=vn (by exact a12 0x345ac09e48238a341ab94146c397155a35801 tt NV hP) (by exact a12 0x34604f2411cd140d62600b86c397155a35801 tt NU hlen hP)
   have Ta:(bk P).natAbs<=100:=by rw[eP];exact Yh
   have Nn:(bp (bk P)).length<=7:=dA (fm Ta (by decide))
   have Gn:r.length<=4:=by rw[hr] at hlen;simp at hlen;exact a10 0x189802c4b81 tt hlen
   have fin:∀P',P'=P->bf G none 2 (bB Q) (bc X) (fD.body.drop 5) ⟨[some (.tup [.int m,.int e]),some (.str [c]),some (.int d),some (.int m),some (.int e),some (.str s),some (.str (dS a)),none,none,some (.int P'),none],aa⟩:=by
    intro P' e'
    subst e'
    generalize hB:bk P'=B at *
    have Ym:(if P'<0 then -P' else P')=B:=hB
    have pk:∀{Z:V->Prop},Z (.str (if P'<0 then[45] else[43]))->lL (.str [43,45]) (.int (if decide (P'<0)=true then 1 else 0)) aa Z:=by
     intro Z z
     by_cases hp:P'<0
     ·rw[aL hp] at z;rw[aL (decide_eq_true hp)];exact item_str rfl ⟨by decide,by decide⟩ z
     ·rw[aA hp] at z;rw[aA (by simpa using hp)];exact item_str rfl ⟨by decide,by decide⟩ z
    have sg:(if P'<0 then[45] else[43]:List Nat).length=1:=by split<;>rfl
    generalize (if P'<0 then[45] else[43]:List Nat)=sgn at *
    have rep:(List.replicate (2-((bp B).length:Int)).toNat 48).length<=2:=by rw[List.length_replicate];exact j6 (by exact a10 0xd18165cc0096 tt)
    have K4:∀t:List Nat,t.length<=4->((s++[c0])++[46]).length+t.length<=1000000/\(((s++[c0])++[46])++t).length+[c].length<=1000000/\((((s++[c0])++[46])++t)++[c]).length+sgn.length<=1000000/\
      (((((s++[c0])++[46])++t)++[c])++sgn).length+(List.replicate (2-((bp B).length:Int)).toNat 48).length<=1000000/\((((((s++[c0])++[46])++t)++[c])++sgn)++List.replicate (2-((bp B).length:Int)).toNat 48).length+(bp B).length<=1000000:=by
     intro t ht
     simp only[cN,mX,List.length_nil]
     exact⟨dq 0xc49c093d21ad0ab569528b5695280589502c4c05 [_,0,0,0,_] [] tt o5 ht,⟨dq 0xc49c093d21ad5a54a2d0ab569528b5695280589502c4c05 [_,0,0,0,_] [] tt o5 ht,⟨dq 0x624e049e90d6835ab4a945a156ad2a516ad2a500b12a0599506c4c05 [_,0,_,0,_] [] tt o5 sg ht,⟨dq 0x3127024f486b422d06b569528b42ad5a54a2d5a54a0162540b32a0d89608c4c05 [_,0,_,_,_] [] tt o5 sg rep ht,a50 0x18938127a435a096845a0d6ad2a516855ab4a945ab4a9402c4a81626c1332a0d89608c4c05 tt o5 Nn sg rep ht⟩⟩⟩⟩
    have e1:s.length+[c0].length<=1000000:=by simp only[mX,List.length_nil];exact a10 0x18938127a435ab4a9402c4a81 tt o5
    have e2:(s++[c0]).length+[46].length<=1000000:=by simp only[cN,mX,List.length_nil];exact a10 0x18938127a435ab4a945ab4a9402c4a81 tt o5
    rw[←Ym] at q K4 Ta Nn
    refine⟨Nat.lt_of_le_of_lt Ta (by decide+kernel),item_str (c:=c0) (by rw[hr];rfl) ⟨by decide,by decide⟩ ⟨e1,e2,?_⟩⟩
    refine gN (r:=r) (by exact a10 0x18938127a4302c4c01 tt hlen) rfl rfl (by rw[hr];rfl) ⟨by exact a10 0x18938127a4302c4c01 tt Gn,λho=>?_,λho=>?_⟩
    ·change r≠[] at ho
     rw[aL ho] at q
     obtain⟨w1,w2,w3,w4,w5⟩:=K4 r Gn
     refine⟨w1,w2,pk ⟨w3,by exact a10 0xc49c0d1b337b02c4d81 tt Nn,⟨rfl,by exact a10 0x1a138127a435cc0096 tt,by exact a10 0xd173002597138127a4328c4d81 tt Nn⟩,w4,w5,aP ?_⟩⟩
     simp only[←rW] at q;exact q
    ·change ¬r≠[] at ho
     rw[aA ho] at q
     obtain⟨w1,w2,w3,w4,w5⟩:=K4 [48] (by decide)
     refine⟨w1,w2,pk ⟨w3,by exact a10 0xc49c0d1b337b02c4d81 tt Nn,⟨rfl,by exact a10 0x1a138127a435cc0096 tt,by exact a10 0xd173002597138127a4328c4d81 tt Nn⟩,w4,w5,aP ?_⟩⟩
     simp only[←rW] at q;exact q
   refine⟨by exact a10 0xc49c0d1b337b02c4c01 tt hlen,fin _ hP⟩
  refine⟨by exact a10 0xc49c0d1b337b02c4c01 tt hlen,λh1=>⟨λh2=>?_,λh2=>?_⟩,λh1=>?_⟩
  ·change 0<=((dS a).length:Int)+e at h1
   change ((dS a).length:Int)+e<=d at h2
   rw[aL ⟨h1,h2⟩] at q
   refine⟨λh3=>?_,λh3=>?_⟩
   ·change 0<=e at h3
    obtain⟨k,rfl⟩:=jb h3
    have hx:a*10^k<10^24:=Nat.lt_of_le_of_lt (Nat.mul_le_mul hm (Nat.pow_le_pow_right (n:=10) (by decide) (show k<=20 by exact a10 0xc540168a1801 tt NU))) (by decide+kernel)
    have hc:(a:Int)*10^k=((a*10^k:Nat):Int):=by simp
    have hl:(dS (a*10^k)).length<=24:=nt (by decide) hx
    rw[QZ ha h3,←rW,Int.toNat_natCast] at q
    have hX:(if m<0 then -m else m)*10^(k:Int).toNat=((a*10^k:Nat):Int):=by rw[Gw,Int.toNat_natCast,hc]
    rw[←cJ,←hX] at q
    rw[←cJ,←hX] at hl
    exact⟨⟨by exact a10 0x68c0094 tt,by exact a10 0x684e049e90d80168a1801 tt NU,sd⟩,.inl Ul,by rw[hX,Int.natAbs_natCast];exact M8 (by decide) hx,by exact a20 0xc49c093d21ad040589502c5602 tt o5 hl,by simp only[cN,List.length_replicate,mX,List.length_nil];exact a20 0x3127024f486b56955a54a2d040589502c5602 tt o5 hl,aP q⟩
   ·change ¬0<=e at h3
    obtain⟨k,k1,rfl⟩:=Qf h3
    have nn:=Int.neg_neg (k:Int)
    have Nl:k<=(dS a).length:=Int.ofNat_le.mp (Int.sub_nonneg.mp h1)
    rw[QY ha k1 Nl] at q
    have hk:k<=20:=fm Nl (k9 hlen rfl)
    have MD:0<10^k:=Nat.pos_of_ne_zero (by simp)
    have c0:(10:Int)^(- -(k:Int)).toNat=((10^k:Nat):Int):=by rw[nn];simp
    have c1:(if m<0 then -m else m)/10^(- -(k:Int)).toNat=((a/10^k:Nat):Int):=by rw[Gw,c0];simp
    have c2:(if m<0 then -m else m)%10^(- -(k:Int)).toNat=((a%10^k:Nat):Int):=by rw[Gw,c0];simp
    have l1:(dS (a/10^k)).length<=4:=nt (by decide) (Nat.lt_of_le_of_lt (Nat.div_le_self a _) (Nat.lt_of_le_of_lt hm (by decide)))
    have l2:(dS (a%10^k)).length<=4:=nt (by decide) (Nat.lt_of_le_of_lt (Nat.mod_le a _) (Nat.lt_of_le_of_lt hm (by decide)))
    have b1:(a/10^k)<2^1920:=Nat.lt_of_le_of_lt (fm (Nat.div_le_self a _) hm) (by decide+kernel)
    have b2:(a%10^k)<2^1920:=Nat.lt_of_le_of_lt (fm (Nat.mod_le a _) hm) (by decide+kernel)
    unfold zp at q
    rw[show k-(dS (a%10^k)).length=(- -(k:Int)-((dS (a%10^k)).length:Int)).toNat by rw[nn,xY],←rW,←rW,←rW,←cJ,←cJ,←c1,←c2] at q
    rw[←cJ,←c1] at l1
    rw[←cJ,←c2] at l2
    refine⟨⟨by rw[nn];exact Int.natCast_nonneg k,by rw[nn];exact Int.ofNat_le.mpr (k9 hk rfl),sd⟩,⟨by rw[c0];exact dq 0xd580128c8094 [_] [0] tt MD,dp (qg (by rw[nn];exact k9 hk rfl))⟩,by rw[c1,Int.natAbs_natCast];exact b1,by exact a20 0xc49c093d21ad040589502c4c02 tt o5 l1,by simp only[cN,List.length_replicate,mX,List.length_nil];exact a20 0xc49c093d21ad5a54a2d040589502c4c02 tt o5 l1,by rw[c2,Int.natAbs_natCast];exact b2,by exact a10 0xc49c0d1b337b02c4c01 tt l2,⟨rfl,Int.le_trans (Jp hk) (by decide),Qd l2⟩,?_⟩
    have z3:=j6 (Jp (L:=(bp ((if m<0 then -m else m)%10^(- -(k:Int)).toNat)).length) hk)
    refine⟨by simp only[cN,List.length_replicate,mX,List.length_nil];exact dq 0x624e049e90d6835ab4a945a080b12a0589804c5403 [_,_,_,0] [0] tt o5 l1 z3,by rw[c2,Int.natAbs_natCast];exact b2,by simp only[cN,List.length_replicate,mX,List.length_nil];exact dq 0x3127024f486b41ad08b569528b410162540b1300989806c5404 [_,_,_,_] [0] tt o5 l1 l2 z3,aP q⟩
  ·exact tail λk=>h2 k.2
  ·exact tail λk=>h1 k.1
 have d1:(-1000000:Int)<=(if decide (m<0)=true then 1 else 0)/\(if decide (m<0)=true then(1:Int) else 0)<=1000000:=by split<;>decide
 have hs:List.replicate (if decide (m<0)=true then(1:Int) else 0).toNat 45=if m<0 then[45] else[]:=by
  by_cases hp:m<0
  ·rw[aL hp,aL (decide_eq_true hp)];rfl
  ·rw[aA hp,aA (by simpa using hp)];rfl
 refine⟨⟨rfl,d1.2,d1.1⟩,?_,l2,main _ hs ?_⟩
 ·show(bk m).natAbs<_
  rw[eP];exact Nat.lt_of_le_of_lt hm (by decide+kernel)
 ·show(List.replicate _ 45).length<=1
  rw[hs];split<;>decide
end
noncomputable def ve (m e:Int):Prop:=IT m e/\((m=0/\e=0)∨m%10≠0)
noncomputable def Iv.red:Iv->Prop
 |.int n=>CG n|.log _=>True|.chr t=>t.length<=20/\10∉t|.real m e=>ve m e|.dbl m e=>ve m e|.lE m e m' e'=>ve m e/\ve m' e'
theorem Iv.DX {i:Iv}(h:i.red):i.ok:=by
 cases i with
 |int n=>exact h
 |log b=>trivial
 |chr t=>exact h.1
 |real m e=>exact h.1
 |dbl m e=>exact h.1
 |lE m e m' e'=>exact⟨h.1.1,h.2.1⟩
theorem Sub.D1 {l l':ag}{a:Addr}{o:AO}(h:l' a=some o)(k:∀c u,c≠a->l c=some u->l' c=some u):Sub (Mine.put l a o) l':=λc u e=>by
 by_cases hc:c=a
 ·subst hc;rw[ab] at e;cases e;exact h
 ·rw[ai hc] at e;exact k c u hc e
section
variable {G:GC}{aa:ag}{Q:V->ag->Prop}{X:Ex->ag->Prop}{cA:Addr}
theorem E1 (p:PG G){a b:Int}(h:aa cA=some (b6 a b))(q:∀i a' b',Iv.red i->Q i.v (put aa cA (b6 a' b'))):CF G 4 "_law_value" [.ref cA] aa Q X:=by
 refine ax p.g p.xi rfl (by decide) [some (.ref cA),none,none,none,none,none,none] rfl ?_
 have c6:(0:Int)<6/\(6:Int)<2^9000:=⟨by decide,dp (by decide)⟩
 have c7:(0:Int)<7/\(7:Int)<2^9000:=⟨by decide,dp (by decide)⟩
 have YO:(0:Int)<13/\(13:Int)<2^9000:=⟨by decide,dp (by decide)⟩
 have JX:(0:Int)<4000/\(4000:Int)<2^9000:=⟨by decide,dp (by decide)⟩
 refine cW (by decide) (ew p h c6 λk Pt pM k0 k6=>cW (by decide) (ew p (ab _ _ _) JX λf pN kN f0 f1=>?_))
 rw[aR]
 have hn:CG (f-1000):=by unfold CG;exact vn (by exact a01 0xd16b027e372e27a278d28d0694 tt f0) (by exact a01 0xd1813f1b9713d13c6b52783f0d tt f1)
 refine⟨λh0=>?_,λh0=>⟨λh4=>?_,λh4=>⟨λh5=>?_,λh5=>?_⟩⟩⟩
 ·change k=0 at h0
  subst h0
  exact⟨l2,aP (q (.int (f-1000)) pN kN hn)⟩
 ·change k=4 at h4
  subst h4
  exact⟨by decide,l2,aP (q (.log (decide ((f-1000)%2=0))) pN kN trivial)⟩
 ·change k=5 at h5
  subst h5
  refine⟨rfl,cW (by decide) (ew p (ab _ _ _) c7 λn Ha xQ n0 n7=>⟨⟨by exact a01 0x341ab89c0d1b337b28d0694 tt n0,by exact a01 0xd09c0d1b337b1ad4d8d tt n7⟩,λacc cg R hR=>?_⟩)⟩
  change put (put aa cA (b6 pN kN)) cA (b6 Ha xQ) acc=none at cg
  rw[aR] at cg
  obtain⟨Yd,S9⟩:=cy cg
  have key:∀(n:Nat) (x:Int) (ts:List Nat) (l:ag) (a b:Int) (u:Option V),ts.length+n<=7->10∉ts->l cA=some (b6 a b)->l acc=some (.list (ts.map λc=>V.str [c]))->(∀c o,c≠cA->c≠acc->aa c=some o->l c=some o)->
    R (.mW x n) ⟨[u,some (.ref cA)],l⟩:=by
   intro n
   induction n with
   |zero=>
    intro x ts l a b u ht CN hp hl hk
    refine hR _ _ (wq ?_)
    have hm:ts.map (λc=>V.str [c])=(ts.map λc=>[c]).map V.str:=by rw[List.map_map];rfl
    have hf:(ts.map λc=>[c]).flatten=ts:=by
     clear hl hm ht CN
     induction ts with
     |nil=>rfl
     |cons c r ih=>rw[List.map_cons,List.flatten_cons,ih];rfl
    rw[hm] at hl
    refine jo hl (by rw[hf];exact a10 0x624e049e90c0b136b4a01 tt ht) ⟨l2,_,Sub.D1 hp λc u hc hu=>hk c u hc (λe=>by rw[e,Yd] at hu;cases hu) hu,?_⟩
    rw[hf]
    exact q (.chr ts) a b ⟨by exact a10 0x62a00b136b4a01 tt ht,CN⟩
   |succ n ih=>
    intro x ts l a b u ht CN hp hl hk
    refine hR _ _ (te (cW (by decide) (E0 p hp (by decide) (by decide) λc a' b' hc=>⟨_,(ai S9).trans hl,by simp;exact a20 0x1913816a4e602c4dad5a54101 tt ht,?_⟩)))
    refine ih (x+1) (ts++[c]) _ a' b' _ (by simp;exact a20 0x189b5a0969502c4dad5a54101 tt ht) ?_ ((ai (Ne.symm S9)).trans (ab _ _ _)) ?_ λc o h1 h2 h3=>(ai h2).trans ((ai h1).trans (hk c o h1 h2 h3))
    ·intro hm
     rcases List.mem_append.mp hm with hm|hm
     ·exact CN hm
     ·have:c=10:=by simpa using Eq.symm (List.mem_singleton.mp hm)
      subst this;exact absurd hc (by decide)
    ·rw[List.map_append];exact ab _ _ _
  have:=key n.toNat 0 [] (put (put (put aa cA (b6 pN kN)) cA (b6 Ha xQ)) acc (.list [])) Ha xQ none (by simp;exact a01 0x1a1b1ad4d8d tt n7) (by simp) ((ai (Ne.symm S9)).trans (ab _ _ _)) (ab _ _ _) λc o h1 h2 h3=>(ai h2).trans ((ai h1).trans ((ai h1).trans h3))
  exact this
 ·change ¬k=0 at h0
  change ¬k=4 at h4
  change ¬k=5 at h5
  refine⟨Nat.zero_le _,λrl Gn=>⟨⟨by decide,by decide⟩,λR hf hR=>?_⟩⟩
  change put aa cA (b6 pN kN) rl=none at Gn
  obtain⟨GI,Kj⟩:=cy Gn
  have key:∀(n:Nat) (x:Int) (ys:List (Int×Int)) (l:ag) (a b:Int) (u4 u5 u6:Option V),ys.length+n=2->(∀r∈ys,ve r.1 r.2)->l cA=some (b6 a b)->l rl=some (.list (ys.map bE))->(∀c o,c≠cA->c≠rl->aa c=some o->l c=some o)->
    R (.mW x n) ⟨[some (.ref cA),some (.int k),some (.int (f-1000)),some (.ref rl),u4,u5,u6],l⟩:=by
   intro n
   induction n with
   |zero=>
    intro x ys l a b u4 u5 u6 hy hr hp hl hk
    obtain⟨r,r',rfl⟩:=Tw hy
    have sub:Sub (put aa cA (b6 a b)) l:=Sub.D1 hp λc u hc hu=>hk c u hc (λe=>by rw[e,GI] at hu;cases hu) hu
    have r1:=hr r (.head _)
    have r2:=hr r' (.tail _ (.head _))
    refine hR _ _ (AD ⟨λh3=>?_,λh3=>?_⟩)
    ·change k=3 at h3
     subst h3
     exact bx hl rfl ⟨by decide,by decide⟩ (bx hl rfl ⟨by decide,by decide⟩ ⟨l2,l2,_,sub,q (.lE r.1 r.2 r'.1 r'.2) a b ⟨r1,r2⟩⟩)
    ·change ¬k=3 at h3
     refine bx hl rfl ⟨by decide,by decide⟩ ⟨l2,_,sub,?_⟩
     have Yp:k=1∨k=2:=by omega
     rcases Yp with rfl|rfl
     ·exact q (.real r.1 r.2) a b r1
     ·exact q (.dbl r.1 r.2) a b r1
   |succ n ih=>
    intro x ys l a b u4 u5 u6 hy hr hp hl hk
    refine hR _ _ (vS (cW (by decide) (ew p hp JX λg a' b' g0 g1=>cW (by decide) (ew p (ab _ _ _) YO λg' GA Gz Yt Ys=>⟨l2,λR' X5 Ku=>?_⟩))))
    have gY:put (put l cA (b6 a' b')) cA (b6 GA Gz) rl=some (.list (ys.map bE)):=(ai Kj).trans ((ai Kj).trans hl)
    have va:put (put l cA (b6 a' b')) cA (b6 GA Gz) cA=some (b6 GA Gz):=ab _ _ _
    have CP:∀c o,c≠cA->c≠rl->aa c=some o->put (put l cA (b6 a' b')) cA (b6 GA Gz) c=some o:=λc o h1 h2 h3=>(ai h1).trans ((ai h1).trans (hk c o h1 h2 h3))
    generalize put (put l cA (b6 a' b')) cA (b6 GA Gz)=l' at gY va CP
    have app:∀(m e:Int) (u5 u6:Option V),ve m e->G0 .append rl [.tup [.int m,.int e]] l' (λu l₂=>R (.mW (x+1) n) ⟨[some (.ref cA),some (.int k),some (.int (f-1000)),some (.ref rl),some (.int x),u5,u6],l₂⟩):=by
     intro m e u5 u6 z0
     refine uB gY (by simp;exact a20 0x19138127a4302ccb2d5a54101 tt hy) (ih (x+1) (ys++[(m,e)]) _ GA Gz _ _ _ (by simp;exact Nat.le_antisymm (a20 0x18965a0969502ccb2d5a54101 tt hy) (a20 0xc56825a5409670ccb2d5a54101 tt hy)) (λr hm=>?_) ((ai (Ne.symm Kj)).trans va) ?_ λc o h1 h2 h3=>(ai h2).trans (CP c o h1 h2 h3))
     ·rcases List.mem_append.mp hm with hm|hm
      ·exact hr r hm
      ·rw[List.mem_singleton.mp hm];exact z0
     ·rw[List.map_append];exact ab _ _ _
    have loop:∀(z:Nat) (m:Int) (j:Nat),m.natAbs<=z->m.natAbs*10^j<=3000->R' ⟨[some (.ref cA),some (.int k),some (.int (f-1000)),some (.ref rl),some (.int x),some (.int m),some (.int (g'-7+j))],l'⟩:=by
     intro z
     induction z using Nat.strongRecOn with
     |ind z Xs=>
      intro m j hz hb
      refine Ku _ ⟨λh0=>?_,λh0=>⟨by decide,λh1=>?_,λh1=>?_⟩⟩
      ·change m=0 at h0
       subst h0
       exact⟨lQ gY,λ_=>⟨l2,app 0 0 _ _ ⟨⟨by unfold CG;decide,by decide,by decide⟩,.inl ⟨rfl,rfl⟩⟩⟩,λh=>absurd rfl h⟩
      ·change ¬m=0 at h0
       change m%10=0 at h1
       have:=Xs (m/10).natAbs (fc hz h0 h1) (m/10) (j+1) (eR _) (by
        rw[G2 h1,Nat.mul_assoc] at hb
        rw[Nat.pow_succ,Nat.mul_comm (10^j)];exact hb)
       rw[show g'-7+((j+1:Nat):Int)=g'-7+j+1 by exact oD (a11 0x345a556b002b8d8d5ac169502b8d8d tt) (a11 0x345ac169502b8d8d5a556b002b8d8d tt)] at this
       exact⟨G8,l2,this⟩
      ·change ¬m=0 at h0
       change ¬m%10=0 at h1
       have hj:j<=3:=Nat.le_of_not_lt λhj=>by
        have h2:10^4<=10^j:=Nat.pow_le_pow_right (by decide) hj
        have h3:1*10^j<=m.natAbs*10^j:=Nat.mul_le_mul_right _ (p5 h0)
        rw[Nat.one_mul] at h3
        exact absurd (fm h2 (fm h3 hb)) (by decide)
       have XO:m.natAbs<=3000:=fm (Nat.le_mul_of_pos_right _ (Nat.pos_of_ne_zero (by simp))) hb
       exact⟨lQ gY,λh=>absurd h h0,λ_=>⟨l2,app m (g'-7+j) _ _ ⟨⟨XO,by exact a11 0x345ac00ae363572828d0694 tt Yt,by exact a11 0x1a285ac00ae3635aa11ac4b81 tt Ys hj⟩,.inr h1⟩⟩⟩
    have:=loop (g-1000).natAbs (g-1000) 0 (eR _) (by rw[Nat.pow_zero,Nat.mul_one];exact vn (b:=3000) (by exact a01 0xd16b027e372e27a278d28d0694 tt g0) (by exact a01 0xd1813f1b9713d13c6b52783f0d tt g1))
    rw[show g'-7+((0:Nat):Int)=g'-7 by exact oD (a01 0x1a2e36356b028b8d8d tt) (a01 0x1a2d605171b1ab8d8d tt)] at this
    exact this
  exact key 2 0 [] (put (put aa cA (b6 pN kN)) rl (.list [])) pN kN _ _ _ rfl (λr hr=>by cases hr) ((ai (Ne.symm Kj)).trans (ab _ _ _)) (ab _ _ _) λc o h1 h2 h3=>(ai h2).trans ((ai h1).trans h3)
end
noncomputable def c5 (s:Ws):List Nat:=if s.part=true then[] else[32]
noncomputable def et (two:Prop) [Decidable two](w:Int)(s:Ws)(x:List Nat):Ws:=
 if s.row≠[32]/\(w<((s.row++c5 s)++x).length∨two) then⟨s.rows++[s.row],([32]++[])++x,false⟩ else⟨s.rows,(s.row++c5 s)++x,false⟩
theorem Ft (w:Int)(s:Ws)(x:List Nat):et False w s x=a8 w s x:=by
 have e:(if s.part=true then x else 32::x)=c5 s++x:=by unfold c5;split<;>rfl
 unfold et a8
 dsimp only
 rw[e,rW]
 by_cases h:s.row≠[32]/\(w<(s.row++(c5 s++x)).length∨False)
 ·have h':(s.row.length:Int)+(c5 s++x).length>w/\s.row≠[32]:=by
   have:=h.2.resolve_right id
   rw[cN] at this
   exact⟨by exact a21 0x355ac01300235ab05a0808d tt this,h.1⟩
  rw[aL h,aL h'];rfl
 ·have h':¬((s.row.length:Int)+(c5 s++x).length>w/\s.row≠[32]):=λk=>h ⟨k.2,.inl (by rw[cN];exact a21 0x3560b41011ad56b004c008d tt k.1)⟩
  rw[aA h,aA h']
noncomputable def gF (s:Ws):Prop:=s.row≠[]/\(s.row=[32]->s.part=true)
theorem Iu {x:List Nat}(h:x≠[]):[32]++x≠([32]:List Nat):=λe=>h (by simpa using e)
theorem Fs {w:Int}{s:Ws}{x y:List Nat}(hs:gF s)(hx:x≠[]):et True w (et True w s x) y=a8 w (bP (a8 w (if s.row≠[32] then bP s else s) x)) y:=by
 have key:∀R,et True w ⟨R,[32]++x,false⟩ y=a8 w (bP ⟨R,[32]++x,false⟩) y:=λR=>by
  unfold et a8 bP
  rw[aL ⟨Iu hx,.inr trivial⟩]
  dsimp only
  rw[aA (λk=>k.2 rfl)];rfl
 by_cases h:s.row=[32]
 ·have e1:et True w s x=⟨s.rows,[32]++x,false⟩:=by
   unfold et c5
   rw[aA (λk=>k.1 h),h,hs.2 h];rfl
  have e2:a8 w s x=⟨s.rows,[32]++x,false⟩:=by
   unfold a8
   dsimp only
   rw[aA (λk=>k.2 h),h,hs.2 h];rfl
  rw[e1,aA (λk=>k h),e2];exact key _
 ·have e1:et True w s x=⟨s.rows++[s.row],[32]++x,false⟩:=by
   unfold et
   rw[aL ⟨h,.inr trivial⟩];rfl
  have e2:a8 w (bP s) x=⟨s.rows++[s.row],[32]++x,false⟩:=by
   unfold a8 bP
   dsimp only
   rw[aA (λk=>k.2 rfl)];rfl
  rw[e1,aL h,e2];exact key _
theorem tW {a b:List Nat}(ha:a≠[])(hb:b≠[]):a++b≠[]/\a++b≠[32]:=by
 cases a with
 |nil=>exact absurd rfl ha
 |cons x a=>cases b with
  |nil=>exact absurd rfl hb
  |cons y b=>exact⟨by simp,λe=>by simp at e⟩
theorem dQ {w:Int}{s:Ws}{x:List Nat}(h:gF s)(hx:x≠[]):gF (a8 w s x):=by
 have hn:(if s.part=true then x else 32::x)≠[]:=by split;exact hx;simp
 unfold a8
 generalize (if s.part=true then x else 32::x)=n at hn
 dsimp only
 by_cases hc:(s.row.length:Int)+n.length>w/\s.row≠[32]
 ·rw[aL hc];exact⟨(tW (by simp) hx).1,λe=>absurd e (tW (a:=[32]) (by simp) hx).2⟩
 ·rw[aA hc];exact⟨(tW h.1 hn).1,λe=>absurd e (tW h.1 hn).2⟩
theorem yK {s:Ws}:gF (bP s):=⟨by unfold bP;simp,λ_=>rfl⟩
theorem yO {w:Int}{s:Ws}{t:List Nat}(h:gF s):gF (vi w s t):=by
 have:∀(t:List Nat) (s:Ws),s.row≠[]->(t.foldl (du w) s).row≠[]:=by
  intro t
  induction t with
  |nil=>intro s h;exact h
  |cons c t ih=>
   intro s h
   refine ih _ ?_
   unfold du
   split<;>simp
 exact⟨this t s h.1,λ_=>rfl⟩
theorem kZ {m e:Int}{c:Nat}{d:Int}:cL m e c d≠[]:=by
 have hp:=jq (n:=bk m)
 have hf:∀t:Int,rt (bp (bk m)) t≠[]:=λt=>by unfold rt;split;simp;split<;>simp
 unfold cL
 split
 ·simp
 ·dsimp only
  split
  ·intro e;exact hf _ (List.append_eq_nil_iff.mp e).2
  ·intro e;exact hf _ (List.append_eq_nil_iff.mp (List.append_eq_nil_iff.mp (List.append_eq_nil_iff.mp e).1).1).2
theorem AS {n:Int}:bp n≠[]:=λe=>by have:=jq (n:=n);rw[e] at this;simp at this
theorem sD {w:Int}{s:Ws}{i:Iv}(h:gF s):gF (ct w s i):=by
 cases i with
 |chr t=>exact yO h
 |int n=>exact dQ h AS
 |log b=>exact dQ h (by split<;>simp)
 |real m e=>exact dQ h kZ
 |dbl m e=>exact dQ h kZ
 |lE m e m' e'=>
  unfold ct
  dsimp only[iV]
  split
  ·exact dQ h (by simp)
  ·exact dQ yK (by simp)
structure Lay (aa l:ag)(ra:Addr)(rows:List (List Nat)):Prop where
 sub:Sub aa l
 new:aa ra=none
 rows:l ra=some (sL rows)
theorem Sub.none {l l':ag}{a:Addr}(h:Sub l l')(k:l' a=none):l a=none:=by
 cases e:l a with
 |none=>rfl
 |some u=>rw[h a u e] at k;cases k
theorem Lay.put {aa l:ag}{ra a:Addr}{rows:List (List Nat)}{o:AO}(h:Lay aa l ra rows)(ha:l a=none):Lay aa (Mine.put l a o) ra rows:=
 ⟨h.sub.trans (Sub.put ha),h.new,(ai (λe=>by have:=h.rows;rw[e,ha] at this;cases this)).trans h.rows⟩
section
variable {g:GP}{a:List SP}{G:GC}{af:Nat}{R:It->St->Prop}{Q:Fl->St->Prop}{X:Ex->St->Prop}{σ:St}{b j:Addr}{l:List V}{i:Nat}
theorem FR {v:V}(hg:g.ro=true)(hb:σ.aa b=some (.list l))(h:l[i]?=some v)(q:vz g a G af (R (.enum b (i+1) j)) Q X (.tup [.int i,v]) σ):ez g a G af R Q X (.enum b i j) σ:=
 o6 (by rw[hg];exact(It.jU hb).trans (congrArg (λo:Option V=>some (o.map λv=>(V.tup [.int i,v],It.enum b (i+1) j))) h)) q
theorem Ik (hg:g.ro=true)(hb:σ.aa b=some (.list l))(h:l[i]?=none)(q:Q .next σ):ez g a G af R Q X (.enum b i j) σ:=
 mj (by rw[hg];exact(It.jU hb).trans (congrArg (λo:Option V=>some (o.map λv=>(V.tup [.int i,v],It.enum b (i+1) j))) h)) q
end
theorem uk {aa l:ag}{ra a:Addr}{rows:List (List Nat)}{row:List Nat}{P:V->ag->Prop}(h:Lay aa l ra rows)(hz:rows.length<=1000)(ha:l a=none)(q:∀c l',Lay aa l' c (rows++[row])->(∀b o,l b=some o->l' b=some o)->P (.ref c) l'):C0 .add ra (.ref a) (put l a (.list [.str row])) P:=by
 have h':=h.put (o:=.list [.str row]) ha
 refine A5 rfl h'.rows (ab _ _ _) (by rw[List.length_map];simp;exact a10 0x624ffc8e90c0b127a2781 tt hz) λc hc=>q c _ ⟨h'.sub.trans (Sub.put hc),h'.sub.none hc,?_⟩ ((Sub.put ha).trans (Sub.put hc))
 show Mine.put _ c _ c=_
 rw[ab]
 unfold sL
 rw[List.map_append];rfl
section
variable {G:GC}{aa:ag}{Q:V->ag->Prop}{X:Ex->ag->Prop}
theorem BY {l:ag}{ra:Addr}{s:Ws}{w:Int}{t:List Nat}{QF:Fl->St->Prop}{s0 s2 s5 s6 s8 s9 u0 j1 o3:Option V}(ok:s.ok 900)(ht:t.length<=20)(hw:w<=100)(h:Lay aa l ra s.rows)
  (q:∀l' mV u,Lay aa l' mV (t.foldl (du w) s).rows->QF .next ⟨[s0,some (.int w),s2,some (.ref mV),some (.str (t.foldl (du w) s).row),s5,s6,some (.str t),u,s9,u0,j1,o3],l'⟩):
  (i5 (ay 8) (oC (loc 7)) [
    site (aq .ge (bN .len [loc 4]) (loc 1)) [
     f' [3,4] (tup [bin .add (loc 3) (gv [loc 4]),lit (.str [32])])] [],
    eZ 4 .add (loc 8)]).wp G none 5 ⟨[s0,some (.int w),s2,some (.ref ra),some (.str s.row),s5,s6,some (.str t),s8,s9,u0,j1,o3],l⟩ QF (bc X):=by
 intro R hf hR
 have key:∀(r pre:List Nat) (ak:Ws) (l:ag) (ra:Addr) (u:Option V),t=pre++r->r.foldl (du w) ak=t.foldl (du w) s->ak.ok (900+pre.length)->Lay aa l ra ak.rows->
   R (.seq (t.map λc=>.str [c]) pre.length) ⟨[s0,some (.int w),s2,some (.ref ra),some (.str ak.row),s5,s6,some (.str t),u,s9,u0,j1,o3],l⟩:=by
  intro r
  induction r with
  |nil=>
   intro pre ak l ra u e ef ok h
   have hn:(t.map λc=>V.str [c])[pre.length]?=none:=by rw[e];simp
   change ak=t.foldl (du w) s at ef
   refine hR _ _ (o8 hn ?_)
   rw[ef] at h ⊢
   exact q l ra u h
  |cons c r ih=>
   intro pre ak l ra u e ef ok h
   have hn:(t.map λc=>V.str [c])[pre.length]?=some (.str [c]):=by rw[e];exact eA
   have hp:pre.length<=20:=by have:=congrArg List.length e;simp at this;exact a30 0x18a804c540170cd6ad2a0c101 tt ht this
   have iC:=qc (c:=c) ok hw
   obtain⟨o1,o2⟩:=ok
   have step:∀(aT:Ws) (l:ag) (ra:Addr),aT=du w ak c->Lay aa l ra aT.rows->R (.seq (t.map λc=>.str [c]) (pre.length+1)) ⟨[s0,some (.int w),s2,some (.ref ra),some (.str aT.row),s5,s6,some (.str t),some (.str [c]),s9,u0,j1,o3],l⟩:=by
    intro aT l ra e2 h2
    have:=ih (pre++[c]) aT l ra (some (.str [c])) (by rw[e];simp) (by rw[e2];exact ef) (by rw[e2,cN];exact iC) h2
    rw[cN] at this
    exact this
   refine hR _ _ (mn hn ⟨by exact a10 0x31270346ccdec0b12722181 tt o2,λKs=>?_,λKs=>?_⟩)
   ·change w<=ak.row.length at Ks
    refine⟨dM rfl,λa ha=>uk h (by exact a20 0xc49e89e098a802c56812712702 tt hp o1) ha λmV l' h' _=>⟨l2,dM rfl,?_⟩⟩
    exact step ⟨ak.rows++[ak.row],[32]++[c],true⟩ l' mV (by unfold du;rw[aL Ks]) h'
   ·change ¬w<=ak.row.length at Ks
    exact⟨by simp;exact a11 0x624ffc8e90c0b4279208d6a35801 tt hw (Nv (by assumption):),step ⟨ak.rows,ak.row++[c],ak.part⟩ l ra (by unfold du;rw[aA Ks]) h⟩
 exact key t [] s l ra _ rfl rfl ok h
noncomputable def vo:List SP:=[
   site (eE [aq .ne (loc 4) (lit (.str [32])),gw [aq .gt (bN .len [bin .add (bin .add (loc 4) (loc 5)) (loc 12)]) (loc 1),aq .eq (bN .len [loc 10]) (lit (.int 2))]]) [
    f' [3,4,5] (tup [bin .add (loc 3) (gv [loc 4]),lit (.str [32]),lit (.str [])])] [],
   f' [4,5] (tup [bin .add (bin .add (loc 4) (loc 5)) (loc 12),lit (.str [32])])]
theorem zi {l:ag}{ra pa:Addr}{s:Ws}{w:Int}{x:List Nat}{ps:List (List Nat)}{QF:Fl->St->Prop}{s0 s2 s6 s7 s8 s9 j1:Option V}(ok:s.ok 900)(hx:x.length<=180)(h:Lay aa l ra s.rows)(hp:l pa=some (sL ps))
  (q:∀l' mV s',s'=et (ps.length=2) w s x->Lay aa l' mV s'.rows->l' pa=some (sL ps)->QF .next ⟨[s0,some (.int w),s2,some (.ref mV),some (.str s'.row),some (.str (c5 s')),s6,s7,s8,s9,some (.ref pa),j1,some (.str x)],l'⟩):
  bf G none 5 QF (bc X) vo ⟨[s0,some (.int w),s2,some (.ref ra),some (.str s.row),some (.str (c5 s)),s6,s7,s8,s9,some (.ref pa),j1,some (.str x)],l⟩:=by
 obtain⟨o1,o2⟩:=ok
 have hg:(c5 s).length<=1:=by unfold c5;split<;>decide
 have a1:s.row.length+(c5 s).length<=1000000:=by exact a20 0x3127024f486b4101624e44302c4a82 tt o2 hg
 have a2:(s.row++c5 s).length+x.length<=1000000:=by rw[cN];exact a30 0x624e049e90d6815a0c13127d2101624e44304c4a83 tt hx o2 hg
 have no:¬(s.row≠[32]/\(w<((s.row++c5 s)++x).length∨ps.length=2))->bf G none 5 QF (bc X) [f' [4,5] (tup [bin .add (bin .add (loc 4) (loc 5)) (loc 12),lit (.str [32])])] ⟨[s0,some (.int w),s2,some (.ref ra),some (.str s.row),some (.str (c5 s)),s6,s7,s8,s9,some (.ref pa),j1,some (.str x)],l⟩:=λhn=>
  ⟨a1,a2,l2,q l ra ⟨s.rows,(s.row++c5 s)++x,false⟩ (by unfold et;rw[aA hn]) h hp⟩
 have yes:s.row≠[32]/\(w<((s.row++c5 s)++x).length∨ps.length=2)->∀a,l a=none->C0 .add ra (.ref a) (put l a (.list [.str s.row])) (λv l'=>[v,V.str [32],V.str []].length<=1000/\Om [3,4,5] (.tup [v,.str [32],.str []]) ⟨[s0,some (.int w),s2,some (.ref ra),some (.str s.row),some (.str (c5 s)),s6,s7,s8,s9,some (.ref pa),j1,some (.str x)],l'⟩ λfl σ=>match fl with
   |.next=>bf G none 5 QF (bc X) [f' [4,5] (tup [bin .add (bin .add (loc 4) (loc 5)) (loc 12),lit (.str [32])])] σ
   |.brk=>QF .brk σ
   |.cont=>QF .cont σ
   |.ret v=>QF (.ret v) σ):=λhy a ha=>
  uk h (by exact a10 0x1893d13c0b12712701 tt o1) ha λmV l' h' k=>⟨l3,by decide,by simp;exact a10 0x18938127a435a04ab127d2101 tt hx,l2,q l' mV ⟨s.rows++[s.row],([32]++[])++x,false⟩ (by unfold et;rw[aL hy]) h' (k _ _ hp)⟩
 refine⟨λh1=>no λk=>k.1 h1,λh1=>⟨a1,a2,by rw[cN];exact a20 0xc49c0d1b337b5a080b127024f486b4101 tt a2,λh2=>?_,λh2=>fS hp ⟨λh3=>?_,λh3=>?_⟩⟩⟩
 ·exact⟨dM rfl,yes ⟨h1,.inl h2⟩⟩
 ·change (((ps.map V.str).length:Nat):Int)=2 at h3
  rw[List.length_map] at h3
  exact⟨dM rfl,yes ⟨h1,.inr (by exact Nat.le_antisymm (a10 0xc4b016c59801 tt h3) (a10 0x6204b386c59801 tt h3))⟩⟩
 ·change ¬(((ps.map V.str).length:Nat):Int)=2 at h3
  rw[List.length_map] at h3
  exact no λk=>k.2.elim (λk=>h2 k) λk=>h3 (by exact oD (a10 0xd0b3002ccb01 tt k) (a10 0x68c009670ccb01 tt k))
theorem HU {two:Prop} [Decidable two]{w:Int}{s:Ws}{x:List Nat}{n:Nat}(hw:w<=100)(h:s.ok n)(hx:x.length<=180):(et two w s x).ok (n+1):=by
 obtain⟨o1,o2⟩:=h
 have hg:(c5 s).length<=1:=by unfold c5;split<;>decide
 unfold et
 split
 ·exact⟨by simp;exact a20 0x188202c4101 tt o1,by simp;exact a10 0x18938f0c0b127d2101 tt hx⟩
 ·rename_i hn
  refine⟨by show s.rows.length<=_;exact a20 0x62b4a8202c4101 tt o1,?_⟩
  show((s.row++c5 s)++x).length<=200
  by_cases h1:s.row=[32]
  ·rw[cN,cN,h1,dk];exact a20 0x3127221ad02b4115624fa4202c4a82 tt hx hg
  ·have:¬w<((s.row++c5 s)++x).length:=λk=>hn ⟨h1,.inl k⟩
   clear hn
   exact a11 0x1893910c0b4279208d6835801 tt hw (uU this:)
theorem wQ {l:ag}{ra pa:Addr}{s:Ws}{w:Int}{ps:List (List Nat)}{QF:Fl->St->Prop}{s0 s2 s6 s7 s8 s9 j1 o3:Option V}(ok:s.ok 800)(hw:w<=100)(hz:ps.length<=2)(hx:∀x∈ps,x.length<=180)(h:Lay aa l ra s.rows)(hp:l pa=some (sL ps))
  (q:∀l' mV s' u v,s'=ps.foldl (λs x=>et (ps.length=2) w s x) s->Lay aa l' mV s'.rows->QF .next ⟨[s0,some (.int w),s2,some (.ref mV),some (.str s'.row),some (.str (c5 s')),s6,s7,s8,s9,some (.ref pa),u,v],l'⟩):
  (i5 (cS [ay 11,ay 12]) (vq (loc 10)) vo).wp G none 5 ⟨[s0,some (.int w),s2,some (.ref ra),some (.str s.row),some (.str (c5 s)),s6,s7,s8,s9,some (.ref pa),j1,o3],l⟩ QF (bc X):=by
 refine⟨⟨_,hp⟩,λj R hf hR=>?_⟩
 have key:∀(r pre:List (List Nat)) (ak:Ws) (l:ag) (ra:Addr) (u v:Option V),ps=pre++r->r.foldl (λs x=>et (ps.length=2) w s x) ak=ps.foldl (λs x=>et (ps.length=2) w s x) s->ak.ok (800+pre.length)->Lay aa l ra ak.rows->l pa=some (sL ps)->
   R (.enum pa pre.length j) ⟨[s0,some (.int w),s2,some (.ref ra),some (.str ak.row),some (.str (c5 ak)),s6,s7,s8,s9,some (.ref pa),u,v],l⟩:=by
  intro r
  induction r with
  |nil=>
   intro pre ak l ra u v e ef ok h hp
   have hn:(ps.map V.str)[pre.length]?=none:=by rw[e];simp
   exact hR _ _ (Ik rfl hp hn (q l ra ak u v ef h))
  |cons x r ih=>
   intro pre ak l ra u v e ef ok h hp
   have hn:(ps.map V.str)[pre.length]?=some (.str x):=by rw[e];exact eA
   have Gp:pre.length<=2:=by have:=congrArg List.length e;simp at this;exact a30 0x189604c4b0170cd6ad2a0c101 tt hz this
   have V4:=hx x (by rw[e];simp)
   refine hR _ _ (FR rfl hp hn ?_)
   refine zi (ps:=ps) ⟨by have:=ok.1;exact a20 0xc49c49c0989602c56812782602 tt Gp this,ok.2⟩ V4 h hp λl' mV s' e' h' va=>?_
   have:=ih (pre++[x]) s' l' mV (some (.int pre.length)) (some (.str x)) (by rw[e];simp) (by rw[e'];exact ef) (by rw[e',cN];exact HU hw ok V4) h' va
   rw[cN] at this
   exact this
 exact key ps [] s l ra _ _ rfl rfl ok h hp
end
theorem qm {p q:Prop} [Decidable p] [Decidable q]{w:Int}{s:Ws}{x:List Nat}(h:p↔q):et p w s x=et q w s x:=by
 unfold et
 by_cases hp:p
 ·have hq:=h.mp hp
  by_cases hr:s.row=[32]
  ·rw[aA (λk=>k.1 hr),aA (λk=>k.1 hr)]
  ·rw[aL ⟨hr,.inr hp⟩,aL ⟨hr,.inr hq⟩]
 ·have hq:¬q:=λk=>hp (h.mpr k)
  by_cases hr:s.row≠[32]/\w<((s.row++c5 s)++x).length
  ·rw[aL ⟨hr.1,.inl hr.2⟩,aL ⟨hr.1,.inl hr.2⟩]
  ·rw[aA (λk=>hr ⟨k.1,k.2.resolve_right hp⟩),aA (λk=>hr ⟨k.1,k.2.resolve_right hq⟩)]
theorem FJ {w:Int}{s:Ws}{x:List Nat}:[x].foldl (λs x'=>et ([x].length=2) w s x') s=a8 w s x:=by
 show et _ w s x=_
 rw[←Ft]
 exact qm ⟨λk=>by simp at k,False.elim⟩
theorem FI {w:Int}{s:Ws}{x y:List Nat}(hs:gF s)(hx:x≠[]):[x,y].foldl (λs x'=>et ([x,y].length=2) w s x') s=a8 w (bP (a8 w (if s.row≠[32] then bP s else s) x)) y:=by
 show et _ w (et _ w s x) y=_
 rw[←Fs hs hx]
 have e:[x,y].length=2↔True:=⟨λ_=>trivial,λ_=>rfl⟩
 rw[qm (x:=x) e,qm (x:=y) e]
noncomputable def Ag:List SP:=[
  site (gw [aq .lt (bN .len [bin .add (item (loc 10) (lit (.int 0))) (item (loc 10) (neg (lit (.int 1))))]) (loc 1),aq .ne (loc 6) (glob 3)]) [
   aM 10 (gv [e9 .join (lit (.str [])) [loc 10]])] [],
  i5 (cS [ay 11,ay 12]) (vq (loc 10)) vo]
section
variable {G:GC}{aa:ag}{Q:V->ag->Prop}{X:Ex->ag->Prop}
theorem BZ {l:ag}{ra pa:Addr}{s:Ws}{w:Int}{i:Iv}{QF:Fl->St->Prop}{s0 s2 s7 s8 s9 j1 o3:Option V}(hi:i.ok)(hc:i.kind≠5)(ok:s.ok 800)(well:gF s)(hw:w<=100)(h:Lay aa l ra s.rows)(hp:l pa=some (sL (iV i)))
  (q:∀l' mV u v z,Lay aa l' mV (ct w s i).rows->QF .next ⟨[s0,some (.int w),s2,some (.ref mV),some (.str (ct w s i).row),some (.str (c5 (ct w s i))),some (.int i.kind),s7,s8,s9,z,u,v],l'⟩):
  bf G none 5 QF (bc X) Ag ⟨[s0,some (.int w),s2,some (.ref ra),some (.str s.row),some (.str (c5 s)),some (.int i.kind),s7,s8,s9,some (.ref pa),j1,o3],l⟩:=by
 have go:∀(ps:List (List Nat)) (pa:Addr) (l:ag),ps.length<=2->(∀x∈ps,x.length<=180)->Lay aa l ra s.rows->l pa=some (sL ps)->ps.foldl (λs x=>et (ps.length=2) w s x) s=ct w s i->
   (i5 (cS [ay 11,ay 12]) (vq (loc 10)) vo).wp G none 5 ⟨[s0,some (.int w),s2,some (.ref ra),some (.str s.row),some (.str (c5 s)),some (.int i.kind),s7,s8,s9,some (.ref pa),j1,o3],l⟩ QF (bc X):=λps pa l hz hx h hp e=>
  wQ ok hw hz hx h hp λl' mV s' u v es h'=>by
   rw[e] at es;subst es;exact q l' mV u v _ h'
 have join:∀ps x,iV i=ps->ps.flatten=x->x.length<=180->a8 w s x=ct w s i->∀(b:Bool),KL .join [] pa l (λu l₂=>[u].length<=1000/\KV [u] ⟨[s0,some (.int w),s2,some (.ref ra),some (.str s.row),some (.str (c5 s)),some (.int i.kind),s7,s8,s9,some (.ref pa),j1,o3],l₂⟩ λv σ=>
   (i5 (cS [ay 11,ay 12]) (vq (loc 10)) vo).wp G none 5 (iQ 10 v σ) QF (bc X)):=λps x e1 e2 hx e3 b=>by
  rw[e1] at hp
  refine jo (ps:=ps) hp (by rw[e2];exact a10 0x624e049e90c0b127d2101 tt hx) ⟨dM rfl,λa ha=>?_⟩
  rw[e2]
  exact go [x] a _ (dM rfl) (λy hy=>by rw[List.mem_singleton.mp hy];exact hx) (h.put ha) (ab _ _ _) (FJ.trans e3)
 have single:∀x,iV i=[x]->i.kind≠3->x.length<=180->a8 w s x=ct w s i->bf G none 5 QF (bc X) Ag ⟨[s0,some (.int w),s2,some (.ref ra),some (.str s.row),some (.str (c5 s)),some (.int i.kind),s7,s8,s9,some (.ref pa),j1,o3],l⟩:=by
  intro x e k hx e3
  have j:=join [x] x e (by simp) hx e3 true
  have va:=hp
  rw[e] at va
  refine bx va rfl ⟨by decide,by decide⟩ (bx va rfl ⟨by decide,by decide⟩ ⟨by exact a10 0xc49c093d21ad0205cb127d2101 tt hx,by rw[cN];exact a10 0x624e068d99bdad0205cb127d2101 tt hx,λ_=>⟨rfl,j⟩,λ_=>⟨λh=>absurd h k,λ_=>⟨rfl,j⟩⟩⟩)
 cases i with
 |chr t=>exact absurd rfl hc
 |int n=>
  have hn:n.natAbs<=3000:=hi
  exact single _ rfl (show(0:Int)≠3 by decide) (fm (dA (fm hn (by decide))) (by decide)) rfl
 |log b=>exact single _ rfl (show(4:Int)≠3 by decide) (by split<;>decide) rfl
 |real m e=>exact single _ rfl (show(1:Int)≠3 by decide) (fm (bC hi) (by decide)) rfl
 |dbl m e=>exact single _ rfl (show(2:Int)≠3 by decide) (fm (bC hi) (by decide)) rfl
 |lE m e m' e'=>
  have la:=bC (c:=69) (d:=9) hi.1
  have lb:=bC (c:=69) (d:=9) hi.2
  have x1:([40]++cL m e 69 9++[44]).length<=72:=by simp only[cN,dk];exact a10 0x189391056955a04ab1271a081 tt la
  have x2:(cL m' e' 69 9++[41]).length<=71:=by simp only[cN,dk];exact a10 0x624e3c15a540b1271a081 tt lb
  have hv:ct w s (.lE m e m' e')=if((([40]++cL m e 69 9++[44])++(cL m' e' 69 9++[41])).length:Int)<w then a8 w s (([40]++cL m e 69 9++[44])++(cL m' e' 69 9++[41])) else
    a8 w (bP (a8 w (if s.row≠[32] then bP s else s) ([40]++cL m e 69 9++[44]))) (cL m' e' 69 9++[41]):=rfl
  have dT:[40]++cL m e 69 9++[44]≠[]:=by simp
  have RP:iV (.lE m e m' e')=[[40]++cL m e 69 9++[44],cL m' e' 69 9++[41]]:=rfl
  generalize [40]++cL m e 69 9++[44]=x at hv dT RP x1
  generalize cL m' e' 69 9++[41]=y at hv RP x2
  have va:=hp
  rw[RP] at va
  refine bx va rfl ⟨by decide,by decide⟩ (bx va rfl ⟨by decide,by decide⟩ ⟨by exact a20 0xc49c093d21ad040589391040b1271e082 tt x1 x2,by rw[cN];exact a20 0x624e068d99bdad040589391040b1271e082 tt x1 x2,λj2=>⟨rfl,?_⟩,λj2=>⟨λ_=>?_,λk=>absurd rfl k⟩⟩)
  ·change ((x++y).length:Int)<w at j2
   rw[aL j2] at hv
   exact join [x,y] (x++y) RP (by simp) (by rw[cN];exact a20 0x3127d212d040589391040b1271e082 tt x1 x2) hv.symm true
  ·change ¬((x++y).length:Int)<w at j2
   rw[aA j2] at hv
   refine go [x,y] pa l (dM rfl) (λz hz=>?_) h va ((FI well dT).trans hv.symm)
   rcases List.mem_cons.mp hz with e|hz
   ·rw[e];exact a10 0x1893e9080b12722081 tt x1
   ·rw[List.mem_singleton.mp hz];exact a10 0x1893e9080b1271e081 tt x2
end
theorem Lay.Jj {aa l l':ag}{ra:Addr}{rows:List (List Nat)}{o:AO}(h:Lay aa l' ra rows)(a:Addr)(h0:Lay aa l ra rows)(ha:l a=none):Lay aa (Mine.put l' a o) ra rows:=
 ⟨λb u e=>by
  have:b≠a:=λk=>by have:=h0.sub b u e;rw[k,ha] at this;cases this
  rw[ai this];exact h.sub b u e,h.new,by
  have:ra≠a:=λk=>by have:=h0.rows;rw[k,ha] at this;cases this
  rw[ai this];exact h.rows⟩
section
variable {G:GC}{aa:ag}{Q:V->ag->Prop}{X:Ex->ag->Prop}
theorem LQ (p:PG G){b c:Addr}{w:Int}{l:List Iv}(rp:w<=100)(cZ:lI G aa b)(hl:aa c=some (.list (l.map Iv.v)))(hi:∀i∈l,i.ok)(hz:l.length<=20)(q:∀r,aa r=none->Q (.ref r) (put aa r (sL (fH w l).rows))):
  CF G 6 "_law_laid" [.ref c,.int w,.ref b] aa Q X:=by
 refine ax p.g p.zP rfl (by decide) [some (.ref c),some (.int w),some (.ref b),none,none,none,none,none,none,none,none,none,none] rfl ?_
 refine⟨Nat.zero_le _,λra rY=>⟨dM rfl,?_⟩⟩
 change aa ra=none at rY
 have lay0:Lay aa (put aa ra (.list [])) ra []:=⟨Sub.put rY,rY,ab _ _ _⟩
 refine⟨⟨_,(ai (λe=>by rw[e,rY] at hl;cases hl)).trans hl⟩,λR hf hR=>?_⟩
 generalize put aa ra (.list [])=l0 at lay0
 have key:∀(r pre:List Iv) (ak:Ws) (l₁:ag) (ra:Addr) (u6 u7 u8 u9 Ka pD CJ:Option V),l=pre++r->r.foldl (ct w) ak=l.foldl (ct w) ⟨[],[32],true⟩->ak.ok (20*pre.length)->gF ak->Lay aa l₁ ra ak.rows->
   R (.list c pre.length) ⟨[some (.ref c),some (.int w),some (.ref b),some (.ref ra),some (.str ak.row),some (.str (c5 ak)),u6,u7,u8,u9,Ka,pD,CJ],l₁⟩:=by
  intro r
  induction r with
  |nil=>
   intro pre ak l₁ ra u6 u7 u8 u9 Ka pD CJ e ef ok well lay
   have hn:(l.map Iv.v)[pre.length]?=none:=by rw[e];simp
   have pL:pre.length<=20:=by rw[e] at hz;simp at hz;exact hz
   change ak=l.foldl (ct w) ⟨[],[32],true⟩ at ef
   refine hR _ _ (pj (lay.sub _ _ hl) hn ⟨dM rfl,λa ha=>uk lay (by have:=ok.1;omega) ha λc' l' h' _=>⟨_,?_,q c' h'.new⟩⟩)
   intro x o ho
   by_cases hx:x=c'
   ·subst hx;rw[ab] at ho;rw[←ho]
    have:=h'.rows
    rw[ef] at this
    exact this
   ·rw[ai hx] at ho;exact h'.sub _ _ ho
  |cons i r ih=>
   intro pre ak l₁ ra u6 u7 u8 u9 Ka pD CJ el ef ok well lay
   have hn:(l.map Iv.v)[pre.length]?=some i.v:=by rw[el];exact eA
   have pL:pre.length<=20:=by have:=congrArg List.length el;simp at this;exact a30 0x18a804c540170cd6ad2a0c101 tt hz this
   have Gr:=hi i (by rw[el];simp)
   have Sv:ak.ok 800:=⟨by have:=ok.1;omega,ok.2⟩
   have Ec:lI G l₁ b:=by obtain⟨dx,r',h⟩:=cZ;exact⟨dx,r',lay.sub _ _ h⟩
   have VM:∀l' mV v6 v7 v8 v9 v10 v11 Sd,Lay aa l' mV (ct w ak i).rows->R (.list c (pre.length+1)) ⟨[some (.ref c),some (.int w),some (.ref b),some (.ref mV),some (.str (ct w ak i).row),some (.str (c5 (ct w ak i))),v6,v7,v8,v9,v10,v11,Sd],l'⟩:=by
    intro l' mV v6 v7 v8 v9 v10 v11 Sd h'
    have:=ih (pre++[i]) (ct w ak i) l' mV v6 v7 v8 v9 v10 v11 Sd (by rw[el];simp) ef (by
     have:=tX rp Gr ok
     rw[cN,show 20*(pre.length+[i].length)=20*pre.length+20 by simp;exact Nat.le_antisymm (a10 0xc56a85f500afa8b4a81 tt) (a10 0xc57d45a540ad50bea01 tt)];exact this) (sD well) h'
    rw[cN] at this
    exact this
   have tail:∀(l₂:ag) (ra pa:Addr) (u8 u9:Option V),i.kind≠5->Lay aa l₂ ra ak.rows->l₂ pa=some (sL (iV i))->bf G none 5 (λfl ar=>match fl with
     |.next=>R (.list c (pre.length+1)) ar
     |.cont=>R (.list c (pre.length+1)) ar
     |.brk=>bf G none 5 (bB Q) (bc X) [aC (bin .add (loc 3) (gv [loc 4]))] ar
     |.ret v=>bB Q (.ret v) ar) (bc X) Ag ⟨[some (.ref c),some (.int w),some (.ref b),some (.ref ra),some (.str ak.row),some (.str (c5 ak)),some (.int i.kind),some i.val,u8,u9,some (.ref pa),pD,CJ],l₂⟩:=λl₂ ra pa u8 u9 hk h2 hp=>
    BZ Gr hk Sv well rp h2 hp λl' mV u v z h'=>VM l' mV _ _ _ _ _ _ _ h'
   refine hR _ _ (mz (lay.sub _ _ hl) hn ?_)
   have nn:∀{a b:Int} {P:Prop},a≠b->a=b->P:=λh e=>absurd e h
   have one:∀{x:List Nat},i.kind≠5->iV i=[x]->∀a,l₁ a=none->bf G none 5 (λfl ar=>match fl with
     |.next=>R (.list c (pre.length+1)) ar
     |.cont=>R (.list c (pre.length+1)) ar
     |.brk=>bf G none 5 (bB Q) (bc X) [aC (bin .add (loc 3) (gv [loc 4]))] ar
     |.ret v=>bB Q (.ret v) ar) (bc X) Ag ⟨[some (.ref c),some (.int w),some (.ref b),some (.ref ra),some (.str ak.row),some (.str (c5 ak)),some (.int i.kind),some i.val,u8,u9,some (.ref a),pD,CJ],put l₁ a (.list [.str x])⟩:=λhk e a ha=>
    tail _ ra a u8 u9 hk (lay.put ha) (by rw[e];exact ab _ _ _)
   cases i with
   |chr t=>
    have ht:t.length<=20:=Gr
    refine⟨λ_=>BY ⟨fm Sv.1 (by decide),Sv.2⟩ ht rp lay λl' mV u h'=>?_,λk=>absurd rfl k⟩
    exact VM l' mV _ _ _ _ _ _ _ h'
   |int n=>
    have hn:n.natAbs<=3000:=Gr
    refine⟨nn (show(0:Int)≠5 by decide),λ_=>⟨nn (show(0:Int)≠3 by decide),λ_=>⟨λ_=>⟨λ_=>⟨Nat.lt_of_le_of_lt hn (by decide+kernel),dM rfl,one (show(0:Int)≠5 by decide) rfl⟩,λk=>absurd rfl k⟩,λk=>absurd rfl k⟩⟩⟩
   |log v=>
    refine⟨nn (show(4:Int)≠5 by decide),λ_=>⟨nn (show(4:Int)≠3 by decide),λ_=>⟨nn (show(4:Int)≠0 by decide),λ_=>⟨λ_=>⟨nn (show(4:Int)≠0 by decide),λ_=>?_⟩,λk=>absurd rfl k⟩⟩⟩⟩
    cases v with
    |true=>exact item_str rfl ⟨by decide,by decide⟩ ⟨dM rfl,one (show(4:Int)≠5 by decide) rfl⟩
    |false=>exact item_str rfl ⟨by decide,by decide⟩ ⟨dM rfl,one (show(4:Int)≠5 by decide) rfl⟩
   |real m e=>
    refine⟨nn (show(1:Int)≠5 by decide),λ_=>⟨nn (show(1:Int)≠3 by decide),λ_=>⟨nn (show(1:Int)≠0 by decide),λ_=>⟨nn (show(1:Int)≠4 by decide),λ_=>⟨nn (show(1:Int)≠2 by decide),λ_=>⟨nn (show(1:Int)≠2 by decide),λ_=>?_⟩⟩⟩⟩⟩⟩
    obtain⟨dx,r',CH⟩:=Ec
    exact bG.mk b dx _ _ rfl CH rfl (cW (by decide) (o9 p Gr (by decide) ⟨dM rfl,one (show(1:Int)≠5 by decide) rfl⟩))
   |dbl m e=>
    refine⟨nn (show(2:Int)≠5 by decide),λ_=>⟨nn (show(2:Int)≠3 by decide),λ_=>⟨nn (show(2:Int)≠0 by decide),λ_=>⟨nn (show(2:Int)≠4 by decide),λ_=>⟨λ_=>⟨λ_=>?_,λk=>absurd rfl k⟩,λk=>absurd rfl k⟩⟩⟩⟩⟩
    exact cW (by decide) (o9 p Gr (by decide) ⟨dM rfl,one (show(2:Int)≠5 by decide) rfl⟩)
   |lE m e m' e'=>
    refine⟨nn (show(3:Int)≠5 by decide),λ_=>⟨λ_=>?_,λk=>absurd rfl k⟩⟩
    obtain⟨dx,r',CH⟩:=Ec
    intro acc cg R' Ku
    change l₁ acc=none at cg
    have na:b≠acc:=λe=>by rw[e,cg] at CH;cases CH
    have la:=bC (c:=69) (d:=9) Gr.1
    have lb:=bC (c:=69) (d:=9) Gr.2
    refine Ku _ _ (dh (v:=.tup [.int m,.int e]) rfl ?_)
    refine bG.mk b dx _ _ rfl (by show put l₁ acc _ b=_;rw[ai na];exact CH) rfl ?_
    refine cW (by decide) (o9 p Gr.1 (by decide) ⟨[],ab _ _ _,by simp,?_⟩)
    refine Ku _ _ (dh (v:=.tup [.int m',.int e']) rfl ?_)
    refine bG.mk b dx _ _ rfl (by show put (put l₁ acc _) acc _ b=_;rw[aR,ai na];exact CH) rfl ?_
    refine cW (by decide) (o9 p Gr.2 (by decide) ⟨[.str (cL m e 69 9)],ab _ _ _,by simp,?_⟩)
    refine Ku _ _ (jr rfl ?_)
    refine bx (l:=[.str (cL m e 69 9),.str (cL m' e' 69 9)]) (ab _ _ _) rfl ⟨by decide,by decide⟩ ⟨by rw[dk];exact a10 0x18938127a435a04ab1271a081 tt la,?_,?_⟩
    ·show([40]++cL m e 69 9).length+[44].length<=_
     rw[cN,dk,dk];exact a10 0x624e049e90d6955a04ab1271a081 tt la
    refine bx (l:=[.str (cL m e 69 9),.str (cL m' e' 69 9)]) (ab _ _ _) rfl ⟨by decide,by decide⟩ ⟨by rw[dk];exact a10 0x18938127a435a540b1271a081 tt lb,l2,?_⟩
    intro pa V9
    change put (put (put l₁ acc _) acc _) acc _ pa=none at V9
    exact tail _ ra pa _ _ (show(3:Int)≠5 by decide) ((((lay.put cg).Jj acc lay cg).Jj acc lay cg).put V9) (ab _ _ _)
 exact key l [] ⟨[],[32],true⟩ l0 ra none none none none none none none rfl rfl ⟨by simp,by simp⟩ ⟨by simp,λ_=>rfl⟩ lay0
end
noncomputable def dv (l:List Nat):Nat:=l.foldl (λa c=>a*10+(c-48)) 0
noncomputable def iU (l:List Nat):Prop:=∀c∈l,48<=c/\c<=57
theorem qt {a b:List Nat}(ha:iU a)(hb:iU b):iU (a++b):=λc hc=>(List.mem_append.mp hc).elim (ha c) (hb c)
theorem yz (k:Nat):iU (List.replicate k 48):=λc hc=>by rw[List.eq_of_mem_replicate hc];decide
theorem N2:iU [48]:=yz 1
theorem jj (n:Nat):iU (dS n):=by
 induction n using Nat.strongRecOn with
 |ind n ih=>
  by_cases h:n<10
  ·rw[sv h];intro c hc;rw[List.mem_singleton.mp hc];exact⟨a10 0xc568127c09f0 tt,a10 0x1893f2b4093e0c8f01 tt h⟩
  ·rw[vF (by exact a10 0x18813cc409e tt (ND h:))]
   exact qt (ih (n/10) (yA λz=>h (by rw[z];decide))) λc hc=>by rw[List.mem_singleton.mp hc];exact⟨Nat.le_add_right _ _,Nat.add_le_add_left (Nat.le_of_lt_succ (Nat.mod_lt n (by decide))) 48⟩
theorem vE (n:Nat):dv (dS n)=n:=by
 induction n using Nat.strongRecOn with
 |ind n ih=>
  by_cases h:n<10
  ·rw[sv h];show 0*10+(48+n-48)=n;omega
  ·rw[vF (by exact a10 0x18813cc409e tt (ND h:))]
   unfold dv at ih ⊢
   rw[List.foldl_append,ih (n/10) (yA λz=>h (by rw[z];decide))]
   show n/10*10+(48+n%10-48)=n;rw[Nat.add_sub_cancel_left,Nat.mul_comm];exact Nat.div_add_mod n 10
theorem Pe (l:List Nat):∀k,dv (l++List.replicate k 48)=dv l*10^k:=by
 intro z_
 induction z_ with
 |zero=>
  simp
 |succ k ih=>
  rw[List.replicate_succ',←rW]
  have:=ih
  unfold dv at this ⊢
  rw[List.foldl_append,this,Nat.pow_succ]
  show _*10+(48-48)=_
  rw[Nat.sub_self,Nat.add_zero,Nat.mul_assoc]
theorem jk {l:List Nat}(h0:l≠[])(h:iU l):aH l=(dv l:Nat):=(iw h0 h).1
theorem Bu:∀(j:Nat){m e:Int},m%10≠0->strip (m*10^j) e=(m,e+j):=by
 intro z_
 induction z_ with
 |zero=>
  intro m e h
  rw[Int.pow_zero,Int.mul_one,fP (.inl h)];simp
 |succ j ih=>
  intro m e h
  have h1:m*10^(j+1)=(m*10^j)*10:=by rw[Int.pow_succ,Int.mul_assoc]
  have h0:m*10^j≠0:=Int.mul_ne_zero (by omega) (Int.ne_of_gt (Int.pow_pos (by decide)))
  rw[h1,jE (Int.mul_emod_left _ _) (by omega),Int.mul_ediv_cancel _ (by decide),ih h]
  congr 1;exact oD (a11 0x345ac169502356b002b4a8d tt) (a11 0x345ac00ad2a356b05a5408d tt)
theorem MZ {m:Int}{j:Nat}(h:m≠0):cd (m*10^j)=cd m+j:=by
 unfold cd
 have e:(m*10^j).natAbs=m.natAbs*10^j:=by
  rw[Int.natAbs_mul,Int.natAbs_pow];rfl
 have hp:0<10^j:=Nat.pos_of_ne_zero (by simp)
 rw[e,JW j (Nat.le_mul_of_pos_left _ (p5 h)),Nat.mul_div_cancel _ hp];exact oD (a20 0x1a2d600980160b4101 tt) (a20 0x1a305a080ad6009801 tt)
theorem vW {a:Int}{i k:Nat}:kept (a*10^(i+k)) (10^k)=a*10^i:=by
 have hp:(0:Int)<10^k:=Int.pow_pos (by decide)
 have e:a*10^(i+k)=(a*10^i)*10^k:=by rw[Int.pow_add,Int.mul_assoc]
 unfold kept
 rw[e,Int.mul_emod_left,Int.mul_ediv_cancel _ (Int.ne_of_gt hp),aA]
 omega
theorem Hz {m e d:Int}{j:Nat}(hm:m%10≠0)(xC:cd m<=d)(h1:-99<=e+cd m-1)(h2:e+cd m-1<=99):tB (m*10^j) (e-j) d 99=some (m,e):=by
 have h0:m≠0:=by omega
 have hr:A6 (m*10^j) (e-j) d=(m,e):=by
  have hz:∀(i:Nat) (E:Int),gd (m*10^i) E=(m,E+i):=λi E=>by
   unfold gd
   rw[aA (Int.mul_ne_zero h0 (Int.ne_of_gt (Int.pow_pos (by decide)))),Bu i hm]
  unfold A6
  rw[MZ h0]
  by_cases hk:cd m+j-d>0
  ·rw[aL hk]
   obtain⟨k,CP⟩:=jb (Int.le_of_lt hk)
   obtain⟨i,rfl⟩:∃i,j=i+k:=⟨j-k,(Nat.sub_add_cancel (by exact a22 0x62041341c35c36600970e5ac008d tt xC CP)).symm⟩
   rw[CP,Int.toNat_natCast]
   have hp:(0:Int)<10^(i+k):=Int.pow_pos (by decide)
   have key:(if m*10^(i+k)>0 then kept (bk (m*10^(i+k))) (10^k) else -kept (bk (m*10^(i+k))) (10^k))=m*10^i:=by
    by_cases hs:0<m
    ·have:0<m*10^(i+k):=Int.mul_pos hs hp
     rw[aL this]
     unfold bk
     rw[aA (by exact Int.not_lt.mpr (a01 0x1a0d28d4694 tt this)),vW]
    ·have:m*10^(i+k)<0:=Int.mul_neg_of_neg_of_pos (by omega) hp
     rw[aA (by exact Int.not_lt.mpr (a01 0x1a141ad4a0d tt this))]
     unfold bk
     rw[aL this,←Int.neg_mul,vW,Int.neg_mul,Int.neg_neg]
   rw[key,hz]
   congr 1;exact oD (a21 0x1a0d5ac00ad60097305a0808d tt) (a21 0x1a2d60056b004b982d040468d tt)
  ·rw[aA hk,hz]
   congr 1;exact oD (a11 0x341ab58015cc008d tt) (a11 0x345ac00ae600468d tt)
 unfold tB
 rw[hr]
 dsimp only
 rw[aA (by omega),aA (by exact Int.not_lt.mpr (a02 0x1a13c7057155a386b4278e0ae2ab470d tt h2))]
noncomputable def x9 (l:List Nat):Prop:=∀c∈l,c≠69/\c≠68/\c≠43/\c≠45
theorem Iq:∀{b:List Nat},x9 b->b7 b=(b,[],false):=by
 intro z_
 induction z_ with
 |nil=>
  intro _
  exact rfl
 |cons c b ih=>
  intro h
  obtain⟨h1,h2,h3,h4⟩:=h c (.head _)
  unfold b7
  rw[aA (λk=>k.elim h1 h2),aA (λk=>k.elim h3 h4),ih λd hd=>h d (.tail _ hd)]
theorem Ir {c:Nat}{x:List Nat}(hc:c=69∨c=68):∀{b:List Nat},x9 b->b7 (b++c::x)=(b,x,true):=by
 intro z_
 induction z_ with
 |nil=>
  intro _
  show b7 (c::x)=_;unfold b7;rw[aL hc]
 |cons d b ih=>
  intro h
  obtain⟨h1,h2,h3,h4⟩:=h d (.head _)
  show b7 (d::(b++c::x))=_
  unfold b7
  rw[aA (λk=>k.elim h1 h2),aA (λk=>k.elim h3 h4),ih λd hd=>h d (.tail _ hd)]
theorem vV {u v:List Nat}(hu:iU u)(hv:iU v):x9 (u++[46]++v):=λc hc=>by
 rcases List.mem_append.mp hc with hc|hc
 ·rcases List.mem_append.mp hc with hc|hc
  ·have:=hu c hc;exact⟨by omega,by omega,by omega,by omega⟩
  ·rw[List.mem_singleton.mp hc];decide
 ·have:=hv c hc;exact⟨by omega,by omega,by omega,by omega⟩
theorem Eu {u v:List Nat}(hu:iU u)(hv:iU v)(h0:u++v≠[]):gH (u++[46]++v)=some (((dv (u++v):Nat):Int),(v.length:Int)):=by
 have dT:∀c∈u,decide (c≠46)=true:=λc hc=>by have:=hu c hc;simp;omega
 have e1:bI (u++[46]++v)=u:=by
  unfold bI
  rw[rW,List.takeWhile_append_of_pos dT]
  show u++([46]++v).takeWhile _=u
  simp
 have e2:a9 (u++[46]++v)=v:=by
  unfold a9
  rw[rW,List.dropWhile_append_of_pos dT]
  simp
 unfold gH
 rw[yy,e1,e2,jk h0 (qt hu hv),aA (by exact Int.not_lt.mpr (a10 0x68c0094 tt))]
theorem F1 {l:List Nat}(h:iU l):aX l=(1,l):=by
 cases l with
 |nil=>rfl
 |cons c r=>
  have:=h c (.head _)
  unfold aX
  rw[List.take_succ_cons,List.take_zero,aA (by simp;omega),aA (by simp;omega)]
theorem Mq (X:Int):iU (tD X)/\tD X≠[]/\dv (tD X)=X.natAbs:=by
 have e:bp (bk X)=dS X.natAbs:=by rw[show bk X=(X.natAbs:Nat) by unfold bk;split;exact(Ds (by assumption)).symm;exact(Dr (by assumption)).symm,cJ]
 unfold tD
 rw[e]
 split
 ·exact⟨λc hc=>(List.mem_cons.mp hc).elim (λh=>by exact⟨a10 0x31024f838664f801 tt h,a10 0x624fc81664f801 tt h⟩) (jj _ c),by simp,vE _⟩
 ·exact⟨jj _,λh=>by have:=ll X.natAbs;rw[h] at this;simp at this,vE _⟩
theorem Cc (X:Int):c9 (xq X)=some X:=by
 obtain⟨h1,h2,h3⟩:=Mq X
 unfold xq c9
 by_cases hx:X<0
 ·rw[aL hx]
  show(if aH (tD X)<0 then none else some (-1*aH (tD X)))=_
  rw[jk h2 h1,h3,aA (by exact Int.not_lt.mpr (a10 0x68c0094 tt))];congr 1;exact yh (by exact a01 0x1a141ad4a0d tt hx)
 ·rw[aA hx]
  show(if aH (tD X)<0 then none else some (1*aH (tD X)))=_
  rw[jk h2 h1,h3,aA (by exact Int.not_lt.mpr (a10 0x68c0094 tt))];congr 1;exact Jr (by exact a01 0x1a0d28d0694 tt (uU hx:))
noncomputable def z9 (s:List Nat)(g:Int):Prop:=(s=[45]/\g=-1)∨(s=[]/\g=1)
theorem wk {s b:List Nat}{g:Int}(h:z9 s g){c:Nat}{r:List Nat}(hb:b=c::r)(hc:48<=c):aX (s++b)=(g,b):=by
 rcases h with⟨rfl,rfl⟩|⟨rfl,rfl⟩
 ·rfl
 ·subst hb
  show aX (c::r)=_
  unfold aX
  rw[List.take_succ_cons,List.take_zero,aA (by simp;omega),aA (by simp;omega)]
theorem mr {s u v:List Nat}{g d:Int}(hs:z9 s g)(hu:iU u)(h0:u≠[])(hv:iU v):gJ (s++(u++[46]++v)) d 99=xG (tB (g*(dv (u++v):Nat)) (-(v.length:Int)) d 99):=by
 obtain⟨c,r,hr⟩:∃c r,u=c::r:=by
  cases u with
  |nil=>exact absurd rfl h0
  |cons c r=>exact⟨c,r,rfl⟩
 have hc:=hu c (by rw[hr];exact .head _)
 unfold gJ
 rw[wk hs (c:=c) (r:=r++[46]++v) (by rw[hr];rfl) hc.1,Iq (vV hu hv),aA (by rw[hr];simp)]
 dsimp only
 rw[Eu hu hv (by rw[hr];simp)]
 dsimp only
 rw[aA xx]
 dsimp only
 rw[Int.zero_sub]
 cases tB (g*(dv (u++v):Nat)) (-(v.length:Int)) d 99<;>rfl
theorem vU {s u v:List Nat}{c0:Nat}{X g d:Int}(hs:z9 s g)(hu:iU u)(h0:u≠[])(hv:iU v)(Yb:c0=69∨c0=68):gJ (s++(u++[46]++v)++[c0]++xq X) d 99=xG (tB (g*(dv (u++v):Nat)) (X-v.length) d 99):=by
 obtain⟨c,r,hr⟩:∃c r,u=c::r:=by
  cases u with
  |nil=>exact absurd rfl h0
  |cons c r=>exact⟨c,r,rfl⟩
 have hc:=hu c (by rw[hr];exact .head _)
 rw[rW,rW]
 unfold gJ
 rw[wk hs (c:=c) (r:=r++[46]++v++([c0]++xq X)) (by rw[hr];rfl) hc.1]
 dsimp only
 rw[show[c0]++xq X=c0::xq X from rfl,Ir Yb (vV hu hv),aA (by rw[hr];simp)]
 dsimp only
 rw[Eu hu hv (by rw[hr];simp)]
 dsimp only
 rw[aL rfl,Cc]
 dsimp only
 cases tB (g*(dv (u++v):Nat)) (X-v.length) d 99<;>rfl
theorem Fj {m e d:Int}{c:Nat}(h:ve m e)(hc:c=69∨c=68)(hd:9<=d)(gZ:d<=12):gJ (cL m e c d) d 99=.ok (m,e):=by
 obtain⟨⟨hm,NV,NU⟩,hr⟩:=h
 unfold CG at hm
 by_cases h0:m=0
 ·obtain⟨rfl,rfl⟩:m=0/\e=0:=hr.elim id λk=>absurd h0 (by omega)
  have e1:cL 0 0 c d=[]++([48]++[46]++[48]):=rfl
  rw[e1,mr (g:=1) (.inr ⟨rfl,rfl⟩) N2 (by simp) N2]
  have e2:tB (1*(dv ([48]++[48]):Nat)) (-(([48]:List Nat).length:Int)) d 99=some (0,0):=by
   show tB 0 (-1) d 99=_
   have c0:cd 0=0:=by unfold cd;rw[show(0:Int).natAbs=0 from rfl,sy];rfl
   have:A6 0 (-1) d=(0,0):=by unfold A6;rw[c0,aA (by exact Int.not_lt.mpr (a01 0x685170d28d069d tt hd))];rfl
   unfold tB
   rw[this]
   exact aL (.inl rfl)
  rw[e2];rfl
 have Ur:m%10≠0:=hr.resolve_left λk=>h0 k.1
 have ha:0<m.natAbs:=p5 (by assumption)
 have xC:cd m<=4:=Rb (Nat.lt_of_le_of_lt hm (by decide))
 have UB:0<=cd m:=by unfold cd;exact a10 0x68c0094 tt
 have hS:z9 (if m<0 then[45] else[]) (if m<0 then -1 else 1):=by
  by_cases k:m<0
  ·rw[aL k,aL k];exact .inl ⟨rfl,rfl⟩
  ·rw[aA k,aA k];exact .inr ⟨rfl,rfl⟩
 have gm:∀n:Nat,(if m<0 then(-1:Int) else 1)*((m.natAbs*10^n:Nat):Int)=m*10^n:=λn=>by
  have:(if m<0 then(-1:Int) else 1)*(m.natAbs:Int)=m:=Jq m
  rw[Int.natCast_mul,←Int.mul_assoc,this,Int.natCast_pow];rfl
 have RZ:(if m<0 then(-1:Int) else 1)*((m.natAbs:Nat):Int)=m:=Jq m
 have back:∀j:Nat,tB (m*10^j) (e-j) d 99=some (m,e):=λj=>Hz Ur (by exact a02 0x341a39a0d3ad0c0e tt hd xC) (by exact a02 0xd17155a386ae278e094683572828d0714 tt NV UB) (by exact a02 0xd09e382b8aad1c35a281ad0c0e tt NU xC)
 have DN:tB m e d 99=some (m,e):=by have:=back 0;simpa using this
 have ef:bp (bk m)=dS m.natAbs:=by rw[mG,cJ]
 have dg:=jj m.natAbs
 have N1:=vE m.natAbs
 have rz:=ll m.natAbs
 unfold cL
 rw[aA h0]
 dsimp only
 rw[ef]
 generalize m.natAbs=a at *
 generalize dS a=f at *
 generalize (if m<0 then[45] else[]:List Nat)=s at hS
 generalize (if m<0 then(-1:Int) else 1)=g at hS gm RZ
 have Tf:f≠[]:=λk=>by rw[k] at rz;simp at rz
 by_cases hf:0<=(f.length:Int)+e/\(f.length:Int)+e<=d
 ·rw[aL hf]
  unfold rt
  by_cases t0:(f.length:Int)+e<=0
  ·rw[aL t0,Kz (Int.neg_nonpos_of_nonneg hf.1)]
   show gJ (s++([48]++[46]++f)) d 99=_
   rw[mr hS N2 (by simp) dg]
   have:dv ([48]++f)=a:=N1
   rw[this,RZ,show -(f.length:Int)=e from Int.neg_eq_of_add_eq_zero (oD t0 hf.1),DN];rfl
  ·rw[aA t0]
   by_cases t1:(f.length:Int)<=f.length+e
   ·rw[aL t1]
    have e1:f++List.replicate ((f.length:Int)+e-f.length).toNat 48++[46,48]=(f++List.replicate ((f.length:Int)+e-f.length).toNat 48)++[46]++[48]:=by simp
    rw[e1,mr hS (qt dg (yz _)) (by simp[Tf]) N2]
    have e2:dv (f++List.replicate ((f.length:Int)+e-f.length).toNat 48++[48])=a*10^(e.toNat+1):=by
     rw[rW,show List.replicate ((f.length:Int)+e-f.length).toNat 48++[48]=List.replicate (e.toNat+1) 48 by rw[List.replicate_succ',show((f.length:Int)+e-f.length).toNat=e.toNat by omega],Pe,N1]
    have b2:=back (e.toNat+1)
    rw[show e-((e.toNat+1:Nat):Int)=-(([48]:List Nat).length:Int) by simp;omega] at b2
    rw[e2,gm,b2];rfl
   ·rw[aA t1]
    have hT:=Int.toNat_of_nonneg (Int.le_of_lt (Int.not_le.mp t0))
    have hle:((f.length:Int)+e).toNat<=f.length:=Int.ofNat_le.mp (by rw[hT];exact Int.le_of_lt (Int.not_le.mp t1))
    rw[mr hS (λc hc=>dg c (List.mem_of_mem_take hc)) (λk=>(List.take_eq_nil_iff.mp k).elim (λz=>t0 (by rw[z] at hT;exact Int.le_of_eq hT.symm)) Tf) (λc hc=>dg c (List.mem_of_mem_drop hc)),List.take_append_drop,N1,RZ,pE]
    rw[Int.ofNat_sub hle,hT,Int.neg_sub,show(f.length:Int)+e-f.length=e from Int.add_comm _ _▸Int.add_sub_cancel _ _,DN];rfl
 ·rw[aA hf]
  unfold rt
  rw[aA (show ¬(1:Int)<=0 by decide)]
  by_cases t1:(f.length:Int)<=1
  ·rw[aL t1,Kz (show 1-(f.length:Int)<=0 by exact a10 0x3428b98012ac4095 tt rz)]
   have e1:f++List.replicate 0 48++[46,48]=f++[46]++[48]:=by simp
   rw[e1,vU hS dg Tf N2 hc]
   have e2:dv (f++[48])=a*10^1:=by
    have:=Pe f 1
    rw[N1] at this;exact this
   have b2:=back 1
   rw[show(f.length:Int)+e-1-(([48]:List Nat).length:Int)=e-((1:Nat):Int) by simp;exact oD (a11 0x68357155a358016855801 tt t1) (a11 0xd17155a358011ac4095 tt rz),e2,gm,b2];rfl
  ·rw[aA t1]
   have e3:(f.take (1:Int).toNat)++[46]++f.drop (1:Int).toNat=f.take 1++[46]++f.drop 1:=rfl
   rw[e3,vU hS (λc hc=>dg c (List.mem_of_mem_take hc)) (by intro k;have:=congrArg List.length k;rw[List.length_take,List.length_nil] at this;omega) (λc hc=>dg c (List.mem_of_mem_drop hc)) hc,List.take_append_drop,N1,RZ,pE]
   rw[show(f.length:Int)+e-1-((f.length-1:Nat):Int)=e by rw[Int.ofNat_sub rz];exact oD (a11 0x1a0d5cb981560057155a35801 tt) (a11 0x1a2e5cc0ab002b8aad1ac008d tt),DN];rfl
noncomputable def safe (c:Nat):Prop:=c≠10/\c≠32/\c≠44/\c≠47/\c≠41/\c≠39/\c≠40/\c≠42
noncomputable def eK (l:List Nat):Prop:=∀c∈l,safe c
theorem bu {a b:List Nat}(ha:eK a)(hb:eK b):eK (a++b):=λc hc=>(List.mem_append.mp hc).elim (ha c) (hb c)
theorem cE {c:Nat}(h:safe c):eK [c]:=λd hd=>by rw[List.mem_singleton.mp hd];exact h
theorem nA {l:List Nat}(h:iU l):eK l:=λc hc=>uy (P:=safe) (by unfold safe;decide) (h c hc).1 (h c hc).2
theorem wj {n:Int}(h:n<0):bp n=45::dS n.natAbs:=by
 cases n with
 |ofNat m=>exact absurd (Int.natCast_nonneg m) (Int.not_le.mpr h)
 |negSucc m=>
  show(Str.ofString ("-"++Nat.repr (m+1))).cps.toList=45::(Nat.toDigits 10 (m+1)).map Char.toNat
  rw[PyProof.Rows.signs_ofString,String.toList_append,List.map_append,Nat.toList_repr];rfl
theorem gW (n:Int):eK (bp n):=by
 by_cases h:n<0
 ·rw[wj h];exact bu (a:=[45]) (cE (by unfold safe;decide)) (nA (jj _))
 ·obtain⟨m,rfl⟩:=jb (Int.not_lt.mp h)
  rw[cJ];exact nA (jj _)
theorem Fz {n:Int}(h:CG n):mZ (bp n) 16=.ok n:=by
 unfold CG at h
 have YA:(2:Int)^(16-1:Int).toNat=32768:=by decide
 unfold mZ
 rw[YA]
 by_cases h0:n<0
 ·rw[wj h0]
  have e:aX (45::dS n.natAbs)=(-1,dS n.natAbs):=rfl
  have hw:aH (dS n.natAbs)=(n.natAbs:Nat):=by rw[jk (λk=>by have:=ll n.natAbs;rw[k] at this;simp at this) (jj _),vE]
  rw[e]
  dsimp only
  rw[hw,aA (by exact Int.not_lt.mpr (a10 0x68c0094 tt)),aL (by omega)]
  congr 1;exact yh (Int.le_of_lt h0)
 ·obtain⟨m,rfl⟩:=jb (Int.not_lt.mp h0)
  rw[cJ,F1 (jj m)]
  have hw:aH (dS m)=(m:Nat):=by rw[jk (λk=>by have:=ll m;rw[k] at this;simp at this) (jj _),vE]
  dsimp only
  rw[hw,aA (by exact Int.not_lt.mpr (a10 0x68c0094 tt)),aL (by exact⟨a10 0xd17c160057138102414 tt,a10 0x1a93810242f82c00b127e3701 tt h⟩)]
  congr 1;exact oD (a10 0xd18015f05801 tt) (a10 0xd17c16005801 tt)
theorem eO {m e:Int}{c:Nat}{d:Int}(hc:safe c):eK (cL m e c d):=by
 have zs:∀k,eK (List.replicate k 48):=λk=>nA (yz k)
 have df:=gW (bk m)
 have Rx:safe 46:=by unfold safe;decide
 have Nz:safe 48:=by unfold safe;decide
 have VE:safe 45:=by unfold safe;decide
 have WX:safe 43:=by unfold safe;decide
 have hf:∀t:Int,eK (rt (bp (bk m)) t):=λt=>by
  unfold rt
  split
  ·exact bu (bu (bu (a:=[48]) (cE Nz) (cE Rx)) (zs _)) df
  ·split
   ·exact bu (bu df (zs _)) (bu (a:=[46]) (cE Rx) (cE Nz))
   ·exact bu (bu (λc hc=>df c (List.mem_of_mem_take hc)) (cE Rx)) λc hc=>df c (List.mem_of_mem_drop hc)
 have hs:eK (if m<0 then[45] else[]):=by split;exact cE VE;exact λc hc=>by cases hc
 have hl:∀k:Int,eK (xq k):=λk=>by
  have ht:eK (tD k):=by unfold tD;split;exact bu (a:=[48]) (cE Nz) (gW _);exact gW _
  unfold xq
  split
  ·exact bu (a:=[45]) (cE VE) ht
  ·exact bu (a:=[43]) (cE WX) ht
 unfold cL
 split
 ·exact bu (a:=[48]) (cE Nz) (bu (a:=[46]) (cE Rx) (cE Nz))
 ·dsimp only
  split
  ·exact bu hs (hf _)
  ·exact bu (bu (bu hs (hf _)) (cE hc)) (hl _)
theorem sf:safe 69:=by unfold safe;decide
theorem Jg:safe 68:=by unfold safe;decide
noncomputable def kP (g:List Nat):Prop:=∀c∈g,cV c=true
theorem p9 {f:Nat->Bool}{a b:List Nat}{c:Nat}(ha:∀x∈a,f x=true)(hc:f c=false):(a++c::b).dropWhile f=c::b/\(a++c::b).takeWhile f=a:=by
 constructor
 ·rw[List.dropWhile_append_of_pos ha,List.dropWhile_cons,aA (by rw[hc];exact xx)]
 ·rw[List.takeWhile_append_of_pos ha,List.takeWhile_cons,aA (by rw[hc];exact xx),List.append_nil]
theorem gO {c:Nat}(h:safe c):cV c=false/\bS.contains c=false/\bo.contains c=false/\(c==32)=false:=by
 obtain⟨h1,h2,h3,h4,h5,h6⟩:=h
 simp[cV,bS,bo,h1,h2,h3,h4,h5]
theorem pn {c:Nat}(h:cV c=true):bS.contains c=true/\bo.contains c=true/\c≠42/\eV c=false:=by
 have:c=32∨c=10:=by simpa[cV] using h
 rcases this with rfl|rfl<;>decide
theorem FX {x:Nat}{r:List Nat}(hx:eV x=false)(xr:x≠42):∀{b:List Nat},(∀c∈b,c≠42)->(eT (b++x::r)).head?≠some 42:=by
 intro z_
 induction z_ with
 |nil=>
  intro _
  unfold eT
  rw[List.nil_append,List.dropWhile_cons,aA (by rw[hx];exact xx)]
  simpa using xr
 |cons c b ih=>
  intro h
  have ih:=ih λd hd=>h d (.tail _ hd)
  unfold eT at ih ⊢
  rw[List.cons_append,List.dropWhile_cons]
  split
  ·exact ih
  ·simpa using h c (.head _)
theorem vN {g b r:List Nat}{c x:Nat}{b':List Nat}{tk:Tk}(hg:kP g)(hb:b=c::b')(hc:cV c=false/\c≠44/\c≠47)(Yo:∀d∈b,d≠42)(hx:cV x=true)(hk:cH (b++x::r)=.ok (tk,x::r)):
  fp (g++b++x::r)=.ok (.rep 1 (some tk),x::r):=by
 obtain⟨g1,g2,g3,g4⟩:=pn hx
 have e1:aD (g++b++x::r)=b++x::r:=by
  unfold aD
  rw[hb,rW]
  exact(p9 hg hc.1).1
 have e2:oH (b++x::r)=.ok (1,b++x::r):=aL (.inr (FX g4 g3 Yo))
 have e3:(b++x::r).head?=some c:=by rw[hb];rfl
 have e4:(b++x::r).headD 10=c:=by rw[hb];rfl
 have e5:bS.contains c=false:=by
  have:c≠32/\c≠10:=by simpa[cV] using hc.1
  simp[bS,this.1,this.2,hc.2.1,hc.2.2]
 unfold fp
 rw[e1,show rV (b++x::r)=.ok (b++x::r) from aA (by rw[hb];simp)]
 dsimp only[dC]
 rw[e3,aA (λk=>k.elim (λk=>hc.2.1 (Option.some.inj k)) λk=>hc.2.2 (Option.some.inj k)),e2]
 dsimp only
 rw[e4,aA (by rw[e5];exact xx),hk]
theorem Ck {b r:List Nat}{x:Nat}(h:eK b)(h0:b≠[])(hx:cV x=true):cH (b++x::r)=.ok (.run b,x::r):=by
 obtain⟨c,b',hb⟩:∃c b',b=c::b':=by
  cases b with
  |nil=>exact absurd rfl h0
  |cons c b'=>exact⟨c,b',rfl⟩
 have hc:=h c (by rw[hb];exact .head _)
 have e3:(b++x::r).head?=some c:=by rw[hb];rfl
 obtain⟨g1,_⟩:=pn hx
 have C7:∀d∈b,(!(bS.contains d))=true:=λd hd=>by rw[(gO (h d hd)).2.1];rfl
 obtain⟨d1,d2⟩:=p9 (b:=r) (c:=x) (f:=λc=>!(bS.contains c)) C7 (by rw[g1];rfl)
 unfold cH
 rw[e3,aA (λk=>hc.2.2.2.2.2.1 (Option.some.inj k)),aA (λk=>hc.2.2.2.2.2.2.1 (Option.some.inj k))]
 dsimp only[dC]
 unfold cP dj GY
 rw[d1,d2]
 exact aL g1
theorem zz {a h b r:List Nat}{x:Nat}(ha:eK a)(a0:a≠[])(hb:eK b)(b0:b≠[])(hh:kP h)(hx:cV x=true):cH ([40]++a++[44]++h++b++[41]++x::r)=.ok (.pair a b,x::r):=by
 obtain⟨c,a',ea⟩:∃c b',a=c::b':=by
  cases a with
  |nil=>exact absurd rfl a0
  |cons c b'=>exact⟨c,b',rfl⟩
 obtain⟨d,b',eb⟩:∃c b',b=c::b':=by
  cases b with
  |nil=>exact absurd rfl b0
  |cons c b'=>exact⟨c,b',rfl⟩
 have hc:=gO (ha c (by rw[ea];exact .head _))
 have hd:=gO (hb d (by rw[eb];exact .head _))
 obtain⟨g1,_⟩:=pn hx
 have e0:[40]++a++[44]++h++b++[41]++x::r=40::(a++44::(h++(b++41::x::r))):=by simp
 have pa:∀y∈a,(!(bo.contains y))=true:=λy hy=>by rw[(gO (ha y hy)).2.2.1];rfl
 have pb:∀y∈b,(!(bo.contains y))=true:=λy hy=>by rw[(gO (hb y hy)).2.2.1];rfl
 obtain⟨a1,a2⟩:=p9 (b:=h++(b++41::x::r)) (c:=44) (f:=λc=>!(bo.contains c)) pa rfl
 obtain⟨b1,b2⟩:=p9 (b:=x::r) (c:=41) (f:=λc=>!(bo.contains c)) pb rfl
 have s1:bV (a++44::(h++(b++41::x::r)))=a++44::(h++(b++41::x::r)):=by
  unfold bV;rw[ea,List.cons_append,List.dropWhile_cons,aA (by rw[hc.2.2.2];exact xx)]
 have s2:aD (44::(h++(b++41::x::r)))=44::(h++(b++41::x::r)):=rfl
 have s3:aD (h++(b++41::x::r))=b++41::x::r:=by
  unfold aD;rw[eb,List.cons_append];exact(p9 hh hd.1).1
 rw[e0]
 unfold cH
 rw[aA (by show ¬some 40=some 39;decide),aL (show(40::(a++44::(h++(b++41::x::r)))).head?=some 40 from rfl)]
 have ep:pairE (40::(a++44::(h++(b++41::x::r)))).tail=.ok (.pair a b,x::r):=by
  show pairE (a++44::(h++(b++41::x::r)))=_
  unfold pairE
  rw[s1]
  unfold dj cP
  rw[a1,a2,s2]
  show dC (rV (aD (h++(b++41::x::r)))) _=_
  rw[s3,show rV (b++41::x::r)=.ok (b++41::x::r) from aA (by simp)]
  dsimp only[dC]
  rw[b1,b2];rfl
 rw[ep]
 exact aL g1
noncomputable def BodyOk:Iv->List Nat->Prop
 |.lE m e m' e',b=>∃h,kP h/\b=[40]++cL m e 69 9++[44]++h++cL m' e' 69 9++[41]
 |i,b=>iV i=[b]
theorem jP {m e d:Int}{c:Nat}(h:ve m e)(hc:c=69∨c=68)(hd:9<=d)(gZ:d<=12):bg (cL m e c d) d=.ok (m,e):=by
 unfold bg
 rw[aA kZ];exact Fj h hc hd gZ
theorem F9 {i:Iv}{g b r:List Nat}{x:Nat}(hi:i.red)(hb:BodyOk i b)(hg:kP g)(hx:cV x=true):∃tk,fp (g++b++x::r)=.ok (.rep 1 (some tk),x::r)/\fz tk i.kind 0=.ok i.val:=by
 have run:∀b,eK b->b≠[]->fp (g++b++x::r)=.ok (.rep 1 (some (.run b)),x::r):=by
  intro b hs h0
  obtain⟨c,b',hb⟩:∃c b',b=c::b':=by
   cases b with
   |nil=>exact absurd rfl h0
   |cons c b'=>exact⟨c,b',rfl⟩
  have hc:=hs c (by rw[hb];exact .head _)
  exact vN hg hb ⟨(gO hc).1,hc.2.2.1,hc.2.2.2.1⟩ (λd hd=>(hs d hd).2.2.2.2.2.2.2) hx (Ck hs h0 hx)
 cases i with
 |chr t=>cases hb
 |int n=>
  change [bp n]=[b] at hb
  cases hb
  refine⟨_,run _ (gW n) AS,?_⟩
  show emap V.int (mZ (bp n) 16)=_
  rw[Fz hi];rfl
 |log v=>
  change [if v=true then[84] else[70]]=[b] at hb
  cases hb
  refine⟨_,run _ ?_ (by split<;>simp),?_⟩
  ·split
   ·exact cE (by unfold safe;decide)
   ·exact cE (by unfold safe;decide)
  ·cases v<;>rfl
 |real m e=>
  change [cL m e 69 9]=[b] at hb
  cases hb
  refine⟨_,run _ (eO sf) kZ,?_⟩
  show emap bE (bg (cL m e 69 9) 9)=_
  rw[jP hi (.inl rfl) (by decide) (by decide)];rfl
 |dbl m e=>
  change [cL m e 68 12]=[b] at hb
  cases hb
  refine⟨_,run _ (eO Jg) kZ,?_⟩
  show emap bE (bg (cL m e 68 12) 12)=_
  rw[jP hi (.inr rfl) (by decide) (by decide)];rfl
 |lE m e m' e'=>
  obtain⟨h,hh,rfl⟩:=hb
  have s1:=eO (m:=m) (e:=e) (d:=9) sf
  have s2:=eO (m:=m') (e:=e') (d:=9) sf
  have p1:=jP hi.1 (c:=69) (d:=9) (.inl rfl) (by decide) (by decide)
  have p2:=jP hi.2 (c:=69) (d:=9) (.inl rfl) (by decide) (by decide)
  have n1:=kZ (m:=m) (e:=e) (c:=69) (d:=9)
  have n2:=kZ (m:=m') (e:=e') (c:=69) (d:=9)
  generalize cL m e 69 9=a at s1 p1 n1
  generalize cL m' e' 69 9=b at s2 p2 n2
  refine⟨.pair a b,?_,?_⟩
  ·refine vN hg (c:=40) (b':=a++[44]++h++b++[41]) (by simp) ⟨by decide,by decide,by decide⟩ (λd hd=>?_) hx (zz s1 n1 s2 n2 hh hx)
   simp only[List.mem_append,List.mem_singleton] at hd
   rcases hd with((((hd|hd)|hd)|hd)|hd)|hd
   ·omega
   ·exact(s1 d hd).2.2.2.2.2.2.2
   ·omega
   ·exact(pn (hh d hd)).2.2.1
   ·exact(s2 d hd).2.2.2.2.2.2.2
   ·omega
  ·show(match bg a 9 with
    |.error e=>.error e
    |.ok r=>(match bg b 9 with
     |.error e=>.error e
     |.ok r'=>.ok (.tup [bE r,bE r'])):Except Int V)=_
   rw[p1,p2];rfl
theorem zl {i:Iv}{g b r:List Nat}{x:Nat}{t:Rs}(hi:i.red)(hb:BodyOk i b)(hg:kP g)(hx:cV x=true)(hl:t.left=0)(hd:t.done=false)(hs:t.s=g++b++x::r):
  ∃t',fM t i.kind 0=.ok (i.val,t')/\t'.s=x::r/\t'.left=0/\t'.done=false:=by
 obtain⟨tk,h1,h2⟩:=F9 (r:=r) hi hb hg hx
 have key:b8 t=.ok (some tk,{ t with s:=x::r,left:=1-1,held:=some tk,eS:=true }):=by
  have hn:¬t.left>0:=by exact Int.not_lt.mpr (a01 0x1a141ad8a0d tt hl)
  rw[←hs] at h1
  cases Wi:t.eS with
  |false=>rw[RB hn hd Wi,h1]
  |true=>
   rw[(VN hn hd Wi).2 (λs' k=>by rw[h1] at k;cases k),RB (t:={ t with eS:=false }) hn hd rfl]
   show(match fp t.s with
    |.error k=>.error k
    |.ok (.sep c,s')=>if c=47 then .ok (none,{ t with s:=aD t.s,eS:=false,done:=true }) else .ok (none,{ t with s:=s',eS:=false })
    |.ok (.rep n o,s')=>.ok (o,{ t with s:=s',left:=n-1,held:=o,eS:=true }):Except Int (Option Tk×Rs))=_
   rw[h1]
 refine⟨{ t with s:=x::r,left:=1-1,held:=some tk,eS:=true },?_,rfl,rfl,hd⟩
 unfold fM
 rw[key]
 dsimp only[dC]
 rw[h2]
noncomputable def dO (u:List Nat):Prop:=∃c s,u=c::s/\cV c=true
noncomputable def Reads:List Iv->List Nat->Prop
 |[],tl=>10∉tl
 |i::r,tl=>∃g b u,tl=g++b++u/\kP g/\BodyOk i b/\Reads r u/\(u=[]∨dO u)
theorem zh:∀(l:List Iv)(tl:List Nat)(t:Rs),(∀i∈l,i.red)->Reads l tl->t.left=0->t.done=false->t.s=tl++[10]->∃t',listE (l.map λi=>(i.kind,0)) t=.ok (l.map Iv.val,t')/\t'.s.count 10=1:=by
 intro l
 induction l with
 |nil=>
  intro tl t _ h _ _ hs
  refine⟨t,rfl,?_⟩
  change 10∉tl at h
  rw[hs,List.count_append,List.count_eq_zero.mpr h];rfl
 |cons i l ih=>
  intro tl t hr hx hl hd hs
  obtain⟨g,b,u,e,hg,hb,hu,XA⟩:=hx
  obtain⟨x,r,V2,hx⟩:∃x r,u++[10]=x::r/\cV x=true:=by
   rcases XA with rfl|⟨c,s,rfl,hc⟩
   ·exact⟨10,[],rfl,rfl⟩
   ·exact⟨c,s++[10],rfl,hc⟩
  obtain⟨t',e1,e2,e3,e4⟩:=zl (r:=r) (hr i (.head _)) hb hg hx hl hd (by rw[hs,e,rW,V2])
  obtain⟨GG,f1,f2⟩:=ih u t' (λj hj=>hr j (.tail _ hj)) hu e3 e4 (by rw[e2,V2])
  refine⟨GG,?_,f2⟩
  show dC (fM t i.kind 0) _=_
  rw[e1]
  dsimp only[dC]
  rw[f1];rfl
noncomputable def textOf (s:Ws):List Nat:=bD s.rows++s.row
theorem nz:∀(a:List (List Nat))(r:List Nat),bD (a++[r])=bD a++r++[10]:=by
 intro z_
 induction z_ with
 |nil=>
  intro r
  show r++10::[]=[]++r++[10];simp
 |cons x a ih=>
  intro r
  show x++10::bD (a++[r])=(x++10::bD a)++r++[10]
  rw[ih r];simp
theorem vL (s:Ws):textOf (bP s)=textOf s++[10,32]:=by
 unfold textOf bP;rw[nz];simp
theorem yw:kP []:=λc hc=>by cases hc
theorem yv:kP [10,32]:=λc hc=>by
 rcases List.mem_cons.mp hc with rfl|hc
 ·rfl
 ·rw[List.mem_singleton.mp hc];rfl
theorem qp {a b:List Nat}(ha:kP a)(hb:kP b):kP (a++b):=λc hc=>(List.mem_append.mp hc).elim (ha c) (hb c)
theorem nD {w:Int}{s:Ws}{x:List Nat}:∃g,textOf (a8 w s x)=textOf s++g++x/\kP g/\(s.part=false->dO g)/\(a8 w s x).part=false:=by
 unfold a8
 dsimp only
 by_cases h:(s.row.length:Int)+(if s.part=true then x else 32::x).length>w/\s.row≠[32]
 ·rw[aL h]
  exact⟨[10,32],by unfold textOf;rw[nz];simp,yv,λ_=>⟨10,[32],rfl,rfl⟩,rfl⟩
 ·rw[aA h]
  cases hp:s.part with
  |true=>exact⟨[],by unfold textOf;simp,yw,λk=>(by cases k),rfl⟩
  |false=>exact⟨[32],by unfold textOf;simp,λc hc=>(by rw[List.mem_singleton.mp hc];rfl),λ_=>⟨32,[],rfl,rfl⟩,rfl⟩
theorem starts_app {a b:List Nat}(h:dO a):dO (a++b):=by
 obtain⟨c,s,rfl,hc⟩:=h;exact⟨c,s++b,rfl,hc⟩
theorem Hk {w:Int}{s:Ws}{i:Iv}(hs:gF s)(hc:i.kind≠5):∃g b,textOf (ct w s i)=textOf s++(g++b)/\kP g/\BodyOk i b/\(s.part=false->dO g)/\(ct w s i).part=false:=by
 have one:∀x,ct w s i=a8 w s x->BodyOk i x->∃g b,textOf (ct w s i)=textOf s++(g++b)/\kP g/\BodyOk i b/\(s.part=false->dO g)/\(ct w s i).part=false:=λx e hb=>by
  obtain⟨g,h1,h2,h3,h4⟩:=nD (w:=w) (s:=s) (x:=x)
  rw[e]
  exact⟨g,x,by rw[h1,rW],h2,hb,h3,h4⟩
 cases i with
 |chr t=>exact absurd rfl hc
 |int n=>exact one _ rfl rfl
 |log b=>exact one _ rfl rfl
 |real m e=>exact one _ rfl rfl
 |dbl m e=>exact one _ rfl rfl
 |lE m e m' e'=>
  by_cases hl:((([40]++cL m e 69 9++[44])++(cL m' e' 69 9++[41])).length:Int)<w
  ·refine one (([40]++cL m e 69 9++[44])++(cL m' e' 69 9++[41])) (aL hl) ⟨[],yw,by simp⟩
  ·have e0:ct w s (.lE m e m' e')=a8 w (bP (a8 w (if s.row≠[32] then bP s else s) ([40]++cL m e 69 9++[44]))) (cL m' e' 69 9++[41]):=aA hl
   obtain⟨g0,k1,k2,k3⟩:∃g0,textOf (if s.row≠[32] then bP s else s)=textOf s++g0/\kP g0/\(s.part=false->dO g0):=by
    by_cases hr:s.row=[32]
    ·rw[aA (λk=>k hr)]
     exact⟨[],by simp,yw,λk=>(by rw[hs.2 hr] at k;cases k)⟩
    ·rw[aL hr]
     exact⟨[10,32],vL s,yv,λ_=>⟨10,[32],rfl,rfl⟩⟩
   generalize (if s.row≠[32] then bP s else s)=ak at e0 k1
   obtain⟨g1,a1,a2,_,_⟩:=nD (w:=w) (s:=ak) (x:=[40]++cL m e 69 9++[44])
   obtain⟨g2,b1,b2,_,b4⟩:=nD (w:=w) (s:=bP (a8 w ak ([40]++cL m e 69 9++[44]))) (x:=cL m' e' 69 9++[41])
   rw[e0]
   refine⟨g0++g1,[40]++cL m e 69 9++[44]++([10,32]++g2)++cL m' e' 69 9++[41],?_,qp k2 a2,⟨_,qp yv b2,rfl⟩,λh=>starts_app (k3 h),b4⟩
   rw[b1,vL,a1,k1]
   simp only[rW]
theorem IJ {w:Int}:∀(l:List Iv)(s:Ws),gF s->(∀i∈l,i.kind≠5)->∃tl,textOf (l.foldl (ct w) s)=textOf s++tl/\Reads l tl/\(tl=[]∨s.part=true∨dO tl):=by
 intro z_
 induction z_ with
 |nil=>
  intro s _ _
  exact⟨[],by simp,by show 10∉[];simp,.inl rfl⟩
 |cons i l ih=>
  intro s hs hk
  obtain⟨g,b,e1,e2,e3,e4,e5⟩:=Hk (w:=w) hs (hk i (.head _))
  obtain⟨u,f1,f2,f3⟩:=ih (ct w s i) (sD hs) λj hj=>hk j (.tail _ hj)
  refine⟨g++b++u,?_,⟨g,b,u,rfl,e2,e3,f2,f3.imp id λk=>k.resolve_left λk=>by rw[e5] at k;cases k⟩,?_⟩
  ·show textOf (l.foldl (ct w) (ct w s i))=_
   rw[f1,e1];simp only[rW]
  ·cases hp:s.part with
   |true=>exact .inr (.inl rfl)
   |false=>exact .inr (.inr (starts_app (starts_app (e4 hp))))
theorem B8 {w:Int}{l:List Iv}(hr:∀i∈l,i.red)(hk:∀i∈l,i.kind≠5):ka (fH w l).rows (l.map λi=>(i.kind,0))=.ok (l.map Iv.val,((fH w l).rows.length:Int)):=by
 obtain⟨tl,h1,h2,_⟩:=IJ (w:=w) l ⟨[],[32],true⟩ ⟨by simp,λ_=>rfl⟩ hk
 have ht:bD (fH w l).rows=([32]++tl)++[10]:=by
  show bD ((l.foldl (ct w) ⟨[],[32],true⟩).rows++[(l.foldl (ct w) ⟨[],[32],true⟩).row])=_
  rw[nz]
  show textOf _++[10]=_
  rw[h1];rfl
 have h3:Reads l ([32]++tl):=by
  cases l with
  |nil=>
   change 10∉tl at h2
   show 10∉[32]++tl
   simpa using h2
  |cons i l=>
   obtain⟨g,b,u,e,k1,k2⟩:=h2
   exact⟨[32]++g,b,u,by rw[e];simp,qp (λc hc=>(by rw[List.mem_singleton.mp hc];rfl)) k1,k2⟩
 obtain⟨t',f1,f2⟩:=zh l ([32]++tl) (gK (fH w l).rows) hr h3 rfl rfl ht
 unfold ka
 rw[f1]
 dsimp only[dC]
 rw[f2]
 congr 2;exact oD (a10 0x1a3002b98155a55801 tt) (a10 0x1a2e60556956005801 tt)
theorem wD:∀(x:List Nat),bj 10 x≠[]/\bD (bj 10 x)=x++[10]/\(bj 10 x).length<=x.length+1/\∀p∈bj 10 x,10∉p/\p.length<=x.length:=by
 intro z_
 induction z_ with
 |nil=>
  exact⟨by simp[bj],rfl,eR _,λp hp=>by
   have:p=[]:=by simpa[bj] using hp
   subst this;simp⟩
 |cons a x ih=>
  obtain⟨h1,h2,h3,h4⟩:=ih
  unfold bj
  by_cases ha:a=10
  ·rw[aL ha]
   refine⟨by simp,?_,by simp;exact a20 0x18ad2a080b15a54101 tt h3,λp hp=>?_⟩
   ·show[]++10::bD (bj 10 x)=_
    rw[h2,ha];rfl
   ·rcases List.mem_cons.mp hp with rfl|hp
    ·simp
    ·have:=h4 p hp;exact⟨this.1,by simp;exact a20 0x62b4a8202c4101 tt this.2⟩
  ·rw[aA ha]
   cases hs:bj 10 x with
   |nil=>exact absurd hs h1
   |cons p ps=>
    rw[hs] at h2 h3 h4
    dsimp only
    refine⟨by simp,?_,by simp at *;exact a20 0x62b4a8202c4101 tt h3,λq hq=>?_⟩
    ·change p++10::bD ps=x++[10] at h2
     show(a::p)++10::bD ps=a::x++[10]
     rw[List.cons_append,h2];rfl
    ·rcases List.mem_cons.mp hq with rfl|hq
     ·have:=h4 p (.head _)
      exact⟨by simp;exact⟨λk=>ha k.symm,this.1⟩,by simp;exact a20 0x188202c4101 tt this.2⟩
     ·have:=h4 q (.tail _ hq);exact⟨this.1,by simp;exact a20 0x62b4a8202c4101 tt this.2⟩
theorem EU {x:List Nat}(h:x.length<=190):dN (bj 10 x)/\bj 10 x≠[]/\(bD (bj 10 x)).length<=198:=by
 obtain⟨h1,h2,h3,h4⟩:=wD x
 exact⟨⟨by exact a20 0xc49e89e09893fd080b15a54082 tt h h3,λp hp=>⟨(h4 p hp).1,by have:=(h4 p hp).2;exact a20 0x312722182624ff4202c4082 tt h this⟩⟩,h1,by rw[h2];simp;exact a10 0x18938b0c0b127fa101 tt h⟩
noncomputable def gi (s:Ws):Prop:=(∀x∈s.rows,10∉x/\x.length<=200)/\10∉s.row/\s.row.length<=200
theorem nB {s:Ws}(h:gi s):∀x∈s.rows++[s.row],10∉x/\x.length<=200:=λx hx=>by
 rcases List.mem_append.mp hx with hx|hx
 ·exact h.1 x hx
 ·rw[List.mem_singleton.mp hx];exact h.2
theorem sE {s:Ws}(h:gi s):gi (bP s):=⟨nB h,show 10∉[32] by decide,show[32].length<=200 by decide⟩
theorem dK {w:Int}{s:Ws}{x:List Nat}(hw:w<=100)(h:gi s)(hx:10∉x)(hl:x.length<=180):gi (a8 w s x):=by
 have ok:=(dd (n:=s.rows.length) (w:=w) (x:=x) ⟨eR _,h.2.2⟩ hl hw).2
 have hn:10∉(if s.part=true then x else 32::x):=by
  split
  ·exact hx
  ·intro k
   rcases List.mem_cons.mp k with k|k
   ·exact iY 0 (dq 0x6450a38664f01e [] [] tt k)
   ·exact hx k
 unfold a8 at ok ⊢
 generalize (if s.part=true then x else 32::x)=n at hn ok
 dsimp only at ok ⊢
 by_cases hc:(s.row.length:Int)+n.length>w/\s.row≠[32]
 ·rw[aL hc] at ok ⊢
  refine⟨nB h,λk=>?_,ok⟩
  rcases List.mem_append.mp k with k|k
  ·simp at k
  ·exact hx k
 ·rw[aA hc] at ok ⊢
  refine⟨h.1,λk=>?_,ok⟩
  rcases List.mem_append.mp k with k|k
  ·exact h.2.1 k
  ·exact hn k
theorem l5 {l:List Nat}(h:eK l):10∉l:=λk=>(h 10 k).1 rfl
theorem EM {w:Int}{s:Ws}{i:Iv}(hw:w<=100)(hi:i.ok)(hc:i.kind≠5)(h:gi s):gi (ct w s i):=by
 cases i with
 |chr t=>exact absurd rfl hc
 |int n=>exact dK hw h (l5 (gW n)) (by have:n.natAbs<=3000:=hi;have:=dA (a:=n) (by exact a10 0xc49e0b5600b127e3701 tt this);exact a10 0x624fa4202c4d81 tt this)
 |log b=>exact dK hw h (by split<;>decide) (by split<;>decide)
 |real m e=>exact dK hw h (l5 (eO sf)) (by have:=bC (c:=69) (d:=9) hi;exact a10 0x1893e9080b1271a081 tt this)
 |dbl m e=>exact dK hw h (l5 (eO Jg)) (by have:=bC (c:=68) (d:=12) hi;exact a10 0x1893e9080b1271a081 tt this)
 |lE m e m' e'=>
  have la:=bC (c:=69) (d:=9) hi.1
  have lb:=bC (c:=69) (d:=9) hi.2
  have na:=l5 (eO (m:=m) (e:=e) (d:=9) sf)
  have nb:=l5 (eO (m:=m') (e:=e') (d:=9) sf)
  have x1:([40]++cL m e 69 9++[44]).length<=72:=by simp only[cN,dk];exact a10 0x189391056955a04ab1271a081 tt la
  have x2:(cL m' e' 69 9++[41]).length<=71:=by simp only[cN,dk];exact a10 0x624e3c15a540b1271a081 tt lb
  have n1:10∉[40]++cL m e 69 9++[44]:=by simpa using na
  have n2:10∉cL m' e' 69 9++[41]:=by simpa using nb
  unfold ct
  dsimp only[iV]
  split
  ·exact dK hw h (λk=>(List.mem_append.mp k).elim n1 n2) (by rw[cN];exact a20 0x3127d212d040589391040b1271e082 tt x1 x2)
  ·refine dK hw (sE (dK hw ?_ n1 (by exact a10 0x1893e9080b12722081 tt x1))) n2 (by exact a10 0x1893e9080b1271e081 tt x2)
   split
   ·exact sE h
   ·exact h
theorem all_rows {w:Int}(hw:w<=100):∀{l:List Iv}{s:Ws},(∀i∈l,i.ok)->(∀i∈l,i.kind≠5)->gi s->gi (l.foldl (ct w) s):=by
 intro z_
 induction z_ with
 |nil=>
  intro _ _ _ h
  exact h
 |cons i l ih=>
  intro s hi hk h
  exact ih (λj hj=>hi j (.tail _ hj)) (λj hj=>hk j (.tail _ hj)) (EM hw (hi i (.head _)) (hk i (.head _)) h)
theorem IK {w:Int}{l:List Iv}(hw:w<=100)(hi:∀i∈l,i.ok)(hk:∀i∈l,i.kind≠5)(hl:l.length<=20):dN (fH w l).rows/\(fH w l).rows≠[]:=by
 have h0:gi ⟨[],[32],true⟩:=⟨(λx hx=>by cases hx),(by decide),(by decide)⟩
 have h1:=all_rows hw hi hk h0
 have h2:=FK (w:=w) hw (l:=l) (n:=0) (s:=⟨[],[32],true⟩) hi ⟨by simp,by simp⟩
 refine⟨⟨?_,nB h1⟩,by unfold fH bP;simp⟩
 show((l.foldl (ct w) ⟨[],[32],true⟩).rows++[_]).length<=1000
 rw[cN]
 have:=h2.1
 simp only[mX,List.length_nil];omega
noncomputable def ke:Nat->V->Prop
 |0,_=>False
 |n+1,v=>match v with
  |.tup l=>∀x∈l,ke n x
  |.ref _=>False
  |.ty _=>False
  |_=>True
theorem sH {aa:ag}:∀{n:Nat}{v:V},ke n v->gG aa n v v:=by
 intro z_
 induction z_ with
 |zero=>
  intro _ h
  exact h.elim
 |succ n ih=>
  intro v h
  unfold ke at h
  cases v with
  |none=>rfl
  |bool b=>rfl
  |int i=>rfl
  |str l=>rfl
  |tup l=>
   refine⟨rfl,λi x y h1 h2=>?_⟩
   rw[h1] at h2;cases h2
   exact ih (h x (List.mem_of_getElem? h1))
  |ref a=>exact h.elim
  |ty n=>exact h.elim
theorem fi {n:Nat}{r:Int×Int}:ke (n+2) (bE r):=λx hx=>by
 rcases List.mem_cons.mp hx with rfl|hx
 ·trivial
 ·rw[List.mem_singleton.mp hx];trivial
theorem qD {n:Nat}{r r':Int×Int}:ke (n+3) (.tup [bE r,bE r']):=λx hx=>by
 rcases List.mem_cons.mp hx with rfl|hx
 ·exact fi
 ·rw[List.mem_singleton.mp hx];exact fi
theorem zd {t:Tk}{k n:Int}{v:V}(h:fz t k n=.ok v):ke 6 v:=by
 cases t with
 |text s=>
  change (if k=5 then .ok (.str (tI s n)) else .error 1:Except Int V)=.ok v at h
  split at h
  ·cases h;trivial
  ·cases h
 |pair a b=>
  have h:(if k=3 then(match bg a 9 with
   |.error e=>.error e
   |.ok r=>(match bg b 9 with
    |.error e=>.error e
    |.ok r'=>.ok (.tup [bE r,bE r']))) else .error 1:Except Int V)=.ok v:=h
  split at h
  ·split at h
   ·cases h
   ·split at h
    ·cases h
    ·cases h;exact qD
  ·cases h
 |run r=>
  have em:∀{α:Type} {f:α->V} {x:Except Int α},emap f x=.ok v->∃a,v=f a:=by
   intro α f x h
   cases x with
   |ok a=>cases h;exact⟨a,rfl⟩
   |error e=>cases h
  change (if k=0 then emap V.int (mZ r 16) else if k=4 then emap V.bool (ry r) else if k=1 then emap bE (bg r 9) else if k=2 then emap bE (bg r 12) else .error 1:Except Int V)=.ok v at h
  split at h
  ·obtain⟨a,rfl⟩:=em h;trivial
  ·split at h
   ·obtain⟨a,rfl⟩:=em h;trivial
   ·split at h
    ·obtain⟨a,rfl⟩:=em h;exact fi
    ·split at h
     ·obtain⟨a,rfl⟩:=em h;exact fi
     ·cases h
theorem BW:∀{w:List (Int×Int)}{t t':Rs}{vs:List V},listE w t=.ok (vs,t')->∀v∈vs,ke 6 v:=by
 intro z_
 induction z_ with
 |nil=>
  intro t t' vs h
  cases h;exact λv hv=>by cases hv
 |cons A8 w ih=>
  intro t t' vs h
  obtain⟨k,n⟩:=A8
  change dC (fM t k n) (λx=>dC (listE w x.2) λy=>.ok (x.1::y.1,y.2))=.ok (vs,t') at h
  obtain⟨x,e1,h⟩:=cI h
  obtain⟨y,e2,h⟩:=cI h
  cases h
  intro v hv
  rcases List.mem_cons.mp hv with rfl|hv
  ·unfold fM at e1
   obtain⟨z,e3,e1⟩:=cI e1
   split at e1
   ·cases e1;trivial
   ·obtain⟨u,e4,e1⟩:=cI e1
    cases e1;exact zd e4
  ·exact ih e2 v hv
theorem B7 {recs:List (List Nat)}{w:List (Int×Int)}{y:List V×Int}(h:ka recs w=.ok y):∀v∈y.1,ke 6 v:=by
 unfold ka at h
 obtain⟨z,e1,h⟩:=cI h
 cases h
 exact BW (t':=z.2) e1
theorem Iv.flat (i:Iv):ke 6 i.val:=by
 cases i with
 |int n=>trivial
 |log b=>trivial
 |chr t=>trivial
 |real m e=>exact fi (r:=(m,e))
 |dbl m e=>exact fi (r:=(m,e))
 |lE m e m' e'=>exact qD (r:=(m,e)) (r':=(m',e'))
section
variable {G:GC}{X:Ex->St->Prop}{Q:V->St->Prop}{af:Nat}{cA:Addr}{bX:List (Option V)}{l:ag}
theorem qf {elt VW:EP}{names:List Str}{P:V->Prop}{m:Nat}(hp:∃a b,l cA=some (b6 a b))(hl:gn 1 [1] bX=[none,some (.ref cA)])(hm:m<=1000)
  (it:∀QQ:V->St->Prop,(∀(f a' b':Int),0<=f->f<=m->QQ (.int f) ⟨bX,put l cA (b6 a' b')⟩)->VW.wp G none af ⟨bX,l⟩ QQ X)
  (el:∀(l:ag) (a b:Int) (u:Option V) (QQ:V->St->Prop) (X:Ex->St->Prop),l cA=some (b6 a b)->(∀v a' b',P v->QQ v ⟨[u,some (.ref cA)],put l cA (b6 a' b')⟩)->elt.wp G none af ⟨[u,some (.ref cA)],l⟩ QQ X)
  (q:∀acc l' vs,vs.length<=m->(∀v∈vs,P v)->l acc=none->(∃a b,l' cA=some (b6 a b))->l' acc=some (.list vs)->(∀c o,c≠cA->l c=some o->l' c=some o)->Q (.ref acc) ⟨bX,l'⟩):
  I4 ⟨elt,ay 0,xK VW,none,names,1,[1]⟩ G none af ⟨bX,l⟩ Q X:=by
 obtain⟨Y0,Ll,hp⟩:=hp
 refine it _ λf a' b' f0 f1=>⟨⟨by exact a01 0x341ab89c0d1b337b28d0694 tt f0,by exact a11 0x34270346ccdec6b127a278168c008d tt hm f1⟩,λacc cg R hR=>?_⟩
 change put l cA (b6 a' b') acc=none at cg
 obtain⟨h1,h2⟩:=cy cg
 have ft:=j6 f1
 have key:∀(n:Nat) (x:Int) (vs:List V) (l₂:ag) (a b:Int) (u:Option V),vs.length+n=f.toNat->(∀v∈vs,P v)->l₂ cA=some (b6 a b)->l₂ acc=some (.list vs)->(∀c o,c≠cA->l c=some o->l₂ c=some o)->
   R (.mW x n) ⟨[u,some (.ref cA)],l₂⟩:=by
  intro n
  induction n with
  |zero=>
   intro x vs l₂ a b u hv hP k1 k2 k3
   exact hR _ _ (wq (q acc l₂ vs (by exact dq 0xc410362080b302b4a03 [_,_,_] [0] tt ft hv) hP h1 ⟨a,b,k1⟩ k2 k3))
  |succ n ih=>
   intro x vs l₂ a b u hv hP k1 k2 k3
   refine hR _ _ (te (el l₂ a b _ _ _ k1 λv GA Gz SM=>⟨vs,(ai h2).trans k2,by exact dq 0x1913816a4e606c49e89e0588104cc12d5a54203 [_,_,_,_] [0] tt hm ft hv,?_⟩))
   refine ih (x+1) (vs++[v]) _ GA Gz _ (by rw[cN];simp;exact Nat.le_antisymm (dq 0x18835a0969502cc1ad5a54101 [_,_,_] [0] tt hv) (dq 0xc56825a5408370cc1ad5a54101 [_,_,_] [0] tt hv)) (λw hw=>?_) ((ai (Ne.symm h2)).trans (ab _ _ _)) (ab _ _ _) λc o c1 c2=>?_
   ·rcases List.mem_append.mp hw with hw|hw
    ·exact hP w hw
    ·rw[List.mem_singleton.mp hw];exact SM
   ·have:c≠acc:=λe=>by rw[e,h1] at c2;cases c2
    exact(ai this).trans ((ai c1).trans (k3 c o c1 c2))
 have:=key f.toNat 0 [] (put (put l cA (b6 a' b')) acc (.list [])) a' b' none (by simp) (λv hv=>by cases hv) ((ai (Ne.symm h2)).trans (ab _ _ _)) (ab _ _ _) λc o c1 c2=>by
  have:c≠acc:=λe=>by rw[e,h1] at c2;cases c2
  exact(ai this).trans ((ai c1).trans c2)
 show R _ ⟨gn 1 [1] bX,_⟩
 rw[hl];exact this
theorem qk {d:CD}{i₀ n:Nat}{src:Addr}{items:List Iv}{f:Iv->Option V}(hi:d.it=oC (loc i₀))(Km:rj bX i₀=some (some (.ref src)))(hs:l src=some (.list (items.map Iv.v)))(hz:items.length<=100)(hl:(gn d.nl d.cD bX).length=n)
  (st:∀(i:Iv) (us:List (Option V)) (l':ag) (acc:Addr) (ys:List V) (R:St->Prop) (X:Ex->St->Prop),us.length=n->l' acc=some (.list ys)->ys.length<=1000->(∀Rv,Rv.length=n->R ⟨Rv,match f i with|none=>l'|some y=>put l' acc (.list (ys++[y]))⟩)->vH d G af acc R X i.v ⟨us,l'⟩)
  (q:∀acc,l acc=none->Q (.ref acc) ⟨bX,put l acc (.list (items.filterMap f))⟩):I4 d G none af ⟨bX,l⟩ Q X:=by
 show d.it.wp G none af ⟨bX,l⟩ _ X
 rw[hi]
 show pJ i₀ ⟨bX,l⟩ _
 unfold pJ
 rw[Km]
 refine⟨⟨_,hs⟩,λacc cg R hR=>?_⟩
 change l acc=none at cg
 have ns:src≠acc:=λe=>by rw[e,cg] at hs;cases hs
 have key:∀(r pre:List Iv) (us:List (Option V)),items=pre++r->us.length=n->R (.list src pre.length) ⟨us,put l acc (.list (pre.filterMap f))⟩:=by
  intro r
  induction r with
  |nil=>
   intro pre us e hu
   have hn:(items.map Iv.v)[pre.length]?=none:=by rw[e];simp
   have e':items=pre:=by rw[e,List.append_nil]
   refine hR _ _ (mF ((ai ns).trans hs) hn ?_)
   rw[←e'];exact q acc cg
  |cons i r ih=>
   intro pre us e hu
   have hn:(items.map Iv.v)[pre.length]?=some i.v:=by rw[e];exact eA
   have hp:pre.length<=100:=by have:=congrArg List.length e;simp at this;exact a30 0x1893c904131279208170cd6ad2a0c101 tt hz this
   refine hR _ _ (jX ((ai ns).trans hs) hn (st i us _ acc _ _ _ hu (ab _ _ _) (fm (List.length_filterMap_le _ _) (by exact a10 0x1893d13c0b12792081 tt hp)) λRv XB=>?_))
   have:=ih (pre++[i]) Rv (by rw[e];simp) XB
   rw[cN,List.filterMap_append] at this
   cases hf:f i with
   |none=>
    have e1:[i].filterMap f=[]:=by rw[List.filterMap_cons,hf];rfl
    rw[e1,List.append_nil] at this
    exact this
   |some y=>
    have e1:[i].filterMap f=[y]:=by rw[List.filterMap_cons,hf];rfl
    rw[e1] at this
    show R _ ⟨_,put (put l acc _) acc _⟩
    rw[aR]
    exact this
 exact key items [] _ rfl hl
end
theorem all_map {α:Type}{f:α->V}{P:α->Prop}:∀{vs:List V},(∀v∈vs,∃x,P x/\v=f x)->∃xs:List α,vs=xs.map f/\∀x∈xs,P x:=by
 intro z_
 induction z_ with
 |nil=>
  intro _
  exact⟨[],rfl,λx hx=>by cases hx⟩
 |cons v vs ih=>
  intro h
  obtain⟨x,h1,h2⟩:=h v (.head _)
  obtain⟨xs,h3,h4⟩:=ih λw hw=>h w (.tail _ hw)
  refine⟨x::xs,by rw[List.map_cons,h2,h3],λy hy=>?_⟩
  rcases List.mem_cons.mp hy with rfl|hy
  ·exact h1
  ·exact h4 y hy
theorem FO {k:Nat}:∀{ps:List (List Nat)},(∀p∈ps,p.length<=k)->ps.flatten.length<=ps.length*k:=by
 intro z_
 induction z_ with
 |nil=>
  intro _
  simp
 |cons p ps ih=>
  intro h
  have h1:=h p (.head _)
  have h2:=ih λq hq=>h q (.tail _ hq)
  rw[List.flatten_cons,cN,mX,Nat.succ_mul];exact a40 0x315a0822d060588202c4203 tt h1 h2
theorem HX (i:Iv):GF (i.kind,0):=by
 have:i.kind=0∨i.kind=1∨i.kind=2∨i.kind=3∨i.kind=4∨i.kind=5:=by cases i<;>simp[Iv.kind]
 unfold GF
 dsimp only
 rcases this with h|h|h|h|h|h<;>rw[h]<;>decide
theorem Gb:∀s∈bits,(st s).length<=11:=by decide+kernel
section
variable {G:GC}{aa:ag}{Q:V->ag->Prop}{X:Ex->ag->Prop}
theorem vP {l:ag}{c c':Addr}{vs:List V}{n:Int}(h1:l c=some (.list vs))(h2:l c'=some (.list vs))(hf:∀v∈vs,ke 6 v):gG l 8 (Nf c n) (Nf c' n):=by
 have e:gG l 7 (.ref c) (.ref c'):=by
  refine cQ h1 (cQ h2 ⟨rfl,λi x y e1 e2=>?_⟩)
  rw[e1] at e2;cases e2
  exact sH (hf x (List.mem_of_getElem? e1))
 show lV (gG l 7) _ _
 refine⟨rfl,λi x y e1 e2=>?_⟩
 match i,e1,e2 with
 |0,e1,e2=>cases e1;cases e2;rfl
 |1,e1,e2=>cases e1;cases e2;exact e
 |2,e1,e2=>cases e1;cases e2;rfl
 |_+3,e1,_=>cases e1
theorem BD {l:ag}{c c':Addr}{rows:List (List Nat)}{P:Bool->Prop}(h1:l c=some (sL rows))(h2:l c'=some (sL rows))(q:P true):CZ l c c' P:=by
 change l c=some (.list (rows.map V.str)) at h1
 change l c'=some (.list (rows.map V.str)) at h2
 refine vT h1 h2 ⟨rfl,λi x y e1 e2=>?_⟩ q
 rw[e1] at e2;cases e2
 obtain⟨r,_,rfl⟩:=List.mem_map.mp (List.mem_of_getElem? e1)
 exact sH (n:=7) trivial
theorem Ie:∀(is:List Iv),is.filterMap (λi=>if i.kind≠5 then some i.v else none)=(is.filter λi=>decide (i.kind≠5)).map Iv.v:=by
 intro z_
 induction z_ with
 |nil=>
  exact rfl
 |cons i is ih=>
  rw[List.filterMap_cons,List.filter_cons]
  by_cases h:i.kind≠5
  ·rw[aL h,aL (decide_eq_true h),List.map_cons,ih]
  ·rw[aA h,aA (by rw[decide_eq_false h];exact xx),ih]
theorem MP {i af:Nat}{as:List EP}{σ:St}{v:V}{QQ:List V->St->Prop}{X:Ex->St->Prop}(hv:rj σ.loc i=some (some v))(h:r6 G none af X as σ λvs cn=>QQ (v::vs) cn):r6 G none af X (loc i::as) σ QQ:=by
 show pJ i σ _
 unfold pJ
 rw[hv];exact h
theorem MQ {c:V}{af:Nat}{as:List EP}{σ:St}{QQ:List V->St->Prop}{X:Ex->St->Prop}(h:r6 G none af X as σ λvs cn=>QQ (c::vs) cn):r6 G none af X (lit c::as) σ QQ:=h
theorem Ga {f:Str}{i af:Nat}{as:List EP}{r:List SP}{σ:St}{QQ:Fl->St->Prop}{X:Ex->St->Prop}(h:r6 G none af X as σ λvs cn=>fu G none af (Z G f) vs [] cn (λv ru=>bf G none af QQ X r (iQ i v ru)) X):bf G none af QQ X (aM i (aj f as)::r) σ:=h
theorem M3 {i af:Nat}{as:List EP}{σ:St}{v:V}{QQ:Fl->St->Prop}{X:Ex->St->Prop}(hv:rj σ.loc i=some (some v))(h:r6 G none af X as σ λvs cn=>vs.length<=1000/\kM .eq cn.aa v (.tup vs) λt=>QQ (.ret (.bool t)) cn):bf G none af QQ X [aC (cmp .eq (loc i) (tup as))] σ:=by
 show pJ i σ _
 unfold pJ
 rw[hv];exact h
theorem uv {d:CD}{af:Nat}{as:List EP}{σ:St}{QQ:List V->St->Prop}{X:Ex->St->Prop}(h:I4 d G none af σ (λv cn=>r6 G none af X as cn λvs ru=>QQ (v::vs) ru) X):r6 G none af X (comp d::as) σ QQ:=h
theorem qx {d:CD}{i af:Nat}{r:List SP}{σ:St}{QQ:Fl->St->Prop}{X:Ex->St->Prop}(h:I4 d G none af σ (λv cn=>bf G none af QQ X r (iQ i v cn)) X):bf G none af QQ X (nS i d::r) σ:=h
theorem P5 (p:PG G){sc:Addr}{script:List Int}(h:sm G.C aa sc (script.map V.int))(q:Q (.bool true) aa):
  bf G none 14 (bB Q) (bc X) kg.body ⟨[some (.ref sc),none,none,none,none,none,none,none,none,none,none,none],aa⟩:=by
 refine cW (by decide) (P4 p h λcA a O5=>?_)
 refine cW (by decide) (E3 p λlim dx cZ=>?_)
 obtain⟨e1,e2⟩:=cy cZ
 have IW:∃a' b',put (put aa cA (b6 a 0)) lim (ob G 7 dx kI) cA=some (b6 a' b'):=⟨a,0,(ai (Ne.symm e2)).trans (ab _ _ _)⟩
 have CH:lI G (put (put aa cA (b6 a 0)) lim (ob G 7 dx kI)) lim:=⟨dx,kI.drop 4,ab _ _ _⟩
 have rq:Sub aa (put (put aa cA (b6 a 0)) lim (ob G 7 dx kI)):=(Sub.put O5).trans (Sub.put cZ)
 have Gp:aa cA=none:=O5
 generalize put (put aa cA (b6 a 0)) lim (ob G 7 dx kI)=l₁ at IW CH rq
 have sb:∀{l l':ag},Sub aa l->(∀c o,c≠cA->l c=some o->l' c=some o)->Sub aa l':=λ{l l'} h1 h2 c o e=>h2 c o (λk=>by rw[k,Gp] at e;cases e) (h1 c o e)
 have TY:lim≠cA:=e2
 have lm:∀{l l':ag},lI G l lim->(∀c o,c≠cA->l c=some o->l' c=some o)->lI G l' lim:=λ{l l'} ⟨dx,r,h1⟩ h2=>⟨dx,r,h2 _ _ TY h1⟩
 refine⟨rfl,uv (qf (P:=λv=>∃s,s∈bits/\v=.str (st s)) (m:=12) IW rfl (by decide) (λQQ hQ=>?_) (λl a b u QQ X hp hQ=>?_) λacc l₂ vs hz hP cg yr JC JF=>?_)⟩
 ·obtain⟨a,b,hp⟩:=IW
  exact cW (by decide) (ew p hp ⟨by decide,dp (by decide)⟩ λf a' b' f0 f1=>hQ (1+f) a' b' (by exact a01 0x68b469528d0694 tt f0) (by exact a01 0x34608168d2ad500d tt f1))
 ·refine cW (by decide) (EZ p hp (by decide+kernel) (by decide+kernel) λv a' b' hv=>hQ v a' b' ?_)
  obtain⟨s,hs,e⟩:=List.mem_map.mp hv
  exact⟨s,hs,e.symm⟩
 obtain⟨ss,rfl,XD⟩:=all_map hP
 have e3:ss.map (λs=>V.str (st s))=(ss.map st).map V.str:=by rw[List.map_map];rfl
 rw[List.length_map] at hz
 have CR:(ss.map st).flatten.length<=132:=by
  have:=FO (k:=11) (ps:=ss.map st) λx hx=>by
   obtain⟨s,hs,rfl⟩:=List.mem_map.mp hx
   exact Gb s (XD s hs)
  rw[List.length_map] at this
  omega
 rw[e3] at JC
 refine jo JC (by exact a10 0x624e049e90c0b12712101 tt CR) ?_
 generalize (ss.map st).flatten=x at CR
 have El:=sb rq JF
 have Ep:=lm CH JF
 refine qx (qf (P:=λv=>∃w,GF w/\v=dW w) (m:=6) yr rfl (by decide) (λQQ hQ=>?_) (λl a b u QQ X hp hQ=>?_) λkr lK vs Ah QT xu Em QH JE=>?_)
 ·obtain⟨a,b,hp⟩:=yr
  exact cW (by decide) (ew p hp ⟨by decide,dp (by decide)⟩ λf a' b' f0 f1=>hQ (1+f) a' b' (by exact a01 0x68b469528d0694 tt f0) (by exact a01 0x34606968d2ad4d0d tt f1))
 ·refine cW (by decide) (ew p hp ⟨by decide,dp (by decide)⟩ λf a' b' f0 f1=>cW (by decide) (ew p (ab _ _ _) ⟨by decide,dp (by decide)⟩ λg GA Gz g0 g1=>⟨l2,?_⟩))
  have:=hQ (.tup [.int f,.int (1+g)]) GA Gz ⟨(f,1+g),⟨f0,by show f<=5;exact a01 0x1a191ad4d0d tt f1,by show 0<=1+g;exact a01 0x68b469528d0694 tt g0,by show 1+g<=1000;exact a01 0x1a13d13d68d2ad4c0d tt g1⟩,rfl⟩
  rw[aR]
  exact this
 obtain⟨wanted,rfl,hw⟩:=all_map QT
 rw[List.length_map] at Ah
 have Ek:=sb El JE
 have Eo:=lm Ep JE
 refine⟨rfl,by exact a10 0x624e049e90c0b12712101 tt CR,λra rY=>?_⟩
 change lK ra=none at rY
 have um:∀c o,c≠cA->lK c=some o->put lK ra (sL (bj 10 x)) c=some o:=λc o _ h=>Sub.put rY c o h
 have tP:=sb Ek um
 have lh:=lm Eo um
 have tS:put lK ra (sL (bj 10 x)) kr=some (.list (wanted.map dW)):=Sub.put rY _ _ QH
 have tR:∃a b,put lK ra (sL (bj 10 x)) cA=some (b6 a b):=by obtain⟨a,b,h⟩:=Em;exact⟨a,b,Sub.put rY _ _ h⟩
 have tQ:put lK ra (sL (bj 10 x)) ra=some (sL (bj 10 x)):=ab _ _ _
 obtain⟨Sm,r0,rx⟩:=EU (x:=x) (by exact a10 0x1893fd080b12712101 tt CR)
 have rest:∀(l:ag) (s3 s4 s5:Option V),Sub aa l->lI G l lim->(∃a b,l cA=some (b6 a b))->bf G none 14 (bB Q) (bc X) (kg.body.drop 6) ⟨[some (.ref sc),some (.ref cA),some (.ref lim),s3,s4,s5,none,none,none,none,none,none],l⟩:=by
  clear rq CH El Ep Ek Eo tP lh IW yr Em tR um
  intro l s3 s4 s5 rq CH IW
  refine qx (qf (P:=λv=>∃i,Iv.red i/\v=i.v) (m:=7) IW rfl (by decide) (λQQ hQ=>?_) (λl a b u QQ X hp hQ=>?_) λit G3 vs vr QS hit ME QG JD=>?_)
  ·obtain⟨a,b,hp⟩:=IW
   exact cW (by decide) (ew p hp ⟨by decide,dp (by decide)⟩ λf a' b' f0 f1=>hQ f a' b' f0 (by exact a01 0xd181b1ad4e0d tt f1))
  ·exact cW (by decide) (E1 p hp λi a' b' hr=>hQ i.v a' b' ⟨i,hr,rfl⟩)
  obtain⟨is,rfl,hr⟩:=all_map QS
  rw[List.length_map] at vr
  have MB:=sb rq JD
  have MH:=lm CH JD
  have kG:∀i∈is,i.ok:=λi hi=>Iv.DX (hr i hi)
  obtain⟨a,b,QD⟩:=ME
  refine cW (by decide) (ew p QD ⟨by decide,dp (by decide)⟩ λg a' b' g0 g1=>?_)
  obtain⟨w,hw,w2,Ru⟩:∃w,w=2+g/\2<=w/\w<=100:=⟨2+g,rfl,by exact a01 0x68b46962cd0694 tt g0,by exact a01 0xd09e482b46966a4f38d tt g1⟩
  have Ai:∀c o,c≠cA->G3 c=some o->put G3 cA (b6 a' b') c=some o:=λc o hc h=>(ai hc).trans h
  have Xa:it≠cA:=λe=>by obtain⟨a,b,h⟩:=IW;rw[←e,hit] at h;cases h
  have vt:=Ai it _ Xa QG
  have yq:=sb MB Ai
  have p7:=lm MH Ai
  show bf G none 14 (bB Q) (bc X) (kg.body.drop 8) ⟨[some (.ref sc),some (.ref cA),some (.ref lim),s3,s4,s5,some (.ref it),some (.int (2+g)),none,none,none,none],put G3 cA (b6 a' b')⟩
  rw[←hw]
  clear Ai
  generalize put G3 cA (b6 a' b')=ON at vt yq p7
  refine cW (by decide) (mJ p w2 Ru p7 vt kG (by exact a10 0x18a802c4d81 tt vr) λr QC=>?_)
  have pI:=Sub.put (o:=sL (fH w is).rows) QC
  have C2:∀{l l':ag},lI G l lim->Sub l l'->lI G l' lim:=λh s=>lm h λb o _ k=>s b o k
  refine cW (by decide) (LQ p Ru (C2 p7 pI) (pI _ _ vt) kG (by exact a10 0x18a802c4d81 tt vr) λr' z0=>?_)
  have pH:=pI.trans (Sub.put (o:=sL (fH w is).rows) z0)
  refine BD (Sub.put z0 _ _ (ab _ _ _)) (ab _ _ _) ?_
  have Ej:=yq.trans pH
  have En:=C2 p7 pH
  have JB:=pH _ _ vt
  show bf G none 14 (bB Q) (bc X) (kg.body.drop 10) ⟨[some (.ref sc),some (.ref cA),some (.ref lim),s3,s4,s5,some (.ref it),some (.int w),some (.ref r),none,none,none],put (put ON r (sL (fH w is).rows)) r' (sL (fH w is).rows)⟩
  generalize put (put ON r (sL (fH w is).rows)) r' (sL (fH w is).rows)=K2 at Ej En JB
  clear pI pH yq p7 vt
  refine qx (qk (i₀:=6) (n:=1) (src:=it) (items:=is) (f:=λi=>if i.kind≠5 then some i.v else none) rfl rfl JB (by exact a10 0x624f24102c4d81 tt vr) rfl (λi us l' acc ys R X hu hl hz hR=>?_) λpl Gp=>?_)
  ·match us,hu with
   |[u],_=>
    refine item_tup rfl ⟨by decide,by decide⟩ ⟨λh=>?_,λh=>⟨ys,hl,by exact a10 0x644e05a93980b127a2781 tt hz,?_⟩⟩
    ·change i.kind=5 at h
     have:=hR [some i.v] rfl
     rw[aA (λk=>k h)] at this
     exact this
    ·change ¬i.kind=5 at h
     have:=hR [some i.v] rfl
     rw[aL h] at this
     exact this
  rw[Ie]
  have NP:∀i∈is.filter λi=>decide (i.kind≠5),i.red/\i.kind≠5:=λi hi=>by
   obtain⟨h1,h2⟩:=List.mem_filter.mp hi
   exact⟨hr i h1,tC h2⟩
  have Nk:(is.filter λi=>decide (i.kind≠5)).length<=7:=fm (List.length_filter_le _ _) vr
  generalize (is.filter λi=>decide (i.kind≠5))=ps at NP Nk
  have V8:∀i∈ps,i.ok:=λi hi=>Iv.DX (NP i hi).1
  have CV:=Sub.put (o:=.list (ps.map Iv.v)) Gp
  have Dz:put K2 pl (.list (ps.map Iv.v)) pl=some (.list (ps.map Iv.v)):=ab _ _ _
  have Ei:=Ej.trans CV
  have yt:=C2 En CV
  show bf G none 14 (bB Q) (bc X) (kg.body.drop 11) ⟨[some (.ref sc),some (.ref cA),some (.ref lim),s3,s4,s5,some (.ref it),some (.int w),some (.ref r),some (.ref pl),none,none],put K2 pl (.list (ps.map Iv.v))⟩
  generalize put K2 pl (.list (ps.map Iv.v))=K1 at Dz Ei yt
  refine cW (by decide) (mJ p w2 Ru yt Dz V8 (by exact a10 0x18a802c4d81 tt Nk) λra rY=>?_)
  have uc:=Sub.put (o:=sL (fH w ps).rows) rY
  have nG:put K1 ra (sL (fH w ps).rows) ra=some (sL (fH w ps).rows):=ab _ _ _
  have sS:=Ei.trans uc
  have sU:=C2 yt uc
  have qo:=uc _ _ Dz
  show bf G none 14 (bB Q) (bc X) (kg.body.drop 12) ⟨[some (.ref sc),some (.ref cA),some (.ref lim),s3,s4,s5,some (.ref it),some (.int w),some (.ref r),some (.ref pl),some (.ref ra),none],put K1 ra (sL (fH w ps).rows)⟩
  generalize put K1 ra (sL (fH w ps).rows)=m at nG sS sU qo
  obtain⟨W0,q0⟩:=IK (w:=w) Ru V8 (λi hi=>(NP i hi).2) (by exact a10 0x18a802c4d81 tt Nk)
  refine Ga ?_
  refine MP rfl ?_
  refine uv ?_
  refine qk (i₀:=9) (n:=2) (src:=pl) (items:=ps) (f:=λi=>some (dW (i.kind,0))) rfl rfl qo (by exact a10 0x624f24102c4d81 tt Nk) rfl (λi us l' acc ys R X hu hl hz hR=>?_) λkr xu=>?_
  ·match us,hu with
   |[u,v],_=>exact⟨l2,ys,hl,by exact a10 0x644e05a93980b127a2781 tt hz,hR [some (.int i.kind),some i.val] rfl⟩
  have XS:ps.filterMap (λi=>some (dW (i.kind,0)))=(ps.map λi=>(i.kind,(0:Int))).map dW:=by
   rw[List.map_map,←List.filterMap_eq_map];rfl
  rw[XS]
  have ub:=Sub.put (o:=.list ((ps.map λi=>(i.kind,(0:Int))).map dW)) xu
  have XT:∀v∈ps.map λi=>(i.kind,(0:Int)),GF v:=λv hv=>by
   obtain⟨i,hi,rfl⟩:=List.mem_map.mp hv
   exact HX i
  refine cW (by decide) (AB p W0 q0 (C2 sU ub) XT (by rw[List.length_map];exact a10 0x624f44f02c4d81 tt Nk) (ab _ _ _) (ub _ _ nG) ?_)
  rw[B8 (λi hi=>(NP i hi).1) λi hi=>(NP i hi).2]
  intro c hc
  have ua:=ub.trans (Sub.put (o:=.list (ps.map Iv.val)) hc)
  have wa:put (put m kr (.list ((ps.map λi=>(i.kind,(0:Int))).map dW))) c (.list (ps.map Iv.val)) c=some (.list (ps.map Iv.val)):=ab _ _ _
  have v5:=ua _ _ qo
  have sT:=ua _ _ nG
  have sR:=sS.trans ua
  show bf G none 14 (bB Q) (bc X) (kg.body.drop 13) ⟨[some (.ref sc),some (.ref cA),some (.ref lim),s3,s4,s5,some (.ref it),some (.int w),some (.ref r),some (.ref pl),some (.ref ra),some (Nf c (fH w ps).rows.length)],put (put m kr (.list ((ps.map λi=>(i.kind,(0:Int))).map dW))) c (.list (ps.map Iv.val))⟩
  generalize put (put m kr (.list ((ps.map λi=>(i.kind,(0:Int))).map dW))) c (.list (ps.map Iv.val))=n at wa v5 sT sR
  refine M3 rfl ?_
  refine MQ ?_
  refine uv ?_
  refine qk (i₀:=9) (n:=2) (src:=pl) (items:=ps) (f:=λi=>some i.val) rfl rfl v5 (by exact a10 0x624f24102c4d81 tt Nk) rfl (λi us l' acc ys R X hu hl hz hR=>?_) λc' mY=>?_
  ·match us,hu with
   |[u,v],_=>exact⟨ys,hl,by exact a10 0x644e05a93980b127a2781 tt hz,hR [some (.int i.kind),some i.val] rfl⟩
  have Xx:ps.filterMap (λi=>some i.val)=ps.map Iv.val:=by rw[←List.filterMap_eq_map];rfl
  rw[Xx]
  have t9:=Sub.put (o:=.list (ps.map Iv.val)) mY
  refine fS (l:=(fH w ps).rows.map V.str) (t9 _ _ sT) ⟨l3,?_⟩
  rw[List.length_map]
  exact⟨vP (t9 _ _ wa) (ab _ _ _) (λv hv=>by obtain⟨i,_,rfl⟩:=List.mem_map.mp hv;exact i.flat),aa,sR.trans t9,q⟩
 show bf G none 14 (bB Q) (bc X) (kg.body.drop 5) ⟨[some (.ref sc),some (.ref cA),some (.ref lim),some (.str x),some (.ref kr),some (.ref ra),none,none,none,none,none,none],put lK ra (sL (bj 10 x))⟩
 generalize put lK ra (sL (bj 10 x))=YV at tP lh tS tR tQ
 refine cW (eR _) (AB p Sm r0 lh hw (by exact a10 0x624f44f02c4d01 tt Ah) tS tQ ?_)
 cases hE:ka (bj 10 x) wanted with
 |error k=>
  refine cW (by decide) (AA p Sm r0 rx lh hw (by exact a10 0x189d02c4d01 tt Ah) tS tQ ?_)
  rw[hE]
  exact⟨λ_=>rest _ _ _ _ tP lh tR,λh=>absurd rfl h⟩
 |ok y=>
  intro c hc
  have sc:=Sub.put (o:=.list y.1) hc
  refine cW (by decide) (AA p Sm r0 rx (lm lh λb o _ h=>sc b o h) hw (by exact a10 0x189d02c4d01 tt Ah) (sc _ _ tS) (sc _ _ tQ) ?_)
  rw[hE]
  intro c' mY
  have Rw:=Sub.put (o:=.list y.1) mY
  refine⟨vP (Rw _ _ (ab _ _ _)) (ab _ _ _) (B7 hE),?_⟩
  obtain⟨a,b,hp⟩:=tR
  exact rest _ _ _ _ ((tP.trans sc).trans Rw) (lm lh λb o _ h=>Rw b o (sc b o h)) ⟨a,b,Rw _ _ (sc _ _ hp)⟩
end
set_option tactic.hygienic true in
theorem FT {G:GC}(g:GB G){A:Around}{s:Shared}{f:Addr}{fn:Fn}{vs:List V}{cs:List Value}{af:Nat}(hf:cX G.K f fn=true)(hn:vs.length=fn.j8)(one:1<=af)
  (hX:G.K.In s.heap) (hC:G.C.In s.heap) (hT:Top G.p G.loose G.xI G.mg G.mb s.heap) (hg:s.gens=#[]) (ho:s.os=G.os) (tF:A.frames=some []) (RT:A.depth+(af+1)<recursionLimit) (SN:A.units+20*(af+1)<cLine) (hh:A.handled=none)
  (hv:aY G.C [] vs cs) (bX:List (Option V)) (bz:vs.map some++List.replicate (fn.names.length-vs.length) none=bX)
  (h:bf G none af (bB λv _=>v=.bool true) (bc λ_ _=>False) fn.body ⟨bX,λ_=>none⟩):
  codeAny (bT G) A (.call (.ref f) ⟨cs,[]⟩) (λr s'=>r=.ok (.ret (.bool true))/\(∀b o,s.heap.get? b=some o->s'.heap.get? b=some o)/\s'.gens=#[]/\s'.os=s.os) s:=by
 unfold cX at hf
 split at hf
 ·rename_i fd xw
  obtain⟨h1,h2,h3⟩:=cM hf
  obtain⟨b,iC,ck,hc⟩:=qe xw h1
  have up:∀b o,s.heap.get? b=some o->(hideAll s.heap (([]:Led).map (·.1))).get? b=some o:=λb o e=>hideAll_get _ e λm=>by cases m
  have Yc:=(A1 (G:=G) (hn▸h2) (beq_iff_eq.mp h3) iC.nm (hn▸iC.na)) s [] cs [] hX hv .nil
  obtain⟨Nr,SM,hb⟩:=Yc
  refine wd (D₀:=[]) (fo₀:=[]) (fr₀:=[]) (hd:=none) (aa:=λ_=>none) (af:=af) (hn▸iC) SM hb (λa o e=>up a o (hX a o e)) (λa o e=>up a o (hC a o e)) (hT.keeps up) (λp hp=>by cases hp) (by simp) (λa o e=>by cases e) (λa b d o o' e=>by cases e) (λp hp=>by cases hp) (λp hp=>by cases hp) (λe he=>by cases he) hg ho tF RT SN hh
   λF' L ak aI CM gZ Kl xO tH G6 DC m9 inD GO az=>?_
  have cx:Lv F' ⟨fn.names,fd.scope.names,true⟩:=by
   refine⟨Kl,by rw[xO];rfl,λ_ x hx=>?_⟩
   have e:=fe (hc x hx) (L+1)
   obtain⟨ca,e⟩:=Option.isSome_iff_exists.mp e
   have e':F'.env.cells.lookup x=some ca:=by rw[xO];exact e
   refine⟨ca,e',?_⟩
   rw[tH]
   exact List.mem_map_of_mem (f:=(·.2)) (mem_lookup e)
  rw[bz] at az
  refine dU (ik (Q:=bB λv _=>v=.bool true) (X:=bc λ_ _=>False) ⟨g,CM,cx,one⟩ fn.body b ⟨bX,λ_=>none⟩ ck (gZ.symm▸h) _ _ aI GO az) (λfl jD hb=>?_) λe jD he=>?_
  ·obtain⟨b,ru,bb,aG,aU,bL,aS⟩:=hb
   obtain⟨m,Fm,_⟩:=aG.fr
   have kp:∀b o,s.heap.get? b=some o->jD.heap.get? b=some o:=λb o e=>Fm.keep b o (by rw[DC];exact up b o e)
   have os:jD.os=s.os:=aG.os.trans ho.symm
   cases b with
   |ret v=>
    obtain⟨l,_,rfl⟩:=aS
    cases bL with
    |ret i=>
    cases iq i
    exact⟨rfl,kp,aG.gens,os⟩
   |next=>obtain⟨l,_,q⟩:=aS;cases q
   |brk=>exact aS.elim
   |cont=>exact aS.elim
  ·obtain⟨ex,ru,bb,aG,aU,_,l,_,q⟩:=he
   exact q.elim
 ·cases hf
theorem Mt:(defOf qv vf).isSome=true:=by kernel_rfl
noncomputable def dl:DefRec:=((defOf qv vf).get Mt).1
theorem AK:defOf qv vf=some (dl,[]):=by kernel_rfl
theorem Mu:pw.theDef vf=some (dl.params,dl.body,dl.scope):=by kernel_rfl
theorem Ms:kwWritten? dl.params.kwonlyargs dl.params.kw_defaults=some []:=by kernel_rfl
theorem Mr:dl.name=vf:=defOf_name AK
noncomputable def stays (h h':Heap):Prop:=∀b o,h.get? b=some o->h'.get? b=some o
set_option tactic.hygienic true in
theorem Ia {a:Nat}{o:Obj}:∀{l:List Obj}{i:Nat},(sq i l).lookup a=some o->i<=a/\l[a-i]?=some o/\∀k d sl,o≠⟨k,d,.freed,sl⟩:=by
 intro z_
 induction z_ with
 |nil=>
  intro i h
  cases h
 |cons p r ih=>
  intro i h
  unfold sq at h
  have tl:(sq (i+1) r).lookup a=some o->i<=a/\(p::r)[a-i]?=some o/\∀k d sl,o≠⟨k,d,.freed,sl⟩:=λh=>by
   obtain⟨h1,h2,h3⟩:=ih h
   refine⟨Nat.le_of_succ_le h1,?_,h3⟩
   rw[show a-i=(a-(i+1))+1 by rw[Nat.sub_add_eq,Nat.sub_add_cancel (Nat.sub_pos_of_lt h1)]]
   simpa using h2
  split at h
  ·exact tl h
  ·rename_i hf
   rw[List.lookup_cons] at h
   split at h
   ·rename_i e
    cases h
    have e:a=i:=beq_iff_eq.mp e
    subst e
    exact⟨eR _,by simp,λk d sl hk=>hf (by rw[hk])⟩
   ·exact tl h
set_option tactic.hygienic true in
theorem Q0 {s:Shared}{h:Heap}(st:stays s.heap h):(fK s).In h:=λa o e=>by
 obtain⟨_,h2,h3⟩:=Ia e
 refine st a o ?_
 unfold Heap.get?
 have h2:s.heap.objs[a]?=some o:=by rw[←Array.getElem?_toList];simpa using h2
 rw[h2]
 split
 ·rename_i k d sl hk;exact absurd (Option.some.inj hk) (h3 k d sl)
 ·rfl
theorem ql {a:Addr}{x:List (Addr×Obj)}:∀{l:List (Addr×Obj)},(l++x).lookup a=(l.lookup a).or (x.lookup a):=by
 intro z_
 induction z_ with
 |nil=>
  exact rfl
 |cons A8 r ih=>
  obtain⟨b,o⟩:=A8
  rw[List.cons_append,List.lookup_cons,List.lookup_cons]
  split
  ·rfl
  ·exact ih
theorem H3 {C:Frag}{cs:List Value}{ns:List Int}(h:IntsAre cs ns):aY C [] (ns.map V.int) cs:=by
 induction h with
 |nil=>exact .nil
 |cons n u _ ih=>exact .cons (.int n u) ih
theorem Fq {p q:Program}{w:World}{loose:List Str}{xI:ExcName->Option Value}{mg mb:Str->Option Value}{s aT:Shared}{fa sc:Addr}{cs:Array Value}{ns:List Int}(hx:xt aT=true)(rk:stays aT.heap s.heap)(T:Top q loose xI mg mb s.heap)(RQ:mg vf=some (.ref fa))(hg:s.gens=#[])
  (hL:s.heap.IsList sc cs) (hI:IntsAre cs.toList ns) (hn:cs.size<2^24):
  codeAny (model p w) callerA (.call (.ref fa) ⟨[.ref sc],[]⟩) (λr s'=>r=.ok (.ret (.bool true))/\(∀b o,s.heap.get? b=some o->s'.heap.get? b=some o)/\s'.gens=#[]/\s'.os=s.os) s:=by
 obtain⟨o,h1,h2,n,h3⟩:=hL
 obtain⟨x1,x2,x3⟩:=PO hx
 let G:GC:=⟨p,w,fK aT,fK aT++[(sc,o)],q,loose,xI,mg,mb,s.os⟩
 have hK:G.K.In s.heap:=Q0 rk
 have up:∀a o,G.K.lookup a=some o->G.C.lookup a=some o:=λa o e=>by
  show(fK aT++[(sc,_)]).lookup a=_
  rw[ql,show(fK aT).lookup a=some o from e];rfl
 obtain⟨pg,hf,hl⟩:=Qa (G:=G) up x1 x2 x3
 have hC:G.C.In s.heap:=λa o' e=>by
  change (fK aT++[(sc,o)]).lookup a=some o' at e
  rw[ql] at e
  cases hq:(fK aT).lookup a with
  |some u=>rw[hq] at e;cases e;exact hK a _ hq
  |none=>
   rw[hq] at e
   change ([(sc,o)]:List (Addr×Obj)).lookup a=some o' at e
   rw[List.lookup_cons] at e
   split at e
   ·rename_i k;cases e;rw[beq_iff_eq.mp k];exact h1
   ·cases e
 have XE:G.C.lookup sc=some o:=by
  show(fK aT++[(sc,o)]).lookup sc=_
  rw[ql]
  cases hq:(fK aT).lookup sc with
  |some u=>have:=hK sc u hq;rw[h1] at this;rw[this];rfl
  |none=>show([(sc,o)]:List (Addr×Obj)).lookup sc=_;rw[List.lookup_cons,beq_self_eq_true]
 have hz:Z G "law"=fa:=by
  have:=mg_of hK T.g hl
  rw[show mg "law"=some (.ref fa) from RQ] at this
  cases this;rfl
 rw[hz] at hf
 refine FT (G:=G) (vs:=[.ref sc]) (af:=14) pg.g hf rfl (by decide) hK hC T hg rfl rfl (by decide) (by decide) rfl (.cons (.ref sc) .nil) [some (.ref sc),none,none,none,none,none,none,none,none,none,none,none] rfl ?_
 exact P5 pg (script:=ns) (.inr ⟨o,cs,n,XE,h2,h3,H3 hI,hn⟩) rfl
set_option tactic.hygienic true in
theorem tryit:PySem.Challenge.rw_no0270_01.Holds:=by
 w_on;refine holds_law ws λTH=>?_
 refine PySem.W.holds_open (q:=qv) (loose:=lo) (Xt:=xt) (XP:=λ_ h=>∃KC:Shared,xt KC=true/\stays KC.heap h) (Yf:=λ_=>()) (Ya:=λ_=>()) (YP:=λ_ _=>True) (N:=8000) left (λ_ _ _=>trivial) (λ_ _ _ _ _=>trivial) (λs h=>⟨s,h,λ_ _ e=>e⟩) (λ_ _ _ ⟨s,h1,h2⟩ k=>⟨s,h1,λb o e=>k b o (h2 b o e)⟩) (d:=dl) (kwd:=[]) AK Mu Ms ?hRf rfl TH ?ok ?hb ?hw ?hc
 case hRf=>exact λs _=>recFacts_of rfl
 case ok=>kernel_rfl
 case hb=>exact⟨rfl,rfl,rfl,rfl,rfl,by decide+kernel⟩
 case hw=>w_witness2
 case hc=>
  intro w KC ak mg mb Gd Y fa o pm cd doc dV kV ho hd xC hD RQ hg args vals as pL Us XH RM Km
  obtain⟨aT,hx,rk⟩:=Gd.X
  have T:=Gd.T
  rw[Mr] at RQ
  clear hD
  wrow_args pL Us XH RM Km
  all_goals refine enter_call ?_
  rename_i ns _ _ _ _ _ _ _ sc cs _ hL _ _ _ hI _ hlen _
  have V6:cs.length=ns.length:=hI.length
  refine codeAny_mono (Fq hx rk T RQ hg hL (by simpa using hI) (by rw[o4];omega)) λr s' h=>?_
  obtain⟨rfl,h1,h2,h3⟩:=h
  refine⟨.inl ⟨.bool true,ofPy (.bool true),[],rfl,λ_=>rfl,?_,?_,?_⟩,.of_keep h1,h3,.of_eq h2⟩
  ·exact readsW_of_reads (.bool true)
  ·kernel_rfl
  ·exact λ_=>⟨List.nodup_nil,λa ha=>by cases ha⟩
end Mine
end
theorem PySem.Challenge.cw_no0270_01_holds : PySem.Challenge.rw_no0270_01.Holds :=
 Mine.tryit
