import PyProof.Rows.All
import Wide.All
import OpenK.AllK
import Wide.FinOn
import Lean
import PySem.Challenge.RW_tu0009_01
set_option genInjectivity false
set_option genSizeOf false
set_option Elab.async false
set_option linter.all false
set_option maxRecDepth 100000
set_option tactic.hygienic false
open List renaming range→aaa,length_nil→aae,length_cons→aaf,mem_singleton→aah,mem_cons→aai,mem_append→aaj,mem_map→aak,mem_filter→aal,mem_flatMap→aam,length_append→aap,length_map→aaq,mem_range→aar,getElem?_eq_none→aas,getElem?_append_left→aat,lookup_cons→aau,prefix_refl→aav,length_singleton→aax,prefix_append→aay,getElem?_set_self→aaA,getElem?_set_ne→aaB,getElem?_eq_getElem→aaD,getElem?_map→aaE,isEmpty_iff→aaH,size_toArray→aaJ,length_take→aaO,length_drop→aaP,take_of_length_le→aaU,zip_cons_cons→aaW,map_cons→aaX,getD_eq_getElem?_getD→aaY,nil_append→aa3,all_eq_true→aa4,cons_append→aa6,append_assoc→aa7,map_congr_left→aa9,map_map→aba,append_nil→abb,nodup_cons→abc,contains_iff_mem→abd,reverse_cons→abe,length_reverse→abf,flatMap_cons→abg,not_mem_nil→abh,mem_of_getElem?→abj,map_append→abk,take_append_drop→abl,foldl_cons→abm,map_nil→abo,replicate→abq,sum_cons→abr,getElem?_append_right→abt,range'→abu,range'_succ→abv,length_range→abw,range_succ→abx,mem_range'_1→aby,length_range'→abz,getD_cons_succ→abA,length_filter_le→abB,flatMap_append→abC
open Int renaming zero_add→aab,add_zero→aac
open Nat renaming not_lt_zero→aad,lt_irrefl→aaz,le_trans→aaK,le_refl→aaS,zero_le→aaT
open Option.some renaming inj→aag
open Bool renaming and_eq_true→aan,false_ne_true→aaG,and_eq_true_iff→abi,and_self→abn
open Nat.succ renaming inj→aao
open PySem.Heap renaming get?_push_of_some→aaw,lt_size→aaI,get?_push_size→aaL,size_push→aaV
open Option renaming some→aaC,getD_some→abp
open PySem.SeqAt renaming shaped→aaF
open PySem.Builtin.Slice renaming sliceAdjust→aaM,slicePlaces→aaN
open PySem.Str renaming ofString→aaQ
open PySem.Builtin.Tuple renaming tupleExact→aaR
open PySem.W renaming listOf→aaZ
open ForInStep renaming yield→aa0
open PySem.Keeper renaming machine→aa1,boundFrame→aa2
open PySem.Builtin.Range renaming rangeSize→aa5
open PySem.NameKind renaming free→aa8
open PySem.Obj renaming mk→abD
open PySem.Data renaming plain→abE,cls→abF
open PySem.ClassData renaming mk→abG
open PySem.Pos renaming mk→abH
open PySem.W.Fast renaming te14364793385576792824→abI,te10110043849684766642→abJ,te12563942051412417395→abK,te17119622794617984870→abL
open PySem PySem.W PyProof.Rows
namespace Mine
inductive LN|v(i:Nat)|k (n:Nat)|a (x y:LN)|m (x y:LN)
inductive LZ|v(i:Nat)|k (n:Int)|a (x y:LZ)|s (x y:LZ)|m (x y:LZ)|g (x:LZ)|c (x:LN)
inductive LP|n(o:Nat)(x y:LN)|z (o:Nat) (x y:LZ)|a (p q:LP)|o (p q:LP)|no (p:LP)|f
noncomputable def F0:List Nat->Nat->Nat
 |[],_=>0
 |x::l,i=>match i with
  |0=>x
  |i+1=>F0 l i
noncomputable def F9:List Int->Nat->Int
 |[],_=>0
 |x::l,i=>match i with
  |0=>x
  |i+1=>F9 l i
noncomputable def LN.den(u:List Nat):LN->Nat
 | .v i=>F0 u i
 | .k n=>n
 | .a x y=>x.den u+y.den u
 | .m x y=>x.den u*y.den u
noncomputable def LZ.den(u:List Nat)(z:List Int):LZ->Int
 | .v i=>F9 z i
 | .k n=>n
 | .a x y=>x.den u z+y.den u z
 | .s x y=>x.den u z-y.den u z
 | .m x y=>x.den u z*y.den u z
 | .g x=> -x.den u z
 | .c x=>(x.den u:Int)
noncomputable def LP.den(u:List Nat)(z:List Int):LP->Prop
 | .n w x y=>match w with
  |0=>x.den u<=y.den u
  |1=>x.den u<y.den u
  |_=>x.den u=y.den u
 | .z w x y=>match w with
  |0=>x.den u z<=y.den u z
  |1=>x.den u z<y.den u z
  |_=>x.den u z=y.den u z
 | .a p q=>p.den u z/\q.den u z
 | .o p q=>p.den u z\/q.den u z
 | .no p=>¬p.den u z
 | .f=>False
noncomputable abbrev g9:=Int×List Int
noncomputable def yB:List Int->List Int->List Int
 |[],l=>l
 |x::l,r=>match r with
  |[]=>x::l
  |y::r=>(x+y)::yB l r
noncomputable def JY(c:Int)(l:List Int):List Int:=l.map (c*·)
noncomputable def qU(p q:g9):g9:=(p.1+q.1,yB p.2 q.2)
noncomputable def yt(c:Int)(p:g9):g9:=(c*p.1,JY c p.2)
noncomputable def oJ:Nat->List Int
 |0=>[1]
 |i+1=>0::oJ i
noncomputable def n0:List Int->List Int->Int
 |[],_=>0
 |c::l,w=>match w with
  |[]=>0
  |x::w=>c*x+n0 l w
noncomputable def Ek(p q:g9):Option g9:=match p.2 with
 |[]=>some (yt p.1 q)
 |_=>match q.2 with
  |[]=>some (yt q.1 p)
  |_=>none
noncomputable def xw(f:g9->g9->Option g9)(a b:Option g9):Option g9:=a.bind λp=>b.bind λq=>f p q
noncomputable def LN.lin(nu:Nat):LN->Option g9
 | .v i=>if Nat.blt i nu then some (0,oJ i) else none
 | .k n=>some (n,[])
 | .a x y=>xw (λp q=>some (qU p q)) (x.lin nu) (y.lin nu)
 | .m x y=>xw Ek (x.lin nu) (y.lin nu)
noncomputable def LZ.lin(nu:Nat):LZ->Option g9
 | .v i=>some (0,oJ (nu+i))
 | .k n=>some (n,[])
 | .a x y=>xw (λp q=>some (qU p q)) (x.lin nu) (y.lin nu)
 | .s x y=>xw (λp q=>some (qU p (yt (-1) q))) (x.lin nu) (y.lin nu)
 | .m x y=>xw Ek (x.lin nu) (y.lin nu)
 | .g x=>(x.lin nu).map (yt (-1))
 | .c x=>x.lin nu
noncomputable def rows(o:Nat)(a b:g9):List g9:=match o with
 |0=>[qU b (yt (-1) a)]
 |1=>[qU (qU b (yt (-1) a)) (-1,[])]
 |_=>[qU b (yt (-1) a),qU a (yt (-1) b)]
noncomputable def El(o:Nat)(a b:Option g9):List g9:=match a with
 |none=>[]
 |some a=>match b with
  |none=>[]
  |some b=>rows o a b
noncomputable def yu:List Int->Int
 |[]=>0
 |x::_=>x
noncomputable def Ln(p q:g9):g9:=qU (yt (-(yu q.2)) (p.1,p.2.tail)) (yt (yu p.2) (q.1,q.2.tail))
noncomputable def n3(l:List g9):List g9:=
 (l.filter λr=>yu r.2==0).map (λr=>(r.1,r.2.tail))++
 (l.filter λr=>decide (0<yu r.2)).flatMap λp=>(l.filter λr=>decide (yu r.2<0)).map λq=>Ln p q
noncomputable def fm:Nat->List g9->Bool
 |0,l=>l.any λr=>decide (r.1<0)
 |n+1,l=>l.any (λr=>r.2.all (·==0)&&decide (r.1<0))||fm n (n3 l)
noncomputable def Em(nu:Nat):List g9:=(aaa nu).map λi=>(0,oJ i)
noncomputable def go(nu nz:Nat):Nat->List LP->List g9->Bool
 |0,_,_=>false
 |k+1,t,r=>match t with
  |[]=>fm (nu+nz) r
  |p::t=>match p with
   | .n o x y=>go nu nz k t (El o (x.lin nu) (y.lin nu)++r)
   | .z o x y=>go nu nz k t (El o (x.lin nu) (y.lin nu)++r)
   | .a p q=>go nu nz k (p::q::t) r
   | .o p q=>go nu nz k (p::t) r&&go nu nz k (q::t) r
   | .f=>true
   | .no p=>match p with
    | .n o x y=>match o with
     |0=>go nu nz k (.n 1 y x::t) r
     |1=>go nu nz k (.n 0 y x::t) r
     |_=>go nu nz k (.n 1 x y::t) r&&go nu nz k (.n 1 y x::t) r
    | .z o x y=>match o with
     |0=>go nu nz k (.z 1 y x::t) r
     |1=>go nu nz k (.z 0 y x::t) r
     |_=>go nu nz k (.z 1 x y::t) r&&go nu nz k (.z 1 y x::t) r
    | .a p q=>go nu nz k (.no p::t) r&&go nu nz k (.no q::t) r
    | .o p q=>go nu nz k (.no p:: .no q::t) r
    | .no p=>go nu nz k (p::t) r
    | .f=>go nu nz k t r
noncomputable def yC(nu nz:Nat)(t:List LP)(g:LP):Bool:=go nu nz 99 (.no g::t) (Em nu)
theorem BK(l r w:List Int):n0 (yB l r) w=n0 l w+n0 r w:=by
 induction l generalizing r w with
 |nil=>exact(aab _).symm
 |cons x l ih=>
  cases r with
  |nil=>exact(aac _).symm
  |cons y r=>
   cases w with
   |nil=>rfl
   |cons z w=>
    show(x+y)*z+n0 (yB l r) w=x*z+n0 l w+(y*z+n0 r w)
    rw[ih,Int.add_mul];simp only[Int.add_assoc,Int.add_left_comm]
theorem En(c:Int)(l w:List Int):n0 (JY c l) w=c*n0 l w:=by
 induction l generalizing w with
 |nil=>exact(Int.mul_zero _).symm
 |cons x l ih=>
  cases w with
  |nil=>exact(Int.mul_zero _).symm
  |cons z w=>
   show c*x*z+n0 (JY c l) w=c*(x*z+n0 l w)
   rw[ih,Int.mul_add,Int.mul_assoc]
theorem yD(l:List Int)(x:Int)(w:List Int):n0 l (x::w)=yu l*x+n0 l.tail w:=by
 cases l with
 |nil=>show(0:Int)=0*x+0;rw[Int.zero_mul];rfl
 |cons=>rfl
theorem wl(l:List Int):n0 l []=0:=by cases l<;>rfl
noncomputable def kg(p:g9)(w:List Int):Int:=p.1+n0 p.2 w
theorem gu(p q:g9)(w:List Int):kg (qU p q) w=kg p w+kg q w:=by
 show p.1+q.1+n0 (yB p.2 q.2) w=_
 rw[BK,kg,kg];simp only[Int.add_assoc,Int.add_left_comm]
theorem oK(c:Int)(p:g9)(w:List Int):kg (yt c p) w=c*kg p w:=by
 show c*p.1+n0 (JY c p.2) w=_
 rw[En,kg,Int.mul_add]
theorem kh(p:g9)(w:List Int):kg (yt (-1) p) w= -kg p w:=by rw[oK,Int.neg_mul,Int.one_mul]
noncomputable def Dr(u:List Nat)(z:List Int):List Int:=u.map Int.ofNat++z
theorem yE(u:List Nat)(z:List Int)(i:Nat)(h:i<u.length):n0 (oJ i) (Dr u z)=(F0 u i:Int):=by
 induction u generalizing i with
 |nil=>exact absurd h (aad _)
 |cons x u ih=>
  cases i with
  |zero=>show 1*(x:Int)+0=x;rw[Int.one_mul,aac]
  |succ i=>
   show 0*(x:Int)+n0 (oJ i) (Dr u z)=F0 u i
   rw[ih _ (Nat.lt_of_succ_lt_succ h),Int.zero_mul,aab]
theorem Eo(z:List Int)(i:Nat):n0 (oJ i) z=F9 z i:=by
 induction z generalizing i with
 |nil=>exact wl _
 |cons x z ih=>
  cases i with
  |zero=>show 1*x+0=x;rw[Int.one_mul,aac]
  |succ i=>show 0*x+n0 (oJ i) z=F9 z i;rw[ih,Int.zero_mul,aab]
theorem Ep(u:List Nat)(z:List Int)(i:Nat):n0 (oJ (u.length+i)) (Dr u z)=F9 z i:=by
 induction u with
 |nil=>rw[aae,Nat.zero_add];exact Eo z i
 |cons x u ih=>
  rw[aaf,Nat.succ_add]
  show 0*(x:Int)+n0 (oJ (u.length+i)) (Dr u z)=_
  rw[ih,Int.zero_mul,aab]
theorem yF{α β:Type}{o:Option α}{f:α->Option β}{y:β}(h:o.bind f=some y):∃x,o=some x/\f x=some y:=by
 cases o with
 |none=>cases h
 |some x=>exact⟨x,rfl,h⟩
theorem iF{f:g9->g9->Option g9}{a b:Option g9}{r:g9}(h:xw f a b=some r):∃p q,a=some p/\b=some q/\f p q=some r:=by
 obtain⟨p,h1,h⟩:=yF h
 obtain⟨q,h2,h⟩:=yF h
 exact⟨p,q,h1,h2,h⟩
theorem wm{p q r:g9}(w:List Int)(h:Ek p q=some r):kg r w=kg p w*kg q w:=by
 obtain⟨a,l⟩:=p
 obtain⟨b,m⟩:=q
 cases l with
 |nil=>
  cases aag h
  rw[oK]
  show a*_=(a+0)*_
  rw[aac]
 |cons x l=>
  cases m with
  |nil=>
   cases aag h
   rw[oK,Int.mul_comm]
   show _=_*(b+0)
   rw[aac]
  |cons=>cases h
theorem LN.lin_ok(u:List Nat)(z:List Int)(e:LN){r:g9}(h:e.lin u.length=some r):kg r (Dr u z)=(e.den u:Int):=by
 induction e generalizing r with
 |v i=>
  have h:(if Nat.blt i u.length then some ((0:Int),oJ i) else none)=some r:=h
  by_cases k:Nat.blt i u.length=true
  ·rw[if_pos k] at h
   cases aag h
   exact(aab _).trans (yE u z i (Nat.le_of_ble_eq_true k))
  ·rw[if_neg k] at h;cases h
 |k n=>cases aag h;exact aac _
 |a x y i j=>
  obtain⟨p,q,h1,h2,h3⟩:=iF h
  cases aag h3
  rw[gu,i h1,j h2];rfl
 |m x y i j=>
  obtain⟨p,q,h1,h2,h3⟩:=iF h
  rw[wm _ h3,i h1,j h2];rfl
theorem LZ.lin_ok(u:List Nat)(z:List Int)(e:LZ){r:g9}(h:e.lin u.length=some r):kg r (Dr u z)=e.den u z:=by
 induction e generalizing r with
 |v i=>cases aag h;exact(aab _).trans (Ep u z i)
 |k n=>cases aag h;exact aac _
 |a x y i j=>
  obtain⟨p,q,h1,h2,h3⟩:=iF h
  cases aag h3
  rw[gu,i h1,j h2];rfl
 |s x y i j=>
  obtain⟨p,q,h1,h2,h3⟩:=iF h
  cases aag h3
  rw[gu,kh,i h1,j h2];rfl
 |m x y i j=>
  obtain⟨p,q,h1,h2,h3⟩:=iF h
  rw[wm _ h3,i h1,j h2];rfl
 |g x i=>
  obtain⟨p,h1,h3⟩:=yF (Option.map_eq_bind.symm.trans h)
  cases aag h3
  rw[kh,i h1];rfl
 |c x=>exact LN.lin_ok u z x h
noncomputable def BG(w:List Int)(l:List g9):Prop:=∀r,r∈l->0<=kg r w
theorem Er{a b:Int}(h:a<=b):0<=b+ -a:=Int.sub_nonneg_of_le h
theorem BL{w:List Int}{o:Nat}{a b:g9}(h:match o with|0=>kg a w<=kg b w|1=>kg a w<kg b w|_=>kg a w=kg b w):BG w (rows o a b):=by
 match o,h with
 |0,h=>
  intro r m
  cases aah.mp m
  rw[gu,kh];exact Er h
 |1,h=>
  intro r m
  cases aah.mp m
  rw[gu,gu,kh]
  have:kg ((-1:Int),[]) w= -1:=rfl
  rw[this]
  have h:kg a w<kg b w:=h
  exact Int.sub_nonneg_of_le (Int.le_sub_left_of_add_le h)
 |n+2,h=>
  intro r m
  rcases aai.mp m with rfl|m
  ·rw[gu,kh];exact Er (Int.le_of_eq h)
  ·cases aah.mp m
   rw[gu,kh];exact Er (Int.le_of_eq (Eq.symm h))
theorem BG.app{w:List Int}{a b:List g9}(h:BG w a)(k:BG w b):BG w (a++b):=λr m=>(aaj.mp m).elim (h r) (k r)
theorem wn{w:List Int}{o:Nat}{a b:Option g9}{x y:Int}(ha:∀r,a=some r->kg r w=x)(hb:∀r,b=some r->kg r w=y)(h:match o with|0=>x<=y|1=>x<y|_=>x=y):BG w (El o a b):=by
 cases a with
 |none=>intro r m;cases m
 |some a=>
  cases b with
  |none=>intro r m;cases m
  |some b=>
   have e1:=ha a rfl
   have e2:=hb b rfl
   subst e1 e2
   exact BL h
theorem BM{x:Int}{w:List Int}{l:List g9}(h:BG (x::w) l):BG w (n3 l):=by
 intro r m
 have tl:∀q:g9,kg q (x::w)=kg (q.1,q.2.tail) w+yu q.2*x:=λq=>by
  rw[kg,kg,yD,Int.add_comm (yu q.2*x),Int.add_assoc]
 rcases aaj.mp m with m|m
 ·obtain⟨q,hq,rfl⟩:=aak.mp m
  obtain⟨h1,h2⟩:=aal.mp hq
  have:=h q h1
  rw[tl,beq_iff_eq.mp h2,Int.zero_mul,aac] at this
  exact this
 ·obtain⟨p,hp,m⟩:=aam.mp m
  obtain⟨q,hq,rfl⟩:=aak.mp m
  obtain⟨p1,p2⟩:=aal.mp hp
  obtain⟨q1,q2⟩:=aal.mp hq
  have p3:=of_decide_eq_true p2
  have q3:=of_decide_eq_true q2
  have a:=Int.mul_nonneg (Int.neg_nonneg_of_nonpos (Int.le_of_lt q3)) (h p p1)
  have b:=Int.mul_nonneg (Int.le_of_lt p3) (h q q1)
  have c:=Int.add_nonneg a b
  rw[tl,tl,Int.mul_add,Int.mul_add] at c
  rw[Ln,gu,oK,oK]
  have e: -yu q.2*(yu p.2*x)= -(yu p.2*(yu q.2*x)):=by rw[Int.neg_mul,Int.mul_left_comm]
  rw[e] at c
  have f:∀A B C:Int,A+ -B+(C+B)=A+C:=λA B C=>by rw[Int.add_comm C B,Int.add_assoc,<-Int.add_assoc (-B),Int.add_left_neg,aab]
  rw[f] at c
  exact c
theorem Ga(n:Nat){l:List g9}{w:List Int}(hw:w.length=n)(h:fm n l=true)(s:BG w l):False:=by
 have z0:∀(l:List Int)(w:List Int),l.all (·==0)=true->n0 l w=0:=by
  intro l
  induction l with
  |nil=>intro w _;rfl
  |cons c l ih=>
   intro w e
   cases w with
   |nil=>rfl
   |cons x w=>
    rw[List.all_cons,aan] at e
    show c*x+n0 l w=0
    rw[beq_iff_eq.mp e.1,ih w e.2,Int.zero_mul];rfl
 induction n generalizing l w with
 |zero=>
  obtain⟨r,m,e⟩:=List.any_eq_true.mp h
  have:=s r m
  rw[List.length_eq_zero_iff.mp hw,kg,wl,aac] at this
  exact Int.not_lt.mpr this (of_decide_eq_true e)
 |succ n ih=>
  rcases(Bool.or_eq_true _ _).mp h with h|h
  ·obtain⟨r,m,e⟩:=List.any_eq_true.mp h
   rw[aan] at e
   have:=s r m
   rw[kg,z0 _ _ e.1,aac] at this
   exact Int.not_lt.mpr this (of_decide_eq_true e.2)
  ·cases w with
   |nil=>cases hw
   |cons x w=>exact ih (aao hw) h (BM s)
noncomputable def Gb(u:List Nat)(z:List Int):List LP->Prop
 |[]=>True
 |p::t=>p.den u z/\Gb u z t
theorem Gc{u:List Nat}{z:List Int}(k:Nat){t:List LP}{r:List g9}(h:go u.length z.length k t r=true)(s:BG (Dr u z) r)(a:Gb u z t):False:=by
 induction k generalizing t r with
 |zero=>cases h
 |succ k ih=>
  cases t with
  |nil=>exact Ga _ (by rw[Dr,aap,aaq]) h s
  |cons p t=>
   obtain⟨d,a⟩:=a
   have two:∀{t1 t2:List LP},(go u.length z.length k t1 r&&go u.length z.length k t2 r)=true->Gb u z t1\/Gb u z t2->False:=λe o=>by
    rw[aan] at e
    exact o.elim (ih e.1 s) (ih e.2 s)
   cases p with
   |n o x y=>
    refine ih h ((wn (λ_=>LN.lin_ok u z x) (λ_=>LN.lin_ok u z y) ?_).app s) a
    match o,d with
    |0,d=>exact Int.ofNat_le.mpr d
    |1,d=>exact Int.ofNat_lt.mpr d
    |n+2,d=>exact congrArg Nat.cast d
   |z o x y=>exact ih h ((wn (λ_=>LZ.lin_ok u z x) (λ_=>LZ.lin_ok u z y) d).app s) a
   |a p q=>exact ih h s ⟨d.1,d.2,a⟩
   |o p q=>exact two h (d.imp (λd=>⟨d,a⟩) λd=>⟨d,a⟩)
   |f=>exact(show False from d)
   |no p=>
    cases p with
    |n o x y=>
     match o,h,d with
     |0,h,d=>exact ih h s ⟨Nat.lt_of_not_le d,a⟩
     |1,h,d=>exact ih h s ⟨Nat.le_of_not_lt d,a⟩
     |n+2,h,d=>exact two h ((Nat.lt_or_gt_of_ne d).imp (λd=>⟨d,a⟩) λd=>⟨d,a⟩)
    |z o x y=>
     match o,h,d with
     |0,h,d=>exact ih h s ⟨Int.lt_of_not_ge d,a⟩
     |1,h,d=>exact ih h s ⟨Int.not_lt.mp d,a⟩
     |n+2,h,d=>exact two h ((Int.lt_or_gt_of_ne d).imp (λd=>⟨d,a⟩) λd=>⟨d,a⟩)
    |a p q=>exact two h ((Classical.not_and_iff_not_or_not.mp d).imp (λd=>⟨d,a⟩) λd=>⟨d,a⟩)
    |o p q=>exact ih h s ⟨λe=>d (.inl e),λe=>d (.inr e),a⟩
    |no p=>exact ih h s ⟨Classical.not_not.mp d,a⟩
    |f=>exact ih h s a
theorem iy{u:List Nat}{z:List Int}{t:List LP}{g:LP}(h:yC u.length z.length t g=true)(a:Gb u z t):g.den u z:=by
 refine Classical.byContradiction λn=>Gc 99 h (λr m=> ?_) ⟨n,a⟩
 obtain⟨i,hi,rfl⟩:=aak.mp m
 rw[kg,yE u z i (aar.mp hi)]
 exact(aab _).symm▸Int.natCast_nonneg _
noncomputable def Lo:List Nat:=[0,1,2,900,4,1000,3,1073741823,2600,60,400,25000,5000,5,10930,26,300,8,7230584,10,999,10530,46800,4611686018427387904,9223372036854775808,30,12,70,50,16777216,800,41,110,90,100,40,7000000,4194304,10931,9,20,15,6,49,11,626,1278,2582,1290,1001,18446744073709551616,53,2300000,2147483647,64,297,120,205,29,998,899]
noncomputable def qT(n:Nat):Nat:=n.mod 90
noncomputable def qX(n:Nat):Nat:=n.div 90
noncomputable def qN{β:Type}:Nat->Nat->(LN->Nat->β)->β
 |0,n,k=>k (.k 0) n
 |f+1,n,k=>match qT n with
  |0=>qN f (qX n) λx r=>qN f r λy r=>k (.a x y) r
  |1=>qN f (qX n) λx r=>qN f r λy r=>k (.m x y) r
  |t+2=>match Nat.blt t 12 with
   |true=>k (.v t) (qX n)
   |false=>k (.k (F0 Lo (t.sub 12))) (qX n)
noncomputable def qZ{β:Type}:Nat->Nat->(LZ->Nat->β)->β
 |0,n,k=>k (.k 0) n
 |f+1,n,k=>match qT n with
  |0=>qZ f (qX n) λx r=>qZ f r λy r=>k (.a x y) r
  |1=>qZ f (qX n) λx r=>qZ f r λy r=>k (.s x y) r
  |2=>qZ f (qX n) λx r=>qZ f r λy r=>k (.m x y) r
  |3=>qZ f (qX n) λx r=>k (.g x) r
  |4=>qN f (qX n) λx r=>k (.c x) r
  |t+5=>match Nat.blt t 12 with
   |true=>k (.v t) (qX n)
   |false=>k (.k (F0 Lo (t.sub 12))) (qX n)
noncomputable def qP{β:Type}:Nat->Nat->(LP->Nat->β)->β
 |0,n,k=>k .f n
 |f+1,n,k=>match qT n with
  |0=>qN f (qX n) λx r=>qN f r λy r=>k (.n 0 x y) r
  |1=>qN f (qX n) λx r=>qN f r λy r=>k (.n 1 x y) r
  |2=>qN f (qX n) λx r=>qN f r λy r=>k (.n 2 x y) r
  |3=>qZ f (qX n) λx r=>qZ f r λy r=>k (.z 0 x y) r
  |4=>qZ f (qX n) λx r=>qZ f r λy r=>k (.z 1 x y) r
  |5=>qZ f (qX n) λx r=>qZ f r λy r=>k (.z 2 x y) r
  |6=>qP f (qX n) λx r=>qP f r λy r=>k (.a x y) r
  |7=>qP f (qX n) λx r=>qP f r λy r=>k (.o x y) r
  |8=>qP f (qX n) λx r=>k (.no x) r
  |_=>k .f n
noncomputable def qI:Nat->Nat->LP
 |0,n=>qP 50 n λp _=>p
 |i+1,n=>qP 50 n λ_ r=>qI i r
theorem su(a b:Nat):(b<=a/\a=a-b+b)\/(a<=b/\a-b=0):=(Nat.le_total b a).imp (λh=>⟨h,(Nat.sub_add_cancel h).symm⟩) λh=>⟨h,Nat.sub_eq_zero_of_le h⟩
theorem tn(x:Int):(0<=x/\(x.toNat:Int)=x)\/(x<=0/\x.toNat=0):=(Int.le_total 0 x).imp (λh=>⟨h,Int.toNat_of_nonneg h⟩) λh=>⟨h,Int.toNat_of_nonpos h⟩
theorem na(x:Int):(0<=x/\(x.natAbs:Int)=x)\/(x<=0/\(x.natAbs:Int)= -x):=(Int.le_total 0 x).imp (λh=>⟨h,Int.natAbs_of_nonneg h⟩) λh=>⟨h,Int.ofNat_natAbs_of_nonpos h⟩
theorem mn(a b:Nat):(a<=b/\min a b=a)\/(b<=a/\min a b=b):=(Nat.le_total a b).imp (λh=>⟨h,Nat.min_eq_left h⟩) λh=>⟨h,Nat.min_eq_right h⟩
theorem L5(a b:Nat):(a<=b/\max a b=b)\/(b<=a/\max a b=a):=(Nat.le_total a b).imp (λh=>⟨h,Nat.max_eq_right h⟩) λh=>⟨h,Nat.max_eq_left h⟩
theorem Lp(a b:Int):(a<=b/\min a b=a)\/(b<=a/\min a b=b):=(Int.le_total a b).imp (λh=>⟨h,Int.min_eq_left h⟩) λh=>⟨h,Int.min_eq_right h⟩
theorem L6(a b:Int):(a<=b/\max a b=b)\/(b<=a/\max a b=a):=(Int.le_total a b).imp (λh=>⟨h,Int.max_eq_right h⟩) λh=>⟨h,Int.max_eq_left h⟩
theorem dk(n:Nat)(u:List Nat)(z:List Int)(c:yC u.length z.length [] (qI 0 n)=true:=by kernel_rfl):(qI 0 n).den u z:=iy c trivial
theorem ad(n:Nat)(u:List Nat)(z:List Int)(h0:(qI 0 n).den u z)(c:yC u.length z.length [qI 0 n] (qI 1 n)=true:=by kernel_rfl):(qI 1 n).den u z:=iy c ⟨h0,trivial⟩
theorem av(n:Nat)(u:List Nat)(z:List Int)(h0:(qI 0 n).den u z)(h1:(qI 1 n).den u z)(c:yC u.length z.length [qI 0 n,qI 1 n] (qI 2 n)=true:=by kernel_rfl):(qI 2 n).den u z:=iy c ⟨h0,h1,trivial⟩
theorem dX(n:Nat)(u:List Nat)(z:List Int)(h0:(qI 0 n).den u z)(h1:(qI 1 n).den u z)(h2:(qI 2 n).den u z)(c:yC u.length z.length [qI 0 n,qI 1 n,qI 2 n] (qI 3 n)=true:=by kernel_rfl):(qI 3 n).den u z:=iy c ⟨h0,h1,h2,trivial⟩
theorem tX(n:Nat)(u:List Nat)(z:List Int)(h0:(qI 0 n).den u z)(h1:(qI 1 n).den u z)(h2:(qI 2 n).den u z)(h3:(qI 3 n).den u z)(c:yC u.length z.length [qI 0 n,qI 1 n,qI 2 n,qI 3 n] (qI 4 n)=true:=by kernel_rfl):(qI 4 n).den u z:=iy c ⟨h0,h1,h2,h3,trivial⟩
theorem yv(n:Nat)(u:List Nat)(z:List Int)(h0:(qI 0 n).den u z)(h1:(qI 1 n).den u z)(h2:(qI 2 n).den u z)(h3:(qI 3 n).den u z)(h4:(qI 4 n).den u z)(c:yC u.length z.length [qI 0 n,qI 1 n,qI 2 n,qI 3 n,qI 4 n] (qI 5 n)=true:=by kernel_rfl):(qI 5 n).den u z:=iy c ⟨h0,h1,h2,h3,h4,trivial⟩
theorem Kc(n:Nat)(u:List Nat)(z:List Int)(h0:(qI 0 n).den u z)(h1:(qI 1 n).den u z)(h2:(qI 2 n).den u z)(h3:(qI 3 n).den u z)(h4:(qI 4 n).den u z)(h5:(qI 5 n).den u z)(c:yC u.length z.length [qI 0 n,qI 1 n,qI 2 n,qI 3 n,qI 4 n,qI 5 n] (qI 6 n)=true:=by kernel_rfl):(qI 6 n).den u z:=iy c ⟨h0,h1,h2,h3,h4,h5,trivial⟩
theorem Lq(n:Nat)(u:List Nat)(z:List Int)(h0:(qI 0 n).den u z)(h1:(qI 1 n).den u z)(h2:(qI 2 n).den u z)(h3:(qI 3 n).den u z)(h4:(qI 4 n).den u z)(h5:(qI 5 n).den u z)(h6:(qI 6 n).den u z)(c:yC u.length z.length [qI 0 n,qI 1 n,qI 2 n,qI 3 n,qI 4 n,qI 5 n,qI 6 n] (qI 7 n)=true:=by kernel_rfl):(qI 7 n).den u z:=iy c ⟨h0,h1,h2,h3,h4,h5,h6,trivial⟩
theorem ML(n:Nat)(u:List Nat)(z:List Int)(h0:(qI 0 n).den u z)(h1:(qI 1 n).den u z)(h2:(qI 2 n).den u z)(h3:(qI 3 n).den u z)(h4:(qI 4 n).den u z)(h5:(qI 5 n).den u z)(h6:(qI 6 n).den u z)(h7:(qI 7 n).den u z)(c:yC u.length z.length [qI 0 n,qI 1 n,qI 2 n,qI 3 n,qI 4 n,qI 5 n,qI 6 n,qI 7 n] (qI 8 n)=true:=by kernel_rfl):(qI 8 n).den u z:=iy c ⟨h0,h1,h2,h3,h4,h5,h6,h7,trivial⟩
theorem MM(n:Nat)(u:List Nat)(z:List Int)(h0:(qI 0 n).den u z)(h1:(qI 1 n).den u z)(h2:(qI 2 n).den u z)(h3:(qI 3 n).den u z)(h4:(qI 4 n).den u z)(h5:(qI 5 n).den u z)(h6:(qI 6 n).den u z)(h7:(qI 7 n).den u z)(h8:(qI 8 n).den u z)(c:yC u.length z.length [qI 0 n,qI 1 n,qI 2 n,qI 3 n,qI 4 n,qI 5 n,qI 6 n,qI 7 n,qI 8 n] (qI 9 n)=true:=by kernel_rfl):(qI 9 n).den u z:=iy c ⟨h0,h1,h2,h3,h4,h5,h6,h7,h8,trivial⟩
section
inductive V where
 |none|bool (b:Bool)|int (i:Int)
 |tup (l:List V)|lst (l:List V)
 |obj (C:Addr) (fs:List (Str×V))
 |ref (i:Nat)|top (v:Value)
 |arg (l:List V)
inductive MO where
 |lst (l:List V)|obj (C:Addr) (fs:List (Str×V))|dead
noncomputable abbrev af:=Addr->Option Obj
noncomputable abbrev aX:=List (Addr×Addr)
noncomputable abbrev au:=List (Str×V)
noncomputable abbrev Mu:=List MO
noncomputable abbrev ae:=List (Str×NameKind)
noncomputable abbrev hJ(its:Array Value)(n:Nat):Obj:={cls:= .type "tuple",data:= .seq its n}
mutual
inductive aC(z:af)(as:aX):V->Value->Prop
 |none:aC z as .none .none
 |bool (b:Bool):aC z as (.bool b) (.bool b)
 |int (i:Int) (t:Tok):aC z as (.int i) (.int i t)
 |top (v:Value):handedIn v=true->aC z as (.top v) v
 |tup {l:List V} {vs:List Value} {a:Addr} {n:Nat}:z a=some (hJ vs.toArray n)->aA z as l vs->aC z as (.tup l) (.ref a)
 |lst {l:List V} {vs:List Value} {a:Addr} {n:Nat}:z a=some (listOf vs.toArray n)->aA z as l vs->aC z as (.lst l) (.ref a)
 |arg {l:List V} {vs:List Value} {a:Addr} {o:Obj} {n:Nat}:z a=some o->o.cls= .type "list"->o.data= .seq vs.toArray n->aA z as l vs->aC z as (.arg l) (.ref a)
 |obj {C x d:Addr} {fs:List (Str×V)} {es:List DictEntry} {n:Nat}:z x=some (instObj C d)->z d=some (dictOf es n)->cD z as fs es->aC z as (.obj C fs) (.ref x)
 |ref {i:Nat} {a d:Addr}:as[i]? =some (a,d)->aC z as (.ref i) (.ref a)
inductive aA(z:af)(as:aX):List V->List Value->Prop
 |nil:aA z as [] []
 |cons {v:V} {l:List V} {x:Value} {vs:List Value}:aC z as v x->aA z as l vs->aA z as (v::l) (x::vs)
inductive cD(z:af)(as:aX):List (Str×V)->List DictEntry->Prop
 |nil:cD z as [] []
 |cons {x:Str} {v:V} {fs:List (Str×V)} {e:DictEntry} {es:List DictEntry} {t:Tok}:e.key= .str x t->aC z as v e.val->cD z as fs es->cD z as ((x,v)::fs) (e::es)
end
noncomputable def Gd(z:af)(as:aX)(v:V)(x:Value):Prop:=match v with
 | .none=>x= .none| .bool b=>x= .bool b| .int i=>∃t,x= .int i t| .top v=>x=v/\handedIn v=true
 | .tup l=>∃vs a n,x= .ref a/\z a=some (hJ vs.toArray n)/\aA z as l vs
 | .lst l=>∃vs a n,x= .ref a/\z a=some (listOf vs.toArray n)/\aA z as l vs
 | .arg l=>∃vs a n o,x= .ref a/\z a=some o/\o.cls= .type "list"/\o.data= .seq vs.toArray n/\aA z as l vs
 | .obj C fs=>∃a d es n,x= .ref a/\z a=some (instObj C d)/\z d=some (dictOf es n)/\cD z as fs es
 | .ref i=>∃a d,x= .ref a/\as[i]? =some (a,d)
theorem aC.inv{z:af}{as:aX}{v:V}{x:Value}(h:aC z as v x):Gd z as v x:=
 aC.casesOn (motive_1:=λv x q0=>Gd z as v x) h rfl (λq0=>rfl) (λq0 t=>⟨t,rfl⟩) (λq0 e=>⟨rfl,e⟩) (λe r=>⟨_,_,_,rfl,e,r⟩) (λe r=>⟨_,_,_,rfl,e,r⟩) (λe c d r=>⟨_,_,_,_,rfl,e,c,d,r⟩) (λe d r=>⟨_,_,_,_,rfl,e,d,r⟩) (λe=>⟨_,_,rfl,e⟩)
noncomputable def Ds(z:af)(as:aX)(l:List V)(xs:List Value):Prop:=match l with
 |[]=>xs=[]|v::l=>∃y ys,xs=y::ys/\aC z as v y/\aA z as l ys
theorem aA.inv{z:af}{as:aX}{l:List V}{xs:List Value}(h:aA z as l xs):Ds z as l xs:=
 aA.casesOn (motive_2:=λl x _=>Ds z as l x) h rfl λa b=>⟨_,_,rfl,a,b⟩
noncomputable def Dt(z:af)(as:aX)(l:List (Str×V))(xs:List DictEntry):Prop:=match l with
 |[]=>xs=[]|v::l=>∃e es t,xs=e::es/\e.key= .str v.1 t/\aC z as v.2 e.val/\cD z as l es
theorem cD.inv{z:af}{as:aX}{l:List (Str×V)}{xs:List DictEntry}(h:cD z as l xs):Dt z as l xs:=
 cD.casesOn (motive_3:=λl x _=>Dt z as l x) h rfl λk a b=>⟨_,_,_,rfl,k,a,b⟩
section
variable{z:af}{as:aX}{P:Value->Prop}{PL:List Value->Prop}{PF:List DictEntry->Prop}{x:Value}{xs:List Value}{es:List DictEntry}
@[elab_as_elim] theorem aC.eNone(h:aC z as .none x)(k:P .none):P x:=(show x=_ from h.inv)▸k
@[elab_as_elim] theorem aC.eBool{b:Bool}(h:aC z as (.bool b) x)(k:P (.bool b)):P x:=(show x=_ from h.inv)▸k
@[elab_as_elim] theorem aC.eInt{i:Int}(h:aC z as (.int i) x)(k:∀t,P (.int i t)):P x:=by obtain⟨t,rfl⟩:=h.inv;exact k t
@[elab_as_elim] theorem aC.eTop{v:Value}(h:aC z as (.top v) x)(k:handedIn v=true->P v):P x:=by obtain⟨rfl,e⟩:=h.inv;exact k e
@[elab_as_elim] theorem aC.eTup{l:List V}(h:aC z as (.tup l) x)(k:∀vs a n,z a=some (hJ vs.toArray n)->aA z as l vs->P (.ref a)):P x:=by obtain⟨_,_,_,rfl,a,b⟩:=h.inv;exact k _ _ _ a b
@[elab_as_elim] theorem aC.eLst{l:List V}(h:aC z as (.lst l) x)(k:∀vs a n,z a=some (listOf vs.toArray n)->aA z as l vs->P (.ref a)):P x:=by obtain⟨_,_,_,rfl,a,b⟩:=h.inv;exact k _ _ _ a b
@[elab_as_elim] theorem aC.eArg{l:List V}(h:aC z as (.arg l) x)(k:∀vs a n o,z a=some o->o.cls= .type "list"->o.data= .seq vs.toArray n->aA z as l vs->P (.ref a)):P x:=by obtain⟨_,_,_,_,rfl,a,b,c,d⟩:=h.inv;exact k _ _ _ _ a b c d
@[elab_as_elim] theorem aC.eObj{C:Addr}{fs:List (Str×V)}(h:aC z as (.obj C fs) x)(k:∀a d es n,z a=some (instObj C d)->z d=some (dictOf es n)->cD z as fs es->P (.ref a)):P x:=by obtain⟨_,_,_,_,rfl,a,b,c⟩:=h.inv;exact k _ _ _ _ a b c
@[elab_as_elim] theorem aC.eRef{i:Nat}(h:aC z as (.ref i) x)(k:∀a d,as[i]? =some (a,d)->P (.ref a)):P x:=by obtain⟨_,_,rfl,a⟩:=h.inv;exact k _ _ a
@[elab_as_elim] theorem aA.eNil(h:aA z as [] xs)(k:PL []):PL xs:=(show xs=_ from h.inv)▸k
@[elab_as_elim] theorem aA.eCons{v:V}{l:List V}(h:aA z as (v::l) xs)(k:∀y ys,aC z as v y->aA z as l ys->PL (y::ys)):PL xs:=by obtain⟨_,_,rfl,a,b⟩:=h.inv;exact k _ _ a b
@[elab_as_elim] theorem cD.eNil(h:cD z as [] es)(k:PF []):PF es:=(show es=_ from h.inv)▸k
@[elab_as_elim] theorem cD.eCons{x:Str}{v:V}{l:List (Str×V)}(h:cD z as ((x,v)::l) es)(k:∀e ys t,e.key= .str x t->aC z as v e.val->cD z as l ys->PF (e::ys)):PF es:=by obtain⟨_,_,_,rfl,a,b,c⟩:=h.inv;exact k _ _ _ a b c
end
noncomputable def cV(z z':af):Prop:=∀a o,z a=some o->z' a=some o
theorem cV.refl(z:af):cV z z:=λq0 q0 h=>h
theorem cV.trans{z z' z'':af}(h:cV z z')(k:cV z' z''):cV z z'':=λa o e=>k a o (h a o e)
theorem wo{α:Type}{l l':List α}(h:l<+:l'){i:Nat}{x:α}(e:l[i]? =some x):l'[i]? =some x:=by
 obtain⟨t,rfl⟩:=h
 have hi:i<l.length:=by
  rcases Nat.lt_or_ge i l.length with h|h
  ·exact h
  ·rw[aas h] at e;cases e
 rw[aat hi];exact e
theorem aC.mono{z z':af}{as as':aX}(hz:cV z z')(ha:as<+:as'){v:V}{x:Value}(h:aC z as v x):aC z' as' v x:=
 aC.rec (motive_1:=λv x q0=>aC z' as' v x) (motive_2:=λv x q0=>aA z' as' v x) (motive_3:=λv x q0=>cD z' as' v x)
  .none .bool .int .top (λe q0 r=> .tup (hz _ _ e) r) (λe q0 r=> .lst (hz _ _ e) r) (λe c d q0 r=> .arg (hz _ _ e) c d r) (λe d q0 r=> .obj (hz _ _ e) (hz _ _ d) r) (λe=> .ref (wo ha e)) .nil (λq0 q0 a b=> .cons a b) .nil (λk q0 q0 a b=> .cons k a b) h
section
variable{z z':af}{as as':aX}{l:List V}
theorem aA.mono(hz:cV z z')(ha:as<+:as'){vs:List Value}(h:aA z as l vs):aA z' as' l vs:=by
 induction l generalizing vs with
 |nil=>exact h.eNil .nil
 |cons v l ih=>exact h.eCons λ_ _ a b=> .cons (a.mono hz ha) (ih b)
theorem cD.mono(hz:cV z z')(ha:as<+:as'){fs:List (Str×V)}{es:List DictEntry}(h:cD z as fs es):cD z' as' fs es:=by
 induction fs generalizing es with
 |nil=>exact h.eNil .nil
 |cons v l ih=>exact h.eCons λq0 q0 q0 k a b=> .cons k (a.mono hz ha) (ih b)
theorem aA.length{vs:List Value}(h:aA z as l vs):l.length=vs.length:=by
 induction l generalizing vs with
 |nil=>exact h.eNil rfl
 |cons v l ih=>exact h.eCons λq0 q0 q0 b=>congrArg Nat.succ (ih b)
theorem aA.get{vs:List Value}(h:aA z as l vs){i:Nat}{v:V}(e:l[i]? =some v):∃x,vs[i]? =some x/\aC z as v x:=by
 induction l generalizing vs i with
 |nil=>cases e
 |cons u l ih=>
  refine h.eCons λ_ _ a b=> ?_
  cases i with
  |zero=>exact⟨_,rfl,aag e▸a⟩
  |succ i=>exact ih b e
theorem aA.append{vs:List Value}{l':List V}{vs':List Value}(h:aA z as l vs)(k:aA z as l' vs'):aA z as (l++l') (vs++vs'):=by
 induction l generalizing vs with
 |nil=>exact h.eNil k
 |cons v l ih=>exact h.eCons λ_ _ a b=> .cons a (ih b)
theorem aA.take{vs:List Value}(h:aA z as l vs)(n:Nat):aA z as (l.take n) (vs.take n):=by
 induction l generalizing vs n with
 |nil=>exact h.eNil (by rw[List.take_nil,List.take_nil];exact .nil)
 |cons v l ih=>
  refine h.eCons λ_ _ a b=> ?_
  cases n with
  |zero=>exact .nil
  |succ n=>exact .cons a (ih b n)
theorem aA.drop{vs:List Value}(h:aA z as l vs)(n:Nat):aA z as (l.drop n) (vs.drop n):=by
 induction l generalizing vs n with
 |nil=>exact h.eNil (by rw[List.drop_nil,List.drop_nil];exact .nil)
 |cons v l ih=>
  refine h.eCons λ_ _ a b=> ?_
  cases n with
  |zero=>exact .cons a b
  |succ n=>exact ih b n
theorem aA.set{vs:List Value}(h:aA z as l vs){n:Nat}{v:V}{x:Value}(k:aC z as v x):aA z as (l.set n v) (vs.set n x):=by
 induction l generalizing vs n with
 |nil=>exact h.eNil .nil
 |cons u l ih=>
  refine h.eCons λ_ _ a b=> ?_
  cases n with
  |zero=>exact .cons k b
  |succ n=>exact .cons a (ih b)
theorem aA.eraseIdx{vs:List Value}(h:aA z as l vs)(n:Nat):aA z as (l.eraseIdx n) (vs.eraseIdx n):=by
 induction l generalizing vs n with
 |nil=>exact h.eNil .nil
 |cons u l ih=>
  refine h.eCons λ_ _ a b=> ?_
  cases n with
  |zero=>exact b
  |succ n=>exact .cons a (ih b n)
end
theorem yG{e:DictEntry}{y name:Str}{tk:Tok}(k:e.key= .str y tk):e.key.isStr name=(name==y):=by
 rw[k]
 show(y==name)=(name==y)
 cases hb:name==y with
 |true=>rw[beq_iff_eq] at hb⊢;exact hb.symm
 |false=>rw[beq_eq_false_iff_ne] at hb⊢;exact hb.symm
theorem BN{e:DictEntry}{y:Str}{tk:Tok}(k:e.key= .str y tk):e.refKey=false:=by unfold DictEntry.refKey;rw[k]
theorem rE{e:DictEntry}{es:List DictEntry}{y name:Str}{tk:Tok}(k:e.key= .str y tk):getL name (e::es)=if name==y then some (some e.val) else getL name es:=by
 unfold getL
 rw[List.find?_cons,yG k,List.any_cons,BN k,Bool.false_or]
 cases name==y<;>rfl
theorem cD.get{z:af}{as:aX}{name:Str}{fs:List (Str×V)}{es:List DictEntry}(h:cD z as fs es){v:V}(q:fs.lookup name=some v):∃x,getL name es=some (some x)/\aC z as v x:=by
 induction fs generalizing es with
 |nil=>cases q
 |cons p l ih=>
  refine h.eCons λe ys t k a b=> ?_
  rw[aau] at q
  rw[rE k]
  cases hb:name==p.1 with
  |true=>rw[hb] at q;cases q;exact⟨_,rfl,a⟩
  |false=>rw[hb] at q;exact ih b q
theorem cD.miss{z:af}{as:aX}{name:Str}{fs:List (Str×V)}{es:List DictEntry}(h:cD z as fs es)(q:fs.lookup name=none):getL name es=some none:=by
 induction fs generalizing es with
 |nil=>exact h.eNil rfl
 |cons p l ih=>
  refine h.eCons λe ys t k a b=> ?_
  rw[aau] at q
  rw[rE k]
  cases hb:name==p.1 with
  |true=>rw[hb] at q;cases q
  |false=>rw[hb] at q;exact ih b q
noncomputable def jD(name:Str)(v:V):List (Str×V)->List (Str×V)
 |[]=>[(name,v)]
 |(x,u)::r=>if name==x then(x,v)::r else(x,u)::jD name v r
theorem cD.put{z:af}{as:aX}{name:Str}{v:V}{x:Value}{hsh:Int}{tk:Tok}(hv:aC z as v x){fs:List (Str×V)}{es:List DictEntry}(h:cD z as fs es):cD z as (jD name v fs) (putL name hsh (.str name tk) x es):=by
 induction fs generalizing es with
 |nil=>exact h.eNil (.cons (t:=tk) rfl hv .nil)
 |cons p l ih=>
  refine h.eCons λe ys t k a b=> ?_
  show cD z as (if name==p.1 then(p.1,v)::l else p::jD name v l) (if e.key.isStr name then {e with val:=x}::ys else e::putL name hsh (.str name tk) x ys)
  rw[yG k]
  cases name==p.1 with
  |true=>exact .cons (t:=t) k hv b
  |false=>exact .cons k a (ih b)
theorem cD.some{z:af}{as:aX}(name:Str){fs:List (Str×V)}{es:List DictEntry}(r:cD z as fs es):(getL name es).isSome=true:=by
 cases h:fs.lookup name with
 |none=>rw[r.miss h];rfl
 |some v=>obtain⟨x,g,_⟩:=r.get h;rw[g];rfl
theorem cD.length{z:af}{as:aX}{fs:List (Str×V)}{es:List DictEntry}(h:cD z as fs es):fs.length=es.length:=by
 induction fs generalizing es with
 |nil=>exact h.eNil rfl
 |cons v l ih=>exact h.eCons λq0 q0 q0 q0 q0 b=>congrArg Nat.succ (ih b)
noncomputable def MO.own:MO->Addr×Addr->List Addr
 | .lst _,p=>[p.1]
 | .obj ..,p=>[p.1,p.2]
 | .dead,_=>[]
noncomputable def yw(z:af)(as:aX)(h:Heap):MO->Addr×Addr->Prop
 | .lst l,p=>∃vs n,h.get? p.1=some (listOf vs.toArray n)/\aA z as l vs
 | .obj C fs,p=>p.1≠p.2/\h.get? p.1=some (instObj C p.2)/\∃es n,h.get? p.2=some (dictOf es n)/\cD z as fs es
 | .dead,_=>True
theorem yw.mono{z z':af}{as as':aX}{h h':Heap}(hz:cV z z')(ha:as<+:as'){mo:MO}{p:Addr×Addr}(m:yw z as h mo p)(hk:∀a∈MO.own mo p,∀o,h.get? a=some o->h'.get? a=some o):yw z' as' h' mo p:=by
 cases mo with
 |lst l=>obtain⟨vs,n,e,r⟩:=m;exact⟨vs,n,hk _ (by simp[MO.own]) _ e,r.mono hz ha⟩
 |obj C fs=>
  obtain⟨hne,e,es,n,d,r⟩:=m
  exact⟨hne,hk _ (by simp[MO.own]) _ e,es,n,hk _ (by simp[MO.own]) _ d,r.mono hz ha⟩
 |dead=>trivial
theorem yw.live{z:af}{as:aX}{h:Heap}{mo:MO}{p:Addr×Addr}(m:yw z as h mo p):∀a∈mo.own p,∃o,h.get? a=some o:=by
 cases mo with
 |lst l=>obtain⟨vs,n,e,r⟩:=m;intro a ha;simp[MO.own] at ha;subst ha;exact⟨_,e⟩
 |obj C fs=>
  obtain⟨hne,e,es,n,d,r⟩:=m
  intro a ha;simp[MO.own] at ha
  rcases ha with rfl|rfl
  ·exact⟨_,e⟩
  ·exact⟨_,d⟩
 |dead=>intro a ha;simp[MO.own] at ha
noncomputable def jx(as:aX)(mu:Mu)(a:Addr):Prop:=∃(i:Nat)(mo:MO)(p:Addr×Addr),mu[i]? =some mo/\as[i]? =some p/\a∈mo.own p
structure MR(h₀:Heap)(z:af)(as:aX)(mu:Mu)(h:Heap):Prop where
 base:∀a o,h₀.get? a=some o->z a=some o
 zin:∀a o,z a=some o->h.get? a=some o
 len:as.length=mu.length
 ok:∀(i:Nat)(mo:MO)(p:Addr×Addr),mu[i]? =some mo->as[i]? =some p->yw z as h mo p
 out:∀(i:Nat)(mo:MO)(p:Addr×Addr),mu[i]? =some mo->as[i]? =some p->∀a∈mo.own p,z a=none
 apart:∀(i j:Nat)(mi mj:MO)(pi pj:Addr×Addr),mu[i]? =some mi->mu[j]? =some mj->as[i]? =some pi->as[j]? =some pj->i≠j->∀a∈mi.own pi,a∉mj.own pj
theorem MR.live{h₀:Heap}{z:af}{as:aX}{mu:Mu}{h:Heap}(R:MR h₀ z as mu h){a:Addr}(m:jx as mu a):∃o,h.get? a=some o:=by
 obtain⟨i,mo,p,e,f,ha⟩:=m
 exact(R.ok i mo p e f).live a ha
theorem MR.mut_z{h₀:Heap}{z:af}{as:aX}{mu:Mu}{h:Heap}(R:MR h₀ z as mu h){a:Addr}(m:jx as mu a):z a=none:=by
 obtain⟨i,mo,p,e,f,ha⟩:=m
 exact R.out i mo p e f a ha
structure ai(W:Addr->Prop)(z:af)(as:aX)(mu:Mu)(h:Heap)(z':af)(as':aX)(mu':Mu)(h':Heap):Prop where
 zsub:cV z z'
 asub:as<+:as'
 keep:∀a o,h.get? a=some o->¬jx as mu a->¬W a->h'.get? a=some o
 zfresh:∀a o,z' a=some o->z a=some o\/h.get? a=none\/jx as mu a
 mfresh:∀a,jx as' mu' a->jx as mu a\/h.get? a=none
 live:∀a o,h.get? a=some o->¬W a->∃o',h'.get? a=some o'
noncomputable abbrev gh:Addr->Prop:=λq0=>False
theorem ai.refl(W:Addr->Prop)(z:af)(as:aX)(mu:Mu)(h:Heap):ai W z as mu h z as mu h:=
 ⟨cV.refl z,aav _,λq0 q0 e q0 q0=>e,λq0 q0 e=> .inl e,λq0 m=> .inl m,λq0 o e q0=>⟨o,e⟩⟩
theorem ai.trans{W:Addr->Prop}{z₁ z₂ z₃:af}{a₁ a₂ a₃:aX}{m₁ m₂ m₃:Mu}{h₁ h₂ h₃:Heap}(x:ai W z₁ a₁ m₁ h₁ z₂ a₂ m₂ h₂)(y:ai W z₂ a₂ m₂ h₂ z₃ a₃ m₃ h₃)
  (hw:∀a,W a->z₂ a=none/\¬jx a₂ m₂ a/\∃o,h₂.get? a=some o):ai W z₁ a₁ m₁ h₁ z₃ a₃ m₃ h₃ where
 zsub:=x.zsub.trans y.zsub
 asub:=x.asub.trans y.asub
 keep a o e hm hW:=y.keep a o (x.keep a o e hm hW) (λq=>(x.mfresh a q).elim hm (λn=>by rw[e] at n;cases n)) hW
 zfresh a o e:=by
  rcases y.zfresh a o e with h|h|h
  ·exact x.zfresh a o h
  ·cases q:h₁.get? a with
   |none=>exact .inr (.inl rfl)
   |some o₁=>
    by_cases hm:jx a₁ m₁ a
    ·exact .inr (.inr hm)
    ·by_cases hW:W a
     ·obtain⟨o₂,e₂⟩:=(hw a hW).2.2
      rw[e₂] at h;cases h
     ·rw[x.keep a o₁ q hm hW] at h;cases h
  ·rcases x.mfresh a h with h|h
   ·exact .inr (.inr h)
   ·exact .inr (.inl h)
 mfresh a m:=by
  rcases y.mfresh a m with h|h
  ·exact x.mfresh a h
  ·cases q:h₁.get? a with
   |none=>exact .inr rfl
   |some o₁=>
    by_cases hm:jx a₁ m₁ a
    ·exact .inl hm
    ·by_cases hW:W a
     ·obtain⟨o₂,e₂⟩:=(hw a hW).2.2
      rw[e₂] at h;cases h
     ·rw[x.keep a o₁ q hm hW] at h;cases h
 live a o e h:=let⟨o',e'⟩:=x.live a o e h;y.live a o' e' h
theorem ai.trans0{z₁ z₂ z₃:af}{a₁ a₂ a₃:aX}{m₁ m₂ m₃:Mu}{h₁ h₂ h₃:Heap}(x:ai gh z₁ a₁ m₁ h₁ z₂ a₂ m₂ h₂)(y:ai gh z₂ a₂ m₂ h₂ z₃ a₃ m₃ h₃):ai gh z₁ a₁ m₁ h₁ z₃ a₃ m₃ h₃:=
 x.trans y λq0 h=>h.elim
theorem ai.wide{W:Addr->Prop}{z₁ z₂:af}{a₁ a₂:aX}{m₁ m₂:Mu}{h₁ h₂:Heap}(x:ai gh z₁ a₁ m₁ h₁ z₂ a₂ m₂ h₂):ai W z₁ a₁ m₁ h₁ z₂ a₂ m₂ h₂:=
 ⟨x.zsub,x.asub,λa o e hm q0=>x.keep a o e hm id,x.zfresh,x.mfresh,λa o e q0=>x.live a o e id⟩
noncomputable def iV(h h':Heap):Prop:=∀b o,h.get? b=some o->h'.get? b=some o
theorem iV.trans{h h' h'':Heap}(x:iV h h')(y:iV h' h''):iV h h'':=λb o e=>y b o (x b o e)
theorem iV.push(h:Heap)(o:Obj):iV h (h.push o):=λq0 q0 e=>aaw _ e
section
variable{h₀:Heap}{z:af}{as:aX}{mu:Mu}{h h':Heap}
theorem MR.ext(R:MR h₀ z as mu h)(x:iV h h'):MR h₀ z as mu h':=
 ⟨R.base,λa o e=>x _ _ (R.zin a o e),R.len,λi mo p e f=>(R.ok i mo p e f).mono (cV.refl z) (aav _) λa q0 o q=>x a o q,R.out,R.apart⟩
theorem ai.ext(W:Addr->Prop)(x:iV h h'):ai W z as mu h z as mu h':=
 ⟨cV.refl z,aav _,λa o e q0 q0=>x a o e,λq0 q0 e=> .inl e,λq0 m=> .inl m,λa o e q0=>⟨o,x a o e⟩⟩
noncomputable def af.put(z:af)(a:Addr)(o:Obj):af:=λb=>if b=a then some o else z b
theorem af.put_self(z:af)(a:Addr)(o:Obj):z.put a o a=some o:=if_pos rfl
theorem af.put_sub{z:af}{a:Addr}{o:Obj}(h:z a=none):cV z (z.put a o):=λb o' e=>by
 unfold af.put
 rw[if_neg (λq=>by rw[q,h] at e;cases e)];exact e
theorem MR.newZ(R:MR h₀ z as mu h)(x:iV h h'){a:Addr}{o:Obj}(hn:h.get? a=none)(ho:h'.get? a=some o):MR h₀ (z.put a o) as mu h':=by
 have hz:z a=none:=by
  cases q:z a with
  |none=>rfl
  |some o'=>rw[R.zin _ _ q] at hn;cases hn
 refine⟨λb o' e=>af.put_sub hz b o' (R.base b o' e),λb o' e=> ?_,R.len,λi mo p e f=>(R.ok i mo p e f).mono (af.put_sub hz) (aav _) λb _ o q=>x b o q,λi mo p e f b hb=> ?_,R.apart⟩
 ·unfold af.put at e
  by_cases q:b=a
  ·rw[if_pos q] at e;cases e;rw[q];exact ho
  ·rw[if_neg q] at e;exact x _ _ (R.zin _ _ e)
 ·unfold af.put
  by_cases q:b=a
  ·obtain⟨o',e'⟩:=(R.ok i mo p e f).live b hb
   rw[q,hn] at e';cases e'
  ·rw[if_neg q];exact R.out i mo p e f b hb
theorem ai.newZ(W:Addr->Prop)(R:MR h₀ z as mu h)(x:iV h h'){a:Addr}{o:Obj}(hn:h.get? a=none):ai W z as mu h (z.put a o) as mu h':=by
 have hz:z a=none:=by
  cases q:z a with
  |none=>rfl
  |some o'=>rw[R.zin _ _ q] at hn;cases hn
 refine⟨af.put_sub hz,aav _,λa o e q0 q0=>x a o e,λb o' e=> ?_,λq0 m=> .inl m,λa o e q0=>⟨o,x a o e⟩⟩
 unfold af.put at e
 by_cases q:b=a
 ·exact .inr (.inl (q▸hn))
 ·rw[if_neg q] at e;exact .inl e
theorem db{α:Type}{l:List α}{x y:α}{i:Nat}(e:(l++[x])[i]? =some y):l[i]? =some y\/(i=l.length/\y=x):=by
 rcases Nat.lt_trichotomy i l.length with h|h|h
 ·rw[aat h] at e;exact .inl e
 ·subst h;simp at e;exact .inr ⟨rfl,e.symm⟩
 ·rw[aas (by rw[aap,aax];exact ad 151472494824481 [_,_] [] h)] at e;cases e
theorem aO{α:Type}{l:List α}{x:α}{i:Nat}(e:l[i]? =some x):i<l.length:=by
 rcases Nat.lt_or_ge i l.length with h|h
 ·exact h
 ·rw[aas h] at e;cases e
theorem ls{α:Type}(l:List α)(x:α):(l++[x])[l.length]? =some x:=by simp
theorem MR.newM(R:MR h₀ z as mu h)(x:iV h h'){mo:MO}{p:Addr×Addr}(hn:∀a∈mo.own p,h.get? a=none)(hm:yw z (as++[p]) h' mo p):MR h₀ z (as++[p]) (mu++[mo]) h':=by
 have hz:∀a∈mo.own p,z a=none:=λa ha=>by
  cases q:z a with
  |none=>rfl
  |some o'=>have:=hn a ha;rw[R.zin _ _ q] at this;cases this
 refine⟨R.base,λa o e=>x _ _ (R.zin a o e),by simp[R.len],λi mo' p' e f=> ?_,λi mo' p' e f b hb=> ?_,λi j mi mj pi pj ei ej fi fj hij b hb hb'=> ?_⟩
 ·rcases db e with e|⟨rfl,rfl⟩
  ·rcases db f with f|⟨rfl,rfl⟩
   ·exact(R.ok i mo' p' e f).mono (cV.refl z) (aay _ _) λb _ o q=>x b o q
   ·have:=aO e;rw[R.len] at this;exact absurd this (aaz _)
  ·rcases db f with f|⟨_,rfl⟩
   ·have:=aO f;rw[R.len] at this;exact absurd this (aaz _)
   ·exact hm
 ·rcases db e with e|⟨rfl,rfl⟩
  ·rcases db f with f|⟨rfl,rfl⟩
   ·exact R.out i mo' p' e f b hb
   ·have:=aO e;rw[R.len] at this;exact absurd this (aaz _)
  ·rcases db f with f|⟨_,rfl⟩
   ·have:=aO f;rw[R.len] at this;exact absurd this (aaz _)
   ·exact hz b hb
 ·have alt:∀{k:Nat}{m:MO}{q:Addr×Addr},(mu++[mo])[k]? =some m->(as++[p])[k]? =some q->(mu[k]? =some m/\as[k]? =some q)\/(k=mu.length/\m=mo/\q=p):=λ{k m q} e f=>by
   rcases db e with e'|⟨e1,e2⟩
   ·rcases db f with f'|⟨f1,f2⟩
    ·exact .inl ⟨e',f'⟩
    ·have:=aO e';rw[f1,R.len] at this;exact absurd this (aaz _)
   ·rcases db f with f'|⟨f1,f2⟩
    ·have:=aO f';rw[e1,R.len] at this;exact absurd this (aaz _)
    ·exact .inr ⟨e1,e2,f2⟩
  rcases alt ei fi with⟨e1,f1⟩|⟨e1,e2,e3⟩<;>rcases alt ej fj with⟨e4,f4⟩|⟨e4,e5,e6⟩
  ·exact R.apart i j mi mj pi pj e1 e4 f1 f4 hij b hb hb'
  ·obtain⟨o,e⟩:=(R.ok i mi pi e1 f1).live b hb
   rw[hn b (by rw[<-e5,<-e6];exact hb')] at e;cases e
  ·obtain⟨o,e⟩:=(R.ok j mj pj e4 f4).live b hb'
   rw[hn b (by rw[<-e2,<-e3];exact hb)] at e;cases e
  ·exact hij (e1.trans e4.symm)
theorem ai.newM(W:Addr->Prop)(R:MR h₀ z as mu h)(x:iV h h'){mo:MO}{p:Addr×Addr}(hn:∀a∈mo.own p,h.get? a=none):ai W z as mu h z (as++[p]) (mu++[mo]) h':=by
 refine⟨cV.refl z,aay _ _,λa o e q0 q0=>x a o e,λq0 q0 e=> .inl e,λa m=> ?_,λa o e q0=>⟨o,x a o e⟩⟩
 obtain⟨i,mo',p',e,f,ha⟩:=m
 rcases db e with e|⟨rfl,rfl⟩
 ·rcases db f with f|⟨rfl,rfl⟩
  ·exact .inl ⟨i,mo',p',e,f,ha⟩
  ·have:=aO e;rw[R.len] at this;exact absurd this (aaz _)
 ·rcases db f with f|⟨_,rfl⟩
  ·have:=aO f;rw[R.len] at this;exact absurd this (aaz _)
  ·exact .inr (hn a ha)
theorem MR.setM(R:MR h₀ z as mu h){i:Nat}{mo mo':MO}{p:Addr×Addr}{b:Addr}(hi:mu[i]? =some mo)(hp:as[i]? =some p)(hown:mo'.own p=mo.own p)(hb:b∈mo.own p)
  (hk:∀a o,a≠b->h.get? a=some o->h'.get? a=some o) (hm:yw z as h' mo' p):MR h₀ z as (mu.set i mo') h':=by
 have hzb:z b=none:=R.out i mo p hi hp b hb
 have back:∀{j:Nat}{m:MO},(mu.set i mo')[j]? =some m->(j=i/\m=mo')\/(j≠i/\mu[j]? =some m):=λ{j m} e=>by
  by_cases q:i=j
  ·subst q
   rw[aaA (aO hi)] at e
   exact .inl ⟨rfl,(aag e).symm⟩
  ·rw[aaB q] at e;exact .inr ⟨λh=>q h.symm,e⟩
 refine⟨R.base,λa o e=>hk a o (λq=>by rw[q,hzb] at e;cases e) (R.zin a o e),by rw[List.length_set];exact R.len,λj m q e f=> ?_,λj m q e f a ha=> ?_,λj k mj mk pj pk ej ek fj fk hjk a ha ha'=> ?_⟩
 ·rcases back e with⟨rfl,rfl⟩|⟨hj,e⟩
  ·rw[hp] at f;cases f;exact hm
  ·exact(R.ok j m q e f).mono (cV.refl z) (aav _) λa ha o r=>hk a o (λw=>R.apart j i m mo q p e hi f hp hj a ha (w▸hb)) r
 ·rcases back e with⟨rfl,rfl⟩|⟨hj,e⟩
  ·rw[hp] at f;cases f;exact R.out _ mo p hi hp a (hown▸ha)
  ·exact R.out j m q e f a ha
 ·rcases back ej with⟨e1,e2⟩|⟨e1,e2⟩<;>rcases back ek with⟨e3,e4⟩|⟨e3,e4⟩
  ·exact hjk (e1.trans e3.symm)
  ·rw[e1,hp] at fj;cases fj
   rw[e2,hown] at ha
   exact R.apart i k mo mk p pk hi e4 hp fk (λq=>e3 q.symm) a ha ha'
  ·rw[e3,hp] at fk;cases fk
   rw[e4,hown] at ha'
   exact R.apart j i mj mo pj p e2 hi fj hp e1 a ha ha'
  ·exact R.apart j k mj mk pj pk e2 e4 fj fk hjk a ha ha'
theorem ai.setM(W:Addr->Prop){i:Nat}{mo mo':MO}{p:Addr×Addr}{b:Addr}(hi:mu[i]? =some mo)(hp:as[i]? =some p)(hown:mo'.own p=mo.own p)(hb:b∈mo.own p)
  (hk:∀a o,a≠b->h.get? a=some o->h'.get? a=some o) (hl:∃o,h'.get? b=some o):ai W z as mu h z as (mu.set i mo') h':=by
 refine⟨cV.refl z,aav _,λa o e hm q0=>hk a o (λq=>hm ⟨i,mo,p,hi,hp,q▸hb⟩) e,λq0 q0 e=> .inl e,λa m=> ?_,λa o e q0=> ?_⟩
 rotate_left
 ·by_cases q:a=b
  ·rw[q];exact hl
  ·exact⟨o,hk a o q e⟩
 obtain⟨j,m',q,e,f,ha⟩:=m
 by_cases hj:i=j
 ·subst hj
  rw[aaA (aO hi)] at e
  cases e
  rw[hp] at f;cases f
  exact .inl ⟨i,mo,p,hi,hp,hown▸ha⟩
 ·rw[aaB hj] at e
  exact .inl ⟨j,m',q,e,f,ha⟩
end
end
section
mutual
noncomputable def aG(n:Nat):V->Bool
 | .tup l=>ab n l
 | .lst l=>ab n l
 | .arg l=>ab n l
 | .obj _ fs=>dQ n fs
 | .ref i=>decide (i<n)
 | .none=>true
 | .bool _=>true
 | .int _=>true
 | .top _=>true
noncomputable def ab(n:Nat):List V->Bool
 |[]=>true
 |v::l=>aG n v&&ab n l
noncomputable def dQ(n:Nat):List (Str×V)->Bool
 |[]=>true
 |p::l=>aG n p.2&&dQ n l
end
mutual
noncomputable def jH(j:Nat)(u:V):V->V
 | .tup l=> .tup (b8 j u l)
 | .lst l=> .lst (b8 j u l)
 | .arg l=> .arg (b8 j u l)
 | .obj C fs=> .obj C (qV j u fs)
 | .ref i=>if i=j then u else .ref i
 | .none=> .none
 | .bool b=> .bool b
 | .int i=> .int i
 | .top v=> .top v
noncomputable def b8(j:Nat)(u:V):List V->List V
 |[]=>[]
 |v::l=>jH j u v::b8 j u l
noncomputable def qV(j:Nat)(u:V):List (Str×V)->List (Str×V)
 |[]=>[]
 |p::l=>(p.1,jH j u p.2)::qV j u l
end
noncomputable def og(n:Nat):MO->Bool
 | .lst l=>ab n l
 | .obj _ fs=>dQ n fs
 | .dead=>true
noncomputable def fB(j:Nat)(u:V):MO->MO
 | .lst l=> .lst (b8 j u l)
 | .obj C fs=> .obj C (qV j u fs)
 | .dead=> .dead
theorem sO(j:Nat)(u:V)(m:MO)(p:Addr×Addr):(fB j u m).own p=m.own p:=by cases m<;>rfl
noncomputable def MO.val:MO->Option V
 | .lst l=>some (.lst l)
 | .obj C fs=>some (.obj C fs)
 | .dead=>none
noncomputable def dc:List Nat->Mu->List (Nat×V)×Mu
 |[],mu=>([],mu)
 |j::r,mu=>match(mu[j]?).bind MO.val with
  |some u=>((j,u)::(dc r ((mu.set j .dead).map (fB j u))).1,(dc r ((mu.set j .dead).map (fB j u))).2)
  |none=>dc r mu
noncomputable def iW:List (Nat×V)->V->V
 |[],v=>v
 |(j,u)::r,v=>iW r (jH j u v)
section
variable{h₀:Heap}{z z':af}{as:aX}{mu:Mu}{h:Heap}
theorem BO{j i:Nat}{u:V}{a d:Addr}{p:Addr×Addr}(hj:as[j]? =aaC (a,d))(hu:aC z' as u (.ref a))(e:as[i]? =aaC p):aC z' as (if i=j then u else .ref i) (.ref p.1):=by
 by_cases q:i=j
 ·rw[if_pos q];rw[q,hj] at e;cases e;exact hu
 ·rw[if_neg q];exact .ref (d:=p.2) e
theorem aC.sub{j:Nat}{u:V}{a d:Addr}(hz:cV z z')(hj:as[j]? =aaC (a,d))(hu:aC z' as u (.ref a)){v:V}{x:Value}(r:aC z as v x):aC z' as (Mine.jH j u v) x:=
 aC.rec (motive_1:=λv x q0=>aC z' as (Mine.jH j u v) x) (motive_2:=λl xs q0=>aA z' as (b8 j u l) xs) (motive_3:=λl es q0=>cD z' as (qV j u l) es)
  .none .bool .int .top (λe q0 r=> .tup (hz _ _ e) r) (λe q0 r=> .lst (hz _ _ e) r) (λe c d q0 r=> .arg (hz _ _ e) c d r) (λe d q0 r=> .obj (hz _ _ e) (hz _ _ d) r) (λe=>BO hj hu e) .nil (λq0 q0 a b=> .cons a b) .nil (λk q0 q0 a b=> .cons k a b) r
theorem aA.sub{j:Nat}{u:V}{a d:Addr}(hz:cV z z')(hj:as[j]? =aaC (a,d))(hu:aC z' as u (.ref a)){l:List V}{xs:List Value}(r:aA z as l xs):aA z' as (b8 j u l) xs:=by
 induction l generalizing xs with
 |nil=>exact r.eNil .nil
 |cons v l ih=>exact r.eCons λ_ _ a t=> .cons (aC.sub hz hj hu a) (ih t)
theorem cD.sub{j:Nat}{u:V}{a d:Addr}(hz:cV z z')(hj:as[j]? =aaC (a,d))(hu:aC z' as u (.ref a)){l:List (Str×V)}{es:List DictEntry}(r:cD z as l es):cD z' as (qV j u l) es:=by
 induction l generalizing es with
 |nil=>exact r.eNil .nil
 |cons v l ih=>exact r.eCons λq0 q0 q0 k a t=> .cons k (aC.sub hz hj hu a) (ih t)
theorem BP(R:MR h₀ z as mu h){j:Nat}{mo:MO}{u:V}(hj:mu[j]? =some mo)(hu:mo.val=some u):
  ∃z',MR h₀ z' as ((mu.set j .dead).map (fB j u)) h/\ai gh z as mu h z' as ((mu.set j .dead).map (fB j u)) h/\(∀v x,aC z as v x->aC z' as (Mine.jH j u v) x):=by
 have hlt:=aO hj
 have hp:∃p,as[j]? =some p:=by
  rw[<-R.len] at hlt
  exact⟨_,aaD hlt⟩
 obtain⟨p,hp⟩:=hp
 let z':af:=λa=>if a∈mo.own p then h.get? a else z a
 have hz:cV z z':=λa o e=>by
  show(if a∈mo.own p then h.get? a else z a)=some o
  rw[if_neg (λq=>by have:=R.out j mo p hj hp a q;rw[this] at e;cases e)];exact e
 have hz':∀a o,z' a=some o->z a=some o\/a∈mo.own p:=λa o e=>by
  by_cases q:a∈mo.own p
  ·exact .inr q
  ·have:(if a∈mo.own p then h.get? a else z a)=some o:=e
   rw[if_neg q] at this;exact .inl this
 have hzin:∀a o,z' a=some o->h.get? a=some o:=λa o e=>by
  have e':(if a∈mo.own p then h.get? a else z a)=some o:=e
  by_cases q:a∈mo.own p
  ·rw[if_pos q] at e';exact e'
  ·rw[if_neg q] at e';exact R.zin _ _ e'
 have hown:∀a∈mo.own p,z' a=h.get? a:=λa q=>if_pos q
 have hmok:=R.ok j mo p hj hp
 have hur:aC z' as u (.ref p.1):=by
  cases mo with
  |lst l=>
   obtain⟨vs,n,e,r⟩:=hmok
   cases hu
   exact .lst (by rw[hown p.1 (by simp[MO.own]),e]) (r.mono hz (aav _))
  |obj C fs=>
   obtain⟨hne,e,es,n,d,r⟩:=hmok
   cases hu
   exact .obj (d:=p.2) (by rw[hown p.1 (by simp[MO.own]),e]) (by rw[hown p.2 (by simp[MO.own]),d]) (r.mono hz (aav _))
  |dead=>cases hu
 have hrep:∀v x,aC z as v x->aC z' as (Mine.jH j u v) x:=λv x r=>aC.sub hz hp hur r
 have back:∀{i:Nat}{m:MO},((mu.set j .dead).map (fB j u))[i]? =some m->(i=j/\m= .dead)\/(i≠j/\∃m0,mu[i]? =some m0/\m=fB j u m0):=λ{i m} e=>by
  rw[aaE] at e
  by_cases q:j=i
  ·subst q
   rw[aaA hlt] at e
   cases e;exact .inl ⟨rfl,rfl⟩
  ·rw[aaB q] at e
   cases e0:mu[i]? with
   |none=>rw[e0] at e;cases e
   |some m0=>rw[e0] at e;cases e;exact .inr ⟨λh=>q h.symm,m0,rfl,rfl⟩
 refine⟨z',⟨λa o e=>hz _ _ (R.base a o e),hzin,?_,?_,?_,?_⟩,⟨hz,aav _,λa o e q0 q0=>e,λa o e=> ?_,λa m=> ?_,λa o e q0=>⟨o,e⟩⟩,hrep⟩
 ·rw[aaq,List.length_set];exact R.len
 ·intro i m q e f
  rcases back e with⟨rfl,rfl⟩|⟨hi,m0,e0,rfl⟩
  ·trivial
  ·have hk:=R.ok i m0 q e0 f
   cases m0 with
   |lst l=>obtain⟨vs,n,e,r⟩:=hk;exact⟨vs,n,e,aA.sub hz hp hur r⟩
   |obj C fs=>obtain⟨hne,e,es,n,d,r⟩:=hk;exact⟨hne,e,es,n,d,cD.sub hz hp hur r⟩
   |dead=>trivial
 ·intro i m q e f a ha
  rcases back e with⟨rfl,rfl⟩|⟨hi,m0,e0,rfl⟩
  ·cases ha
  ·rw[sO] at ha
   have h1:=R.out i m0 q e0 f a ha
   have h2:=R.apart i j m0 mo q p e0 hj f hp hi a ha
   show(if a∈mo.own p then h.get? a else z a)=none
   rw[if_neg h2];exact h1
 ·intro i k mi mk pi pk ei ek fi fk hik a ha ha'
  rcases back ei with⟨rfl,rfl⟩|⟨hi,m1,e1,rfl⟩
  ·cases ha
  ·rcases back ek with⟨rfl,rfl⟩|⟨hk,m2,e2,rfl⟩
   ·cases ha'
   ·rw[sO] at ha ha'
    exact R.apart i k m1 m2 pi pk e1 e2 fi fk hik a ha ha'
 ·rcases hz' a o e with h|h
  ·exact .inl h
  ·exact .inr (.inr ⟨j,mo,p,hj,hp,h⟩)
 ·obtain⟨i,m,q,e,f,ha⟩:=m
  rcases back e with⟨rfl,rfl⟩|⟨hi,m0,e0,rfl⟩
  ·cases ha
  ·rw[sO] at ha
   exact .inl ⟨i,m0,q,e0,f,ha⟩
theorem wp:∀(js:List Nat){z:af}{mu:Mu},MR h₀ z as mu h->∃z',MR h₀ z' as (dc js mu).2 h/\ai gh z as mu h z' as (dc js mu).2 h/\(∀v x,aC z as v x->aC z' as (iW (dc js mu).1 v) x):=by
 intro L0
 induction L0 with
 |nil=>
  intro z mu R
  exact⟨z,R,ai.refl _ _ _ _ _,λ_ _ r=>r⟩
 |cons j js ih=>
  intro z mu R
  unfold dc
  cases e:(mu[j]?).bind MO.val with
  |none=>exact ih R
  |some u=>
   cases e0:mu[j]? with
   |none=>rw[e0] at e;cases e
   |some mo=>
    rw[e0] at e
    obtain⟨z1,R1,st1,r1⟩:=BP R e0 e
    obtain⟨z2,R2,st2,r2⟩:=ih R1
    exact⟨z2,R2,st1.trans0 st2,λv x r=>r2 _ _ (r1 v x r)⟩
end
end
section
section
variable{α β:Type}{o:Option α}{c:Prop}[Decidable c]
theorem L7{C:Prop}(h:∀P:Prop,(C->P)->P):C:=h C id
theorem ak{α:Type}{P:Prop}{x:α}(h:none=some x):P:=nomatch h
theorem bG{f:α->Option β}{y:β}(h:o.bind f=some y):∃x,o=some x/\f x=some y:=by
 cases o with
 |none=>cases h
 |some x=>exact⟨x,rfl,h⟩
theorem fZ{f:α->β}{y:β}(h:o.map f=some y):∃x,o=some x/\f x=y:=by
 cases o with
 |none=>cases h
 |some x=>exact⟨x,rfl,aag h⟩
theorem cr{y:α}(h:(if c then o else none)=some y):c/\o=some y:=by
 by_cases k:c
 ·rw[if_pos k] at h;exact⟨k,h⟩
 ·rw[if_neg k] at h;cases h
theorem Es{y:α}(h:(if c then none else o)=some y):¬c/\o=some y:=by
 by_cases k:c
 ·rw[if_pos k] at h;cases h
 ·rw[if_neg k] at h;exact⟨k,h⟩
end
section
variable{α β:Type}{o:Option α}{c:Prop}[Decidable c]{P:Prop}
theorem xx{a b y:α}(hc:c)(h:(if c then a else b)=y):a=y:=(if_pos hc).symm.trans h
theorem yH{a b y:α}(hc:¬c)(h:(if c then a else b)=y):b=y:=(if_neg hc).symm.trans h
theorem aT{f:α->Option β}{y:β}(h:o.bind f=some y)(k:∀x,o=some x->f x=some y->P):P:=let⟨x,a,b⟩:=bG h;k x a b
theorem sP{f:α->β}{y:β}(h:o.map f=some y)(k:∀x,o=some x->f x=y->P):P:=let⟨x,a,b⟩:=fZ h;k x a b
theorem eV{y:α}(h:(if c then o else none)=some y)(k:c->o=some y->P):P:=let⟨a,b⟩:=cr h;k a b
theorem Du{y:α}(h:(if c then none else o)=some y)(k:¬c->o=some y->P):P:=let⟨a,b⟩:=Es h;k a b
theorem jK{γ:Type}{g:α->β}{m m':γ}{y:β}{P:Prop}(h:(o.map λv=>(g v,m))=some (y,m'))(k:∀v,o=some v->g v=y->m=m'->P):P:=by
 obtain⟨v,h1,h⟩:=fZ h
 exact k v h1 (congrArg Prod.fst h) (congrArg Prod.snd h)
theorem cJ{γ:Type}{x:β}{m m':γ}{y:β}{P:Prop}(h:some (x,m)=some (y,m'))(k:x=y->m=m'->P):P:=k (congrArg Prod.fst (aag h)) (congrArg Prod.snd (aag h))
@[elab_as_elim] theorem Dv{x:β}{y:β}{P:β->Prop}(h:some x=some y)(k:P x):P y:=by cases h;exact k
end
noncomputable abbrev bM:=Value->List V->Mu->Option (V×Mu)
structure ba where
 glob:Str->Option V
 field:Addr->Str->Bool
 meth:Addr->Str->Option Addr
 cst:Addr->Str->Option V
 cls:Addr->Bool
inductive Fl where
 |next|ret (v:V)
mutual
noncomputable def jL:V->Option PyData
 | .none=>some .none
 | .int i=>some (.int i)
 | .tup l=>(kF l).map .tuple
 | .lst l=>(kF l).map .list
 |_=>none
noncomputable def kF:List V->Option (List PyData)
 |[]=>some []
 |v::l=>match jL v,kF l with
  |some p,some ps=>some (p::ps)
  |_,_=>none
end
noncomputable def tY(a b:V):Option Bool:=match jL a,jL b with
 |some p,some q=>if aaF p=true/\aaF q=true then some (PyData.eqv p q) else none
 |_,_=>none
set_option backward.match.sparseCases false in
noncomputable def Kd(op:Operator)(a b:Int):Option V:=match op with
 | .Add=>some (.int (a+b))
 | .Sub=>some (.int (a-b))
 | .Mult=>if a.natAbs<2^63\/b.natAbs<2^63 then some (.int (a*b)) else none
 | .FloorDiv=>if b=0 then none else some (.int (a.fdiv b))
 | .Mod=>if b=0 then none else some (.int (a.fmod b))
 | .Pow=>if 0<=b/\b<=1000/\a.natAbs<2^63 then some (.int (a^b.toNat)) else none
 |_=>none
set_option backward.match.sparseCases false in
noncomputable def t7:Operator->Bool
 | .Add=>true|_=>false
set_option backward.match.sparseCases false in
noncomputable def bp:V->Option Int
 | .int i=>some i|_=>none
noncomputable def lt:V->Option (List V)
 | .lst l=>some l|_=>none
noncomputable def xy:V->Option (List V)
 | .tup l=>some l|_=>none
set_option backward.match.sparseCases false in
noncomputable def oO(op:Operator)(a b:V):Option V:=match a with
 | .int a=>(bp b).bind λb=>Kd op a b
 | .lst a=>(lt b).bind λb=>if t7 op=true/\a.length+b.length<=1000 then some (.lst (a++b)) else none
 | .tup a=>(xy b).bind λb=>if t7 op=true/\0<a.length/\0<b.length/\a.length+b.length<=1000 then some (.tup (a++b)) else none
 |_=>none
theorem cb{a:V}{i:Int}(h:bp a=some i):a= .int i:=by cases a<;>first|exact ak h|(cases h;rfl)
theorem sQ{a:V}{i:List V}(h:lt a=some i):a= .lst i:=by cases a<;>first|exact ak h|(cases h;rfl)
theorem wq{a:V}{i:List V}(h:xy a=some i):a= .tup i:=by cases a<;>first|exact ak h|(cases h;rfl)
theorem vf{op:Operator}(h:t7 op=true):op= .Add:=by cases op<;>first|exact absurd h aaG|rfl
noncomputable def cA:List V->Option (List Int)
 |[]=>some []
 | .int i::r=>(cA r).map (i::·)
 |_=>none
set_option backward.match.sparseCases false in
noncomputable def du:V->Option Bool
 | .none=>some true
 | .ref _=>some false
 | .top _=>none
 |_=>some false
set_option backward.match.sparseCases false in
noncomputable def oh(mu:Mu)(i:Nat):Option (List V):=match mu[i]? with
 |some (.lst l)=>some l
 |_=>none
set_option backward.match.sparseCases false in
noncomputable def lu:V->Bool
 | .lst []=>true|_=>false
noncomputable def yI:V->Bool
 | .none=>true|_=>false
noncomputable def yJ(p:Int->Int->Bool)(a b:V):Option Bool:=(bp a).bind λa=>(bp b).map λb=>p a b
set_option backward.match.sparseCases false in
noncomputable def JZ(mu:Mu)(ne:Bool)(a b:V):Option Bool:=match a with
 | .bool x=>(match b with| .bool y=>some (x==y)|_=>none)
 | .ref i=>if lu b then(oh mu i).map (·.isEmpty) else none
 | .lst l=>if lu b then some l.isEmpty else tY (.lst l) b
 | .arg l=>if ne&&lu b then some l.isEmpty else none
 | .none=>tY .none b
 | .int i=>tY (.int i) b
 | .tup l=>tY (.tup l) b
 |_=>none
noncomputable def Ke(a b:V):Option Bool:=(bp a).bind λa=>(lt b).bind λl=>(cA l).map λns=>ns.contains a
noncomputable def b9(mu:Mu)(op:CmpOp)(a b:V):Option Bool:=match op with
 | .Is=>if yI b then du a else none
 | .IsNot=>if yI b then(du a).map (!·) else none
 | .Lt=>yJ (λa b=>decide (a<b)) a b
 | .LtE=>yJ (λa b=>decide (a<=b)) a b
 | .Gt=>yJ (λa b=>decide (a>b)) a b
 | .GtE=>yJ (λa b=>decide (a>=b)) a b
 | .Eq=>JZ mu false a b
 | .NotEq=>(JZ mu true a b).map (!·)
 | .In=>Ke a b
 | .NotIn=>(Ke a b).map (!·)
theorem mF{mu:Mu}{i:Nat}{l:List V}(h:oh mu i=some l):mu[i]? =some (.lst l):=by
 unfold oh at h
 cases k:mu[i]? with
 |none=>rw[k] at h;exact ak h
 |some m=>rw[k] at h;cases m<;>first|exact ak h|(cases h;rfl)
set_option tactic.hygienic true in
theorem oR{a:V}(h:lu a=true):a= .lst []:=by
 cases a<;>first|exact absurd h aaG|skip
 rename_i l
 cases l<;>first|exact absurd h aaG|rfl
theorem yK{a:V}(h:yI a=true):a= .none:=by cases a<;>first|exact absurd h aaG|rfl
noncomputable def gK:V->Option Bool
 | .bool b=>some b
 | .int i=>some (i !=0)
 |_=>none
set_option backward.match.sparseCases false in
noncomputable def BQ(mu:Mu):V->Option Int
 | .lst l=>if l.length<=1000 then some l.length else none
 | .tup l=>if l.length<=1000 then some l.length else none
 | .ref i=>(oh mu i).bind λl=>if l.length<=1000 then some (l.length:Int) else none
 |_=>none
noncomputable def eW(l:List V)(k:Int):Option V:=if 0<=k/\k<2^62 then l[k.toNat]? else none
noncomputable def bP(mu:Mu)(o:V)(k:Int):Option V:=match o with
 | .lst l=>eW l k
 | .arg l=>eW l k
 | .tup l=>if l.length<=1000 then(if 0<=k then eW l k else if -(l.length:Int)<=k then l[(k+l.length).toNat]? else none) else none
 | .ref i=>(oh mu i).bind λl=>eW l k
 |_=>none
set_option backward.match.sparseCases false in
noncomputable def xz(isT:Bool)(l:List V)(a b:Option Int):Option (List V):=match a,b with
 |some k,none=>if l.isEmpty=true/\isT=false/\0<=k then some [] else if l.length<=1000/\k<=l.length/\-(l.length:Int)<=k/\(isT=true->1<=(if 0<=k then k else k+l.length)) then some (l.drop (if 0<=k then k else k+l.length).toNat) else none
 |none,some k=>if l.length<=1000/\0<=k/\k<=l.length/\(isT=true->k<l.length) then some (l.take k.toNat) else none
 |_,_=>none
set_option backward.match.sparseCases false in
noncomputable def qW(o:V)(a b:Option Int):Option V:=match o with
 | .lst l=>(xz false l a b).map .lst
 | .arg l=>(xz false l a b).map .lst
 | .tup l=>(xz true l a b).map .tup
 |_=>none
noncomputable def ci:Int->List Int->Int
 |a,[]=>a
 |a,b::r=>ci (if b>a then b else a) r
noncomputable def iz(t:Value)(s:String):Bool:=match t with
 | .type u=>u==s
 |_=>false
set_option backward.match.sparseCases false in
noncomputable def yL(T:ba)(x:V)(t:Value):Option Bool:=match x with
 | .int _=>if iz t "int" then some true else if iz t "bool" then some false else none
 | .lst _=>if iz t "list" then some true else none
 | .tup _=>if iz t "list" then some false else none
 | .obj C _=>(match t with
  | .ref D=>if C=D then some true else none
  |t=>if iz t "list"&&T.cls C then some false else none)
 |_=>none
noncomputable def Ge:List V->Option Int
 |[.int a,.int b]=>some (if b>a then b else a)
 |[.lst l]=>(cA l).bind λns=>match ns with
  |a::r=>some (ci a r)
  |[]=>none
 |_=>none
set_option backward.match.sparseCases false in
noncomputable def Et(mu:Mu):V->Option (List V)
 | .lst l=>some l
 | .ref i=>oh mu i
 |_=>none
noncomputable def one:List V->Option V
 |[x]=>some x
 |_=>none
noncomputable def sR:V->Option Bool
 | .bool b=>some b|_=>none
noncomputable def t8:V->Option Value
 | .top v=>some v|_=>none
theorem yM{a:V}{v:Value}(h:t8 a=some v):a= .top v:=by cases a<;>first|exact ak h|(cases h;rfl)
noncomputable def two(l:List V):Option (V×Value):=match l with
 |[]=>none
 |x::r=>match r with
  |[]=>none
  |y::r=>if r.isEmpty then(t8 y).map λt=>(x,t) else none
set_option backward.match.sparseCases false in
noncomputable def aL(T:ba)(mu:Mu)(f:Value)(args:List V):Option V:=match f with
 | .builtin s=>
  if s="len" then(one args).bind λx=>(BQ mu x).map .int
  else if s="abs" then(one args).bind λx=>(bp x).map λi=> .int i.natAbs
  else if s="max" then(Ge args).map .int
  else if s="sum" then(one args).bind λx=>(lt x).bind λl=>(cA l).map λns=> .int ns.sum
  else if s="isinstance" then(two args).bind λp=>(yL T p.1 p.2).map .bool
  else none
 | .type s=>
  if s="tuple" then(one args).bind λx=>(Et mu x).bind λl=>if l.length<=1000 then some (.tup l) else none
  else if s="int" then(one args).bind λx=>(sR x).map λb=> .int (if b then 1 else 0)
  else none
 |_=>none
theorem Kf{l:List V}{x:V}(h:one l=some x):l=[x]:=by
 cases l with
 |nil=>exact ak h
 |cons y r=>cases r<;>first|exact ak h|(cases h;rfl)
theorem wu{a:V}{b:Bool}(h:sR a=some b):a= .bool b:=by cases a<;>first|exact ak h|(cases h;rfl)
theorem Kg{l:List V}{x:V×Value}(h:two l=some x):l=[x.1,.top x.2]:=by
 cases l with
 |nil=>exact ak h
 |cons y r=>
  cases r with
  |nil=>exact ak h
  |cons u r=>
   obtain⟨h1,g⟩:=cr h
   obtain⟨t,h2,g⟩:=fZ g
   rw[aaH] at h1
   rw[h1,yM h2,<-g]
noncomputable def J0(mu:Mu)(i:Nat):Option (Addr×List (Str×V)):=match mu[i]? with
 |some (.obj C fs)=>some (C,fs)
 |_=>none
set_option backward.match.sparseCases false in
noncomputable def gL(mu:Mu):V->Option (Addr×List (Str×V))
 | .obj C fs=>some (C,fs)
 | .ref i=>J0 mu i
 |_=>none
theorem Gf{mu:Mu}{i:Nat}{C:Addr}{fs:List (Str×V)}(h:J0 mu i=some (C,fs)):mu[i]? =some (.obj C fs):=by
 unfold J0 at h
 cases k:mu[i]? with
 |none=>rw[k] at h;exact ak h
 |some m=>rw[k] at h;cases m<;>first|exact ak h|(cases h;rfl)
noncomputable def Dw(T:ba)(C:Addr)(name:Str)(d:Option V):Option V:=match d with
 |some v=>if T.field C name then some v else none
 |none=>T.cst C name
noncomputable def rF(T:ba)(mu:Mu)(o:V)(name:Str):Option V:=(gL mu o).bind λp=>Dw T p.1 name (p.2.lookup name)
set_option backward.match.sparseCases false in
noncomputable def t9:V->Option Nat
 | .ref i=>some i|_=>none
theorem oT{a:V}{i:Nat}(h:t9 a=some i):a= .ref i:=by cases a<;>first|exact ak h|(cases h;rfl)
noncomputable def jM(T:ba)(mu:Mu)(o:V)(name:Str)(v:V):Option Mu:=(t9 o).bind λi=>(J0 mu i).bind λp=>if T.field p.1 name/\p.2.length<=100 then some (mu.set i (.obj p.1 (jD name v p.2))) else none
noncomputable def iG(mu:Mu)(o k v:V):Option Mu:=(t9 o).bind λi=>(bp k).bind λk=>(oh mu i).bind λl=>if 0<=k/\k<l.length/\k<2^62 then some (mu.set i (.lst (l.set k.toNat v))) else none
noncomputable def bE(nm:ae)(names:ae):ae:=names.map λ(n,k)=>if(k== .free&&nm.lookup n==some .cell) then(n,.cell) else(n,k)
noncomputable def iX(nm:ae)(names:ae):Bool:=names.all λ(n,k)=>k != .free||nm.lookup n==some .cell||nm.lookup n==some .free
noncomputable def gv(names:ae):Bool:=names.all λ(n,k)=>names.lookup n==some k
noncomputable def f8(names:ae)(loc:au):au:=loc.filter λp=>names.lookup p.1==some .free
set_option backward.match.sparseCases false in
noncomputable def lc:Expr->Bool
 | .Call (.Name _ _) [] [] _=>false
 |_=>true
noncomputable def dx(ks l:au):au:=ks.filterMap λp=>(l.lookup p.1).map λv=>(p.1,v)
noncomputable def jN(f:V->au->Mu->Option (Fl×au×Mu)):List V->au->Mu->Option (Fl×au×Mu)
 |[],loc,mu=>some (.next,loc,mu)
 |v::r,loc,mu=>match f v loc mu with
  |some (.next,loc',mu')=>jN f r (dx loc loc') mu'
  |x=>x
noncomputable def jO(t:au->Mu->Option (Bool×Mu))(f:au->Mu->Option (Fl×au×Mu)):Nat->au->Mu->Option (Fl×au×Mu)
 |0,_,_=>none
 |k+1,loc,mu=>match t loc mu with
  |some (false,mu)=>some (.next,loc,mu)
  |some (true,mu)=>match f loc mu with
   |some (.next,loc',mu')=>jO t f k (dx loc loc') mu'
   |x=>x
  |none=>none
noncomputable def aW(f:V->Mu->Option (List V×Mu)):List V->Mu->Option (List V×Mu)
 |[],mu=>some ([],mu)
 |v::r,mu=>match f v mu with
  |some (a,mu')=>match aW f r mu' with
   |some (b,mu'')=>some (a++b,mu'')
   |none=>none
  |none=>none
noncomputable def aM(a b:Int):List V:=(aaa (b-a).toNat).map λ(k:Nat)=>V.int (a+(k:Int))
noncomputable def fD:Nat->List V->List V
 |_,[]=>[]
 |k,v::r=> .tup [.int k,v]::fD (k+1) r
noncomputable def oU:Expr->Option Str
 | .Name x _=>some x|_=>none
theorem sS{e:Expr}{x:Str}(h:oU e=some x):∃p,e= .Name x p:=by cases e<;>first|exact ak h|(cases h;exact⟨_,rfl⟩)
noncomputable def gM:Expr->Option (List Expr)
 | .Tuple ts _ _=>some ts|_=>none
theorem oj{e:Expr}{x:List Expr}(h:gM e=some x):∃k p,e= .Tuple x k p:=by cases e<;>first|exact ak h|(cases h;exact⟨_,_,rfl⟩)
noncomputable def wv(names:ae)(t:Expr)(v:V)(loc:au):Option au:=(oU t).bind λx=>if names.lookup x=some .local\/names.lookup x=some .cell then some (jD x v loc) else none
noncomputable def iA(nm:ae):List Expr->List V->au->Option au
 |[],vs,loc=>if vs.isEmpty then some loc else none
 |t::ts,vs,loc=>match vs with
  |[]=>none
  |v::vs=>(wv nm t v loc).bind λloc=>iA nm ts vs loc
noncomputable def cv(nm:ae)(t:Expr)(v:V)(loc:au):Option au:=match gM t with
 |some ts=>(xy v).bind λvs=>iA nm ts vs loc
 |none=>wv nm t v loc
noncomputable def yN:Expr->Option (Expr×List Expr)
 | .Call f as kw _=>if kw.isEmpty then some (f,as) else none
 |_=>none
theorem BR{e:Expr}{x:Expr×List Expr}(h:yN e=some x):∃p,e= .Call x.1 x.2 [] p:=by
 cases e with
 |Call f as kw p=>
  obtain⟨h1,h⟩:=cr h
  cases h
  rw[aaH] at h1
  subst h1
  exact⟨p,rfl⟩
 |_=>exact ak h
noncomputable def Eu(ty:String):V->Bool
 | .top t=>iz t ty
 |_=>false
noncomputable def bO(T:ba)(nm:ae)(ty:String)(e:Expr):Option (List Expr):=
 (yN e).bind λc=>(oU c.1).bind λf=>if nm.lookup f=some .globalImplicit/\(f==("__debug__":Str))=false then(T.glob f).bind λv=>if Eu ty v then some c.2 else none else none
inductive n5 where
 |app (i:Nat)|pop (i:Nat)|fn (f:Addr)
noncomputable def Ew(mu:Mu)(o:V):Option Nat:=(t9 o).bind λi=>(oh mu i).bind λq0=>some i
noncomputable def Dx(T:ba)(C:Addr)(name:Str)(d:Option V):Option n5:=match d with
 |some _=>none
 |none=>(T.meth C name).map .fn
noncomputable def rG(T:ba)(mu:Mu)(o:V)(name:Str):Option n5:=match Ew mu o with
 |some i=>if name="append" then some (.app i) else if name="pop" then some (.pop i) else none
 |none=>(gL mu o).bind λp=>Dx T p.1 name (p.2.lookup name)
noncomputable def dJ(F:bM)(o:V)(vs:List V)(mu:Mu)(m:n5):Option (V×Mu):=match m with
 | .app i=>(oh mu i).bind λl=>(one vs).bind λv=>if l.length<=1000 then some (.none,mu.set i (.lst (l++[v]))) else none
 | .pop i=>(oh mu i).bind λl=>(one vs).bind λv=>(bp v).bind λk=>if 0<=k/\k<2^62/\l.length<=1000 then(l[k.toNat]?).map λv=>(v,mu.set i (.lst (l.eraseIdx k.toNat))) else none
 | .fn f=>F (.ref f) (o::vs) mu
theorem yO{T:ba}{mu:Mu}{o:V}{name:Str}{m:n5}(h:rG T mu o name=some m):
  (∃i l,o= .ref i/\mu[i]? =some (.lst l)/\(name="append"/\m= .app i\/name="pop"/\m= .pop i))\/∃C fs f,gL mu o=some (C,fs)/\fs.lookup name=none/\T.meth C name=some f/\m= .fn f:=by
 have h:(match Ew mu o with
  |some i=>if name="append" then some (.app i) else if name="pop" then some (.pop i) else none
  |none=>(gL mu o).bind λp=>Dx T p.1 name (p.2.lookup name))=some m:=h
 cases k:Ew mu o with
 |some i=>
  rw[k] at h
  obtain⟨j,k1,k⟩:=bG k
  obtain⟨l,k2,k⟩:=bG k
  obtain rfl:=aag k
  refine .inl ⟨_,l,oT k1,mF k2,?_⟩
  have h:(if name="append" then some (n5.app j) else if name="pop" then some (.pop j) else none)=some m:=h
  by_cases g:name="append"
  ·rw[if_pos g] at h;exact .inl ⟨g,(aag h).symm⟩
  ·rw[if_neg g] at h;obtain⟨g,h⟩:=cr h;exact .inr ⟨g,(aag h).symm⟩
 |none=>
  rw[k] at h
  obtain⟨p,h1,h⟩:=bG h
  refine .inr ⟨p.1,p.2,?_⟩
  cases g:p.2.lookup name with
  |some _=>rw[g] at h;cases h
  |none=>
   rw[g] at h
   obtain⟨f,h2,h⟩:=fZ h
   exact⟨f,h1,rfl,h2,h.symm⟩
noncomputable def cB(e:Expr):List Str:=match oU e with
 |some x=>[x]
 |none=>[]
noncomputable def iB(e:Expr):List Str:=match gM e with
 |some ts=>ts.flatMap cB
 |none=>cB e
noncomputable def mG:List Str->Bool
 |[]=>true
 |x::r=> !r.contains x&&mG r
noncomputable def oX(T:ba)(nm:ae)(it t:Expr):Bool:=(bO T nm "enumerate" it).isNone||(gM t).isSome
@[irreducible] noncomputable def dY{α β:Type}(x:Option (α×Mu))(f:α->Mu->Option β):Option β:=match x with
 |some p=>f p.1 p.2
 |none=>none
theorem Ex{α β:Type}{x:Option (α×Mu)}{f:α->Mu->Option β}{y:β}(h:dY x f=some y):∃a mu,x=some (a,mu)/\f a mu=some y:=by
 unfold dY at h
 cases x with
 |none=>exact ak h
 |some p=>exact⟨p.1,p.2,rfl,h⟩
theorem cg{α β:Type}{x:Option (α×Mu)}{f:α->Mu->Option β}{y:β}{P:Prop}(h:dY x f=some y)(k:∀a mu,x=some (a,mu)->f a mu=some y->P):P:=let⟨a,b,c,d⟩:=Ex h;k a b c d
noncomputable def jP:List Expr->Option Expr
 |[x]=>some x
 |_=>none
theorem ua{l:List Expr}{x:Expr}(h:jP l=some x):l=[x]:=by
 cases l with
 |nil=>exact ak h
 |cons y r=>cases r<;>first|exact ak h|(cases h;rfl)
noncomputable def yP:Const->Option V
 | .none=>some .none
 | .bool b=>some (.bool b)
 | .int i=>some (.int i)
 |_=>none
noncomputable def yQ(T:ba)(nm:ae)(loc:au)(x:Str):Option V:=if(x==("__debug__":Str))=true\/(x==("__classdict__":Str))=true then none else match nm.lookup x with
 |some .globalImplicit=>T.glob x
 |some .local=>loc.lookup x
 |some .cell=>loc.lookup x
 |some .free=>loc.lookup x
 |_=>none
noncomputable def Lr(op:UnaryOp)(a:V):Option V:=match op with
 | .USub=>(bp a).map λi=> .int (-i)
 | .Not=>(gK a).map λb=> .bool (!b)
 |_=>none
noncomputable def Ey(ops:List CmpOp)(rs:List Expr):Option ((CmpOp×Expr)×Option (CmpOp×Expr)):=match ops with
 |[]=>none
 |op::ops=>match rs with
  |[]=>none
  |r::rs=>match ops with
   |[]=>if rs.isEmpty then some ((op,r),none) else none
   |op'::ops=>match rs with
    |[]=>none
    |r'::rs=>if ops.isEmpty=true/\rs.isEmpty=true/\behindInMarks op' r'=false then some ((op,r),some (op',r')) else none
theorem Gg{ops:List CmpOp}{rs:List Expr}{q:(CmpOp×Expr)×Option (CmpOp×Expr)}(h:Ey ops rs=some q):
  (ops=[q.1.1]/\rs=[q.1.2]/\q.2=none)\/∃p,q.2=some p/\ops=[q.1.1,p.1]/\rs=[q.1.2,p.2]/\behindInMarks p.1 p.2=false:=by
 cases ops with
 |nil=>exact ak h
 |cons o ops=>
  cases rs with
  |nil=>exact ak h
  |cons x rs=>
   cases ops with
   |nil=>
    obtain⟨h1,h⟩:=cr h
    cases h
    rw[aaH] at h1
    exact .inl ⟨rfl,by rw[h1],rfl⟩
   |cons o' ops=>
    cases rs with
    |nil=>exact ak h
    |cons x' rs=>
     obtain⟨⟨h1,h2,h3⟩,h⟩:=cr h
     cases h
     rw[aaH] at h1 h2
     exact .inr ⟨_,rfl,by rw[h1],by rw[h2],h3⟩
noncomputable def BS(ev:Expr->Mu->Option (V×Mu))(l:Expr)(ops:List CmpOp)(rs:List Expr)(mu:Mu):Option (Bool×Mu):=(Ey ops rs).bind λq=>
 dY (ev l mu) λa mu=>dY (ev q.1.2 mu) λb mu=>(b9 mu q.1.1 a b).bind λc=>match q.2 with
  |none=>some (c,mu)
  |some p=>if c then dY (ev p.2 mu) λd mu=>(b9 mu p.1 b d).map λc=>(c,mu) else some (false,mu)
set_option backward.match.sparseCases false in
noncomputable def lv:Expr->Option (Option Expr×Option Expr)
 | .Slice a b c _=>if c.isNone then some (a,b) else none
 |_=>none
theorem yR{e:Expr}{q:Option Expr×Option Expr}(h:lv e=some q):∃p,e= .Slice q.1 q.2 none p:=by
 cases e with
 |Slice a b c p=>
  obtain⟨h1,h⟩:=cr h
  cases h
  rw[Option.isNone_iff_eq_none] at h1
  subst h1
  exact⟨p,rfl⟩
 |_=>exact ak h
set_option backward.match.sparseCases false in
noncomputable def mH:Expr->Option (Expr×Str×Pos)
 | .Attribute o n p=>some (o,n,p)
 |_=>none
theorem BU{e:Expr}{q:Expr×Str×Pos}(h:mH e=some q):e= .Attribute q.1 q.2.1 q.2.2:=by cases e<;>first|exact ak h|(cases h;rfl)
theorem BV{e:Expr}(h:mH e=none):∀o n p,e≠.Attribute o n p:=λo n p q=>by rw[q] at h;cases h
noncomputable def ww:V->Option (List V)
 | .lst l=>some l| .tup l=>some l|_=>none
noncomputable def fE(T:ba)(F:bM)(v:Value)(vs:List V)(mu:Mu):Option (V×Mu):=match aL T mu v vs with
 |some x=>some (x,mu)
 |none=>F v vs mu
noncomputable def vg:List Comprehension->Option ((Expr×Expr×List Expr)×Option (Expr×Expr))
 |[]=>none
 |g::r=>if g.is_async=0 then(match r with
  |[]=>some ((g.target,g.iter,g.ifs),none)
  |g'::r'=>if g.ifs.isEmpty=true/\g'.ifs.isEmpty=true/\g'.is_async=0/\r'.isEmpty=true then some ((g.target,g.iter,[]),some (g'.target,g'.iter)) else none) else none
theorem BW{l:List Comprehension}{q:(Expr×Expr×List Expr)×Option (Expr×Expr)}(h:vg l=some q):
  (q.2=none/\l=[⟨q.1.1,q.1.2.1,q.1.2.2,0⟩])\/∃p,q.2=some p/\l=[⟨q.1.1,q.1.2.1,[],0⟩,⟨p.1,p.2,[],0⟩]:=by
 cases l with
 |nil=>exact ak h
 |cons g r=>
  obtain⟨t,it,ifs,a⟩:=g
  obtain⟨h1,h⟩:=cr h
  have h1:a=0:=h1
  subst h1
  cases r with
  |nil=>cases h;exact .inl ⟨rfl,rfl⟩
  |cons g' r'=>
   obtain⟨t',it',ifs',a'⟩:=g'
   obtain⟨⟨h1,h2,h3,h4⟩,h⟩:=cr h
   cases h
   have h1:ifs=[]:=aaH.mp h1
   have h2:ifs'=[]:=aaH.mp h2
   have h3:a'=0:=h3
   have h4:r'=[]:=aaH.mp h4
   subst h1 h2 h3 h4
   exact .inr ⟨_,rfl,rfl⟩
noncomputable def ub(op:BoolOp)(b:Bool):Bool:=match op with
 | .And=> !b
 | .Or=>b
noncomputable def ol:UnaryOp->Bool
 | .Not=>true|_=>false
theorem yS{op:UnaryOp}(h:ol op=true):op= .Not:=by cases op<;>first|exact absurd h aaG|rfl
section
variable(T:ba)(F:bM)(hint:Nat->Nat->Bool)
set_option backward.match.sparseCases false in
mutual
noncomputable def fu(nm:ae)(loc:au):Nat->Expr->Mu->Option (V×Mu)
 |0,_,_=>none
 |n+1,e,mu=>match e with
  | .Constant c _ _=>(yP c).map λv=>(v,mu)
  | .Name x _=>(yQ T nm loc x).map λv=>(v,mu)
  | .BoolOp op vs _=>xA nm loc n op vs mu
  | .BinOp l op r _=>dY (fu nm loc n l mu) λa mu=>dY (fu nm loc n r mu) λb mu=>(oO op a b).map λc=>(c,mu)
  | .UnaryOp op x _=>dY (fu nm loc n x mu) λa mu=>(Lr op a).map λv=>(v,mu)
  | .IfExp t a b _=>dY (oY nm loc n t mu) λc mu=>fu nm loc n (if c then a else b) mu
  | .Compare l ops rs _=>(BS (fu nm loc n) l ops rs mu).map λp=>(.bool p.1,p.2)
  | .Attribute o name _=>if lc o=true then dY (fu nm loc n o mu) λov mu=>(rF T mu ov name).map λv=>(v,mu) else none
  | .Subscript o i _=>dY (fu nm loc n o mu) λov mu=>match lv i with
   |some q=>dY (F1 nm loc n q.1 mu) λka mu=>dY (F1 nm loc n q.2 mu) λkb mu=>(qW ov ka kb).map λv=>(v,mu)
   |none=>dY (fu nm loc n i mu) λiv mu=>(bp iv).bind λk=>(bP mu ov k).map λv=>(v,mu)
  | .Tuple es _ _=>dY (yy nm loc n es mu) λvs mu=>if vs.length<=1000 then some (.tup vs,mu) else none
  | .List es pos=>dY (yy nm loc n es mu) λvs mu=>if vs.length<=1000 then some (if hint pos.line pos.col then(.ref mu.length,mu++[.lst vs]) else(.lst vs,mu)) else none
  | .Call f args kws cp=>if kws.isEmpty then(match mH f with
   |some q=>if lc q.1=true/\args.length<=29/\(q.2.2.endLine==cp.line)=true then dY (fu nm loc n q.1 mu) λov mu=>(rG T mu ov q.2.1).bind λm=>dY (yy nm loc n args mu) λvs mu=>dJ F ov vs mu m else none
   |none=>match bO T nm "list" (.Call f args [] cp) with
    |some es=>if hint cp.line cp.col then(jP es).bind λe=>(bO T nm "range" e).bind λbs=>(jP bs).bind λb=>dY (fu nm loc n b mu) λx mu=>(bp x).bind λk=>if -1000<=k/\k<=1000 then some (.ref mu.length,mu++[.lst (aM 0 k)]) else none else none
    |none=>dY (fu nm loc n f mu) λfv mu=>dY (yy nm loc n args mu) λvs mu=>(t8 fv).bind λv=>fE T F v vs mu) else none
  | .ListComp elt gens scope _=>Gh nm loc n elt gens scope mu
  |_=>none
noncomputable def Gh(nm:ae)(loc:au):Nat->Expr->List Comprehension->Scope->Mu->Option (V×Mu)
 |0,_,_,_,_=>none
 |n+1,elt,gens,scope,mu=>(vg gens).bind λq=>if oX T nm q.1.2.1 q.1.1=true/\scope.kind= .function/\iX nm scope.names=true/\gv scope.names=true then
   dY (yx nm loc n q.1.2.1 mu) λitems mu=>if items.length<=1000 then match q.2 with
    |none=>
     (aW (λv mu=>(cv scope.names q.1.1 v (f8 scope.names loc)).bind λloc'=>(vh (bE nm scope.names) loc' n q.1.2.2 mu).bind λ(ok,mu)=>
      if ok then(fu (bE nm scope.names) loc' n elt mu).map λ(x,mu)=>([x],mu) else some ([],mu)) items mu).map λp=>(.lst p.1,p.2)
    |some p=>if oX T (bE nm scope.names) p.2 p.1=true then
     (aW (λv mu=>(cv scope.names q.1.1 v (f8 scope.names loc)).bind λloc'=>(yx (bE nm scope.names) loc' n p.2 mu).bind λ(items',mu)=>
      if items'.length<=1000/\(iB p.1).all (λx=>(loc'.lookup x).isNone)=true then
       aW (λv mu=>(cv scope.names p.1 v loc').bind λloc''=>(fu (bE nm scope.names) loc'' n elt mu).map λ(x,mu)=>([x],mu)) items' mu
      else none) items mu).map λp=>(.lst p.1,p.2) else none
   else none
  else none
noncomputable def yx(nm:ae)(loc:au):Nat->Expr->Mu->Option (List V×Mu)
 |0,_,_=>none
 |n+1,e,mu=>match bO T nm "range" e with
  |some es=>(match es with
   |[]=>none
   |b::r=>if r.isEmpty=true then dY (fu nm loc n b mu) λx mu=>(bp x).bind λk=>if -1000<=k/\k<=1000 then some (aM 0 k,mu) else none
    else(jP r).bind λc=>dY (fu nm loc n b mu) λy mu=>dY (fu nm loc n c mu) λx mu=>(bp y).bind λj=>(bp x).bind λk=>if -1000<=j/\j<=1000/\-1000<=k/\k<=1000 then some (aM j k,mu) else none)
  |none=>match bO T nm "enumerate" e with
   |some es=>(jP es).bind λe=>dY (fu nm loc n e mu) λx mu=>(lt x).map λl=>(fD 0 l,mu)
   |none=>dY (fu nm loc n e mu) λx mu=>(ww x).map λl=>(l,mu)
noncomputable def F1(nm:ae)(loc:au):Nat->Option Expr->Mu->Option (Option Int×Mu)
 |0,_,_=>none
 |n+1,o,mu=>match o with
  |none=>some (none,mu)
  |some e=>dY (fu nm loc n e mu) λx mu=>(bp x).bind λk=>if -2^62<k/\k<2^62 then some (some k,mu) else none
noncomputable def yy(nm:ae)(loc:au):Nat->List Expr->Mu->Option (List V×Mu)
 |0,_,_=>none
 |n+1,es,mu=>match es with
  |[]=>some ([],mu)
  |e::r=>dY (fu nm loc n e mu) λv mu=>dY (yy nm loc n r mu) λvs mu=>some (v::vs,mu)
noncomputable def xA(nm:ae)(loc:au):Nat->BoolOp->List Expr->Mu->Option (V×Mu)
 |0,_,_,_=>none
 |n+1,op,es,mu=>match es with
  |[]=>none
  |e::r=>if r.isEmpty then fu nm loc n e mu else dY (fu nm loc n e mu) λv mu=>(gK v).bind λb=>if ub op b then some (v,mu) else xA nm loc n op r mu
noncomputable def oY(nm:ae)(loc:au):Nat->Expr->Mu->Option (Bool×Mu)
 |0,_,_=>none
 |n+1,e,mu=>match e with
  | .UnaryOp op x p=>if ol op then dY (oY nm loc n x mu) λb mu=>some (!b,mu) else dY (fu nm loc n (.UnaryOp op x p) mu) λv mu=>(gK v).map λb=>(b,mu)
  | .BoolOp op vs _=>F2 nm loc n op vs mu
  | .IfExp _ _ _ _=>none
  | .Compare l ops rs _=>BS (fu nm loc n) l ops rs mu
  |e=>dY (fu nm loc n e mu) λv mu=>(gK v).map λb=>(b,mu)
noncomputable def F2(nm:ae)(loc:au):Nat->BoolOp->List Expr->Mu->Option (Bool×Mu)
 |0,_,_,_=>none
 |n+1,op,es,mu=>match es with
  |[]=>some (!ub op true,mu)
  |e::r=>dY (oY nm loc n e mu) λb mu=>if ub op b then some (b,mu) else F2 nm loc n op r mu
noncomputable def vh(nm:ae)(loc:au):Nat->List Expr->Mu->Option (Bool×Mu)
 |0,_,_=>none
 |n+1,es,mu=>match es with
  |[]=>some (true,mu)
  |e::r=>if r.isEmpty then oY nm loc n e mu else none
end
set_option backward.match.sparseCases false in
noncomputable def yT:Expr->Bool
 | .ListComp .. | .SetComp .. | .DictComp .. =>true
 |_=>false
noncomputable def sT(t e:Expr):Bool:=match gM t with
 |some ts=>(match gM e with
  |some vs=>ts.length==vs.length&&mG (ts.flatMap cB)&&(vs.all (foldedForSure 8)|| !vs.all (constantsAlone 8))
  |none=>true)
 |none=>true
set_option backward.match.sparseCases false in
mutual
noncomputable def BX(nm:ae):Nat->Expr->V->au->Mu->Option (au×Mu)
 |0,_,_,_,_=>none
 |n+1,t,v,loc,mu=>match t with
  | .Name x _=>if nm.lookup x=some .local\/nm.lookup x=some .cell then some (jD x v loc,mu) else none
  | .Attribute o a _=>dY (fu T F hint nm loc n o mu) λov mu=>(jM T mu ov a v).map λmu=>(loc,mu)
  | .Subscript o i _=>dY (fu T F hint nm loc n o mu) λov mu=>dY (fu T F hint nm loc n i mu) λiv mu=>(iG mu ov iv v).map λmu=>(loc,mu)
  | .Tuple ts _ _=>(xy v).bind λvs=>if ts.length=vs.length then xB nm n ts vs loc mu else none
  |_=>none
noncomputable def xB(nm:ae):Nat->List Expr->List V->au->Mu->Option (au×Mu)
 |0,_,_,_,_=>none
 |n+1,ts,vs,loc,mu=>match ts with
  |[]=>if vs.isEmpty then some (loc,mu) else none
  |t::ts=>match vs with
   |[]=>none
   |v::vs=>dY (BX nm n t v loc mu) λloc mu=>xB nm n ts vs loc mu
end
noncomputable def fz(hint:Nat->Nat->Bool)(s:Stmt)(loc:au)(mu:Mu):au×Mu:=
 if hint s.pos.line 1000=true then(loc.map λq=>(q.1,iW (dc (aaa mu.length) mu).1 q.2),(dc (aaa mu.length) mu).2) else(loc,mu)
set_option backward.match.sparseCases false in
mutual
noncomputable def BH(nm:ae):Nat->Stmt->au->Mu->Option (Fl×au×Mu)
 |0,_,_,_=>none
 |n+1,s,loc,mu=>match s with
  | .Pass _=>some (.next,loc,mu)
  | .Expr e _=>if yT e=true then none else dY (fu T F hint nm loc n e mu) λ_ mu=>some (.next,loc,mu)
  | .Return o _=>o.bind λe=>dY (fu T F hint nm loc n e mu) λv mu=>some (.ret v,loc,mu)
  | .Assign ts e _=>(jP ts).bind λt=>if sT t e=true then dY (fu T F hint nm loc n e mu) λv mu=>dY (BX T F hint nm n t v loc mu) λloc mu=>some (.next,loc,mu) else none
  | .AugAssign t op e _=>if t7 op=true then(match t with
   | .Attribute o a _=>dY (fu T F hint nm loc n o mu) λov mu=>(rF T mu ov a).bind λold=>dY (fu T F hint nm loc n e mu) λv mu=>(bp old).bind λi=>(bp v).bind λj=>(jM T mu ov a (.int (i+j))).map λmu=>(.next,loc,mu)
   | .Subscript o i _=>dY (fu T F hint nm loc n o mu) λov mu=>dY (fu T F hint nm loc n i mu) λiv mu=>(bp iv).bind λk=>(bP mu ov k).bind λold=>dY (fu T F hint nm loc n e mu) λv mu=>(bp old).bind λi=>(bp v).bind λj=>(iG mu ov (.int k) (.int (i+j))).map λmu=>(.next,loc,mu)
   |_=>none) else none
  | .If t a b _=>dY (oY T F hint nm loc n t mu) λc mu=>g6 nm n (if c then a else b) loc mu
  | .For t it body els _=>if els.isEmpty=true/\oX T nm it t=true then dY (yx T F hint nm loc n it mu) λitems mu=>
    if items.length<=1000 then jN (λv loc mu=>(BX T F hint nm n t v loc mu).bind λ(loc,mu)=>g6 nm n body loc mu) items loc mu else none else none
  | .While t body els _=>if els.isEmpty=true then jO (λloc mu=>oY T F hint nm loc n t mu) (λloc mu=>g6 nm n body loc mu) 100 loc mu else none
  |_=>none
noncomputable def g6(nm:ae):Nat->List Stmt->au->Mu->Option (Fl×au×Mu)
 |0,_,_,_=>none
 |n+1,ss,loc,mu=>match ss with
  |[]=>some (.next,loc,mu)
  |s::r=>(BH nm n s (fz hint s loc mu).1 (fz hint s loc mu).2).bind λq=>match q.1 with
   | .next=>g6 nm n r q.2.1 q.2.2
   | .ret _=>some q
end
end
end
section
noncomputable def o0(A:Around):Prop:=∃e0 outer,A.frames=some (e0::outer)/\e0.scope.isGenerator=false/\e0.scope.isCoroutine=false/\e0.builtins=builtinsNs/\e0.globals=mainGlobals
structure dK(A:Around)(r:Nat):Prop where
 frame:o0 A
 handled:A.handled=none
 depth:A.depth+r+110<recursionLimit
 units:A.units+70*r+70<cLine
theorem dK.cline64{A:Around}{r:Nat}(h:dK A r):A.units+64<cLine:=Nat.lt_of_le_of_lt (Nat.add_le_add (Nat.le_add_right _ _) (by decide)) h.units
theorem dK.cline{A:Around}{r:Nat}(h:dK A r):A.units<cLine:=Nat.lt_of_le_of_lt (Nat.le_add_right _ _) h.cline64
structure FR(h₀:Heap)(env:Env)(nm:ae)(loc:au)(z:af)(as:aX)(mu:Mu)(h:Heap):Prop where
 kind:env.scope.kind= .function
 nms:env.scope.names=nm
 glob:env.globals=mainGlobals
 blt:env.builtins=builtinsNs
 ns:∃m,h.Ns env.locals m/\∀x v,loc.lookup x=some v->nm.lookup x=some .local->∃val,m x=some val/\aC z as v val
 lz:z env.locals=none
 lm:¬jx as mu env.locals
 cell:∀x k,nm.lookup x=some k->k= .cell\/k= .free->∃c ov,env.cells.lookup x=some c/\h.IsCell c ov/\z c=none/\¬jx as mu c/\∀v,loc.lookup x=some v->∃val,ov=some val/\aC z as v val
 capart:∀x y c,env.cells.lookup x=some c->env.cells.lookup y=some c->x=y
 cells:∀x c,env.cells.lookup x=some c->z c=none/\¬jx as mu c/\∃o,h.get? c=some o
noncomputable def Wr(env:Env)(a:Addr):Prop:=a=env.locals\/∃x,env.scope.names.lookup x=some .cell/\env.cells.lookup x=some a
theorem FR.step{h₀:Heap}{env:Env}{nm:ae}{loc:au}{z z':af}{as as':aX}{mu mu':Mu}{h h':Heap}(f:FR h₀ env nm loc z as mu h)(s:ai gh z as mu h z' as' mu' h'):FR h₀ env nm loc z' as' mu' h' where
 kind:=f.kind
 nms:=f.nms
 glob:=f.glob
 blt:=f.blt
 ns:=by
  obtain⟨m,hn,hv⟩:=f.ns
  refine⟨m,hn.at' λo e=>s.keep _ _ e f.lm id,λx v e k=> ?_⟩
  obtain⟨val,a,r⟩:=hv x v e k
  exact⟨val,a,r.mono s.zsub s.asub⟩
 lz:=by
  obtain⟨m,⟨o,_,_,e,_⟩,_⟩:=f.ns
  cases q:z' env.locals with
  |none=>rfl
  |some o'=>
   rcases s.zfresh _ _ q with h|h|h
   ·rw[f.lz] at h;cases h
   ·rw[e] at h;cases h
   ·exact absurd h f.lm
 lm:=λq=>by
  obtain⟨m,⟨o,_,_,e,_⟩,_⟩:=f.ns
  rcases s.mfresh _ q with h|h
  ·exact f.lm h
  ·rw[e] at h;cases h
 cell:=λx k hk hc=>by
  obtain⟨c,ov,e1,e2,e3,e4,e5⟩:=f.cell x k hk hc
  obtain⟨o,eo,ed⟩:=id e2
  refine⟨c,ov,e1,⟨o,s.keep _ _ eo e4 id,ed⟩,?_,λq=> ?_,λv hv=> ?_⟩
  ·cases q:z' c with
   |none=>rfl
   |some o'=>
    rcases s.zfresh _ _ q with h|h|h
    ·rw[e3] at h;cases h
    ·rw[eo] at h;cases h
    ·exact absurd h e4
  ·rcases s.mfresh _ q with h|h
   ·exact e4 h
   ·rw[eo] at h;cases h
  ·obtain⟨val,a,r⟩:=e5 v hv
   exact⟨val,a,r.mono s.zsub s.asub⟩
 capart:=f.capart
 cells:=λx c hc=>by
  obtain⟨e1,e2,o,e3⟩:=f.cells x c hc
  refine⟨?_,λq=> ?_,o,s.keep _ _ e3 e2 id⟩
  ·cases q:z' c with
   |none=>rfl
   |some o'=>
    rcases s.zfresh _ _ q with h|h|h
    ·rw[e1] at h;cases h
    ·rw[e3] at h;cases h
    ·exact absurd h e2
  ·rcases s.mfresh _ q with h|h
   ·exact e2 h
   ·rw[e3] at h;cases h
theorem FR.wr{h₀:Heap}{env:Env}{nm:ae}{loc:au}{z:af}{as:aX}{mu:Mu}{h:Heap}(f:FR h₀ env nm loc z as mu h):∀a,Wr env a->z a=none/\¬jx as mu a/\∃o,h.get? a=some o:=by
 rintro a (rfl|⟨x,hx,hc⟩)
 ·obtain⟨m,⟨o,_,_,e,_⟩,_⟩:=f.ns
  exact⟨f.lz,f.lm,o,e⟩
 ·obtain⟨c,ov,e1,⟨o,eo,_⟩,e3,e4,_⟩:=f.cell x _ (f.nms▸hx) (.inl rfl)
  rw[hc] at e1;cases e1
  exact⟨e3,e4,o,eo⟩
noncomputable def bo(s s':Shared):Prop:=∃h tk,s'={s with heap:=h,toks:=tk}
theorem bo.refl(s:Shared):bo s s:=⟨s.heap,s.toks,rfl⟩
theorem bo.trans{s s' s'':Shared}(x:bo s s')(y:bo s' s''):bo s s'':=by
 obtain⟨h,tk,rfl⟩:=x
 obtain⟨h',tk',rfl⟩:=y
 exact⟨h',tk',rfl⟩
structure iH(prog:Program)(h₀:Heap):Prop where
 tree:prog.given.tree=none
 g:∃mg,h₀.Ns mainGlobals mg
 b:∃mb,h₀.Ns builtinsNs mb/\∀x:Str,x≠"__name__"->mb x=bootBuiltins x
 nolimit:h₀.NoLimit
 seer:h₀.NoSeer
section
variable{prog:Program}{w:World}(h₀:Heap)
noncomputable def Ev{α β:Type}(rep:af->aX->β->α->Prop)(prog:Program)(w:World)(h₀:Heap)(r:Nat)(env:Env)(nm:ae)(loc:au)(mu:Mu)(t:Sem α)(b:β)(mu':Mu):Prop:=
 ∀(A:Around)(z:af)(as:aX)(s:Shared)(Q:α->Shared->Prop)(E:Value->Shared->Prop),dK A r->MR h₀ z as mu s.heap->FR h₀ env nm loc z as mu s.heap->
  (∀x s' z' as',bo s s'->MR h₀ z' as' mu' s'.heap->ai gh z as mu s.heap z' as' mu' s'.heap->FR h₀ env nm loc z' as' mu' s'.heap->rep z' as' b x->Q x s')->
  wpAny (model prog w) A t Q E s
noncomputable abbrev kD(_:af)(_:aX)(b x:Bool):Prop:=x=b
noncomputable abbrev Kh(_:af)(_:aX)(_ _:Unit):Prop:=True
end
section
variable{prog:Program}{w:World}{h₀:Heap}{r:Nat}{env:Env}{nm:ae}{loc:au}{mu mu' mu'':Mu}
theorem bq{α β:Type}{rep:af->aX->β->α->Prop}{z:af}{as:aX}{s:Shared}{Q:α->Shared->Prop}{b:β}{x:α}(R:MR h₀ z as mu s.heap)(f:FR h₀ env nm loc z as mu s.heap)
  (q:∀x s' z' as',bo s s'->MR h₀ z' as' mu s'.heap->ai gh z as mu s.heap z' as' mu s'.heap->FR h₀ env nm loc z' as' mu s'.heap->rep z' as' b x->Q x s') (hb:rep z as b x) (tk:Tok:=s.toks):Q x {s with toks:=tk}:=
 q x _ z as ⟨s.heap,tk,rfl⟩ R (ai.refl _ _ _ _ _) f hb
theorem yU{α β:Type}{rep:af->aX->β->α->Prop}{z:af}{as:aX}{s:Shared}{Q:α->Shared->Prop}{b:β}{x:α}(R:MR h₀ z as mu s.heap)(f:FR h₀ env nm loc z as mu s.heap)
  (q:∀x s' z' as',bo s s'->MR h₀ z' as' mu s'.heap->ai gh z as mu s.heap z' as' mu s'.heap->FR h₀ env nm loc z' as' mu s'.heap->rep z' as' b x->Q x s') {h':Heap} (e:iV s.heap h') (hb:rep z as b x) (tk:Tok:=s.toks):Q x {s with heap:=h',toks:=tk}:=
 q x _ z as ⟨h',tk,rfl⟩ (R.ext e) (ai.ext _ e) (f.step (ai.ext _ e)) hb
theorem BY{k pos}:Ev aC prog w h₀ r env nm loc mu (eval (.Constant .none k pos) env) .none mu:=λq0 q0 q0 q0 q0 q0 q0 R f q=>wpAny_Constant_none (bq R f q .none)
theorem BZ{b:Bool}{k pos}:Ev aC prog w h₀ r env nm loc mu (eval (.Constant (.bool b) k pos) env) (.bool b) mu:=λq0 q0 q0 q0 q0 q0 q0 R f q=>wpAny_Constant_bool (bq R f q (.bool b))
theorem Ez{i:Int}{k pos}:Ev aC prog w h₀ r env nm loc mu (eval (.Constant (.int i) k pos) env) (.int i) mu:=λq0 q0 q0 s q0 q0 q0 R f q=>wpAny_Constant_int (bq R f q (.int i _) (s.toks+1))
theorem yV{x:Str}{pos}{v:V}(hk:nm.lookup x=some .local)(hv:loc.lookup x=some v)(hd:(x==("__debug__":Str))=false):Ev aC prog w h₀ r env nm loc mu (eval (.Name x pos) env) v mu:=
 λq0 q0 q0 q0 q0 q0 q0 R f q=>by
  obtain⟨m,hn,hm⟩:=f.ns
  obtain⟨val,e,rp⟩:=hm x v hv hk
  exact wpAny_Name (wpAny_loadName_local f.kind (by rw[Env.kindOf,f.nms];exact hk) hn e (bq R f q rp)) hd
theorem B0{x:Str}{pos}{v:V}(hk:nm.lookup x=some .cell)(hv:loc.lookup x=some v)(hd:(x==("__debug__":Str))=false):Ev aC prog w h₀ r env nm loc mu (eval (.Name x pos) env) v mu:=
 λq0 q0 q0 q0 q0 q0 q0 R f q=>by
  obtain⟨c,ov,e1,e2,_,_,e5⟩:=f.cell x _ hk (.inl rfl)
  obtain⟨val,rfl,rp⟩:=e5 v hv
  exact wpAny_Name (wpAny_loadName_cell f.kind (by rw[Env.kindOf,f.nms];exact hk) e1 e2 (bq R f q rp)) hd
theorem B1{x:Str}{pos}{v:V}(hk:nm.lookup x=some .free)(hv:loc.lookup x=some v)(hd:(x==("__debug__":Str))=false)(hc:(x==("__classdict__":Str))=false):Ev aC prog w h₀ r env nm loc mu (eval (.Name x pos) env) v mu:=
 λq0 q0 q0 q0 q0 q0 q0 R f q=>by
  obtain⟨c,ov,e1,e2,_,_,e5⟩:=f.cell x _ hk (.inr rfl)
  obtain⟨val,rfl,rp⟩:=e5 v hv
  exact wpAny_Name (wpAny_loadName_free f.kind (by rw[Env.kindOf,f.nms];exact hk) e1 e2 (bq R f q rp) hc) hd
end
end
section
noncomputable def J1{α β:Type}(rep:af->aX->β->α->Prop)(prog:Program)(w:World)(h₀:Heap)(r:Nat)(env:Env)(nm:ae)(loc:au)(mu:Mu)(a:V)(k:Value->Sem α)(b:β)(mu':Mu):Prop:=
 ∀(A:Around)(z:af)(as:aX)(x:Value)(s:Shared)(Q:α->Shared->Prop)(E:Value->Shared->Prop),dK A r->MR h₀ z as mu s.heap->FR h₀ env nm loc z as mu s.heap->aC z as a x->
  (∀y s' z' as',bo s s'->MR h₀ z' as' mu' s'.heap->ai gh z as mu s.heap z' as' mu' s'.heap->FR h₀ env nm loc z' as' mu' s'.heap->rep z' as' b y->Q y s')->wpAny (model prog w) A (k x) Q E s
noncomputable def vi{α β:Type}(rep:af->aX->β->α->Prop)(prog:Program)(w:World)(h₀:Heap)(r:Nat)(env:Env)(nm:ae)(loc:au)(mu:Mu)(a a':V)(k:Value->Value->Sem α)(b:β)(mu':Mu):Prop:=
 ∀(A:Around)(z:af)(as:aX)(x x':Value)(s:Shared)(Q:α->Shared->Prop)(E:Value->Shared->Prop),dK A r->MR h₀ z as mu s.heap->FR h₀ env nm loc z as mu s.heap->aC z as a x->aC z as a' x'->
  (∀y s' z' as',bo s s'->MR h₀ z' as' mu' s'.heap->ai gh z as mu s.heap z' as' mu' s'.heap->FR h₀ env nm loc z' as' mu' s'.heap->rep z' as' b y->Q y s')->wpAny (model prog w) A (k x x') Q E s
noncomputable def L8{α β:Type}(rep:af->aX->β->α->Prop)(prog:Program)(w:World)(h₀:Heap)(r:Nat)(env:Env)(nm:ae)(loc:au)(mu:Mu)(vs:List V)(k:List Value->Sem α)(b:β)(mu':Mu):Prop:=
 ∀(A:Around)(z:af)(as:aX)(xs:List Value)(s:Shared)(Q:α->Shared->Prop)(E:Value->Shared->Prop),dK A r->MR h₀ z as mu s.heap->FR h₀ env nm loc z as mu s.heap->aA z as vs xs->
  (∀y s' z' as',bo s s'->MR h₀ z' as' mu' s'.heap->ai gh z as mu s.heap z' as' mu' s'.heap->FR h₀ env nm loc z' as' mu' s'.heap->rep z' as' b y->Q y s')->wpAny (model prog w) A (k xs) Q E s
section
variable{prog:Program}{w:World}{h₀:Heap}{r:Nat}{env:Env}{nm:ae}{loc:au}{mu mu' mu'':Mu}
theorem MR.keep0{z:af}{as:aX}{h:Heap}(R:MR h₀ z as mu h):∀b o,h₀.get? b=some o->h.get? b=some o:=λb o e=>R.zin _ _ (R.base _ _ e)
theorem EA{a b:Int}(h:a.natAbs<2^63\/b.natAbs<2^63):IntMulOk a b:=by
 have key:∀{a:Int},a.natAbs<2^63->Builtin.Int.intBits a<=64:=λ{a} h=>intBits_le_64 (av 458243887708721578410555644782069202037560770981 [_] [_] h (na _)) (av 59431367742402701318408264782069202037560770981 [_] [_] h (na _))
 rcases h with h|h
 ·exact IntMulOk.of_left (key h)
 ·exact IntMulOk.of_right (key h)
theorem eI{α β:Type}{rep:af->aX->β->α->Prop}{z:af}{as:aX}{s:Shared}{Q:α->Shared->Prop}{b:β}{x:α}{h':Heap}{a:Addr}{o:Obj}(R:MR h₀ z as mu s.heap)(f:FR h₀ env nm loc z as mu s.heap)
  (q:∀x s' z' as',bo s s'->MR h₀ z' as' mu s'.heap->ai gh z as mu s.heap z' as' mu s'.heap->FR h₀ env nm loc z' as' mu s'.heap->rep z' as' b x->Q x s')
  (e:iV s.heap h') (hn:s.heap.get? a=none) (ho:h'.get? a=some o) (hb:rep (z.put a o) as b x) (tk:Tok:=s.toks):Q x {s with heap:=h',toks:=tk}:=
 q x _ (z.put a o) as ⟨h',tk,rfl⟩ (R.newZ e hn ho) (ai.newZ _ R e hn) (f.step (ai.newZ _ R e hn)) hb
theorem aB(h:Heap):h.get? h.objs.size=none:=by
 cases q:h.get? h.objs.size with
 |none=>rfl
 |some o=>exact absurd (aaI q) (aaz _)
theorem lx{z:af}{as:aX}{h:Heap}(R:MR h₀ z as mu h):z h.objs.size=none:=by
 cases q:z h.objs.size with
 |none=>rfl
 |some o=>have:=R.zin _ _ q;rw[aB] at this;cases this
theorem yW{z:af}{as:aX}{l:List V}{vs:List Value}(r:aA z as l vs)(h:0<l.length):¬vs.toArray.isEmpty=true:=by
 cases vs with
 |nil=>rw[r.length] at h;exact absurd h (aaz _)
 |cons _ _=>exact aaG
theorem EB(B:iH prog h₀){op:Operator}{a b c:V}(e:oO op a b=some c):vi aC prog w h₀ r env nm loc mu a b (binaryOp op) c mu:=by
 intro A z as x y s Q E ro R f ra rb q
 cases a with
 |int a=>
  obtain⟨b,hb,e1⟩:=bG e
  clear e
  obtain rfl:=cb hb
  refine ra.eInt λta=>rb.eInt λtb=> ?_
  cases op with
  |Add=>obtain rfl:=aag e1;exact P.add_int (bq R f q (.int _ _) (s.toks+1))
  |Sub=>obtain rfl:=aag e1;exact P.sub_int (bq R f q (.int _ _) (s.toks+1))
  |Mult=>obtain⟨hm,e⟩:=cr e1;obtain rfl:=aag e;clear e1;exact P.mul_int (bq R f q (.int _ _) (s.toks+1)) (EA hm)
  |FloorDiv=>
   obtain⟨hb,e⟩:=Es e1;obtain rfl:=aag e;clear e1
   obtain⟨e0,outer,g1,g2,g3,g4,g5⟩:=ro.frame
   exact floordiv_int hb (bq R f q (.int _ _) (s.toks+1)) (.inr (PylongRoom.of (B.nolimit.keeps R.keep0) (Nat.lt_of_le_of_lt (Nat.add_le_add (Nat.le_add_right _ _) (by decide)) ro.depth) (SeerAt.of (B.seer.keeps R.keep0) B.tree g1 g2 g3 g4 g5)))
  |Mod=>obtain⟨hb,e⟩:=Es e1;obtain rfl:=aag e;clear e1;exact mod_int' hb (bq R f q (.int _ _) (s.toks+1))
  |Pow=>obtain⟨hb,e⟩:=cr e1;obtain rfl:=aag e;clear e1;exact pow_int_small hb.1 (Int.le_trans hb.2.1 (by decide)) (Nat.lt_of_lt_of_le hb.2.2 (by decide)) (bq R f q (.int _ _) (s.toks+1))
  |_=>exact nomatch (show none=some c from e1)
 |lst a=>
  obtain⟨b,hb,e1⟩:=bG e
  clear e
  obtain rfl:=sQ hb
  obtain⟨hl,e⟩:=cr e1
  clear e1
  obtain rfl:=aag e
  obtain rfl:=vf hl.1
  refine ra.eLst λvs p n e1 r1=>rb.eLst λus p' n' e2 r2=> ?_
  refine P.add_list (R.zin _ _ e1) (R.zin _ _ e2) ?_ (by rw[aaJ,aaJ,<-r1.length,<-r2.length];exact aaK hl.2 (by decide))
  exact(eI (b:=V.lst _) (x:=Value.ref s.heap.objs.size) (rep:=aC) R f q (iV.push s.heap (listOf (_++_) 0)) (aB _) (aaL _ rfl) (.lst (n:=0) (by rw[af.put_self,List.append_toArray]) ((r1.append r2).mono (af.put_sub (lx R)) (aav _))):)
 |tup a=>
  obtain⟨b,hb,e1⟩:=bG e
  clear e
  obtain rfl:=wq hb
  obtain⟨hl,e⟩:=cr e1
  clear e1
  obtain rfl:=aag e
  obtain rfl:=vf hl.1
  refine ra.eTup λvs p n e1 r1=>rb.eTup λus p' n' e2 r2=> ?_
  refine P.add_tuple (R.zin _ _ e1) (R.zin _ _ e2) (yW r1 hl.2.1) (yW r2 hl.2.2.1) ?_ (by rw[aaJ,aaJ,<-r1.length,<-r2.length];exact aaK hl.2.2.2 (by decide))
  exact(eI (b:=V.tup _) (x:=Value.ref s.heap.objs.size) (rep:=aC) R f q (iV.push s.heap (hJ (_++_) 0)) (aB _) (aaL _ rfl) (.tup (n:=0) (by rw[af.put_self,List.append_toArray]) ((r1.append r2).mono (af.put_sub (lx R)) (aav _))):)
 |_=>exact nomatch (show none=some c from e)
theorem f9{a:V}{b:Bool}(e:gK a=some b):J1 kD prog w h₀ r env nm loc mu a truthy b mu:=by
 intro A z as x s Q E ro R f ra q
 cases a with
 |bool b=>obtain rfl:=aag e;exact ra.eBool (wpAny_truthy_bool (bq (rep:=kD) R f q rfl))
 |int i=>obtain rfl:=aag e;exact ra.eInt λt=>P.truthy_int (bq (rep:=kD) R f q rfl)
 |_=>exact nomatch (show none=some b from e)
theorem cW{h:Heap}{a:Addr}{its:Array Value}{n:Nat}(e:h.get? a=some (hJ its n)):IsTup h a its:=⟨_,e,rfl,n,rfl⟩
theorem aJ{h:Heap}{a:Addr}{its:Array Value}{n:Nat}(e:h.get? a=some (listOf its n)):h.IsList a its:=⟨_,e,rfl,n,rfl⟩
theorem ez{z:af}{as:aX}{i:Nat}{x:Value}(ra:aC z as (.ref i) x):∃p,as[i]? =some p/\x= .ref p.1:=by
 exact ra.eRef λa d e=>⟨_,e,rfl⟩
theorem MR.lst_at{z:af}{as:aX}{h:Heap}(R:MR h₀ z as mu h){i:Nat}{l:List V}{p:Addr×Addr}(e:mu[i]? =some (.lst l))(ep:as[i]? =some p):∃vs n,h.get? p.1=some (listOf vs.toArray n)/\aA z as l vs:=R.ok i _ p e ep
theorem MR.obj_at{z:af}{as:aX}{h:Heap}(R:MR h₀ z as mu h){i:Nat}{C:Addr}{fs:List (Str×V)}{p:Addr×Addr}(e:mu[i]? =some (.obj C fs))(ep:as[i]? =some p):
  p.1≠p.2/\h.get? p.1=some (instObj C p.2)/\∃es n,h.get? p.2=some (dictOf es n)/\cD z as fs es:=R.ok i _ p e ep
theorem vj{v:V}{l:List V}{ds:List PyData}(e:kF (v::l)=some ds):∃p ps,jL v=some p/\kF l=some ps/\p::ps=ds:=by
 have e:(match jL v,kF l with|some p,some ps=>some (p::ps)|_,_=>none)=some ds:=e
 generalize jL v=a,kF l=b at e⊢
 cases a<;>cases b<;>first|cases e;exact⟨_,_,rfl,rfl,rfl⟩|cases e
theorem ly{z:af}{as:aX}{h:Heap}(hz:∀a o,z a=some o->h.get? a=some o){v:V}{x:Value}{d:PyData}(r:aC z as v x)(e:jL v=some d):∃bs,Reads h x d bs:=
 aC.rec (motive_1:=λv x q0=>∀d,jL v=some d->∃bs,Reads h x d bs) (motive_2:=λl xs q0=>∀ds,kF l=some ds->∃bs,ReadsAll h xs ds bs) (motive_3:=λq0 q0 q0=>True)
  (λq0 e=>aag e▸⟨_,.none⟩) (λq0 q0 e=>nomatch e) (λq0 q0 q0 e=>aag e▸⟨_,.int _ _⟩) (λq0 q0 q0 e=>nomatch e)
  (λho q0 ih q0 e=>by
   obtain⟨ds,e1,e2⟩:=Option.map_eq_some_iff.mp e
   obtain⟨bs,rr⟩:=ih ds e1
   exact e2▸⟨_,.tuple (hz _ _ ho) rfl rfl rr⟩)
  (λho q0 ih q0 e=>by
   obtain⟨ds,e1,e2⟩:=Option.map_eq_some_iff.mp e
   obtain⟨bs,rr⟩:=ih ds e1
   exact e2▸⟨_,.list (hz _ _ ho) rfl rfl rr⟩)
  (λq0 q0 q0 q0 q0 q0 e=>nomatch e) (λq0 q0 q0 q0 q0 e=>nomatch e) (λq0 q0 e=>nomatch e)
  (λq0 e=>aag e▸⟨_,.nil⟩)
  (λq0 q0 ih ihl q0 e=>by
   obtain⟨p,ps,e1,e2,e3⟩:=vj e
   obtain⟨bs,r1⟩:=ih p e1
   obtain⟨cs,r2⟩:=ihl ps e2
   exact e3▸⟨_,.cons r1 r2⟩)
  trivial (λq0 q0 q0 q0 q0=>trivial) r d e
theorem Gi{a b:V}{c:Bool}(e:tY a b=some c):∃p q,jL a=some p/\jL b=some q/\aaF p=true/\aaF q=true/\PyData.eqv p q=c:=by
 have e:(match jL a,jL b with|some p,some q=>if aaF p=true/\aaF q=true then some (PyData.eqv p q) else none|_,_=>none)=some c:=e
 generalize jL a=p,jL b=q at e⊢
 cases p<;>cases q<;>first|cases e;done|skip
 obtain⟨h,e⟩:=cr e
 exact⟨_,_,rfl,rfl,h.1,h.2,aag e⟩
theorem wx{a b:V}{c:Bool}(e:tY a b=some c):vi aC prog w h₀ r env nm loc mu a b (compareOp .Eq) (.bool c) mu:=by
 intro A z as x y s Q E ro R f ra rb q
 obtain⟨p1,p2,e1,e2,h1,h2,rfl⟩:=Gi e
 obtain⟨bs,r1⟩:=ly R.zin ra e1
 obtain⟨cs,r2⟩:=ly R.zin rb e2
 exact eq_dataH r1 r2 h1 h2 ro.cline64 (bq R f q (.bool _))
theorem wy{a b:V}{c:Bool}(e:tY a b=some c):vi aC prog w h₀ r env nm loc mu a b (compareOp .NotEq) (.bool (!c)) mu:=by
 intro A z as x y s Q E ro R f ra rb q
 obtain⟨p1,p2,e1,e2,h1,h2,rfl⟩:=Gi e
 obtain⟨bs,r1⟩:=ly R.zin ra e1
 obtain⟨cs,r2⟩:=ly R.zin rb e2
 exact ne_dataH r1 r2 h1 h2 ro.cline64 (bq R f q (.bool _))
end
end
section
section
variable{prog:Program}{w:World}{A:Around}{E:Value->Shared->Prop}{s:Shared}
theorem mI{sl:Addr}{n:Nat}{vl vu:Value}{lo hi:Option Int}{Q:Int×Int×Nat->Shared->Prop}(hs:s.heap.IsSliceOf sl vl vu .none)(pl:IsPart vl lo)(pu:IsPart vu hi)
  (h:Q ((aaM lo hi 1 n).1,1,aaN (aaM lo hi 1 n).1 (aaM lo hi 1 n).2 1) s):
  wpAny (model prog w) A (Builtin.Slice.sliceApplied (.ref sl) (pure (n:Int))) Q E s:=by
 obtain⟨os,hos,hcs,hds⟩:=id hs
 unfold Builtin.Slice.sliceApplied Builtin.Slice.sliceFields
 refine wpAny_bind (wpAny_bind (wpAny_field hos hds (x:=vl) rfl (wpAny_bind (wpAny_field hos hds (x:=vu) rfl (wpAny_bind (wpAny_field hos hds (x:= .none) rfl (wpAny_pure ?_)))))))
 refine wpAny_bind (slicePart_none ?_)
 show wpAny _ _ (if((1:Int)==0)=true then _ else _) _ _ s
 rw[if_neg (by decide)]
 have p1:∀{v:Value}{o:Option Int}{Q':Option Int->Shared->Prop},IsPart v o->Q' o s->wpAny (model prog w) A (Builtin.Slice.slicePartIndex v) Q' E s:=λp q=>by
  cases p with
  |none=>exact slicePart_none q
  |int i t=>exact slicePart_int q
 refine wpAny_bind (p1 pl (wpAny_bind (p1 pu (wpAny_bind (wpAny_pure ?_)))))
 exact wpAny_pure h
theorem lA{t sl:Addr}{items:Array Value}{vl vu:Value}{lo hi:Option Int}{a k:Nat}{Q:Value->Shared->Prop}(ht:IsTup s.heap t items)(hs:s.heap.IsSliceOf sl vl vu .none)(pl:IsPart vl lo)(pu:IsPart vu hi)
  (ha:(aaM lo hi 1 items.size).1=a) (hk:aaN (aaM lo hi 1 items.size).1 (aaM lo hi 1 items.size).2 1=k) (hno:a≠0\/k≠items.size)
  (h:Q (.ref s.heap.objs.size) {s with heap:=s.heap.push {cls:= .type "tuple",data:= .seq ((items.toList.drop a).take k).toArray}}) (hsz:items.size<=sizeLine):
  wpAny (model prog w) A (getItem (.ref t) (.ref sl)) Q E s:=by
 have hdrop:sizeOk (.seq ((items.toList.drop a).take k).toArray):=by
  show((items.toList.drop a).take k).toArray.size<=sizeLine
  rw[aaJ,aaO,aaP,Array.length_toList]
  exact dX 6127763800330516643124543094105279545386029796314790535456965407943787660 [_,_,_,_,_,_] [] hsz (mn _ _) (su _ _)
 obtain⟨os,hos,hcs,hds⟩:=id hs
 have hTs:s.TypeIs (.ref sl) "slice":=⟨os,hos,hcs⟩
 unfold getItem
 try with_reducible refine wpAny_holding ?_
 first|refine wpAny_bind (wpAny_pure ?_)|skip
 refine wpAny_bind (wpAny_sequenceKey ht.typeIs (by decide) ?_)
 refine wpAny_bind (wpAny_callSpecial?_slot (name:=aaQ "__getitem__") ht.typeIs slot_tuple_getitem
  (wpAny_call_entry slot_tuple_getitem ht.typeIs entry_tuple_getitem ?_ (args_tuple_getitem _ _)))
 show wpAny _ _ (Builtin.Tuple.tupleItemsOf (.ref t)>>=_) _ _ s
 refine wpAny_bind (tupleItemsOf_ ht ?_)
 refine wpAny_bind (wpAny_typeOf hTs ?_)
 rw[if_pos (by decide)]
 refine wpAny_bind (mI hs pl pu ?_)
 rw[ha] at hk⊢
 rw[hk]
 have hno':¬(((a:Int)==0&&(1:Int)==1&&k==items.size)=true):=by
  simp only[beq_self_eq_true,Bool.and_true,aan,beq_iff_eq]
  exact ad 6726914010326483127799760511214927 [_,_,_] [] hno
 show wpAny _ _ (if((a:Int)==0&&(1:Int)==1&&k==items.size)=true then _ else _) _ _ s
 have hp:((aaa k).filterMap λ(j:Nat)=>items[((a:Int)+(j:Int)*1).toNat]?).toArray=((items.toList.drop a).take k).toArray:=by
  have e:(λ(j:Nat)=>items[((a:Int)+(j:Int)*1).toNat]?)=λj=>items[a+j]? :=by
   funext j
   have:((a:Int)+(j:Int)*1).toNat=a+j:=ad 736003319760170873235502885869608548908974910537397316446056498601735017847 [_,_,_] [] (tn _)
   rw[this]
  rw[e]
  have:=pick_run items a k
  rw[List.filterMap_map] at this
  have e2:((λx=>items[x]?)∘λx=>a+x)=λj=>items[a+j]? :=rfl
  rw[e2] at this
  rw[this]
 rw[if_neg hno',hp]
 first
  |exact wpAny_bind (m:=aaR _) (wpAny_newObj_type (wpAny_pure ⟨_,rfl,wpAny_pure h⟩) hdrop)
  |exact wpAny_bind (m:=aaR _) (wpAny_newObj_type (wpAny_bind (wpAny_pure (wpAny_pure ⟨_,rfl,wpAny_pure h⟩))) hdrop)
  |exact wpAny_bind (wpAny_bind (m:=aaR _) (wpAny_newObj_type (wpAny_pure (wpAny_pure ⟨_,rfl,wpAny_pure h⟩)) hdrop))
  |exact wpAny_bind (wpAny_bind (m:=aaR _) (wpAny_newObj_type (wpAny_pure ⟨_,rfl,wpAny_pure h⟩) hdrop))
end
section
variable{prog:Program}{w:World}{h₀:Heap}{r:Nat}{env:Env}{nm:ae}{loc:au}{mu mu' mu'':Mu}
theorem mJ{z:af}{as:aX}{l:List V}{vs:List Value}{k:Int}{v:V}(rl:aA z as l vs)(e:eW l k=some v):0<=k/\k<2^62/\∃x,vs.toArray[k.toNat]? =some x/\aC z as v x:=by
 obtain⟨hk,e⟩:=cr e
 obtain⟨x,hx,rx⟩:=rl.get e
 exact⟨hk.1,hk.2,x,by simpa using hx,rx⟩
theorem lB{k:Int}{n:Nat}(h0:0<=k)(h:k.toNat<n):seqIndex? k n=some k.toNat:=by
 unfold seqIndex?
 rw[if_neg (by exact ad 9064289814033 [] [_] h0:¬k<0)]
 have:(decide (0<=k)&&decide (k<(n:Int)))=true:=by rw[decide_eq_true h0,decide_eq_true (by exact av 20139228973365130215812946807046047560479471 [_,_] [_] h (tn _))];rfl
 show(if(decide (0<=k)&&decide (k<(n:Int)))=true then some k.toNat else none)=_
 rw[if_pos this]
theorem sU{k:Int}{n:Nat}(h0:k<0)(h: -(n:Int)<=k):seqIndex? k n=some (k+n).toNat:=by
 unfold seqIndex?
 rw[if_pos h0]
 have:(decide (0<=k+n)&&decide (k+n<(n:Int)))=true:=by rw[decide_eq_true (by exact ad 71306902389041240673 [_] [_] h),decide_eq_true (by exact ad 792157481071554154 [_] [_] h0)];rfl
 show(if(decide (0<=k+n)&&decide (k+n<(n:Int)))=true then some (k+n).toNat else none)=_
 rw[if_pos this]
theorem Dy(slice:Expr)(o i:Value):∃ops,subscripted slice false o i=operate ops (getItem o i):=by
 cases slice with
 |Slice a b c p=>
  cases c with
  |none=>exact⟨[i,o],rfl⟩
  |some c=>exact⟨[o,i],rfl⟩
 |_=>exact⟨[o,i],rfl⟩
theorem B2{value slice:Expr}{o v:V}{k:Int}(e:bP mu o k=some v):vi aC prog w h₀ r env nm loc mu o (.int k) (subscriptTail value slice) v mu:=by
 intro A z as x y s Q E ro R f ra rb q
 refine rb.eInt λt=> ?_
 obtain⟨ops,hs⟩:=Dy slice x (.int k t)
 have onList:∀{a:Addr}{vs:List Value}{l:List V},x= .ref a->s.heap.IsList a vs.toArray->aA z as l vs->eW l k=some v->wpAny (model prog w) A (subscriptTail value slice x (.int k t)) Q E s:=λ{a vs l} hx hl r1 e=>by
  subst hx
  obtain⟨a1,a2,x,hx,rx⟩:=mJ r1 e
  exact tail_any hl.typeIs slot_list_getitem.lookup (wpAny_getItem_list hl a1 (Int.lt_trans a2 (by decide)) hx (bq R f q rx)) hs
 cases o with
 |lst l=>
  obtain⟨vs,a,n,hx,e1,r1⟩:=ra.inv
  exact onList hx (aJ (R.zin _ _ e1)) r1 e
 |arg l=>
  obtain⟨vs,a,n,o,hx,e1,e2,e3,r1⟩:=ra.inv
  exact onList hx ⟨_,R.zin _ _ e1,e2,_,e3⟩ r1 e
 |ref i=>
  obtain⟨l,hm,e1⟩:=bG e
  obtain⟨p,ep,hx⟩:=ez ra
  obtain⟨vs,n,ho,rl⟩:=R.lst_at (mF hm) ep
  exact onList hx (aJ ho) rl e1
 |tup l=>
  obtain⟨h1000,e1⟩:=cr e
  clear e
  revert hs
  refine ra.eTup λvs a n e0 r1 hs=> ?_
  have hl:=cW (R.zin _ _ e0)
  have hlen:=r1.length
  have fin:∀{j:Nat}{x:Value},vs[j]? =some x->seqIndex? k vs.length=some j->-1000<=k/\k<2^62->aC z as v x->wpAny (model prog w) A (subscriptTail value slice (.ref a) (.int k t)) Q E s:=λ{j x} hx hj hb rx=>
   tail_any hl.typeIs slot_tuple_getitem.lookup (getItem_tuple (j:=j) hl (Int.le_trans (by decide) hb.1) (Int.lt_trans hb.2 (by decide)) (by rw[aaJ];exact hj) (by simpa using hx) (bq R f q rx)) hs
  by_cases h0:0<=k
  ·have e1:(if 0<=k then eW l k else if -(l.length:Int)<=k then l[(k+l.length).toNat]? else none)=some v:=e1
   rw[if_pos h0] at e1
   obtain⟨a1,a2,x,hx,rx⟩:=mJ r1 e1
   have hx':vs[k.toNat]? =some x:=by simpa using hx
   exact fin hx' (lB h0 (aO hx')) ⟨Int.le_trans (by decide) a1,a2⟩ rx
  ·have e1:(if 0<=k then eW l k else if -(l.length:Int)<=k then l[(k+l.length).toNat]? else none)=some v:=e1
   rw[if_neg h0] at e1
   obtain⟨h1,e1⟩:=cr e1
   obtain⟨x,hx,rx⟩:=r1.get e1
   exact fin (j:=(k+l.length).toNat) hx (by rw[<-hlen];exact sU (ad 9064287722978 [] [_] h0) h1) ⟨av 16458797788438450771080 [_] [_] h1000 h1,ad 21287430722978 [] [_] h0⟩ rx
 |_=>exact nomatch (show none=some v from e)
noncomputable def yX(_:af)(_:aX)(o:Option Int)(x:Value):Prop:=IsPart x o
theorem xC(items:Array Value)(lo hi:Option Int)(a b:Nat)(h:sliceBounds lo hi none items.size=((a:Int),(b:Int),1)):slicePick items lo hi none=((items.toList.drop a).take (b-a)).toArray:=by
 unfold slicePick
 rw[h]
 show((sliceRange a b 1).filterMap (items[·]?)).toArray=_
 rw[sliceRange_one,pick_run]
theorem vk{a b:Nat}(h:a<=b):aaN (a:Int) (b:Int) 1=b-a:=by
 unfold aaN
 simp only[show(1:Int)>0 by decide,if_true,Int.ediv_one]
 split<;>lia
set_option tactic.hygienic true in
theorem o3{isT:Bool}{l l':List V}{n:Nat}{ka kb:Option Int}(hn:l.length=n)(e:xz isT l ka kb=some l'):∃a b:Nat,a<=b/\b<=n/\n<=1000/\sliceBounds ka kb none n=((a:Int),(b:Int),1)/\aaM ka kb 1 n=((a:Int),(b:Int))/\
  l'=(l.drop a).take (b-a)/\(isT=true->a≠0\/b-a≠n):=by
 subst hn
 unfold xz at e
 split at e
 ·rename_i k
  split at e
  ·rename_i hk
   cases e
   obtain⟨h1,h2,h3⟩:=hk
   rw[aaH] at h1
   subst h1
   refine⟨0,0,aaS _,aaT _,by simp,?_,?_,by simp,λht=> ?_⟩
   ·simp only[sliceBounds,Option.getD_none,aae]
    rw[if_pos (by decide:(1:Int)>0),if_neg (by exact ad 9064289814033 [] [_] h3:¬k<0),if_pos (by decide:(1:Int)>0)]
    congr 1
    exact av 316412921589064741098545289578395303040289172632465721432333524875577847 [] [_,_,_] (L6 _ _) (Lp _ _)
   ·unfold aaM
    simp only[show ¬((1:Int)<0) by decide,if_false,aae]
    rw[if_neg (by exact ad 9064289814033 [] [_] h3:¬k<0)]
    congr 1
    exact av 1120325181039655613875736395824071703829919513133 [] [_,_] h3 (Lp _ _)
   ·rw[h2] at ht;cases ht
  ·obtain⟨hk,e⟩:=Option.ite_none_right_eq_some.mp e
   cases e
   refine⟨(if 0<=k then k else k+l.length).toNat,l.length,?_,aaS _,hk.1,?_,?_,?_,λht=> ?_⟩
   ·split<;>lia
   ·simp only[sliceBounds,Option.getD_none]
    rw[if_pos (by decide:(1:Int)>0),if_pos (by decide:(1:Int)>0)]
    congr 1
    split<;>split<;>lia
   ·unfold aaM
    simp only[show ¬((1:Int)<0) by decide,if_false]
    congr 1
    split<;>split<;>lia
   ·rw[aaU (by rw[aaP];exact aaS _)]
   ·have:=hk.2.2.2 ht
    left
    exact av 138089305989898725114191515039202037560505123 [_] [_] this (tn _)
 ·rename_i k
  ·obtain⟨hk,e⟩:=Option.ite_none_right_eq_some.mp e
   cases e
   refine⟨0,k.toNat,aaT _,by lia,hk.1,?_,?_,by simp,λht=> ?_⟩
   ·simp only[sliceBounds,Option.getD_none]
    rw[if_pos (by decide:(1:Int)>0),if_neg (by lia:¬k<0),if_pos (by decide:(1:Int)>0)]
    congr 2
    lia
   ·unfold aaM
    simp only[show ¬((1:Int)<0) by decide,if_false]
    rw[if_neg (by lia:¬k<0)]
    congr 1
    lia
   ·have:=hk.2.2.2 ht
    right
    lia
 ·cases e
theorem EC{value:Expr}{lo up:Option Expr}{sp:Pos}{o v:V}{ka kb:Option Int}(e:qW o ka kb=some v)
  (A:Around) (z:af) (as:aX) (x y y':Value) (s:Shared) (Q:Value->Shared->Prop) (E:Value->Shared->Prop) (R:MR h₀ z as mu s.heap) (f:FR h₀ env nm loc z as mu s.heap) (ra:aC z as o x) (rb:IsPart y ka) (rc:IsPart y' kb)
  (q:∀y s' z' as',bo s s'->MR h₀ z' as' mu s'.heap->ai gh z as mu s.heap z' as' mu s'.heap->FR h₀ env nm loc z' as' mu s'.heap->aC z' as' v y->Q y s'):
  wpAny (model prog w) A (subscriptTail value (.Slice lo up none sp) x (.ref s.heap.objs.size)) Q E {s with heap:=s.heap.push {cls:= .type "slice",data:= .fields #[y,y',.none]}}:=by
 obtain⟨ops,hs⟩:=Dy (.Slice lo up none sp) x (.ref s.heap.objs.size)
 have hsl:(s.heap.push {cls:= .type "slice",data:= .fields #[y,y',.none]}).IsSliceOf s.heap.objs.size y y' .none:=Heap.IsSliceOf.new ..
 have fin:∀{o:Obj}{b:V},(∀z',cV z z'->z' (s.heap.objs.size+1)=some o->aC z' as b (.ref (s.heap.objs.size+1)))->o.isFreed=false->v=b->
   Q (.ref (s.heap.push {cls:= .type "slice",data:= .fields #[y,y',.none]}).objs.size) {s with heap:=(s.heap.push {cls:= .type "slice",data:= .fields #[y,y',.none]}).push o}:=λ{o b} hr hf hv=>by
  subst hv
  have x1:=iV.push s.heap {cls:= .type "slice",data:= .fields #[y,y',.none]}
  have hn:s.heap.get? (s.heap.push {cls:= .type "slice",data:= .fields #[y,y',.none]}).objs.size=none:=by
   cases e:s.heap.get? (s.heap.push {cls:= .type "slice",data:= .fields #[y,y',.none]}).objs.size with
   |none=>rfl
   |some o'=>have h9:=aaI e;rw[aaV] at h9;exact absurd h9 (by intro h8;exact absurd (Nat.lt_of_succ_lt h8) (aaz _))
  have hz:z (s.heap.push {cls:= .type "slice",data:= .fields #[y,y',.none]}).objs.size=none:=by
   cases e:z (s.heap.push {cls:= .type "slice",data:= .fields #[y,y',.none]}).objs.size with
   |none=>rfl
   |some o'=>have:=R.zin _ _ e;rw[hn] at this;cases this
  have:=eI (b:=v) (x:=Value.ref (s.heap.push {cls:= .type "slice",data:= .fields #[y,y',.none]}).objs.size) (rep:=aC) (o:=o) R f q (x1.trans (iV.push _ o)) hn (aaL _ hf)
   (by have:=hr (z.put (s.heap.objs.size+1) o) (af.put_sub (by rw[aaV] at hz;exact hz)) (af.put_self _ _ _);rw[aaV];exact this)
  exact this
 have onList:∀{a:Addr}{vs:List Value}{l l':List V},x= .ref a->s.heap.IsList a vs.toArray->aA z as l vs->xz false l ka kb=some l'->v= .lst l'->
   wpAny (model prog w) A (subscriptTail value (.Slice lo up none sp) x (.ref s.heap.objs.size)) Q E {s with heap:=s.heap.push {cls:= .type "slice",data:= .fields #[y,y',.none]}}:=λ{a vs l l'} hx hl0 r1 e hv=>by
  subst hx
  obtain⟨a,b,hab,hbn,hn,h1,h2,h3,h4⟩:=o3 (n:=_) r1.length e
  have hl:=hl0.push {cls:= .type "slice",data:= .fields #[y,y',.none]}
  refine tail_any (s:={s with heap:=_}) hl.typeIs slot_list_getitem.lookup (wpAny_getItem_list_slice hl hsl rb rc .none (by simp) ?_ (by rw[aaJ];exact aaK hn (by decide))) hs
  rw[xC _ ka kb a b (by rw[aaJ];exact h1)]
  exact fin (o:=listOf _ 0) (λz' hz hq=> .lst hq (h3▸((r1.drop a).take (b-a)).mono hz (aav _))) rfl hv
 cases o with
 |lst l=>
  obtain⟨l',e1,hv⟩:=fZ e
  obtain⟨vs,a,n,hx,e0,r1⟩:=ra.inv
  exact onList hx (aJ (R.zin _ _ e0)) r1 e1 hv.symm
 |arg l=>
  obtain⟨l',e1,hv⟩:=fZ e
  obtain⟨vs,a,n,o,hx,e0,e2,e3,r1⟩:=ra.inv
  exact onList hx ⟨_,R.zin _ _ e0,e2,_,e3⟩ r1 e1 hv.symm
 |tup l=>
  obtain⟨l',e1,hv⟩:=fZ e
  obtain⟨vs,p,n,hx,e0,r1⟩:=ra.inv
  clear onList e ra
  subst hx
  obtain⟨a,b,hab,hbn,hn,h1,h2,h3,h4⟩:=o3 (n:=_) r1.length e1
  have hl:=(cW (R.zin _ _ e0)).keeps (h':=s.heap.push {cls:= .type "slice",data:= .fields #[y,y',.none]}) (λ_ _ q=>aaw _ q)
  refine tail_any (s:={s with heap:=_}) hl.typeIs slot_tuple_getitem.lookup (lA (a:=a) (k:=b-a) hl hsl rb rc (by rw[aaJ,h2]) ?_ (by rw[aaJ];exact h4 rfl) ?_ (by rw[aaJ];exact aaK hn (by decide))) hs
  ·rw[aaJ,h2]
   exact vk hab
  ·exact fin (o:=hJ _ 0) (λz' hz hq=> .tup hq (h3▸((r1.drop a).take (b-a)).mono hz (aav _))) rfl hv.symm
 |_=>exact nomatch (show none=some v from e)
end
end
section
section
variable{prog:Program}{w:World}{h₀:Heap}{r:Nat}{env:Env}{nm:ae}{loc:au}{mu mu' mu'':Mu}
theorem rH{z:af}{as:aX}{a:V}{x:Value}{b:Bool}(ra:aC z as a x)(e:du a=some b):(x==Value.none)=b:=by
 cases a with
 |ref i=>exact ra.eRef λq0 q0 q0=>aag e▸rfl
 |top v=>exact nomatch (show none=some b from e)
 |none=>exact ra.eNone (aag e▸rfl)
 |bool _=>exact ra.eBool (aag e▸rfl)
 |int _=>exact ra.eInt λq0=>aag e▸rfl
 |tup _=>exact ra.eTup λq0 q0 q0 q0 q0=>aag e▸rfl
 |lst _=>exact ra.eLst λq0 q0 q0 q0 q0=>aag e▸rfl
 |arg _=>exact ra.eArg λq0 q0 q0 q0 q0 q0 q0 q0=>aag e▸rfl
 |obj _ _=>exact ra.eObj λq0 q0 q0 q0 q0 q0 q0=>aag e▸rfl
theorem ED{A:Around}{s:Shared}{Q:Value->Shared->Prop}{E:Value->Shared->Prop}{a b:Addr}{n:Nat}{vs:List Value}(hu:A.units<cLine)(ha:s.heap.IsList a vs.toArray)(hb:s.heap.get? b=some (listOf #[] n))
  (q:Q (.bool vs.isEmpty) s):wpAny (model prog w) A (compareOp .Eq (.ref a) (.ref b)) Q E s:=by
 cases vs with
 |nil=>exact SeqAt.eq_listAt (e:=λq0=>true) ha (aJ hb) rfl hu (λj h1 h2=>absurd h1 (by simp)) q
 |cons x r=>exact SeqAt.eq_list_lengthsAt ha (aJ hb) (by simp) hu q
theorem EE{A:Around}{s:Shared}{Q:Value->Shared->Prop}{E:Value->Shared->Prop}{a b:Addr}{n:Nat}{vs:List Value}(hu:A.units<cLine)(ha:s.heap.IsList a vs.toArray)(hb:s.heap.get? b=some (listOf #[] n))
  (q:Q (.bool (!vs.isEmpty)) s):wpAny (model prog w) A (compareOp .NotEq (.ref a) (.ref b)) Q E s:=by
 cases vs with
 |nil=>exact SeqAt.RcNeAt.lists (e:=λq0=>true) ha (aJ hb) rfl hu (λj h1 h2=>absurd h1 (by simp)) prog w E Q q
 |cons x r=>exact SeqAt.RcNeAt.lists_lengths ha (aJ hb) (by simp) hu prog w E Q q
theorem uc{z:af}{as:aX}{l:List V}{vs:List Value}(h:aA z as l vs):l.isEmpty=vs.isEmpty:=by
 cases l with
 |nil=>exact h.eNil rfl
 |cons _ _=>exact h.eCons λq0 q0 q0 q0=>rfl
theorem wz{z:af}{as:aX}{y:Value}{h:Heap}(hz:∀a o,z a=some o->h.get? a=some o)(rb:aC z as (.lst []) y):∃b n,y= .ref b/\h.get? b=some (listOf #[] n):=by
 exact rb.eLst λvs a n e r=>r.eNil (PL:=λvs=>z a=some (listOf vs.toArray n)->_) (λe=>⟨_,_,rfl,hz _ _ e⟩) e
theorem B3{v:V}{l:List V}{ns:List Int}(e:cA (v::l)=some ns):∃i ms,v= .int i/\cA l=some ms/\ns=i::ms:=by
 cases v with
 |int i=>obtain⟨ms,h1,h2⟩:=fZ e;exact⟨i,ms,rfl,h1,h2.symm⟩
 |_=>exact nomatch (show none=some ns from e)
theorem ki{z:af}{as:aX}{l:List V}{vs:List Value}{ns:List Int}(h:aA z as l vs)(e:cA l=some ns):∃ts:List Tok,ts.length=ns.length/\vs=(ns.zip ts).map λp=>Value.int p.1 p.2:=by
 induction l generalizing vs ns with
 |nil=>exact h.eNil (aag e▸⟨[],rfl,rfl⟩)
 |cons v l ih=>
  obtain⟨i,ms,rfl,e1,rfl⟩:=B3 e
  refine h.eCons λy ys hv hl=>hv.eInt λt=> ?_
  obtain⟨ts,h1,rfl⟩:=ih hl e1
  exact⟨t::ts,congrArg Nat.succ h1,rfl⟩
theorem wA(k:Int):∀(ns:List Int)(ts:List Tok),ts.length=ns.length->(((ns.zip ts).map λp=>Value.int p.1 p.2).any λy=>match y with| .int i _=>i==k|_=>false)=ns.contains k:=by
 intro L0
 induction L0 with
 |nil=>
  intro _ _
  exact rfl
 |cons n ns ih=>
  intro t1
  cases t1 with
  |nil=>
   intro h
   simp at h
  |cons t ts=>
   intro h
   simp only[aaW,aaX,List.any_cons,List.contains_cons]
   rw[ih ts (by simpa using h),Bool.beq_comm]
theorem Gj{a:Int}{l:List V}{ns:List Int}(e:cA l=some ns):vi aC prog w h₀ r env nm loc mu (.int a) (.lst l) (compareOp .In) (.bool (ns.contains a)) mu:=by
 intro A z as x y s Q E ro R f ra rb q
 refine ra.eInt λt=>rb.eLst λvs p n e1 r1=> ?_
 obtain⟨ts,hl,rfl⟩:=ki r1 e
 refine SeqRoads2.in_list (λy=>match y with| .int i _=>i==a|_=>false) (λy hy=> ?_) (R.zin _ _ e1) ?_
 ·simp only[List.mem_toArray,aak] at hy
  obtain⟨p,_,rfl⟩:=hy
  exact MeetsSeq.EqGives.int _ _ _ _
 ·rw[<-Array.any_toList]
  show Q (.bool (List.any _ _)) s
  rw[wA a ns ts hl]
  exact bq R f q (.bool _)
theorem yY{a:Int}{l:List V}{ns:List Int}(e:cA l=some ns):vi aC prog w h₀ r env nm loc mu (.int a) (.lst l) (compareOp .NotIn) (.bool (!ns.contains a)) mu:=by
 intro A z as x y s Q E ro R f ra rb q
 refine ra.eInt λt=>rb.eLst λvs p n e1 r1=> ?_
 obtain⟨ts,hl,rfl⟩:=ki r1 e
 refine SeqRoads2.notIn_list (λy=>match y with| .int i _=>i==a|_=>false) (λy hy=> ?_) (R.zin _ _ e1) ?_
 ·simp only[List.mem_toArray,aak] at hy
  obtain⟨p,_,rfl⟩:=hy
  exact MeetsSeq.EqGives.int _ _ _ _
 ·rw[<-Array.any_toList]
  show Q (.bool (!List.any _ _)) s
  rw[wA a ns ts hl]
  exact bq R f q (.bool _)
theorem EF{a b:V}{c:Bool}(e:JZ mu false a b=some c):vi aC prog w h₀ r env nm loc mu a b (compareOp .Eq) (.bool c) mu:=by
 intro A z as x y s Q E ro R f ra rb q
 have emp:∀{p:Addr}{vs:List Value}{l:List V},x= .ref p->b= .lst []->s.heap.IsList p vs.toArray->aA z as l vs->l.isEmpty=c->wpAny (model prog w) A (compareOp .Eq x y) Q E s:=λhx hb hl rl hc=>by
  subst hb;subst hx
  obtain⟨b,m,rfl,hb⟩:=wz R.zin rb
  exact ED ro.cline hl hb (by rw[<-uc rl,hc];exact bq R f q (.bool _))
 cases a with
 |bool u=>
  cases b with
  |bool v=>obtain rfl:=aag e;exact ra.eBool (rb.eBool (eq_bool (bq R f q (.bool _))))
  |_=>exact nomatch (show none=some c from e)
 |ref i=>
  obtain⟨hb,e1⟩:=cr e
  obtain⟨l,hm,e1⟩:=fZ e1
  obtain⟨p,ep,hx⟩:=ez ra
  obtain⟨vs,n,ho,rl⟩:=R.lst_at (mF hm) ep
  exact emp hx (oR hb) (aJ ho) rl e1
 |lst l=>
  have e:(if lu b then some l.isEmpty else tY (.lst l) b)=some c:=e
  by_cases hb:lu b=true
  ·rw[if_pos hb] at e
   obtain⟨vs,p,n,hx,e0,rl⟩:=ra.inv
   exact emp hx (oR hb) (aJ (R.zin _ _ e0)) rl (aag e)
  ·rw[if_neg hb] at e
   exact wx e A z as x y s Q E ro R f ra rb q
 |none=>exact wx e A z as x y s Q E ro R f ra rb q
 |int i=>exact wx e A z as x y s Q E ro R f ra rb q
 |tup l=>exact wx e A z as x y s Q E ro R f ra rb q
 |_=>exact nomatch (show none=some c from e)
theorem EG{a b:V}{c:Bool}(e:JZ mu true a b=some c):vi aC prog w h₀ r env nm loc mu a b (compareOp .NotEq) (.bool (!c)) mu:=by
 intro A z as x y s Q E ro R f ra rb q
 have emp:∀{p:Addr}{vs:List Value}{l:List V},x= .ref p->b= .lst []->s.heap.IsList p vs.toArray->aA z as l vs->l.isEmpty=c->wpAny (model prog w) A (compareOp .NotEq x y) Q E s:=λhx hb hl rl hc=>by
  subst hb;subst hx
  obtain⟨b,m,rfl,hb⟩:=wz R.zin rb
  exact EE ro.cline hl hb (by rw[<-uc rl,hc];exact bq R f q (.bool _))
 cases a with
 |bool u=>
  cases b with
  |bool v=>obtain rfl:=aag e;exact ra.eBool (rb.eBool (ne_bool (bq R f q (.bool _))))
  |_=>exact nomatch (show none=some c from e)
 |ref i=>
  obtain⟨hb,e1⟩:=cr e
  obtain⟨l,hm,e1⟩:=fZ e1
  obtain⟨p,ep,hx⟩:=ez ra
  obtain⟨vs,n,ho,rl⟩:=R.lst_at (mF hm) ep
  exact emp hx (oR hb) (aJ ho) rl e1
 |lst l=>
  have e:(if lu b then some l.isEmpty else tY (.lst l) b)=some c:=e
  by_cases hb:lu b=true
  ·rw[if_pos hb] at e
   obtain⟨vs,p,n,hx,e0,rl⟩:=ra.inv
   exact emp hx (oR hb) (aJ (R.zin _ _ e0)) rl (aag e)
  ·rw[if_neg hb] at e
   exact wy e A z as x y s Q E ro R f ra rb q
 |arg l=>
  obtain⟨hb,e1⟩:=cr (show(if(true&&lu b)=true then some l.isEmpty else none)=some c from e)
  obtain⟨vs,p,n,o,hx,e0,e2,e3,rl⟩:=ra.inv
  exact emp hx (oR hb) ⟨_,R.zin _ _ e0,e2,_,e3⟩ rl (aag e1)
 |none=>exact wy e A z as x y s Q E ro R f ra rb q
 |int i=>exact wy e A z as x y s Q E ro R f ra rb q
 |tup l=>exact wy e A z as x y s Q E ro R f ra rb q
 |_=>exact nomatch (show none=some c from e)
theorem Gk{a b:V}{c:Bool}(e:Ke a b=some c):∃i l ns,a= .int i/\b= .lst l/\cA l=some ns/\ns.contains i=c:=by
 obtain⟨i,h1,e⟩:=bG e
 obtain⟨l,h2,e⟩:=bG e
 obtain⟨ns,h3,e⟩:=fZ e
 exact⟨i,l,ns,cb h1,sQ h2,h3,e⟩
theorem om{op:CmpOp}{p:Int->Int->Bool}{a b:V}{c:Bool}(h:∀{A:Around} {s:Shared} {Q:Value->Shared->Prop} {E:Value->Shared->Prop} {i j:Int} {t u:Tok},Q (.bool (p i j)) s->wpAny (model prog w) A (compareOp op (.int i t) (.int j u)) Q E s)
  (e:yJ p a b=some c):vi aC prog w h₀ r env nm loc mu a b (compareOp op) (.bool c) mu:=by
 intro A z as x y s Q E ro R f ra rb q
 obtain⟨i,h1,e1⟩:=bG e
 obtain⟨j,h2,e2⟩:=fZ e1
 clear e e1
 obtain rfl:=cb h1
 obtain rfl:=cb h2
 obtain rfl:=e2
 exact ra.eInt λt=>rb.eInt λu=>h (bq R f q (.bool _))
theorem mK{op:CmpOp}{a b:V}{c:Bool}(e:b9 mu op a b=some c):vi aC prog w h₀ r env nm loc mu a b (compareOp op) (.bool c) mu:=by
 cases op with
 |Is=>
  intro A z as x y s Q E ro R f ra rb q
  obtain⟨hb,e1⟩:=cr e
  obtain rfl:=yK hb
  exact rb.eNone (is_none (by rw[rH ra e1];exact bq R f q (.bool _)))
 |IsNot=>
  intro A z as x y s Q E ro R f ra rb q
  obtain⟨hb,e1⟩:=cr e
  obtain⟨b',e2,rfl⟩:=fZ e1
  clear e e1
  obtain rfl:=yK hb
  exact rb.eNone (isNot_none (by rw[rH ra e2];exact bq R f q (.bool _)))
 |Lt=>exact om (λq=>P.lt_int q) e
 |LtE=>exact om (λq=>P.le_int q) e
 |Gt=>exact om (λq=>P.gt_int q) e
 |GtE=>exact om (λq=>P.ge_int q) e
 |Eq=>exact EF e
 |NotEq=>obtain⟨b',e1,rfl⟩:=fZ e;exact EG e1
 |In=>obtain⟨i,l,ns,rfl,rfl,h,rfl⟩:=Gk e;exact Gj h
 |NotIn=>
  obtain⟨b',e1,rfl⟩:=fZ e
  obtain⟨i,l,ns,rfl,rfl,h,rfl⟩:=Gk e1
  exact yY h
end
end
section
theorem xD:∀(r:List Int)(a:Int),(ci a r=a\/ci a r∈r)/\a<=ci a r/\∀x∈r,x<=ci a r:=by
 intro L0
 induction L0 with
 |nil=>
  intro a
  exact⟨.inl rfl,Int.le_refl _,by simp⟩
 |cons b r ih=>
  intro a
  have h:=ih (if b>a then b else a)
  unfold ci
  obtain⟨h1,h2,h3⟩:=h
  refine⟨?_,?_,?_⟩
  ·rcases h1 with h1|h1
   ·rw[h1]
    by_cases q:b>a
    ·rw[if_pos q];exact .inr (.head _)
    ·rw[if_neg q];exact .inl rfl
   ·exact .inr (.tail _ h1)
  ·refine Int.le_trans ?_ h2
   by_cases q:b>a
   ·rw[if_pos q];exact ad 35759686054 [] [_,_] q
   ·rw[if_neg q];exact dk 40953 [] [_]
  ·intro x hx
   rcases aai.mp hx with rfl|hx
   ·refine Int.le_trans ?_ h2
    by_cases q:x>a
    ·rw[if_pos q];exact dk 40953 [] [_]
    ·rw[if_neg q];exact ad 3218371023968 [] [_,_] q
   ·exact h3 x hx
theorem yZ{a:Int}{r:List Int}{m:Int}(h:m∈a::r)(hm:∀x∈a::r,x<=m):m=ci a r:=by
 obtain⟨h1,h2,h3⟩:=xD r a
 have l1:m<=ci a r:=by
  rcases aai.mp h with rfl|h
  ·exact h2
  ·exact h3 m h
 have l2:ci a r<=m:=by
  rcases h1 with h1|h1
  ·rw[h1];exact hm a (.head _)
  ·exact hm _ (.tail _ h1)
 exact av 26069868175396053 [] [_,_] l1 l2
theorem wB{l:List Int}{j:Nat}(h:j<l.length):l.getD j 0=l[j]:=by rw[aaY,aaD h];rfl
theorem rI{ns:List Int}{ts:List Tok}:((ns.zip ts).map λp=>Value.int p.1 p.2).toArray=intItems (ns.zip ts).toArray:=by
 unfold intItems;rw[List.map_toArray]
theorem wC{ns:List Int}{ts:List Tok}(h:ts.length=ns.length):(ns.zip ts).map (·.1)=ns:=by
 rw[show(λp:Int×Tok=>p.1)=Prod.fst from rfl,List.map_fst_zip (ad 17845936472 [_,_] [] h)]
noncomputable def on(K:Frag)(C:Addr)(name:Str):Bool:=
 plainGet K C name&&hasDictIn K C&&(match findIn K (.ref C) name with|some a=>noGet K a|none=>false)
noncomputable def lC(K:Frag)(C:Addr)(name:Str):Bool:=
 (findIn K (.ref C) "__setattr__"==some (some (.builtin "object.__setattr__")))&&plainOver K C&&(takerIn K C name==some none)&&hasDictIn K C
noncomputable def sV(K:Frag)(C:Addr)(name:Str)(f:Addr):Bool:=
 plainGet K C name&&(findIn K (.ref C) name==some (some (.ref f)))&&(typeIn K (.ref f)==some (.type "function"))
noncomputable def wD(K:Frag)(C:Addr)(name:Str)(i:Int):Bool:=
 plainGet K C name&&hasDictIn K C&& !copiedNames.contains name&&(match findIn K (.ref C) name with
  |some (some (.int j t))=>j==i&&(specialIn K (.int j t) "__get__"==some none)
  |_=>false)
noncomputable def ud(K:Frag)(C:Addr):Bool:=
 kin_notT K C "list"&&plainGet K C "__class__"&&hasDictIn K C&&(findIn K (.ref C) "__class__"==some (some (.builtin "object.__class__")))
  &&(specialIn K (.builtin "object.__class__") "__get__"==some (some (.builtin "getset_descriptor.__get__")))&&(takesIn K (.builtin "object.__class__")==some true)&&(mroIn K C (.type "object")==some true)
structure bV(K:Frag)(T:ba)(h₀:Heap):Prop where
 kin:K.In h₀
 field:∀C name,T.field C name=true->on K C name=true/\lC K C name=true/\ud K C=true
 meth:∀C name f,T.meth C name=some f->sV K C name f=true
 cst:∀C name v,T.cst C name=some v->∃i,v= .int i/\wD K C name i=true
 cls:∀C,T.cls C=true->ud K C=true
 glob:∀x v,T.glob x=some v->∃val,(∀z as,aC z as v val)/\∀mg,h₀.Ns mainGlobals mg->(mg x=some val\/(mg x=none/\x≠"__name__"/\bootBuiltins x=some val))
theorem b6{α:Type}[BEq α][LawfulBEq α]{a b:α}(h:(a==b)=true):a=b:=beq_iff_eq.mp h
set_option tactic.hygienic true in
theorem vm{K:Frag}{C:Addr}{name:Str}(h:on K C name=true):plainGet K C name=true/\hasDictIn K C=true/\∃a,findIn K (.ref C) name=some a/\noGet K a=true:=by
 unfold on at h
 rw[aan,aan] at h
 refine⟨h.1.1,h.1.2,?_⟩
 have h2:=h.2
 split at h2
 ·rename_i a e;exact⟨a,e,h2⟩
 ·cases h2
theorem hO{K:Frag}{C:Addr}{name:Str}(h:plainGet K C name=true):findIn K (.ref C) "__getattribute__"=some (some (.builtin "object.__getattribute__"))/\findIn K (.ref C) "__getattr__"=some none:=by
 unfold plainGet at h
 rw[aan] at h
 exact⟨b6 h.1,b6 h.2⟩
theorem vn{K:Frag}{C:Addr}{name:Str}(h:lC K C name=true):findIn K (.ref C) "__setattr__"=some (some (.builtin "object.__setattr__"))/\plainOver K C=true/\takerIn K C name=some none/\hasDictIn K C=true:=by
 unfold lC at h
 simp only[aan] at h
 exact⟨b6 h.1.1.1,h.1.1.2,b6 h.1.2,h.2⟩
theorem xE{K:Frag}{C:Addr}{name:Str}{f:Addr}(h:sV K C name f=true):plainGet K C name=true/\findIn K (.ref C) name=some (some (.ref f))/\typeIn K (.ref f)=some (.type "function"):=by
 unfold sV at h
 simp only[aan] at h
 exact⟨h.1.1,b6 h.1.2,b6 h.2⟩
set_option tactic.hygienic true in
theorem y2{K:Frag}{C:Addr}{name:Str}{i:Int}(h:wD K C name i=true):plainGet K C name=true/\hasDictIn K C=true/\copiedNames.contains name=false/\∃t,findIn K (.ref C) name=some (some (.int i t))/\specialIn K (.int i t) "__get__"=some none:=by
 unfold wD at h
 simp only[aan,Bool.not_eq_true'] at h
 refine⟨h.1.1.1,h.1.1.2,h.1.2,?_⟩
 have h2:=h.2
 split at h2
 ·rename_i j t e
  rw[aan] at h2
  have:=b6 h2.1
  subst this
  exact⟨t,e,b6 h2.2⟩
 ·cases h2
section
variable{prog:Program}{w:World}{h₀:Heap}{r:Nat}{env:Env}{nm:ae}{loc:au}{mu mu' mu'':Mu}{K:Frag}{T:ba}
theorem bV.at(H:bV K T h₀){z:af}{as:aX}{h:Heap}(R:MR h₀ z as mu h):K.In h:=H.kin.keeps R.keep0
theorem iI{h:Heap}{x d C:Addr}{es:List DictEntry}{n:Nat}(e:h.get? x=some (instObj C d))(f:h.get? d=some (dictOf es n)):InstAt h x (instObj C d) C (some (dictOf es n)):=⟨e,rfl,rfl,f⟩
theorem EH{z:af}{as:aX}{A:Around}{s:Shared}{Q:Value->Shared->Prop}{E:Value->Shared->Prop}{x:Value}{u:V}{c:Int}(R:MR h₀ z as mu s.heap)(ra:aC z as u x)(e:BQ mu u=some c)(q:∀t tk,Q (.int c t) {s with toks:=tk}):
  wpAny (model prog w) A (call (.builtin "len") [x]) Q E s:=by
 have onList:∀{a:Addr}{vs:List Value}{l:List V},x= .ref a->s.heap.IsList a vs.toArray->aA z as l vs->l.length<=1000->(l.length:Int)=c->wpAny (model prog w) A (call (.builtin "len") [x]) Q E s:=λhx hl r1 h hc=>by
  subst hx
  have h2:=r1.length
  exact Calls.call_len_list hl (by rw[aaJ,<-h2];exact ad 21801156310080 [_] [] h) (by rw[aaJ,<-h2,hc];exact q _ _)
 cases u with
 |lst l=>
  obtain⟨vs,a,n,hx,e1,r1⟩:=ra.inv
  obtain⟨hl,e⟩:=cr e
  exact onList hx (aJ (R.zin _ _ e1)) r1 hl (aag e)
 |tup l=>
  obtain⟨vs,a,n,hx,e1,r1⟩:=ra.inv
  obtain⟨hl,e⟩:=cr e
  subst hx
  have h2:=r1.length
  exact PyProof.Rows.len_tuple (cW (R.zin _ _ e1)) (by rw[aaJ,<-h2];exact ad 21801156310080 [_] [] hl) (by rw[aaJ,<-h2,aag e];exact q _ _)
 |ref i=>
  obtain⟨l,hm,e⟩:=bG e
  obtain⟨hl,e⟩:=cr e
  obtain⟨p,ep,hx⟩:=ez ra
  obtain⟨vs,n,ho,r1⟩:=R.lst_at (mF hm) ep
  exact onList hx (aJ ho) r1 hl (aag e)
 |_=>exact nomatch (show none=some c from e)
theorem B4{z:af}{as:aX}{A:Around}{s:Shared}{Q:Value->Shared->Prop}{E:Value->Shared->Prop}{x:Value}{l:List V}{a:Int}{rr:List Int}(ro:dK A r)(R:MR h₀ z as mu s.heap)(ra:aC z as (.lst l) x)(hi:cA l=some (a::rr))(q:∀t h' tk,iV s.heap h'->Q (.int (ci a rr) t) {s with heap:=h',toks:=tk}):
  wpAny (model prog w) A (call (.builtin "max") [x]) Q E s:=by
 refine ra.eLst λvs p n e1 r1=> ?_
 obtain⟨ts,ht,hv⟩:=ki r1 hi
 have hL:=aJ (R.zin _ _ e1)
 rw[hv,rI] at hL
 have hs:((a::rr).zip ts).toArray.size-1=rr.length:=by rw[aaJ,List.length_zip,ht,Nat.min_self];rfl
 refine max_intList ro.handled hL (by rw[aaJ,List.length_zip,ht,Nat.min_self];exact Nat.succ_pos _) λv h' tk hv x=> ?_
 obtain⟨t,rfl⟩:=intItems_at hv
 have hn:∀j,numAt ((a::rr).zip ts).toArray j=(a::rr).getD j 0:=λj=>by rw[numAt_eq];rw[show(((a::rr).zip ts).toArray.toList)=(a::rr).zip ts from rfl,wC ht]
 rw[hs]
 obtain⟨g1,g2⟩:=argBest_gt (numAt ((a::rr).zip ts).toArray) rr.length
 have key:numAt ((a::rr).zip ts).toArray (argBest (λi j=>decide (numAt ((a::rr).zip ts).toArray i>numAt ((a::rr).zip ts).toArray j)) rr.length)=ci a rr:=by
  refine yZ ?_ λx hx=> ?_
  ·rw[hn,wB (by rw[aaf];exact Nat.lt_succ_of_le g1)]
   exact List.getElem_mem _
  ·obtain⟨j,hj,rfl⟩:=List.mem_iff_getElem.mp hx
   have:=g2 j (Nat.le_of_lt_succ hj)
   rw[hn j,wB hj] at this
   exact this
 rw[key]
 exact q _ _ _ x
theorem EI{z:af}{as:aX}{A:Around}{s:Shared}{Q:Value->Shared->Prop}{E:Value->Shared->Prop}{x:Value}{u:V}{l:List V}(R:MR h₀ z as mu s.heap)(fr:FR h₀ env nm loc z as mu s.heap)(ra:aC z as u x)(e:Et mu u=some l)(hl:l.length<=1000)
  (q:∀y s' z' as',bo s s'->MR h₀ z' as' mu s'.heap->ai gh z as mu s.heap z' as' mu s'.heap->FR h₀ env nm loc z' as' mu s'.heap->aC z' as' (.tup l) y->Q y s'):
  wpAny (model prog w) A (call (.type "tuple") [x]) Q E s:=by
 have onList:∀{a:Addr}{vs:List Value},x= .ref a->s.heap.IsList a vs.toArray->aA z as l vs->wpAny (model prog w) A (call (.type "tuple") [x]) Q E s:=λ{a vs} hx ho r1=>by
  subst hx
  refine call_tuple_list ho (λh' x=> ?_) (hsz:=by rw[aaJ,<-r1.length];exact aaK hl (by decide))
  have hn:s.heap.get? h'.objs.size=none:=by
   cases g:s.heap.get? h'.objs.size with
   |none=>rfl
   |some o=>have:=x _ _ g;rw[aB] at this;cases this
  have hz:z h'.objs.size=none:=by
   cases g:z h'.objs.size with
   |none=>rfl
   |some o=>have:=R.zin _ _ g;rw[hn] at this;cases this
  exact(eI (rep:=aC) (b:=V.tup l) (x:=Value.ref h'.objs.size) R fr q (h':=h'.push (hJ vs.toArray 0)) (a:=h'.objs.size) (o:=hJ vs.toArray 0) (λb o e=>aaw _ (x b o e)) hn (aaL _ rfl) (.tup (n:=0) (af.put_self _ _ _) (r1.mono (af.put_sub hz) (aav _))):)
 cases u with
 |lst l'=>
  obtain rfl:=aag e
  obtain⟨vs,a,n,hx,e1,r1⟩:=ra.inv
  exact onList hx (aJ (R.zin _ _ e1)) r1
 |ref i=>
  obtain⟨p,ep,hx⟩:=ez ra
  obtain⟨vs,n,ho,r1⟩:=R.lst_at (mF e) ep
  exact onList hx (aJ ho) r1
 |_=>exact nomatch (show none=some l from e)
theorem kj{t:Value}{s:String}(h:iz t s=true):t= .type s:=by
 cases t with
 |type u=>exact congrArg Value.type (eq_of_beq h)
 |_=>exact nomatch (show false=true from h)
theorem B5(H:bV K T h₀){z:af}{as:aX}{A:Around}{s:Shared}{Q:Value->Shared->Prop}{E:Value->Shared->Prop}{x:Value}{t:Value}{u:V}{c:Bool}(R:MR h₀ z as mu s.heap)(ra:aC z as u x)(e:yL T u t=some c)(q:∀tk,Q (.bool c) {s with toks:=tk}):
  wpAny (model prog w) A (call (.builtin "isinstance") [x,t]) Q E s:=by
 cases u with
 |int i=>
  refine ra.eInt λtt=> ?_
  have e:(if iz t "int" then some true else if iz t "bool" then some false else none)=some c:=e
  by_cases h:iz t "int"=true
  ·rw[if_pos h] at e;obtain rfl:=aag e
   obtain rfl:=kj h
   exact PySem.IsiPair.int_int (q s.toks)
  ·rw[if_neg h] at e;obtain⟨h,e⟩:=cr e;obtain rfl:=aag e
   obtain rfl:=kj h
   exact PySem.IsiPair.int_bool (q _)
 |lst l=>
  obtain⟨h,e⟩:=cr e;obtain rfl:=aag e
  obtain rfl:=kj h
  exact ra.eLst λvs a n e1 r1=>PySem.IsiPair.list_list (R.zin _ _ e1) rfl (q s.toks)
 |tup l=>
  obtain⟨h,e⟩:=cr e;obtain rfl:=aag e
  obtain rfl:=kj h
  exact ra.eTup λvs a n e1 r1=>PySem.IsiPair.tuple_list (R.zin _ _ e1) rfl (q _)
 |obj C fs=>
  refine ra.eObj λp d es n e1 e2 r1=> ?_
  cases t with
  |ref D=>
   obtain⟨h,e⟩:=cr e;obtain rfl:=aag e
   subst h
   exact isi_call (K:=K) (t:= .ref _) (H.at R) (λM=>(iI (R.zin _ _ e1) (R.zin _ _ e2)).type) (by unfold isIn;rw[beq_self_eq_true];rfl) (by intro q;cases q) (q s.toks)
  |type u=>
   obtain⟨h,e⟩:=cr e;obtain rfl:=aag e
   rw[aan] at h
   obtain rfl:=Value.type.inj (kj h.1)
   have hk:=H.cls _ h.2
   unfold ud at hk
   simp only[aan] at hk
   exact kin_callT (H.at R) (iI (R.zin _ _ e1) (R.zin _ _ e2)) hk.1.1.1.1.1.1 (by rfl) hk.1.1.1.1.1.2 hk.1.1.1.1.2 (b6 hk.1.1.1.2) (b6 hk.1.1.2) (b6 hk.1.2) (b6 hk.2) (q _)
  |_=>exact nomatch (show none=some c from e)
 |_=>exact nomatch (show none=some c from e)
theorem hR{z:af}{as:aX}{vs:List V}{u:V}{xs:List Value}(h:one vs=some u)(rl:aA z as vs xs):∃x,xs=[x]/\aC z as u x:=by
 obtain rfl:=Kf h
 exact rl.eCons λx ys rx r=>r.eNil ⟨x,rfl,rx⟩
theorem vo(H:bV K T h₀){f:Value}{vs:List V}{c:V}(e:aL T mu f vs=some c):L8 aC prog w h₀ r env nm loc mu vs (λxs=>call f xs) c mu:=by
 intro A z as xs s Q E ro R fr rl q
 cases f with
 |builtin n=>
  have e:(if n="len" then(one vs).bind λx=>(BQ mu x).map .int
   else if n="abs" then(one vs).bind λx=>(bp x).map λi=> .int i.natAbs
   else if n="max" then(Ge vs).map .int
   else if n="sum" then(one vs).bind λx=>(lt x).bind λl=>(cA l).map λns=> .int ns.sum
   else if n="isinstance" then(two vs).bind λp=>(yL T p.1 p.2).map .bool
   else none)=some c:=e
  by_cases h:n="len"
  ·rw[if_pos h] at e
   subst h
   obtain⟨u,h1,e⟩:=bG e
   obtain⟨k,h2,rfl⟩:=fZ e
   obtain⟨x,rfl,ra⟩:=hR h1 rl
   exact EH R ra h2 λt tk=>bq R fr q (.int _ _) tk
  rw[if_neg h] at e
  clear h
  by_cases h:n="abs"
  ·rw[if_pos h] at e
   subst h
   obtain⟨u,h1,e⟩:=bG e
   obtain⟨i,h2,rfl⟩:=fZ e
   obtain⟨x,rfl,ra⟩:=hR h1 rl
   obtain rfl:=cb h2
   refine ra.eInt λt=>call_abs_int λu tk=> ?_
   rw[(by split<;>omega:(if i<0 then -i else i)=(i.natAbs:Int))]
   exact bq R fr q (.int _ _) tk
  rw[if_neg h] at e
  clear h
  by_cases h:n="max"
  ·rw[if_pos h] at e
   subst h
   obtain⟨m,h1,rfl⟩:=fZ e
   cases vs with
   |nil=>exact nomatch (show none=some m from h1)
   |cons u vs=>
    cases vs with
    |nil=>
     obtain⟨x,rfl,ra⟩:=hR rfl rl
     cases u with
     |lst l=>
      obtain⟨ns,h2,h1⟩:=bG h1
      cases ns with
      |nil=>exact nomatch (show none=some m from h1)
      |cons a rr=>exact B4 ro R ra h2 λt h' tk x=>yU R fr q x (aag h1▸.int _ _) tk
     |_=>exact nomatch (show none=some m from h1)
    |cons u' vs=>
     cases u with
     |int a=>
      cases u' with
      |int b=>
       cases vs with
       |nil=>
        refine rl.eCons λx ys ra rl=>rl.eCons λy ys rb rl=>rl.eNil (ra.eInt λt=>rb.eInt λt'=>max_two_ints ro.handled λh' tk x=>yU R fr q x ?_ tk)
        obtain rfl:=aag h1
        by_cases h:b>a
        ·rw[if_pos h,if_pos h];exact .int _ _
        ·rw[if_neg h,if_neg h];exact .int _ _
       |cons _ _=>exact nomatch (show none=some m from h1)
      |_=>exact nomatch (show none=some m from h1)
     |_=>exact nomatch (show none=some m from h1)
  rw[if_neg h] at e
  clear h
  by_cases h:n="sum"
  ·rw[if_pos h] at e
   subst h
   obtain⟨u,h1,e⟩:=bG e
   obtain⟨l,h2,e⟩:=bG e
   obtain⟨ns,hi,rfl⟩:=fZ e
   obtain⟨x,rfl,ra⟩:=hR h1 rl
   obtain rfl:=sQ h2
   refine ra.eLst λvs p n e1 r1=> ?_
   obtain⟨ts,ht,hv⟩:=ki r1 hi
   have hL:=aJ (R.zin _ _ e1)
   rw[hv,rI] at hL
   refine sum_intListG ro.handled hL λh' tk t' x=>yU R fr q x ?_ tk
   rw[preSum_eq,show((ns.zip ts).toArray.toList)=ns.zip ts from rfl,wC ht,aaU (by rw[aaJ,List.length_zip,ht,Nat.min_self];exact aaS _)]
   exact .int _ _
  rw[if_neg h] at e
  clear h
  obtain⟨h,e⟩:=cr e
  subst h
  obtain⟨p,h1,e⟩:=bG e
  obtain⟨k,h2,rfl⟩:=fZ e
  obtain rfl:=Kg h1
  exact rl.eCons λx ys ra rl=>rl.eCons λy ys rb rl=>rl.eNil (rb.eTop λ_=>B5 H R ra h2 λtk=>bq R fr q (.bool _) tk)
 |type n=>
  have e:(if n="tuple" then(one vs).bind λx=>(Et mu x).bind λl=>if l.length<=1000 then some (.tup l) else none
   else if n="int" then(one vs).bind λx=>(sR x).map λb=> .int (if b then 1 else 0)
   else none)=some c:=e
  by_cases h:n="tuple"
  ·rw[if_pos h] at e
   subst h
   obtain⟨u,h1,e⟩:=bG e
   obtain⟨l,h2,e⟩:=bG e
   obtain⟨hl,e⟩:=cr e
   obtain rfl:=aag e
   obtain⟨x,rfl,ra⟩:=hR h1 rl
   exact EI R fr ra h2 hl q
  rw[if_neg h] at e
  clear h
  obtain⟨h,e⟩:=cr e
  subst h
  obtain⟨u,h1,e⟩:=bG e
  obtain⟨b,h2,rfl⟩:=fZ e
  obtain⟨x,rfl,ra⟩:=hR h1 rl
  obtain rfl:=wu h2
  exact ra.eBool (call_int_bool (bq R fr q (.int _ _) (s.toks+1)))
 |_=>exact nomatch (show none=some c from e)
end
end
section
section
variable{prog:Program}{w:World}{h₀:Heap}{r:Nat}{env:Env}{nm:ae}{loc:au}{mu mu' mu'':Mu}{K:Frag}{T:ba}
theorem vp{z:af}{as:aX}{v:V}{x:Value}(h:aC z as v x):handedIn x=true:=by
 cases v with
 |none=>exact h.eNone rfl
 |bool _=>exact h.eBool rfl
 |int _=>exact h.eInt λq0=>rfl
 |tup _=>exact h.eTup λq0 q0 q0 q0 q0=>rfl
 |lst _=>exact h.eLst λq0 q0 q0 q0 q0=>rfl
 |arg _=>exact h.eArg λq0 q0 q0 q0 q0 q0 q0 q0=>rfl
 |obj _ _=>exact h.eObj λq0 q0 q0 q0 q0 q0 q0=>rfl
 |ref _=>exact h.eRef λq0 q0 q0=>rfl
 |top _=>exact h.eTop id
theorem rJ{z:af}{as:aX}{h:Heap}(R:MR h₀ z as mu h){o:V}{x:Value}{C:Addr}{fs:List (Str×V)}(ra:aC z as o x)(e:gL mu o=some (C,fs)):
  ∃a d es n,x= .ref a/\h.get? a=some (instObj C d)/\h.get? d=some (dictOf es n)/\cD z as fs es:=by
 cases o with
 |obj C' fs'=>
  cases e
  exact ra.eObj λq0 q0 q0 q0 e1 e2 r1=>⟨_,_,_,_,rfl,R.zin _ _ e1,R.zin _ _ e2,r1⟩
 |ref i=>
  obtain⟨p,ep,hx⟩:=ez ra
  obtain⟨_,h1,es,n,h2,r1⟩:=R.obj_at (Gf e) ep
  exact⟨_,_,es,n,hx,h1,h2,r1⟩
 |_=>exact nomatch (show none=some (C,fs) from e)
theorem wE(H:bV K T h₀){o v:V}{name:Str}{expr:Bool}(e:rF T mu o name=some v):J1 aC prog w h₀ r env nm loc mu o (λx=>getAttr x name expr) v mu:=by
 intro A z as x s Q E ro R fr ra q
 obtain⟨⟨C,fs⟩,hf,e1⟩:=bG e
 clear e
 obtain⟨a,d,es,n,rfl,h1,h2,r1⟩:=rJ R ra hf
 have I:=iI h1 h2
 have X:=H.at R
 have e:Dw T C name (fs.lookup name)=some v:=e1
 clear e1
 cases hl:fs.lookup name with
 |some u=>
  rw[hl] at e
  obtain⟨hT,e⟩:=cr e
  obtain rfl:=aag e
  obtain⟨f1,_,_⟩:=H.field _ _ hT
  obtain⟨g1,g2,at',g3,g4⟩:=vm f1
  obtain⟨y,hy,ry⟩:=r1.get hl
  exact get_value X I (hO g1).1 (findObj_own g2 g3 g4 (by rw[lookIn_dict];exact hy)) (vp ry) (bq R fr q ry (s.toks+1))
 |none=>
  rw[hl] at e
  obtain⟨i,rfl,hc⟩:=H.cst _ _ _ e
  obtain⟨g1,g2,g3,t,g4,g5⟩:=y2 hc
  exact get_value X I (hO g1).1 (findObj_cls g2 g4 g5 rfl g3 (by rw[lookIn_dict];exact r1.miss hl)) rfl (bq R fr q (.int _ _) (s.toks+1))
noncomputable abbrev Gm(f:Addr)(z:af)(as:aX)(b:V)(p:Value×List Value):Prop:=∃x,p=(.ref f,[x])/\aC z as b x
theorem xF(H:bV K T h₀){o:V}{name:Str}{C:Addr}{fs:List (Str×V)}{f:Addr}{pl:Sem Bool}(e:gL mu o=some (C,fs))(hl:fs.lookup name=none)(hm:T.meth C name=some f):
  J1 (Gm f) prog w h₀ r env nm loc mu o (λx=>getMethod x name pl) o mu:=by
 intro A z as x s Q E ro R fr ra q
 obtain⟨a,d,es,n,rfl,h1,h2,r1⟩:=rJ R ra e
 obtain⟨g1,g2,g3⟩:=xE (H.meth _ _ _ hm)
 refine method_fn (H.at R) (iI h1 h2) (hO g1).1 (hO g1).2 g2 g3 ?_ (bq (rep:=Gm f) R fr q ⟨_,rfl,ra⟩)
 show Option.map (λx=>x.isSome) (lookIn name (dictOf es n))=some false
 rw[lookIn_dict,r1.miss hl]
 rfl
set_option tactic.hygienic true in
theorem y3{prog:Program}{w:World}{A:Around}{E:Value->Shared->Prop}{s:Shared}{K:Frag}{x d C:Addr}{name:Str}{v:Value}{es:List DictEntry}{n:Nat}{Q:Unit->Shared->Prop}(X:K.In s.heap)
  (h1:s.heap.get? x=some (instObj C d)) (h2:s.heap.get? d=some (dictOf es n)) (hs:lC K C name=true) (hz:es.length<=1000) (hg:(getL name es).isSome=true)
  (h:∀h' n' hsh tk,h'.get? d=some (dictOf (putL name hsh (.str name tk) v es) n')->(∀b,b≠d->h'.get? b=s.heap.get? b)->Q () {s with heap:=h',toks:=s.toks+2}):wpAny (model prog w) A (setAttr (.ref x) name v) Q E s:=by
 obtain⟨k1,k2,k3,k4⟩:=vn hs
 have I:=iI h1 h2
 refine set_plain X I k1 ?_
 refine osa_open (s:={s with toks:=s.toks+1}) X I k2 k3 λb=> ?_
 obtain⟨cd,hc,hd'⟩:=any_some k4
 refine wpAny_bind (wpAny_pure (wpAny_bind (wpAny_bind (wpAny_loadPart h1 (wpAny_bind ((looks_clsIn (h:=s.heap) X hc).here (s:={s with toks:=s.toks+1}) ?_))))))
 rw[hd']
 refine wpAny_pure (a:=some d) (wpAny_bind (wpAny_pure (wpAny_bind ?_)))
 unfold nsSet
 refine wpAny_bind (wpAny_bind (wpAny_askSetting (wpAny_pure (wpAny_bind (wpAny_mkText (wpAny_bind (wpAny_loadPart h2 ?_)))))))
 have hd:(dictOf es n).data= .dict es.toArray n:=rfl
 rw[hd]
 dsimp only
 have c:(!es.toArray.any (·.key.isStr name)&&es.toArray.any (·.refKey))=false:=by
  rw[<-Array.any_toList,<-Array.any_toList]
  unfold getL at hg
  split at hg
  ·rename_i en he
   rw[List.any_eq_true.mpr ⟨en,List.mem_of_find?_eq_some he,List.find?_some he⟩];rfl
  ·split at hg
   ·cases hg
   ·rename_i q;rw[Bool.not_eq_true] at q;rw[q,Bool.and_false]
 rw[aRefKeyMayBeTheName_at,c]
 have D':=Heap.get?_update_self (Obj.putName name (PyData.keyHash w.params name) (.str name (s.toks+1)) v) h2 (by rw[putName_dict];rfl)
 rw[putName_dict] at D'
 refine wpAny_updatePart h2 ?_
 refine wpAny_bind (wpAny_lookBehind D' (pastItsLine_dict ?_) ?_)
 ·rw[aaJ,sizeLine_eq]
  have:∀(es:List DictEntry)(hsh:Int)(k:Value),(putL name hsh k v es).length<=es.length+1:=by
   intro es hsh k
   induction es with
   |nil=>exact aaS _
   |cons e es ih=>
            unfold putL;split
            ·exact Nat.le_succ _
            ·exact Nat.succ_le_succ ih
  have:=this es (PyData.keyHash w.params name) (.str name (s.toks+1))
  exact av 4371382379093717804374170 [_,_] [] hz this
 ·exact wpAny_pure (h _ _ _ _ D' λb hb=>Heap.get?_update_other _ _ (Ne.symm hb))
theorem o4(H:bV K T h₀){o v:V}{name:Str}(e:jM T mu o name v=some mu'):vi Kh prog w h₀ r env nm loc mu o v (λx y=>setAttr x name y) () mu':=by
 intro A z as x y s Q E ro R fr ra rb q
 obtain⟨i,hi,e1⟩:=bG e
 obtain⟨⟨C,fs⟩,hm,e2⟩:=bG e1
 obtain⟨hT,e3⟩:=cr e2
 obtain rfl:=oT hi
 clear e e1 e2 hi
 obtain rfl:=aag e3
 clear e3
 have hm:=Gf hm
 obtain⟨p,ep,rfl⟩:=ez ra
 obtain⟨hne,h1,es,n,h2,r1⟩:=R.obj_at hm ep
 obtain⟨_,f2,_⟩:=H.field _ _ hT.1
 refine y3 (H.at R) h1 h2 f2 (by rw[<-r1.length];exact aaK hT.2 (by decide)) (r1.some name) λh' n' hsh tk d' o'=> ?_
 have hown:MO.own (.obj C (jD name v fs)) p=MO.own (.obj C fs) p:=rfl
 have hb:p.2∈MO.own (.obj C fs) p:= .tail _ (.head _)
 have hk:∀a o,a≠p.2->s.heap.get? a=some o->h'.get? a=some o:=λa o ha hx=>by rw[o' a ha];exact hx
 have st:ai gh z as mu s.heap z as (mu.set i (.obj C (jD name v fs))) h':=ai.setM _ hm ep hown hb hk ⟨_,d'⟩
 exact q _ _ z as ⟨h',_,rfl⟩ (R.setM hm ep hown hb hk ⟨hne,hk _ _ hne h1,_,_,d',r1.put rb⟩) st (fr.step st) trivial
theorem MR.setL{z:af}{as:aX}{h h':Heap}(R:MR h₀ z as mu h){i:Nat}{l l':List V}{p:Addr×Addr}{vs':List Value}{n':Nat}(hm:mu[i]? =some (.lst l))(ep:as[i]? =some p)
  (hk:∀a o,a≠p.1->h.get? a=some o->h'.get? a=some o) (ho:h'.get? p.1=some (listOf vs'.toArray n')) (rl:aA z as l' vs'):MR h₀ z as (mu.set i (.lst l')) h'/\ai gh z as mu h z as (mu.set i (.lst l')) h':=
 have hown:MO.own (.lst l') p=MO.own (.lst l) p:=rfl
 have hb:p.1∈MO.own (.lst l) p:=by simp[MO.own]
 ⟨R.setM hm ep hown hb hk ⟨vs',n',ho,rl⟩,ai.setM _ hm ep hown hb hk ⟨_,ho⟩⟩
theorem xG{i:Nat}{l:List V}{v:V}(hm:mu[i]? =some (.lst l))(hl:l.length<=1000):vi aC prog w h₀ r env nm loc mu (.ref i) v (λx y=>call (.builtin "list.append") [x,y]) .none (mu.set i (.lst (l++[v]))):=by
 intro A z as x y s Q E ro R fr ra rb q
 obtain⟨p,ep,rfl⟩:=ez ra
 obtain⟨vs,n,ho,r1⟩:=R.lst_at hm ep
 refine wpAny_list_append_plain (items:=vs.toArray) ⟨n,ho⟩ (λh' hp hs=> ?_) (by rw[aaJ,<-r1.length];exact aaK hl (by decide))
 obtain⟨n',hp⟩:=hp
 obtain⟨R',st⟩:=R.setL (h':=h') (l':=l++[v]) (vs':=vs++[y]) (n':=n') hm ep (λa o ha hx=>by rw[hs.2 a ha];exact hx) (by rw[hp,List.push_toArray]) (r1.append (.cons rb .nil))
 exact q _ _ z as ⟨h',s.toks,rfl⟩ R' st (fr.step st) .none
theorem np(f:Array Value->Array Value)(xs:Array Value)(n:Nat):∃n',Obj.mapSeq f (aaZ xs n)=aaZ (f xs) n':=⟨_,rfl⟩
theorem qY(vs:List Value)(k:Nat):vs.toArray.eraseIdxIfInBounds k=(vs.eraseIdx k).toArray:=by
 unfold Array.eraseIdxIfInBounds
 split
 ·rw[List.eraseIdx_toArray]
 ·rename_i h;rw[List.eraseIdx_of_length_le (by simpa using h)]
theorem EJ{i:Nat}{l:List V}{k:Int}{v:V}(hm:mu[i]? =some (.lst l))(hl:l.length<=1000)(h0:0<=k)(hk:k<2^62)(hv:l[k.toNat]? =some v):
  vi aC prog w h₀ r env nm loc mu (.ref i) (.int k) (λx y=>call (.builtin "list.pop") [x,y]) v (mu.set i (.lst (l.eraseIdx k.toNat))):=by
 intro A z as x y s Q E ro R fr ra rb q
 cases rb with|int _ t=>
 obtain⟨p,ep,rfl⟩:=ez ra
 obtain⟨vs,n,ho,r1⟩:=R.lst_at hm ep
 obtain⟨x,hx,rx⟩:=r1.get hv
 have hlt:k.toNat<vs.toArray.size:=by rw[aaJ];exact aO hx
 obtain⟨n',hn'⟩:=np (λx=>x.eraseIdxIfInBounds k.toNat) vs.toArray n
 have hup:=Heap.get?_update_self (Obj.mapSeq λx=>x.eraseIdxIfInBounds k.toNat) ho (by rw[hn'];rfl)
 rw[hn',qY] at hup
 obtain⟨R',st⟩:=R.setL (l':=l.eraseIdx k.toNat) (vs':=vs.eraseIdx k.toNat) hm ep (λa o ha hx=>by rw[Heap.get?_update_other _ _ (Ne.symm ha)];exact hx) hup (r1.eraseIdx _)
 refine call_meets PySem.F.slot_list_pop ⟨_,ho,rfl⟩ PySem.F.entry_list_pop (PySem.F.args_list_pop_2 _ _) (PySem.MeetsSeq.list_pop_at p.1 vs.toArray n k t k.toNat x (fitsIndex_of h0 (ad 242432190454 [] [_] hk)) (lB h0 hlt) (by simpa using hx) (by rw[aaJ,<-r1.length];exact aaK hl (by decide))) ⟨ho,?_⟩
 exact q _ _ z as ⟨_,s.toks,rfl⟩ R' st (fr.step st) rx
theorem xH{i:Nat}{l:List V}{k:Int}{v:V}(hm:mu[i]? =some (.lst l))(e:eW l k=some v):vi aC prog w h₀ r env nm loc mu (.ref i) (.int k) getItem v mu:=by
 intro A z as x y s Q E ro R fr ra rb q
 cases rb with|int _ t=>
 obtain⟨p,ep,rfl⟩:=ez ra
 obtain⟨vs,n,ho,r1⟩:=R.lst_at hm ep
 obtain⟨a1,a2,x,hx,rx⟩:=mJ r1 e
 exact wpAny_getItem_list (aJ ho) a1 (by lia) hx (bq R fr q rx)
theorem q4{prog:Program}{w:World}{A:Around}{E:Value->Shared->Prop}{s:Shared}{l:Addr}{vs:List Value}{n:Nat}{k:Int}{t:Tok}{v:Value}{Q:Unit->Shared->Prop}(ho:s.heap.get? l=some (listOf vs.toArray n))
  (h0:0<=k) (hfit:k<2^63) (hn:k<vs.length)
  (hQ:∀h' n',h'.get? l=some (listOf (vs.set k.toNat v).toArray n')->(∀b,b≠l->h'.get? b=s.heap.get? b)->Q () {s with heap:=h'}):
  wpAny (model prog w) A (setItem (.ref l) (.int k t) v) Q E s:=by
 have hl:=aJ ho
 unfold setItem
 try with_reducible refine wpAny_holding ?_
 first|refine wpAny_bind (wpAny_pure ?_)|skip
 refine wpAny_bind (wpAny_sequenceKey hl.typeIs (by decide) ?_)
 refine wpAny_bind (wpAny_callSpecial?_slot (name:=aaQ "__setitem__") hl.typeIs slot_list_setitem
  (wpAny_call_entry slot_list_setitem hl.typeIs entry_list_setitem ?_ (args_list_setitem _ _ _)))
 show wpAny _ _ (Builtin.List.listSubscript? (.int k t)>>=_) _ _ s
 refine wpAny_bind (wpAny_listSubscript_int (fitsIndex_of h0 hfit) ?_)
 clear hfit
 obtain⟨j,rfl⟩:=Int.eq_ofNat_of_zero_le h0
 have hj:j<vs.toArray.size:=by rw[aaJ];exact ad 144558056662564 [_,_] [] hn
 have hx':vs.toArray[j]? =some vs.toArray[j]:=Array.getElem?_eq_getElem hj
 show wpAny _ _ ((seqItemAt l j>>=λr=>pure (r.map (j,·)))>>=_) _ _ s
 refine wpAny_bind (wpAny_bind (wpAny_seqItemAt ho rfl (wpAny_pure ?_)))
 rw[hx']
 show wpAny _ _ (setSeqItemAt l j v>>=_) _ _ s
 obtain⟨n',hn'⟩:=np (·.setIfInBounds j v) vs.toArray n
 have hup:=Heap.get?_update_self (Obj.mapSeq (·.setIfInBounds j v)) ho (by rw[hn'];rfl)
 rw[hn',List.setIfInBounds_toArray] at hup
 have fin:=hQ (s.heap.update l (Obj.mapSeq (·.setIfInBounds j v))) _ hup (λb hb=>Heap.get?_update_other _ _ (Ne.symm hb))
 refine wpAny_bind (wpAny_setSeqItemAt ho rfl ?_)
 first
  |exact wpAny_bind (wpAny_pure (wpAny_pure ⟨.none,rfl,wpAny_pure fin⟩))
  |exact wpAny_pure ⟨.none,rfl,wpAny_pure fin⟩
theorem o5{i:Nat}{l:List V}{k:Int}{v:V}(hm:mu[i]? =some (.lst l))(h0:0<=k)(h1:k<l.length)(h2:k<2^62):
  ∀(A:Around)(z:af)(as:aX)(x y kk:Value)(s:Shared)(Q:Unit->Shared->Prop)(E:Value->Shared->Prop),dK A r->MR h₀ z as mu s.heap->FR h₀ env nm loc z as mu s.heap->aC z as (.ref i) x->aC z as (.int k) kk->aC z as v y->
   (∀y s' z' as',bo s s'->MR h₀ z' as' (mu.set i (.lst (l.set k.toNat v))) s'.heap->ai gh z as mu s.heap z' as' (mu.set i (.lst (l.set k.toNat v))) s'.heap->FR h₀ env nm loc z' as' (mu.set i (.lst (l.set k.toNat v))) s'.heap->Q y s')->wpAny (model prog w) A (setItem x kk y) Q E s:=by
 intro A z as x y kk s Q E ro R fr ra rk rb q
 cases rk with|int _ t=>
 obtain⟨p,ep,rfl⟩:=ez ra
 obtain⟨vs,n,ho,r1⟩:=R.lst_at hm ep
 refine q4 ho h0 (by lia) (by rw[<-r1.length];exact h1) λh' n' hp hs=> ?_
 obtain⟨R',st⟩:=R.setL (h':=h') hm ep (λa o ha hx=>by rw[hs a ha];exact hx) hp (r1.set rb)
 exact q _ _ z as ⟨h',s.toks,rfl⟩ R' st (fr.step st)
end
end
section
section
variable{h₀:Heap}
theorem ai.after{W₀ W:Addr->Prop}{z₁ z₂ z₃:af}{a₁ a₂ a₃:aX}{m₁ m₂ m₃:Mu}{h₁ h₂ h₃:Heap}(x:ai W₀ z₁ a₁ m₁ h₁ z₂ a₂ m₂ h₂)(y:ai W z₂ a₂ m₂ h₂ z₃ a₃ m₃ h₃)
  (hw:∀a,W₀ a->z₂ a=none/\¬jx a₂ m₂ a/\∃o,h₂.get? a=some o) (hW:∀a,W a->W₀ a\/h₁.get? a=none):ai W₀ z₁ a₁ m₁ h₁ z₃ a₃ m₃ h₃ where
 zsub:=x.zsub.trans y.zsub
 asub:=x.asub.trans y.asub
 keep a o e hm h0:=y.keep a o (x.keep a o e hm h0) (λq=>(x.mfresh a q).elim hm (λn=>by rw[e] at n;cases n)) λq=>(hW a q).elim h0 λn=>by rw[e] at n;cases n
 zfresh a o e:=by
  rcases y.zfresh a o e with h|h|h
  ·exact x.zfresh a o h
  ·cases q:h₁.get? a with
   |none=>exact .inr (.inl rfl)
   |some o₁=>
    by_cases hm:jx a₁ m₁ a
    ·exact .inr (.inr hm)
    ·by_cases h0:W₀ a
     ·obtain⟨o₂,e₂⟩:=(hw a h0).2.2
      rw[e₂] at h;cases h
     ·rw[x.keep a o₁ q hm h0] at h;cases h
  ·rcases x.mfresh a h with h|h
   ·exact .inr (.inr h)
   ·exact .inr (.inl h)
 mfresh a m:=by
  rcases y.mfresh a m with h|h
  ·exact x.mfresh a h
  ·cases q:h₁.get? a with
   |none=>exact .inr rfl
   |some o₁=>
    by_cases hm:jx a₁ m₁ a
    ·exact .inl hm
    ·by_cases h0:W₀ a
     ·obtain⟨o₂,e₂⟩:=(hw a h0).2.2
      rw[e₂] at h;cases h
     ·rw[x.keep a o₁ q hm h0] at h;cases h
 live a o e h:=let⟨o',e'⟩:=x.live a o e h;y.live a o' e' λq=>(hW a q).elim h λn=>by rw[e] at n;cases n
theorem ai.after0{W:Addr->Prop}{z₁ z₂ z₃:af}{a₁ a₂ a₃:aX}{m₁ m₂ m₃:Mu}{h₁ h₂ h₃:Heap}(x:ai gh z₁ a₁ m₁ h₁ z₂ a₂ m₂ h₂)(y:ai W z₂ a₂ m₂ h₂ z₃ a₃ m₃ h₃)
  (hW:∀a,W a->h₁.get? a=none):ai gh z₁ a₁ m₁ h₁ z₃ a₃ m₃ h₃:=x.after y (λq0 h=>h.elim) λa h=> .inr (hW a h)
theorem ai.mono{W W':Addr->Prop}{z z':af}{as as':aX}{mu mu':Mu}{h h':Heap}(x:ai W z as mu h z' as' mu' h')(k:∀a,W a->W' a):ai W' z as mu h z' as' mu' h':=
 ⟨x.zsub,x.asub,λa o e m w=>x.keep a o e m λq=>w (k a q),x.zfresh,x.mfresh,λa o e w=>x.live a o e λq=>w (k a q)⟩
structure de(z:af)(as:aX)(mu:Mu)(h:Heap)(b:Addr):Prop where
 z:z b=none
 m:¬jx as mu b
 live:∃o,h.get? b=some o
theorem de.off{W:Addr->Prop}{z z':af}{as as':aX}{mu mu':Mu}{h h':Heap}{b:Addr}(x:de z as mu h b)(s:ai W z as mu h z' as' mu' h'):z' b=none/\¬jx as' mu' b:=by
 obtain⟨o,e⟩:=x.live
 constructor
 ·cases q:z' b with
  |none=>rfl
  |some o'=>
   rcases s.zfresh _ _ q with h|h|h
   ·rw[x.z] at h;cases h
   ·rw[e] at h;cases h
   ·exact absurd h x.m
 ·intro q
  rcases s.mfresh _ q with h|h
  ·exact x.m h
  ·rw[e] at h;cases h
theorem de.step{W:Addr->Prop}{z z':af}{as as':aX}{mu mu':Mu}{h h':Heap}{b:Addr}(x:de z as mu h b)(s:ai W z as mu h z' as' mu' h')(hw:¬W b):de z' as' mu' h' b:=
 ⟨(x.off s).1,(x.off s).2,let⟨o,e⟩:=x.live;⟨o,s.keep _ _ e x.m hw⟩⟩
theorem de.fresh{z:af}{as:aX}{mu:Mu}{h h':Heap}{b:Addr}(R:MR h₀ z as mu h)(hn:h.get? b=none)(hl:∃o,h'.get? b=some o):de z as mu h' b:=by
 refine⟨?_,λq=> ?_,hl⟩
 ·cases q:z b with
  |none=>rfl
  |some o=>rw[R.zin _ _ q] at hn;cases hn
 ·obtain⟨o,e⟩:=R.live q
  rw[hn] at e;cases e
theorem FR.stepW{W:Addr->Prop}{env:Env}{nm:ae}{loc:au}{z z':af}{as as':aX}{mu mu':Mu}{h h':Heap}(f:FR h₀ env nm loc z as mu h)(s:ai W z as mu h z' as' mu' h')
  (w1:¬W env.locals) (w2:∀x c,env.cells.lookup x=some c->¬W c):FR h₀ env nm loc z' as' mu' h' where
 kind:=f.kind
 nms:=f.nms
 glob:=f.glob
 blt:=f.blt
 ns:=by
  obtain⟨m,hn,hv⟩:=f.ns
  refine⟨m,hn.at' λo e=>s.keep _ _ e f.lm w1,λx v e k=> ?_⟩
  obtain⟨val,a,r⟩:=hv x v e k
  exact⟨val,a,r.mono s.zsub s.asub⟩
 lz:=by
  obtain⟨m,⟨o,_,_,e,_⟩,_⟩:=f.ns
  exact((⟨f.lz,f.lm,o,e⟩:de z as mu h env.locals).off s).1
 lm:=by
  obtain⟨m,⟨o,_,_,e,_⟩,_⟩:=f.ns
  exact((⟨f.lz,f.lm,o,e⟩:de z as mu h env.locals).off s).2
 cell:=λx k hk hc=>by
  obtain⟨c,ov,e1,e2,e3,e4,e5⟩:=f.cell x k hk hc
  obtain⟨o,eo,ed⟩:=id e2
  have A:de z as mu h c:=⟨e3,e4,o,eo⟩
  refine⟨c,ov,e1,⟨o,s.keep _ _ eo e4 (w2 x c e1),ed⟩,(A.off s).1,(A.off s).2,λv hv=> ?_⟩
  obtain⟨val,a,r⟩:=e5 v hv
  exact⟨val,a,r.mono s.zsub s.asub⟩
 capart:=f.capart
 cells:=λx c hc=>by
  obtain⟨e1,e2,o,e3⟩:=f.cells x c hc
  have A:de z as mu h c:=⟨e1,e2,o,e3⟩
  exact⟨(A.off s).1,(A.off s).2,o,s.keep _ _ e3 e2 (w2 x c hc)⟩
theorem FR.weaken{env:Env}{nm:ae}{loc loc':au}{z:af}{as:aX}{mu:Mu}{h:Heap}(f:FR h₀ env nm loc z as mu h)(k:∀x v,loc'.lookup x=some v->loc.lookup x=some v):FR h₀ env nm loc' z as mu h where
 kind:=f.kind
 nms:=f.nms
 glob:=f.glob
 blt:=f.blt
 ns:=let⟨m,hn,hv⟩:=f.ns;⟨m,hn,λx v e=>hv x v (k x v e)⟩
 lz:=f.lz
 lm:=f.lm
 cell:=λx kk hk hc=>let⟨c,ov,e1,e2,e3,e4,e5⟩:=f.cell x kk hk hc;⟨c,ov,e1,e2,e3,e4,λv hv=>e5 v (k x v hv)⟩
 capart:=f.capart
 cells:=f.cells
theorem FR.awayL{env:Env}{nm:ae}{loc:au}{z:af}{as:aX}{mu:Mu}{h:Heap}(f:FR h₀ env nm loc z as mu h):de z as mu h env.locals:=by
 obtain⟨m,⟨o,_,_,e,_⟩,_⟩:=f.ns
 exact⟨f.lz,f.lm,o,e⟩
theorem dy(x y:Str)(v:V):∀loc:au,(jD x v loc).lookup y=if y==x then some v else loc.lookup y:=by
 intro L0
 induction L0 with
 |nil=>
  unfold jD;rw[aau];cases y==x<;>rfl
 |cons e0 r ih=>
  obtain⟨k,u⟩:=e0
  unfold jD
  cases hb:x==k with
  |true=>
   have:=b6 hb;subst this
   rw[if_pos rfl,aau,aau]
   cases y==x<;>rfl
  |false=>
   rw[if_neg (by decide),aau,aau,ih]
   cases h:y==k with
   |true=>
    have e1:=b6 h;subst e1
    have e2:(y==x)=false:=by rw[beq_eq_false_iff_ne] at hb⊢;exact λq=>hb q.symm
    rw[e2];rfl
   |false=>rfl
theorem MR.offW{z:af}{as:aX}{mu:Mu}{h h':Heap}{W:Addr->Prop}(R:MR h₀ z as mu h)(hw:∀t,W t->z t=none/\¬jx as mu t)(hk:∀a o,¬W a->h.get? a=some o->h'.get? a=some o):MR h₀ z as mu h' where
 base:=R.base
 zin a o e:=hk a o (λq=>by rw[(hw a q).1] at e;cases e) (R.zin a o e)
 len:=R.len
 ok i mo p e f:=(R.ok i mo p e f).mono (cV.refl z) (aav _) λa ha o q=>hk a o (λw=>(hw a w).2 ⟨i,mo,p,e,f,ha⟩) q
 out:=R.out
 apart:=R.apart
theorem ai.offW{z:af}{as:aX}{mu:Mu}{h h':Heap}{W:Addr->Prop}(hk:∀a o,¬W a->h.get? a=some o->h'.get? a=some o):ai W z as mu h z as mu h':=
 ⟨cV.refl z,aav _,λa o e q0 w=>hk a o w e,λq0 q0 e=> .inl e,λq0 m=> .inl m,λa o e q=>⟨o,hk a o q e⟩⟩
theorem ai.none{W:Addr->Prop}{z z':af}{as as':aX}{mu mu':Mu}{h h':Heap}{a:Addr}(s:ai W z as mu h z' as' mu' h')(hn:h'.get? a=none)(hw:¬W a):h.get? a=none:=by
 cases q:h.get? a with
 |none=>rfl
 |some o=>obtain⟨o',e⟩:=s.live a o q hw;rw[hn] at e;cases e
noncomputable def xI(env:Env)(x:Str)(a:Addr):Prop:=(env.scope.names.lookup x=some .local/\a=env.locals)\/(env.scope.names.lookup x=some .cell/\env.cells.lookup x=some a)
theorem xI.wr{env:Env}{x:Str}{a:Addr}(h:xI env x a):Wr env a:=h.elim (λq=> .inl q.2) λq=> .inr ⟨x,q⟩
end
section
variable{prog:Program}{w:World}{h₀:Heap}{r:Nat}{env:Env}{nm:ae}{loc:au}{mu mu' mu'':Mu}{K:Frag}{T:ba}
theorem jQ{A:Around}{z:af}{as:aX}{s:Shared}{Q:Unit->Shared->Prop}{E:Value->Shared->Prop}{x:Str}{v:V}{val:Value}(hk:nm.lookup x=some .local\/nm.lookup x=some .cell)
  (R:MR h₀ z as mu s.heap) (f:FR h₀ env nm loc z as mu s.heap) (rv:aC z as v val)
  (q:∀s',bo s s'->MR h₀ z as mu s'.heap->ai (xI env x) z as mu s.heap z as mu s'.heap->FR h₀ env nm (jD x v loc) z as mu s'.heap->Q () s'):wpAny (model prog w) A (storeName env x val) Q E s:=by
 obtain⟨m,hn,hv⟩:=f.ns
 rcases hk with hk|hk
 ·refine wpAny_storeName_local (by rw[Env.kindOf,f.nms];exact hk) hn (λh' hn' hs'=> ?_) (by rw[f.kind];rfl)
  have hkk:∀a o,¬xI env x a->s.heap.get? a=some o->h'.get? a=some o:=λa o ha e=>by
   rw[hs'.2 a λq=>ha (.inl ⟨by rw[f.nms];exact hk,q⟩)];exact e
  have aw:=f.awayL
  have hW:∀t,xI env x t->z t=none/\¬jx as mu t:=by
   rintro t (⟨_,rfl⟩|⟨e,_⟩)
   ·exact⟨aw.z,aw.m⟩
   ·rw[f.nms,hk] at e;cases e
  refine q _ ⟨h',_,rfl⟩ (R.offW hW hkk) (ai.offW hkk) ⟨f.kind,f.nms,f.glob,f.blt,⟨_,hn',λy u hy ky=> ?_⟩,f.lz,f.lm,λy k hy hc=> ?_,f.capart,λy c hc=>let⟨e1,e2,o,e3⟩:=f.cells y c hc;⟨e1,e2,(Classical.em (c=env.locals)).elim (λq=>by obtain⟨o',_,_,eo',_⟩:=id hn';exact⟨o',q▸eo'⟩) λq=>⟨o,by rw[hs'.2 c q];exact e3⟩⟩⟩
  ·rw[dy] at hy
   by_cases e:y=x
   ·subst e
    rw[beq_self_eq_true,if_pos rfl] at hy
    cases hy
    exact⟨val,if_pos rfl,rv⟩
   ·rw[if_neg (by rw[beq_iff_eq];exact e)] at hy
    obtain⟨val',e1,e2⟩:=hv y u hy ky
    exact⟨val',by show(if y=x then _ else _)=_;rw[if_neg e];exact e1,e2⟩
  ·obtain⟨c,ov,e1,e2,e3,e4,e5⟩:=f.cell y k hy hc
   have hne:c≠env.locals:=by
    rintro rfl
    obtain⟨o,eo,ed⟩:=e2
    obtain⟨o',_,_,eo',ed',_⟩:=id hn
    rw[eo] at eo';cases eo'
    rw[ed] at ed';cases ed'
   refine⟨c,ov,e1,?_,e3,e4,λu hu=> ?_⟩
   ·obtain⟨o,eo,ed⟩:=e2
    exact⟨o,by rw[hs'.2 c hne];exact eo,ed⟩
   ·refine e5 u ?_
    rw[dy] at hu
    have:y≠x:=by rintro rfl;rw[hk] at hy;cases hy;rcases hc with h|h<;>cases h
    rw[if_neg (by rw[beq_iff_eq];exact this)] at hu
    exact hu
 ·obtain⟨c,ov,e1,e2,e3,e4,e5⟩:=f.cell x _ hk (.inl rfl)
  refine wpAny_storeName_cell f.kind (by rw[Env.kindOf,f.nms];exact hk) e1 e2 λh' hc' hs'=> ?_
  have hkk:∀a o,¬xI env x a->s.heap.get? a=some o->h'.get? a=some o:=λa o ha e=>by
   rw[hs'.2 a λq=>ha (.inr ⟨by rw[f.nms];exact hk,q▸e1⟩)];exact e
  have hW:∀t,xI env x t->z t=none/\¬jx as mu t:=by
   rintro t (⟨e,_⟩|⟨_,e⟩)
   ·rw[f.nms,hk] at e;cases e
   ·rw[e1] at e;cases e;exact⟨e3,e4⟩
  refine q _ ⟨h',s.toks,rfl⟩ (R.offW hW hkk) (ai.offW hkk) ⟨f.kind,f.nms,f.glob,f.blt,⟨m,hn.sameBut hs' ?_,λy u hy ky=> ?_⟩,f.lz,f.lm,λy k hy hc=> ?_,f.capart,λy c' hc''=>let⟨d1,d2,o,d3⟩:=f.cells y c' hc'';⟨d1,d2,(Classical.em (c'=c)).elim (λq=>by obtain⟨o',eo',_⟩:=id hc';exact⟨o',q▸eo'⟩) λq=>⟨o,by rw[hs'.2 c' q];exact d3⟩⟩⟩
  ·rintro rfl
   obtain⟨o,eo,ed⟩:=e2
   obtain⟨o',_,_,eo',ed',_⟩:=id hn
   rw[eo] at eo';cases eo'
   rw[ed] at ed';cases ed'
  ·rw[dy] at hy
   have:y≠x:=by rintro rfl;rw[hk] at ky;cases ky
   rw[if_neg (by rw[beq_iff_eq];exact this)] at hy
   exact hv y u hy ky
  ·by_cases e:y=x
   ·subst e
    refine⟨c,some val,e1,hc',e3,e4,λu hu=> ?_⟩
    rw[dy,beq_self_eq_true,if_pos rfl] at hu
    cases hu
    exact⟨val,rfl,rv⟩
   ·obtain⟨c',ov',d1,d2,d3,d4,d5⟩:=f.cell y k hy hc
    have hne:c'≠c:=by rintro rfl;exact e (f.capart _ _ _ d1 e1)
    refine⟨c',ov',d1,?_,d3,d4,λu hu=> ?_⟩
    ·obtain⟨o,eo,ed⟩:=d2
     exact⟨o,by rw[hs'.2 c' hne];exact eo,ed⟩
    ·rw[dy,if_neg (by rw[beq_iff_eq];exact e)] at hu
     exact d5 u hu
end
end
section
structure Wk(prog:Program)(w:World)(h₀:Heap)(A:Around)(tg:Expr->Prop)(it:Value)(wr:List Addr)(z₀:af)(as₀:aX)(items:List V)(St:Nat->Heap->Prop):Prop where
 frame:∀i h h',St i h->(∀a o,z₀ a=some o->h'.get? a=some o)->(∀b∈wr,∀o,h.get? b=some o->h'.get? b=some o)->St i h'
 live:∀i h,St i h->∀b∈wr,∃o,h.get? b=some o
 self:∀i (s:Shared) (Q:Value->Shared->Prop) (E:Value->Shared->Prop),St i s.heap->Q it s->wpAny (model prog w) A (pyIter it) Q E s
 item:∀(target:Expr) i v z as mu (s:Shared) (Q:Value->Shared->Prop) (E:Value->Shared->Prop),tg target->items[i]? =some v->St i s.heap->cV z₀ z->as₀<+:as->MR h₀ z as mu s.heap->(∀b∈wr,de z as mu s.heap b)->
  (∀x s' z',bo s s'->MR h₀ z' as mu s'.heap->ai (·∈wr) z as mu s.heap z' as mu s'.heap->aC z' as v x->St (i+1) s'.heap->Q x s')->
  wpAny (model prog w) A (pyNext it) (λr s₁=>match r with|none=>False|some x=>wpAny (model prog w) A (letOwnedTupleGo target it x) (λ_ s₂=>Q x s₂) E s₁) E s
 done:∀z as mu (s:Shared) (Q:Shared->Prop) (E:Value->Shared->Prop),St items.length s.heap->cV z₀ z->as₀<+:as->MR h₀ z as mu s.heap->(∀b∈wr,de z as mu s.heap b)->
  (∀s',bo s s'->MR h₀ z as mu s'.heap->ai (·∈wr) z as mu s.heap z as mu s'.heap->Q s')->
  wpAny (model prog w) A (pyNext it) (λr s₁=>match r with|none=>Q s₁|some _=>False) E s
section
variable{prog:Program}{w:World}{A:Around}{E:Value->Shared->Prop}{s:Shared}{h₀:Heap}
theorem y4{target:Expr}{I:Addr}{x:Value}{o:Obj}{n:String}{Q:Unit->Shared->Prop}(ho:s.heap.get? I=some o)(hc:o.cls= .type n)
  (hn:["enumerate","zip","dict_itemiterator","dict_reverseitemiterator","odict_iterator","itertools.zip_longest","itertools.pairwise"].contains n=false) (h:Q () s):wpAny (model prog w) A (letOwnedTupleGo target (.ref I) x) Q E s:=by
 have one:∀(ts:List Expr)(k:Nat)(p:Pos),wpAny (model prog w) A (letOwnedTupleGo (.Tuple ts k p) (.ref I) x) Q E s:=λts k p=>by
  cases x with
  |ref a=>
   refine wpAny_bind (wpAny_load ho ?_)
   obtain⟨c,d,data,ex⟩:=o
   obtain rfl:c= .type n:=hc
   cases data with
   |fields vs=>
    show wpAny _ _ (if(_&&_)=true then _ else _) _ _ _
    rw[if_neg (by rw[hn,Bool.false_and];exact aaG)]
    exact wpAny_pure h
   |_=>exact wpAny_pure h
  |_=>exact wpAny_pure h
 cases target with
 |Tuple ts k p=>exact one ts k p
 |List ts p=>exact one [] 0 p
 |_=>exact wpAny_pure h
theorem xJ{z:af}{as:aX}{mu:Mu}{h h':Heap}{I:Addr}(R:MR h₀ z as mu h)(aw:∀b∈[I],de z as mu h b)(k:∀b o,b≠I->h.get? b=some o->h'.get? b=some o):
  MR h₀ z as mu h'/\ai (·∈[I]) z as mu h z as mu h':=by
 have hk:∀a o,¬a∈[I]->h.get? a=some o->h'.get? a=some o:=λa o ha e=>k a o (λq=>ha (by simp[q])) e
 exact⟨R.offW (λt ht=>⟨(aw t ht).z,(aw t ht).m⟩) hk,ai.offW hk⟩
theorem Wk.list(hh:A.handled=none){I ax:Addr}{z₀:af}{as₀:aX}{n:Nat}{vs:List Value}{items:List V}(hl:z₀ ax=some (aaZ vs.toArray n))(rl:aA z₀ as₀ items vs)(hne:ax≠I):
  Wk prog w h₀ A (λ_=>True) (.ref I) [I] z₀ as₀ items (λi h=>h.IsListIter I ax i/\h.get? ax=some (aaZ vs.toArray n)) where
 frame i h h' st hz hk:=⟨st.1.at λo e=>hk I (by simp) o e,hz _ _ hl⟩
 live i h st b hb:=by
  simp at hb;subst hb
  obtain⟨o,e,_⟩:=st.1
  exact⟨o,e⟩
 self i s Q E st q:=wpAny_pyIter_listiter st.1 q
 item target i v z as mu s Q E _ hv st hz ha R aw q:=by
  obtain⟨x,hx,rx⟩:=rl.get hv
  refine wpAny_pyNext_list_item st.1 (aJ st.2) (x:=x) (by simpa using hx) λh' hit' hs'=> ?_
  obtain⟨R',S'⟩:=xJ (h':=h') R aw λb o hb e=>hs'.extBut b o hb e
  obtain⟨o,ho,hc,_⟩:=id hit'
  exact y4 ho hc (by decide) (q x _ z ⟨h',s.toks,rfl⟩ R' S' (rx.mono hz ha) ⟨hit',hs'.extBut _ _ hne st.2⟩)
 done z as mu s Q E st hz ha R aw q:=by
  refine wpAny_pyNext_list_end hh st.1 (aJ st.2) (by rw[rl.length];simp) λh' he'=> ?_
  obtain⟨R',S'⟩:=xJ (h':=h') R aw λb o hb e=>he' b o hb e
  exact q _ ⟨h',s.toks,rfl⟩ R' S'
theorem Wk.tup(hh:A.handled=none){I ax:Addr}{z₀:af}{as₀:aX}{n:Nat}{vs:List Value}{items:List V}(hl:z₀ ax=some (hJ vs.toArray n))(rl:aA z₀ as₀ items vs)(hne:ax≠I):
  Wk prog w h₀ A (λ_=>True) (.ref I) [I] z₀ as₀ items (λi h=>h.IsTupleIter I ax i/\h.get? ax=some (hJ vs.toArray n)) where
 frame i h h' st hz hk:=⟨st.1.at λo e=>hk I (by simp) o e,hz _ _ hl⟩
 live i h st b hb:=by
  simp at hb;subst hb
  obtain⟨o,e,_⟩:=st.1
  exact⟨o,e⟩
 self i s Q E st q:=wpAny_pyIter_tupleiter st.1 q
 item target i v z as mu s Q E _ hv st hz ha R aw q:=by
  obtain⟨x,hx,rx⟩:=rl.get hv
  refine wpAny_pyNext_tuple_item st.1 (cW st.2) (x:=x) (by simpa using hx) λh' hit' hs'=> ?_
  obtain⟨R',S'⟩:=xJ (h':=h') R aw λb o hb e=>hs'.extBut b o hb e
  obtain⟨o,ho,hc,_⟩:=id hit'
  exact y4 ho hc (by decide) (q x _ z ⟨h',s.toks,rfl⟩ R' S' (rx.mono hz ha) ⟨hit',hs'.extBut _ _ hne st.2⟩)
 done z as mu s Q E st hz ha R aw q:=by
  refine wpAny_pyNext_tuple_end hh st.1 (cW st.2) (by rw[rl.length];simp) λh' he'=> ?_
  obtain⟨R',S'⟩:=xJ (h':=h') R aw λb o hb e=>he' b o hb e
  exact q _ ⟨h',s.toks,rfl⟩ R' S'
theorem o6{a b:Int}{i:Nat}{v:V}(h:(aM a b)[i]? =some v):v= .int (a+(i:Int))/\i<(b-a).toNat:=by
 unfold aM at h
 rw[aaE] at h
 cases q:(aaa (b-a).toNat)[i]? with
 |none=>rw[q] at h;cases h
 |some k=>
  rw[q] at h;cases h
  have hi:=aO q
  rw[aaD hi] at q
  simp at q
  subst q
  exact⟨rfl,by simpa using hi⟩
theorem o7(a b:Int):(aM a b).length=(b-a).toNat:=by simp[aM]
theorem Wk.range(hh:A.handled=none){I:Addr}{z₀:af}{as₀:aX}{a b:Int}:
  Wk prog w h₀ A (λ_=>True) (.ref I) [I] z₀ as₀ (aM a b) (λi h=>IsRangeIter h I (a+(i:Nat)) (((b-a).toNat:Int)-(i:Nat)) 1) where
 frame i h h' st hz hk:=hk I (by simp) _ st
 live i h st c hc:=by simp at hc;subst hc;exact⟨_,st⟩
 self i s Q E st q:=wpAny_pyIter_rangeiter st q
 item target i v z as mu s Q E _ hv st hz ha R aw q:=by
  obtain⟨rfl,hi⟩:=o6 hv
  refine wpAny_pyNext_range_item st (ad 1179577947567202471 [_,_] [] hi) λh' hit' hs'=> ?_
  obtain⟨R',S'⟩:=xJ (h':=h') R aw λb o hb e=>hs'.extBut b o hb e
  refine y4 (n:="range_iterator") hit' rfl (by decide) (q _ _ z ⟨h',s.toks+1,rfl⟩ R' S' (.int _ _) ?_)
  have e1:a+((i+1:Nat):Int)=a+(i:Int)+1:=by push_cast;exact dk 5090149277067863010280505 [_] [_]
  have e2:((b-a).toNat:Int)-((i+1:Nat):Int)=((b-a).toNat:Int)-(i:Int)-1:=by push_cast;exact dk 41255618528001479553464090495 [_,_] []
  rw[e1,e2];exact hit'
 done z as mu s Q E st hz ha R aw q:=by
  rw[o7] at st
  refine wpAny_pyNext_range_end hh st (dk 9046570730493 [_] []) λh' he'=> ?_
  obtain⟨R',S'⟩:=xJ (h':=h') R aw λb o hb e=>he' b o hb e
  exact q _ ⟨h',s.toks,rfl⟩ R' S'
theorem rK:∀{l:List V}{k i:Nat}{v:V},(fD k l)[i]? =some v->∃u,l[i]? =some u/\v= .tup [.int ((k+i:Nat):Int),u]
 |[],_,_,_,h=>by simp[fD] at h
 |x::l,k,0,v,h=>by simp[fD] at h;exact⟨x,rfl,by rw[<-h];rfl⟩
 |x::l,k,i+1,v,h=>by
  simp[fD] at h
  obtain⟨u,e1,e2⟩:=rK h
  exact⟨u,by simpa using e1,by rw[e2,show k+1+i=k+(i+1) from dk 524180017295080308002 [_,_] []]⟩
theorem xK:∀(l:List V)(k:Nat),(fD k l).length=l.length:=by
 intro L0
 induction L0 with
 |nil=>
  intro _
  exact rfl
 |cons _ l ih=>
  intro k
  simp[fD,ih]
noncomputable def y5(t:Expr):Prop:=∃ts k p,t= .Tuple ts k p
theorem Wk.enum(hh:A.handled=none){e it ax:Addr}{z₀:af}{as₀:aX}{n:Nat}{vs:List Value}{l:List V}(hl:z₀ ax=some (aaZ vs.toArray n))(rl:aA z₀ as₀ l vs)(hei:e≠it)(hle:ax≠e)(hli:ax≠it):
  Wk prog w h₀ A y5 (.ref e) [e,it] z₀ as₀ (fD 0 l) (λi h=>(∃old,IsEnum h e it i old)/\h.IsListIter it ax i/\h.get? ax=some (aaZ vs.toArray n)) where
 frame i h h' st hz hk:=by
  obtain⟨⟨old,he⟩,hit,_⟩:=st
  exact⟨⟨old,hk e (by simp) _ he⟩,hit.at λo x=>hk it (by simp) o x,hz _ _ hl⟩
 live i h st b hb:=by
  obtain⟨⟨old,he⟩,⟨o,ho,_⟩,_⟩:=st
  simp at hb
  rcases hb with rfl|rfl
  ·exact⟨_,he⟩
  ·exact⟨_,ho⟩
 self i s Q E st q:=let⟨⟨_,he⟩,_,_⟩:=st;wpAny_pyIter_enum he q
 item target i v z as mu s Q E tg hv st hz ha R aw q:=by
  obtain⟨u,hu,rfl⟩:=rK hv
  obtain⟨⟨old,he⟩,hit,hax⟩:=st
  obtain⟨x,hx,rx⟩:=rl.get hu
  obtain⟨ts,k,p,rfl⟩:=tg
  ·refine wpAny_pyNext_enum_item he hit (aJ hax) (x:=x) (by simpa using hx) hei λh' ho hit' hT hsz hk=> ?_
   have helt:e<s.heap.objs.size:=aaI he
   have hilt:it<s.heap.objs.size:=by obtain⟨_,x,_⟩:=hit;exact aaI x
   refine wpAny_letOwnedTupleGo_enum ho λh'' he'' hs''=> ?_
   have hkk:∀a o,¬a∈[e,it]->s.heap.get? a=some o->h''.get? a=some o:=λa o ha e'=>by
    have h1:a≠e:=λq=>ha (by simp[q])
    have h2:a≠it:=λq=>ha (by simp[q])
    rw[hs''.2 a h1];exact hk a o h1 h2 e'
   have hT'':h''.get? s.heap.objs.size=some (hJ [Value.int i s.toks,x].toArray 0):=by rw[hs''.2 _ (Nat.ne_of_gt helt)];exact hT
   have R1:=R.offW (λt ht=>⟨(aw t ht).z,(aw t ht).m⟩) hkk
   have hzf:=lx R
   have R2:MR h₀ (z.put s.heap.objs.size (hJ [Value.int i s.toks,x].toArray 0)) as mu h'':=by
    refine⟨λb o e=>af.put_sub hzf b o (R1.base b o e),λb o e=> ?_,R1.len,λj mo p e f=>(R1.ok j mo p e f).mono (af.put_sub hzf) (aav _) λb q0 o q=>q,λj mo p e f b hb=> ?_,R1.apart⟩
    ·unfold af.put at e
     by_cases q:b=s.heap.objs.size
     ·rw[if_pos q] at e;cases e;rw[q];exact hT''
     ·rw[if_neg q] at e;exact R1.zin _ _ e
    ·unfold af.put
     by_cases q:b=s.heap.objs.size
     ·obtain⟨o',e'⟩:=(R.ok j mo p e f).live b hb
      rw[q,aB] at e';cases e'
     ·rw[if_neg q];exact R1.out j mo p e f b hb
   have S2:ai (·∈[e,it]) z as mu s.heap (z.put s.heap.objs.size (hJ [Value.int i s.toks,x].toArray 0)) as mu h'':=by
    refine⟨af.put_sub hzf,aav _,λa o e q0 hw=>hkk a o hw e,λb o' e=> ?_,λq0 m=> .inl m,λa o e hw=>⟨o,hkk a o hw e⟩⟩
    unfold af.put at e
    by_cases q:b=s.heap.objs.size
    ·exact .inr (.inl (q▸aB _))
    ·rw[if_neg q] at e;exact .inl e
   refine q _ _ _ ⟨h'',_,rfl⟩ R2 S2 (.tup (n:=0) (af.put_self _ _ _) (.cons ?_ (.cons ((rx.mono hz ha).mono (af.put_sub hzf) (aav _)) .nil))) ⟨⟨x,by simpa using he''⟩,hit'.at λo y=>(hs''.2 it hei.symm).trans y,?_⟩
   ·rw[Nat.zero_add];exact .int _ _
   ·exact hkk ax _ (by simp[hle,hli]) hax
 done z as mu s Q E st hz ha R aw q:=by
  obtain⟨⟨old,he⟩,hit,hax⟩:=st
  refine wpAny_pyNext_enum_end hh he hit (aJ hax) (by rw[xK,rl.length];simp) λh' hx=> ?_
  have hkk:∀a o,¬a∈[e,it]->s.heap.get? a=some o->h'.get? a=some o:=λa o ha e'=>hx a o (λq=>ha (by simp[q])) e'
  exact q _ ⟨h',s.toks,rfl⟩ (R.offW (λt ht=>⟨(aw t ht).z,(aw t ht).m⟩) hkk) (ai.offW hkk)
end
end
section
noncomputable def y6(prog:Program)(w:World)(h₀:Heap)(r:Nat)(f:Value)(vs:List V)(mu:Mu)(v:V)(mu':Mu):Prop:=
 ∀(A:Around)(z:af)(as:aX)(xs:List Value)(s:Shared)(Q:Value->Shared->Prop)(E:Value->Shared->Prop),dK A r->MR h₀ z as mu s.heap->aA z as vs xs->
  (∀y s' z' as',bo s s'->MR h₀ z' as' mu' s'.heap->ai gh z as mu s.heap z' as' mu' s'.heap->aC z' as' v y->Q y s')->wpAny (model prog w) A (call f xs) Q E s
structure BI(K:Frag)(prog:Program)(w:World)(h₀:Heap)(r:Nat)(F:bM):Prop where
 keep:∀f vs mu x,F f vs mu=some x->keepIn K f=true
 ok:∀f vs mu v mu',F f vs mu=some (v,mu')->y6 prog w h₀ r f vs mu v mu'
theorem iJ{T:ba}{nm:ae}{ty:String}{e:Expr}{as:List Expr}(h:bO T nm ty e=some as):
  ∃f fp pos,e= .Call (.Name f fp) as [] pos/\nm.lookup f=some .globalImplicit/\(f==("__debug__":Str))=false/\T.glob f=some (.top (.type ty)):=by
 obtain⟨c,h1,h⟩:=bG h
 obtain⟨f,h2,h⟩:=bG h
 obtain⟨hc,h⟩:=cr h
 obtain⟨v,h3,h⟩:=bG h
 obtain⟨h4,h⟩:=cr h
 obtain⟨pos,he⟩:=BR h1
 obtain⟨fp,h5⟩:=sS h2
 refine⟨f,fp,pos,by rw[he,h5,aag h],hc.1,hc.2,?_⟩
 cases v with
 |top t=>rw[h3,kj h4]
 |_=>exact absurd h4 aaG
theorem dg{f:Expr}(hf:∀o n p,f≠.Attribute o n p)(args:List Expr)(kw:List Keyword)(pos:Pos)(env:Env):
  eval (.Call f args kw pos) env=(do callWith pos (<-eval f env) [] (backTo pos (starEach args env)) (backToKw pos (keywordEach kw env))):=by
 cases f<;>first|rfl|exact absurd rfl (hf _ _ _)
theorem iK{o:Expr}(h:lc o=true)(attr:Str)(env:Env)(whole:Sem Value):attributeBase o attr env whole=whole:=by
 cases o with
 |Call f as kw p=>
  cases f with
  |Name x q=>
   cases as with
   |nil=>
    cases kw with
    |nil=>exact absurd h aaG
    |cons _ _=>rfl
   |cons _ _=>rfl
  |_=>rfl
 |_=>rfl
section
variable{prog:Program}{w:World}{h₀:Heap}{r:Nat}{K:Frag}{T:ba}{F:bM}{hint:Nat->Nat->Bool}
noncomputable def EK(prog:Program)(w:World)(h₀:Heap)(r:Nat)(T:ba)(env:Env)(nm:ae)(loc:au)(mu:Mu)(e:Expr)(items:List V)(mu':Mu):Prop:=
 ∀(A:Around)(z:af)(as:aX)(s:Shared)(Q:Value->Shared->Prop)(E:Value->Shared->Prop),dK A r->MR h₀ z as mu s.heap->FR h₀ env nm loc z as mu s.heap->
  (∀it wr St s' z' as',bo s s'->MR h₀ z' as' mu' s'.heap->ai gh z as mu s.heap z' as' mu' s'.heap->FR h₀ env nm loc z' as' mu' s'.heap->
   Wk prog w h₀ A (λt=>oX T nm e t=true) it wr z' as' items St->St 0 s'.heap->(∀b∈wr,s.heap.get? b=none/\de z' as' mu' s'.heap b)->Q it s')->
  wpAny (model prog w) A (eval e env) (λx s₁=>wpAny (model prog w) A (pyIter x) Q E s₁) E s
noncomputable abbrev wF(env:Env)(ifs:List Expr):Sem Bool:=forIn ifs true λc r=>if r=true then do let ok <-isTrue c env (eval c env);pure (aa0 ok) else pure (aa0 r)
noncomputable def Ki(prog:Program)(w:World)(h₀:Heap)(r:Nat)(env:Env)(nm:ae)(loc:au)(mu:Mu)(elt:Expr)(gens:List Comprehension)(scope:Scope)(v:V)(mu':Mu):Prop:=
 ∀(pos:Pos)(use:Option (Value->Sem Unit))(A:Around)(z:af)(as:aX)(s:Shared)(Q:Value->Shared->Prop)(E:Value->Shared->Prop),dK A r->MR h₀ z as mu s.heap->FR h₀ env nm loc z as mu s.heap->
  (match use with
   |none=>∀acc s' z' as',bo s s'->MR h₀ z' as' mu' s'.heap->ai gh z as mu s.heap z' as' mu' s'.heap->FR h₀ env nm loc z' as' mu' s'.heap->aC z' as' v acc->Q acc s'
   |some u=>∀acc s' z' as' C,bo s s'->MR h₀ z' as' mu' s'.heap->ai gh z as mu s.heap z' as' mu' s'.heap->FR h₀ env nm loc z' as' mu' s'.heap->aC z' as' v acc->s.heap.get? C=none->de z' as' mu' s'.heap C->(∃m,s'.heap.Ns C m)->
    wpAny (model prog w) A (u acc) (λq0 s''=>∃m,s''.heap.Ns C m/\∀h',Heap.SameBut C s''.heap h'->Q .none {s'' with heap:=h'}) E s')->
  wpAny (model prog w) A (comprehension (.ListComp elt gens scope pos) scope env (firstIterPos gens pos) (newList []) (firstAsync gens) (firstIter gens env) use) Q E s
structure ue(prog:Program)(w:World)(h₀:Heap)(r:Nat)(T:ba)(F:bM)(hint:Nat->Nat->Bool)(n:Nat):Prop where
 e:∀env nm loc x mu v mu',fu T F hint nm loc n x mu=some (v,mu')->Ev aC prog w h₀ r env nm loc mu (eval x env) v mu'
 c:∀env nm loc elt gens scope mu v mu',Gh T F hint nm loc n elt gens scope mu=some (v,mu')->Ki prog w h₀ r env nm loc mu elt gens scope v mu'
 i:∀env nm loc x mu l mu',yx T F hint nm loc n x mu=some (l,mu')->EK prog w h₀ r T env nm loc mu x l mu'
 o:∀env nm loc x mu k mu',F1 T F hint nm loc n x mu=some (k,mu')->Ev yX prog w h₀ r env nm loc mu (evalPart x env) k mu'
 l:∀env nm loc es mu vs mu',yy T F hint nm loc n es mu=some (vs,mu')->(starEach es env).any (·.1)=false/\∀pos,Ev aA prog w h₀ r env nm loc mu (spliced (backTo pos (starEach es env))) vs mu'
 bs:∀env nm loc op es mu v mu',xA T F hint nm loc n op es mu=some (v,mu')->∀pos,Ev aC prog w h₀ r env nm loc mu (eval (.BoolOp op es pos) env) v mu'
 t:∀env nm loc x mu b mu',oY T F hint nm loc n x mu=some (b,mu')->Ev kD prog w h₀ r env nm loc mu (isTrue x env (eval x env)) b mu'
 a:∀env nm loc op es mu b mu',F2 T F hint nm loc n op es mu=some (b,mu')->Ev kD prog w h₀ r env nm loc mu (allTrue op es env) b mu'
 ts:∀env nm loc es mu b mu',vh T F hint nm loc n es mu=some (b,mu')->Ev kD prog w h₀ r env nm loc mu (wF env es) b mu'
variable{env:Env}{nm:ae}{loc:au}{mu mu' mu'':Mu}{n:Nat}
theorem wG(B:iH prog h₀)(H:bV K T h₀){x:Str}{pos:Pos}{v:V}(hk:nm.lookup x=some .globalImplicit)(hg:T.glob x=some v)(hd:(x==("__debug__":Str))=false):
  Ev aC prog w h₀ r env nm loc mu (eval (.Name x pos) env) v mu:=λA z as s Q E ro R f q=>by
 obtain⟨val,hr,hv⟩:=H.glob _ _ hg
 obtain⟨mg,hmg⟩:=B.g
 obtain⟨mb,hmb,hb⟩:=B.b
 have hmg':s.heap.Ns env.globals mg:=by rw[f.glob];exact hmg.at' λo e=>R.keep0 _ _ e
 have hmb':s.heap.Ns env.builtins mb:=by rw[f.blt];exact hmb.at' λo e=>R.keep0 _ _ e
 refine Calls.Name_function_global f.kind (by rw[Env.kindOf,f.nms];exact hk) ?_ hd
 rcases hv mg hmg with h|⟨h1,h2,h3⟩
 ·exact Calls.loadGlobal_global hmg' h (bq R f q (hr _ _))
 ·exact Calls.loadGlobal_builtin hmg' h1 hmb' (by rw[hb x h2];exact h3) (bq R f q (hr _ _))
theorem sW{f:Value}{vs:List V}{c:V}(e:aL T mu f vs=some c):∀(M:Model)(h:Heap),∃k,(k=Keeper.frame\/k=aa1\/k=aa2)/\Looks M h (keeperOf f) k:=λM h=>by
 refine⟨.machine,.inr (.inl rfl),?_⟩
 cases f with
 |ref a=>exact ak e
 |_=>exact Looks.of_pure rfl
theorem B6{es:List Expr}{vs:List V}(pos:Pos)(hl:(starEach es env).any (·.1)=false)(h:Ev aA prog w h₀ r env nm loc mu (spliced (backTo pos (starEach es env))) vs mu')(hn:es=[]->vs=[]/\mu'=mu)(fv:Value):
  ∀(A:Around)(z:af)(as:aX)(s:Shared)(Q:Args->Shared->Prop)(E:Value->Shared->Prop),dK A r->MR h₀ z as mu s.heap->FR h₀ env nm loc z as mu s.heap->
   (∀xs s' z' as',bo s s'->MR h₀ z' as' mu' s'.heap->ai gh z as mu s.heap z' as' mu' s'.heap->FR h₀ env nm loc z' as' mu' s'.heap->aA z' as' vs xs->Q ⟨xs,[]⟩ s')->
   wpAny (model prog w) A (evalArgs fv true (backTo pos (starEach es env)) []) Q E s:=by
 intro A z as s Q E ro R f q
 cases es with
 |nil=>
  obtain⟨rfl,rfl⟩:=hn rfl
  exact evalArgs_nil3 (q [] s z as (bo.refl s) R (ai.refl _ _ _ _ _) f .nil)
 |cons e rest=>
  have hs:starEach (e::rest) env=(false,eval e env)::starEach rest env:=by
   cases e<;>first|rfl|exact Bool.noConfusion (hl:true=false)
  have h':=h A z as s (λxs s'=>Q ⟨xs,[]⟩ s') E ro R f q
  rw[hs] at h'⊢
  exact Calls.evalArgs_plain h'
theorem ld(pos:Pos)(l:List (Bool×Sem Value))(h:l.any (·.1)=false):(backTo pos l).any (·.1)=false:=by
 unfold backTo
 rw[List.any_map]
 exact h
theorem eX{es:List Expr}{vs:List V}{pos:Pos}{fv:Value}{first:List Value}(hl:(starEach es env).any (·.1)=false)(h:Ev aA prog w h₀ r env nm loc mu (spliced (backTo pos (starEach es env))) vs mu')(hn:es=[]->vs=[]/\mu'=mu)
  (H:bV K T h₀) (hk:∀h,K.In h->∃k,(k=Keeper.frame\/k=aa1\/k=aa2)/\Looks (model prog w) h (keeperOf fv) k)
  {A:Around} {z:af} {as:aX} {s:Shared} {Q:Value->Shared->Prop} {E:Value->Shared->Prop} (ro:dK A r) (R:MR h₀ z as mu s.heap) (f:FR h₀ env nm loc z as mu s.heap)
  (q:∀xs s' z' as',bo s s'->MR h₀ z' as' mu' s'.heap->ai gh z as mu s.heap z' as' mu' s'.heap->FR h₀ env nm loc z' as' mu' s'.heap->aA z' as' vs xs->wpAny (model prog w) A (call fv (first++xs)) Q E s'):
  wpAny (model prog w) A (callWith pos fv first (backTo pos (starEach es env)) []) Q E s:=
 callWith_of (P:=K.In) (by rw[ld pos _ hl];rfl) hk (B6 pos hl h hn fv A z as s _ E ro R f λxs s' z' as' sm R' st f' rl=>⟨H.at R',q xs s' z' as' sm R' st f' rl⟩)
end
end
section
section
variable{prog:Program}{w:World}{h₀:Heap}{r:Nat}{K:Frag}{T:ba}{F:bM}{hint:Nat->Nat->Bool}
variable{env:Env}{nm:ae}{loc:au}{mu mu' mu'':Mu}{n:Nat}
theorem eJ{x:Expr}{y:V×Mu}(h:fu T F hint nm loc n x mu=some y):∀a b,x≠.Starred a b:=by
 rintro a b rfl
 cases n<;>exact ak h
theorem o8{x:Expr}{y:V×Mu}(op:CmpOp)(h:fu T F hint nm loc n x mu=some y):behindInMarks op x=false:=by
 cases x<;>first|rfl|(cases n<;>exact ak h)
theorem bF{e:Expr}(h:∀a b,e≠.Starred a b)(rest:List Expr)(env:Env):starEach (e::rest) env=(false,eval e env)::starEach rest env:=by
 cases e<;>first|rfl|exact absurd rfl (h _ _)
theorem sX(pos:Pos):Ev aA prog w h₀ r env nm loc mu (spliced (backTo pos (starEach [] env))) [] mu:=λq0 q0 q0 q0 q0 q0 q0 R f q=>Calls.spliced_nil (bq R f q .nil)
theorem lD{e:Expr}{rest:List Expr}{v:V}{vs:List V}{pos:Pos}(hs:∀a b,e≠.Starred a b)(h1:Ev aC prog w h₀ r env nm loc mu (eval e env) v mu')(h2:Ev aA prog w h₀ r env nm loc mu' (spliced (backTo pos (starEach rest env))) vs mu''):
  Ev aA prog w h₀ r env nm loc mu (spliced (backTo pos (starEach (e::rest) env))) (v::vs) mu'':=λA z as s Q E ro R f q=>
 spliced_more (h1 A z as s _ E ro R f λx s1 z1 as1 sm1 R1 st1 f1 r1=>h2 A z1 as1 s1 _ E ro R1 f1 λxs s2 z2 as2 sm2 R2 st2 f2 r2=>
  q _ s2 z2 as2 (sm1.trans sm2) R2 (st1.trans0 st2) f2 (.cons (r1.mono st2.zsub st2.asub) r2)) (bF hs rest env)
theorem vq{a b c:V}{l x:Expr}{k:Value->Value->Sem Value}{mu1 mu2 mu3:Mu}(h1:Ev aC prog w h₀ r env nm loc mu (eval l env) a mu1)(h2:Ev aC prog w h₀ r env nm loc mu1 (eval x env) b mu2)
  (h3:vi aC prog w h₀ r env nm loc mu2 a b k c mu3) {A:Around} {z:af} {as:aX} {s:Shared} {Q:Value->Shared->Prop} {E:Value->Shared->Prop} (ro:dK A r) (R:MR h₀ z as mu s.heap) (f:FR h₀ env nm loc z as mu s.heap)
  (q:∀x s' z' as',bo s s'->MR h₀ z' as' mu3 s'.heap->ai gh z as mu s.heap z' as' mu3 s'.heap->FR h₀ env nm loc z' as' mu3 s'.heap->aC z' as' c x->Q x s'):
  wpAny (model prog w) A (eval l env) (λa s₁=>wpAny (model prog w) A (eval x env) (λb s₂=>wpAny (model prog w) A (k a b) Q E s₂) E s₁) E s:=
 h1 A z as s _ E ro R f λx s1 z1 as1 sm1 R1 st1 f1 r1=>h2 A z1 as1 s1 _ E ro R1 f1 λy s2 z2 as2 sm2 R2 st2 f2 r2=>
  h3 A z2 as2 x y s2 Q E ro R2 f2 (r1.mono st2.zsub st2.asub) r2 λv s3 z3 as3 sm3 R3 st3 f3 r3=>q v s3 z3 as3 ((sm1.trans sm2).trans sm3) R3 ((st1.trans0 st2).trans0 st3) f3 r3
theorem EM(B:iH prog h₀){l x:Expr}{op:Operator}{pos:Pos}{a b c:V}{mu1 mu2:Mu}(h1:Ev aC prog w h₀ r env nm loc mu (eval l env) a mu1)(h2:Ev aC prog w h₀ r env nm loc mu1 (eval x env) b mu2)(e:oO op a b=some c):
  Ev aC prog w h₀ r env nm loc mu (eval (.BinOp l op x pos) env) c mu2:=λq0 q0 q0 q0 q0 q0 ro R f q=>wpAny_BinOp (vq h1 h2 (EB B e) ro R f q)
theorem EN{l x:Expr}{op:CmpOp}{pos:Pos}{a b:V}{c:Bool}{mu1 mu2:Mu}(h1:Ev aC prog w h₀ r env nm loc mu (eval l env) a mu1)(h2:Ev aC prog w h₀ r env nm loc mu1 (eval x env) b mu2)(e:b9 mu2 op a b=some c)
  (hm:behindInMarks op x=false):Ev aC prog w h₀ r env nm loc mu (eval (.Compare l [op] [x] pos) env) (.bool c) mu2:=λq0 q0 q0 q0 q0 q0 ro R f q=>wpAny_Compare1 (vq h1 h2 (mK e) ro R f q) hm
theorem EO{x:Expr}{pos:Pos}{i:Int}(h1:Ev aC prog w h₀ r env nm loc mu (eval x env) (.int i) mu'):Ev aC prog w h₀ r env nm loc mu (eval (.UnaryOp .USub x pos) env) (.int (-i)) mu':=λA z as s Q E ro R f q=>
 wpAny_UnaryOp (h1 A z as s _ E ro R f λx s1 z1 as1 sm1 R1 st1 f1 r1=>r1.eInt λ_=>
  P.neg_int (q _ _ z1 as1 (sm1.trans ⟨s1.heap,s1.toks+1,rfl⟩) R1 st1 f1 (.int _ _)))
theorem EP{x:Expr}{pos:Pos}{a:V}{b:Bool}(h1:Ev aC prog w h₀ r env nm loc mu (eval x env) a mu')(e:gK a=some b):Ev aC prog w h₀ r env nm loc mu (eval (.UnaryOp .Not x pos) env) (.bool (!b)) mu':=λA z as s Q E ro R f q=>
 wpAny_UnaryOp (h1 A z as s _ E ro R f λx s1 z1 as1 sm1 R1 st1 f1 r1=>not_value (f9 e A z1 as1 x s1 _ E ro R1 f1 r1 λy s2 z2 as2 sm2 R2 st2 f2 r2=>by
  cases r2
  exact q _ s2 z2 as2 (sm1.trans sm2) R2 (st1.trans0 st2) f2 (.bool _)))
theorem B7(H:bV K T h₀){o:Expr}{name:Str}{pos:Pos}{a v:V}(hb:lc o=true)(h1:Ev aC prog w h₀ r env nm loc mu (eval o env) a mu')(e:rF T mu' a name=some v):
  Ev aC prog w h₀ r env nm loc mu (eval (.Attribute o name pos) env) v mu':=λA z as s Q E ro R f q=>
 Attribute_any_ (h1 A z as s _ E ro R f λx s1 z1 as1 sm1 R1 st1 f1 r1=>wE H e A z1 as1 x s1 Q E ro R1 f1 r1 λy s2 z2 as2 sm2 R2 st2 f2 r2=>q y s2 z2 as2 (sm1.trans sm2) R2 (st1.trans0 st2) f2 r2)
  (by rw[arm_eval_Attribute,iK hb])
theorem B8{o i:Expr}{pos:Pos}{a v:V}{k:Int}{mu1 mu2:Mu}(h1:Ev aC prog w h₀ r env nm loc mu (eval o env) a mu1)(h2:Ev aC prog w h₀ r env nm loc mu1 (eval i env) (.int k) mu2)(e:bP mu2 a k=some v):
  Ev aC prog w h₀ r env nm loc mu (eval (.Subscript o i pos) env) v mu2:=λq0 q0 q0 q0 q0 q0 ro R f q=>Subscript_ (vq h1 h2 (B2 e) ro R f q)
theorem EQ{o:Expr}{lo up:Option Expr}{sp pos:Pos}{a v:V}{ka kb:Option Int}{mu1 mu2 mu3:Mu}(h1:Ev aC prog w h₀ r env nm loc mu (eval o env) a mu1)(h2:Ev yX prog w h₀ r env nm loc mu1 (evalPart lo env) ka mu2)(h3:Ev yX prog w h₀ r env nm loc mu2 (evalPart up env) kb mu3)
  (e:qW a ka kb=some v):Ev aC prog w h₀ r env nm loc mu (eval (.Subscript o (.Slice lo up none sp) pos) env) v mu3:=λA z as s Q E ro R f q=>
 Subscript_ (h1 A z as s _ E ro R f λx s1 z1 as1 sm1 R1 st1 f1 r1=>wpAny_Slice (h2 A z1 as1 s1 _ E ro R1 f1 λy s2 z2 as2 sm2 R2 st2 f2 r2=>h3 A z2 as2 s2 _ E ro R2 f2 λy' s3 z3 as3 sm3 R3 st3 f3 r3=>
  wpAny_pure (EC e A z3 as3 x y y' s3 Q E R3 f3 ((r1.mono st2.zsub st2.asub).mono st3.zsub st3.asub) r2 r3 λu s4 z4 as4 sm4 R4 st4 f4 r4=>
   q u s4 z4 as4 (((sm1.trans sm2).trans sm3).trans sm4) R4 (((st1.trans0 st2).trans0 st3).trans0 st4) f4 r4)))
theorem y7{es:List Expr}{k:Nat}{pos:Pos}{vs:List V}(h:∀pos,Ev aA prog w h₀ r env nm loc mu (spliced (backTo pos (starEach es env))) vs mu')(hl:vs.length<=1000):
  Ev aC prog w h₀ r env nm loc mu (eval (.Tuple es k pos) env) (.tup vs) mu':=λA z as s Q E ro R f q=>
 Tuple_ (h pos A z as s _ E ro R f λxs s1 z1 as1 sm1 R1 st1 f1 r1=>wpAny_newObj_type (eI (rep:=aC) (b:=V.tup vs) (x:=Value.ref s1.heap.objs.size) (o:=hJ xs.toArray 0) R1 f1
  (λy s2 z2 as2 sm2 R2 st2 f2 r2=>q y s2 z2 as2 (sm1.trans sm2) R2 (st1.trans0 st2) f2 r2) (iV.push _ _) (aB _) (aaL _ rfl) (.tup (n:=0) (af.put_self _ _ _) (r1.mono (af.put_sub (lx R1)) (aav _))))
  (by show xs.toArray.size<=sizeLine;rw[aaJ,<-r1.length,sizeLine_eq];exact ad 254042074080 [_] [] hl))
theorem B9{es:List Expr}{pos:Pos}{vs:List V}(h:∀pos,Ev aA prog w h₀ r env nm loc mu (spliced (backTo pos (starEach es env))) vs mu')(hl:vs.length<=1000):
  Ev aC prog w h₀ r env nm loc mu (eval (.List es pos) env) (.lst vs) mu':=λA z as s Q E ro R f q=>
 List_ (h pos A z as s _ E ro R f λxs s1 z1 as1 sm1 R1 st1 f1 r1=>wpAny_newObj_type (eI (rep:=aC) (b:=V.lst vs) (x:=Value.ref s1.heap.objs.size) (o:=aaZ xs.toArray 0) R1 f1
  (λy s2 z2 as2 sm2 R2 st2 f2 r2=>q y s2 z2 as2 (sm1.trans sm2) R2 (st1.trans0 st2) f2 r2) (iV.push _ _) (aB _) (aaL _ rfl) (.lst (n:=0) (af.put_self _ _ _) (r1.mono (af.put_sub (lx R1)) (aav _))))
  (by show xs.toArray.size<=sizeLine;rw[aaJ,<-r1.length,sizeLine_eq];exact ad 254042074080 [_] [] hl))
theorem rL{β:Type}{rep:af->aX->β->Value->Prop}{z:af}{as:aX}{s:Shared}{Q:Value->Shared->Prop}{b:β}{h':Heap}{a:Addr}{l:List V}{xs:List Value}{k:Nat}(R:MR h₀ z as mu s.heap)(f:FR h₀ env nm loc z as mu s.heap)
  (q:∀x s' z' as',bo s s'->MR h₀ z' as' (mu++[.lst l]) s'.heap->ai gh z as mu s.heap z' as' (mu++[.lst l]) s'.heap->FR h₀ env nm loc z' as' (mu++[.lst l]) s'.heap->rep z' as' b x->Q x s')
  (e:iV s.heap h') (hn:s.heap.get? a=none) (ho:h'.get? a=some (aaZ xs.toArray k)) (rl:aA z as l xs) (hb:rep z (as++[(a,a)]) b (.ref a)) (tk:Tok:=s.toks):Q (.ref a) {s with heap:=h',toks:=tk}:=by
 have hfr:∀c∈MO.own (.lst l) (a,a),s.heap.get? c=none:=λc hc=>by simp[MO.own] at hc;rw[hc];exact hn
 have st:ai gh z as mu s.heap z (as++[(a,a)]) (mu++[.lst l]) h':=ai.newM _ R e hfr
 exact q _ _ z (as++[(a,a)]) ⟨h',tk,rfl⟩ (R.newM e hfr ⟨xs,k,ho,rl.mono (cV.refl z) (aay _ _)⟩) st (f.step st) hb
theorem uf{z:af}{as:aX}{mu:Mu}{a:Addr}(h:as.length=mu.length):aC z (as++[(a,a)]) (.ref mu.length) (.ref a):= .ref (d:=a) (by rw[<-h];exact ls _ _)
theorem y8{es:List Expr}{pos:Pos}{vs:List V}(h:∀pos,Ev aA prog w h₀ r env nm loc mu (spliced (backTo pos (starEach es env))) vs mu')(hl:vs.length<=1000):
  Ev aC prog w h₀ r env nm loc mu (eval (.List es pos) env) (.ref mu'.length) (mu'++[.lst vs]):=λA z as s Q E ro R f q=>
 List_ (h pos A z as s _ E ro R f λxs s1 z1 as1 sm1 R1 st1 f1 r1=>wpAny_newObj_type (rL (rep:=aC) (b:=V.ref mu'.length) (xs:=xs) (k:=0) R1 f1
  (λy s2 z2 as2 sm2 R2 st2 f2 r2=>q y s2 z2 as2 (sm1.trans sm2) R2 (st1.trans0 st2) f2 r2) (iV.push _ _) (aB _) (aaL _ rfl) r1 (uf R1.len))
  (by show xs.toArray.size<=sizeLine;rw[aaJ,<-r1.length,sizeLine_eq];lia))
theorem Gn{t a b:Expr}{pos:Pos}{c:Bool}{v:V}{mu1 mu2:Mu}(h1:Ev kD prog w h₀ r env nm loc mu (isTrue t env (eval t env)) c mu1)(h2:Ev aC prog w h₀ r env nm loc mu1 (eval (if c then a else b) env) v mu2):
  Ev aC prog w h₀ r env nm loc mu (eval (.IfExp t a b pos) env) v mu2:=λA z as s Q E ro R f q=>
 wpAny_IfExp (h1 A z as s _ E ro R f λx s1 z1 as1 sm1 R1 st1 f1 r1=>by
  cases r1
  have:=h2 A z1 as1 s1 Q E ro R1 f1 λy s2 z2 as2 sm2 R2 st2 f2 r2=>q y s2 z2 as2 (sm1.trans sm2) R2 (st1.trans0 st2) f2 r2
  cases c<;>exact this)
theorem y9{t:Sem Value}{a:V}{b:Bool}(h1:Ev aC prog w h₀ r env nm loc mu t a mu')(e:gK a=some b){A:Around}{z:af}{as:aX}{s:Shared}{Q:Bool->Shared->Prop}{E:Value->Shared->Prop}(ro:dK A r)
  (R:MR h₀ z as mu s.heap) (f:FR h₀ env nm loc z as mu s.heap) (q:∀x s' z' as',bo s s'->MR h₀ z' as' mu' s'.heap->ai gh z as mu s.heap z' as' mu' s'.heap->FR h₀ env nm loc z' as' mu' s'.heap->kD z' as' b x->Q x s'):
  wpAny (model prog w) A t (λv s₁=>wpAny (model prog w) A (truthy v) Q E s₁) E s:=
 h1 A z as s _ E ro R f λx s1 z1 as1 sm1 R1 st1 f1 r1=>f9 e A z1 as1 x s1 Q E ro R1 f1 r1 λy s2 z2 as2 sm2 R2 st2 f2 r2=>q y s2 z2 as2 (sm1.trans sm2) R2 (st1.trans0 st2) f2 r2
theorem zb{l x x':Expr}{op op':CmpOp}{pos:Pos}{a b v:V}{c:Bool}{mu1 mu2 mu3:Mu}(h1:Ev aC prog w h₀ r env nm loc mu (eval l env) a mu1)(h2:Ev aC prog w h₀ r env nm loc mu1 (eval x env) b mu2)(e:b9 mu2 op a b=some c)
  (h3:c=true->∃d c',Ev aC prog w h₀ r env nm loc mu2 (eval x' env) d mu3/\b9 mu3 op' b d=some c'/\v= .bool c') (h4:c=false->v= .bool false/\mu3=mu2) (hm:behindInMarks op' x'=false):
  Ev aC prog w h₀ r env nm loc mu (eval (.Compare l [op,op'] [x,x'] pos) env) v mu3:=λA z as s Q E ro R f q=>by
 refine Compare_chain (h1 A z as s _ E ro R f λxa s1 z1 as1 sm1 R1 st1 f1 r1=>chain_link (h2 A z1 as1 s1 _ E ro R1 f1 λxb s2 z2 as2 sm2 R2 st2 f2 r2=> ?_)) (by simpa [lastMarks] using hm)
 refine mK e A z2 as2 xa xb s2 _ E ro R2 f2 (r1.mono st2.zsub st2.asub) r2 λy s3 z3 as3 sm3 R3 st3 f3 r3=> ?_
 refine f9 (a:= .bool c) rfl A z3 as3 y s3 _ E ro R3 f3 r3 λt s4 z4 as4 sm4 R4 st4 f4 r4=> ?_
 cases r4
 cases c with
 |true=>
  obtain⟨d,c',hd,hc,rfl⟩:=h3 rfl
  rw[if_pos rfl]
  exact chain_last (hd A z4 as4 s4 _ E ro R4 f4 λxd s5 z5 as5 sm5 R5 st5 f5 r5=>mK hc A z5 as5 xb xd s5 Q E ro R5 f5 (((r2.mono st3.zsub st3.asub).mono st4.zsub st4.asub).mono st5.zsub st5.asub) r5 λu s6 z6 as6 sm6 R6 st6 f6 r6=>
   q u s6 z6 as6 (((((sm1.trans sm2).trans sm3).trans sm4).trans sm5).trans sm6) R6 (((((st1.trans0 st2).trans0 st3).trans0 st4).trans0 st5).trans0 st6) f6 r6)
 |false=>
  obtain⟨rfl,rfl⟩:=h4 rfl
  rw[if_neg (by decide)]
  exact q y s4 z4 as4 (((sm1.trans sm2).trans sm3).trans sm4) R4 (((st1.trans0 st2).trans0 st3).trans0 st4) f4 (r3.mono st4.zsub st4.asub)
theorem xL{l x x':Expr}{op op':CmpOp}{pos:Pos}{whole:Sem Value}{a b:V}{c v:Bool}{mu1 mu2 mu3:Mu}(h1:Ev aC prog w h₀ r env nm loc mu (eval l env) a mu1)(h2:Ev aC prog w h₀ r env nm loc mu1 (eval x env) b mu2)(e:b9 mu2 op a b=some c)
  (h3:c=true->∃d,Ev aC prog w h₀ r env nm loc mu2 (eval x' env) d mu3/\b9 mu3 op' b d=some v) (h4:c=false->v=false/\mu3=mu2) (hm:behindInMarks op' x'=false):
  Ev kD prog w h₀ r env nm loc mu (isTrue (.Compare l [op,op'] [x,x'] pos) env whole) v mu3:=λA z as s Q E ro R f q=>by
 refine isTrue_chain (h1 A z as s _ E ro R f λxa s1 z1 as1 sm1 R1 st1 f1 r1=>test_link (h2 A z1 as1 s1 _ E ro R1 f1 λxb s2 z2 as2 sm2 R2 st2 f2 r2=> ?_)) (by simpa [lastMarks] using hm)
 refine mK e A z2 as2 xa xb s2 _ E ro R2 f2 (r1.mono st2.zsub st2.asub) r2 λy s3 z3 as3 sm3 R3 st3 f3 r3=> ?_
 refine f9 (a:= .bool c) rfl A z3 as3 y s3 _ E ro R3 f3 r3 λt s4 z4 as4 sm4 R4 st4 f4 r4=> ?_
 cases r4
 cases c with
 |true=>
  obtain⟨d,hd,hc⟩:=h3 rfl
  rw[if_pos rfl]
  exact test_last (hd A z4 as4 s4 _ E ro R4 f4 λxd s5 z5 as5 sm5 R5 st5 f5 r5=>mK hc A z5 as5 xb xd s5 _ E ro R5 f5 (((r2.mono st3.zsub st3.asub).mono st4.zsub st4.asub).mono st5.zsub st5.asub) r5 λu s6 z6 as6 sm6 R6 st6 f6 r6=>
   f9 (a:= .bool v) rfl A z6 as6 u s6 Q E ro R6 f6 r6 λt s7 z7 as7 sm7 R7 st7 f7 r7=>q t s7 z7 as7 ((((((sm1.trans sm2).trans sm3).trans sm4).trans sm5).trans sm6).trans sm7) R7 ((((((st1.trans0 st2).trans0 st3).trans0 st4).trans0 st5).trans0 st6).trans0 st7) f7 r7)
 |false=>
  obtain⟨rfl,rfl⟩:=h4 rfl
  rw[if_neg (by decide)]
  exact q false s4 z4 as4 (((sm1.trans sm2).trans sm3).trans sm4) R4 (((st1.trans0 st2).trans0 st3).trans0 st4) f4 rfl
end
end
section
section
variable{prog:Program}{w:World}{h₀:Heap}{r:Nat}{K:Frag}{T:ba}{F:bM}{hint:Nat->Nat->Bool}
variable{env:Env}{nm:ae}{loc:au}{mu mu' mu'':Mu}{n:Nat}
theorem nq{f:Value}(hk:keepIn K f=true)(M:Model):∀h,K.In h->∃k,(k=Keeper.frame\/k=aa1\/k=aa2)/\Looks M h (keeperOf f) k:=λh X=>keeps_K hk h X
theorem Ca(H:bV K T h₀)(hF:BI K prog w h₀ r F){f:Expr}{args:List Expr}{pos:Pos}{fv:Value}{vs:List V}{v:V}{mu1 mu2 mu3:Mu}(hf:∀o n p,f≠.Attribute o n p)
  (h1:Ev aC prog w h₀ r env nm loc mu (eval f env) (.top fv) mu1) (hl:(starEach args env).any (·.1)=false) (h2:∀pos,Ev aA prog w h₀ r env nm loc mu1 (spliced (backTo pos (starEach args env))) vs mu2) (hn:args=[]->vs=[]/\mu2=mu1)
  (h3:(aL T mu2 fv vs=some v/\mu3=mu2)\/F fv vs mu2=some (v,mu3)):Ev aC prog w h₀ r env nm loc mu (eval (.Call f args [] pos) env) v mu3:=λA z as s Q E ro R fr q=>by
 rw[dg hf]
 refine wpAny_bind (h1 A z as s _ E ro R fr λx s1 z1 as1 sm1 R1 st1 f1 r1=> ?_)
 cases r1
 have hk:∀h,K.In h->∃k,(k=Keeper.frame\/k=aa1\/k=aa2)/\Looks (model prog w) h (keeperOf fv) k:=by
  rcases h3 with h3|h3
  ·exact λh _=>sW h3.1 _ h
  ·exact nq (hF.keep _ _ _ _ h3) _
 refine eX (first:=[]) hl (h2 pos) hn H hk ro R1 f1 λxs s2 z2 as2 sm2 R2 st2 f2 r2=> ?_
 rw[aa3]
 rcases h3 with⟨h3,rfl⟩|h3
 ·exact vo H h3 A z2 as2 xs s2 Q E ro R2 f2 r2 λy s3 z3 as3 sm3 R3 st3 f3 r3=>q y s3 z3 as3 ((sm1.trans sm2).trans sm3) R3 ((st1.trans0 st2).trans0 st3) f3 r3
 ·exact hF.ok _ _ _ _ _ h3 A z2 as2 xs s2 Q E ro R2 r2 λy s3 z3 as3 sm3 R3 st3 r3=>q y s3 z3 as3 ((sm1.trans sm2).trans sm3) R3 ((st1.trans0 st2).trans0 st3) (f2.step st3) r3
noncomputable def zc:n5->Value
 | .app _=> .builtin "list.append"
 | .pop _=> .builtin "list.pop"
 | .fn f=> .ref f
noncomputable def sY(o:V):af->aX->n5->Value×List Value->Prop:=λz as m p=>∃x,aC z as o x/\p.2=[x]/\p.1=zc m
theorem Cb(H:bV K T h₀){o:V}{name:Str}{m:n5}{pl:Sem Bool}(e:rG T mu o name=some m):J1 (sY o) prog w h₀ r env nm loc mu o (λx=>getMethod x name pl) m mu:=by
 intro A z as x s Q E ro R fr ra q
 have fn:∀{C:Addr}{fs:List (Str×V)}{f:Addr},gL mu o=some (C,fs)->fs.lookup name=none->T.meth C name=some f->m= .fn f->wpAny (model prog w) A (getMethod x name pl) Q E s:=by
  rintro C fs f h1 h2 h3 rfl
  exact xF H h1 h2 h3 A z as x s Q E ro R fr ra λy s' z' as' sm R' st f' ⟨x',hy,rx⟩=>q y s' z' as' sm R' st f' ⟨x',rx,by rw[hy],by rw[hy];rfl⟩
 rcases yO e with⟨i,l,rfl,hm,h⟩|⟨C,fs,f,h1,h2,h3,h4⟩
 ·obtain⟨p,ep,rfl⟩:=ez ra
  obtain⟨vs,n,ho,r1⟩:=R.lst_at hm ep
  clear e fn
  rcases h with⟨rfl,rfl⟩|⟨rfl,rfl⟩
  ·exact Calls.getMethod_list_append ho rfl rfl (bq (rep:=sY _) R fr q ⟨_,ra,rfl,rfl⟩)
  ·exact getMethod_list_of PySem.F.slot_list_pop PySem.F.type_list_pop (aJ ho) ⟨_,ho,rfl⟩ (bq (rep:=sY _) R fr q ⟨_,ra,rfl,rfl⟩)
 ·exact fn h1 h2 h3 h4
theorem ER(hF:BI K prog w h₀ r F){o:V}{vs:List V}{m:n5}{v:V}{mu0:Mu}{name:Str}(hL:rG T mu0 o name=some m)(e:dJ F o vs mu m=some (v,mu')){A:Around}{z:af}{as:aX}{fv x:Value}{xs:List Value}{s:Shared}{Q:Value->Shared->Prop}{E:Value->Shared->Prop}
  (hfv:fv=zc m) (ro:dK A r) (R:MR h₀ z as mu s.heap) (fr:FR h₀ env nm loc z as mu s.heap) (ra:aC z as o x) (rl:aA z as vs xs)
  (q:∀x s' z' as',bo s s'->MR h₀ z' as' mu' s'.heap->ai gh z as mu s.heap z' as' mu' s'.heap->FR h₀ env nm loc z' as' mu' s'.heap->aC z' as' v x->Q x s'):wpAny (model prog w) A (call fv ([x]++xs)) Q E s:=by
 subst hfv
 have isref:∀i,(m= .app i\/m= .pop i)->o= .ref i:=by
  intro i hi
  rcases yO hL with⟨j,l,rfl,hm,h⟩|⟨C,fs,f,h1,h2,h3,rfl⟩
  ·rcases h with⟨_,rfl⟩|⟨_,rfl⟩<;>rcases hi with h|h<;>first|cases h;done|(cases h;rfl)
  ·rcases hi with h|h<;>cases h
 cases m with
 |app i=>
  have:=isref i (.inl rfl)
  obtain⟨l,hm,e1⟩:=bG e
  obtain⟨u,h1,e2⟩:=bG e1
  obtain⟨hl,e3⟩:=cr e2
  clear e e1 e2 isref hL
  subst this
  obtain⟨x,rfl,rb⟩:=hR h1 rl
  cases e3
  exact xG (mF hm) hl A z as _ _ s Q E ro R fr ra rb q
 |pop i=>
  have:=isref i (.inr rfl)
  obtain⟨l,hm,e1⟩:=bG e
  obtain⟨u,h1,e2⟩:=bG e1
  obtain⟨k,h2,e3⟩:=bG e2
  obtain⟨hl,e4⟩:=cr e3
  obtain⟨u',hu,e5⟩:=fZ e4
  clear e e1 e2 e3 e4 isref hL
  subst this
  obtain⟨x,rfl,rb⟩:=hR h1 rl
  obtain rfl:=cb h2
  cases e5
  exact EJ (mF hm) hl.2.2 hl.1 hl.2.1 hu A z as _ _ s Q E ro R fr ra rb q
 |fn f=>exact hF.ok _ _ _ _ _ e A z as (x::xs) s Q E ro R (.cons ra rl) λy s3 z3 as3 sm3 R3 st3 r3=>q y s3 z3 as3 sm3 R3 st3 (fr.step st3) r3
theorem Cc(H:bV K T h₀)(hF:BI K prog w h₀ r F){o:Expr}{name:Str}{apos:Pos}{args:List Expr}{pos:Pos}{a:V}{m:n5}{vs:List V}{v:V}{mu1 mu2 mu3:Mu}(hb:lc o=true)(hln:args.length<=29)(hline:(apos.endLine==pos.line)=true)
  (h1:Ev aC prog w h₀ r env nm loc mu (eval o env) a mu1) (hm:rG T mu1 a name=some m) (hl:(starEach args env).any (·.1)=false) (h2:∀pos,Ev aA prog w h₀ r env nm loc mu1 (spliced (backTo pos (starEach args env))) vs mu2) (hn:args=[]->vs=[]/\mu2=mu1)
  (h3:dJ F a vs mu2 m=some (v,mu3)):Ev aC prog w h₀ r env nm loc mu (eval (.Call (.Attribute o name apos) args [] pos) env) v mu3:=λA z as s Q E ro R fr q=>by
 rw[arm_eval_Call,iK hb]
 refine wpAny_bind (h1 A z as s _ E ro R fr λx s1 z1 as1 sm1 R1 st1 f1 r1=>wpAny_bind (wpAny_standAt ?_))
 have hform:methodCallForm (args.length+([]:List Keyword).length) (backTo pos (starEach args env)) (backToKw pos (keywordEach [] env))=true:=by
  unfold methodCallForm
  have e1:(backTo pos (starEach args env)).all (!·.1)=true:=by
   have:=ld pos _ hl
   rw[List.any_eq_false] at this
   rw[aa4]
   intro y hy
   have:=this y hy
   simpa using this
  rw[e1]
  show(true&&true&&decide (args.length+0+0<30))=true
  simp
  exact ad 230423632380 [_] [] hln
 have hpos:methodCallPos true o env apos pos=pure pos:=by unfold methodCallPos;simp[hline]
 unfold methodCall
 rw[hform]
 refine wpAny_bind (wpAny_holding (Cb H hm A z1 as1 x s1 _ E ro R1 f1 r1 λp s2 z2 as2 sm2 R2 st2 f2 r2=> ?_))
 obtain⟨x',rx,e2,e1⟩:=r2
 obtain⟨fv,first⟩:=p
 dsimp only at e1 e2
 subst e2
 refine wpAny_bind (wpAny_of_eq hpos ?_)
 have hk:∀h,K.In h->∃k,(k=Keeper.frame\/k=aa1\/k=aa2)/\Looks (model prog w) h (keeperOf fv) k:=by
  rw[e1]
  cases m with
  |app i=>exact λh _=>⟨.machine,.inr (.inl rfl),Looks.of_pure rfl⟩
  |pop i=>exact λh _=>⟨.machine,.inr (.inl rfl),Looks.of_pure rfl⟩
  |fn f=>exact nq (hF.keep _ _ _ _ h3) _
 refine eX (first:=[x']) hl (h2 pos) hn H hk ro R2 f2 λxs s3 z3 as3 sm3 R3 st3 f3 r3=> ?_
 exact ER hF hm h3 e1 ro R3 f3 (rx.mono st3.zsub st3.asub) r3 λy s4 z4 as4 sm4 R4 st4 f4 r4=>q y s4 z4 as4 (((sm1.trans sm2).trans sm3).trans sm4) R4 (((st1.trans0 st2).trans0 st3).trans0 st4) f4 r4
noncomputable def rM(z:af)(_:aX)(p:Int×Int)(x:Value):Prop:=∃a t u v,x= .ref a/\z a=some {cls:= .type "range",data:= .fields #[.int p.1 t,.int p.2 u,.int 1 v]}
theorem oo(B:iH prog h₀)(H:bV K T h₀){x:Str}{pos:Pos}{ty:String}(hk:nm.lookup x=some .globalImplicit)(hd:(x==("__debug__":Str))=false)(hg:T.glob x=some (.top (.type ty))){A:Around}{z:af}{as:aX}{s:Shared}{Q:Value->Shared->Prop}{E:Value->Shared->Prop}
  (ro:dK A r) (R:MR h₀ z as mu s.heap) (f:FR h₀ env nm loc z as mu s.heap) (q:∀s' z' as',bo s s'->MR h₀ z' as' mu s'.heap->ai gh z as mu s.heap z' as' mu s'.heap->FR h₀ env nm loc z' as' mu s'.heap->Q (.type ty) s'):
  wpAny (model prog w) A (eval (.Name x pos) env) Q E s:=
 wG B H hk hg hd A z as s Q E ro R f λy s' z' as' sm R' st f' ry=>ry.eTop λ_=>q s' z' as' sm R' st f'
theorem iY(ty:String)(M:Model):∀h,K.In h->∃k,(k=Keeper.frame\/k=aa1\/k=aa2)/\Looks M h (keeperOf (.type ty)) k:=λq0 q0=>⟨.machine,.inr (.inl rfl),Looks.of_pure rfl⟩
theorem rN(B:iH prog h₀)(H:bV K T h₀){e b:Expr}{k:Int}(hb:bO T nm "range" e=some [b])(hs:∀x y,b≠.Starred x y)(h:Ev aC prog w h₀ r env nm loc mu (eval b env) (.int k) mu'):
  Ev rM prog w h₀ r env nm loc mu (eval e env) (0,k) mu':=λA z as s Q E ro R f q=>by
 obtain⟨fx,fp,pos,rfl,hk,hd,hg⟩:=iJ hb
 rw[dg (by intro o n p h;cases h)]
 refine wpAny_bind (oo B H hk hd hg ro R f λs1 z1 as1 sm1 R1 st1 f1=> ?_)
 refine eX (first:=[]) (by rw[bF hs];rfl) (lD (pos:=pos) hs h (sX pos)) (by intro q;cases q) H (iY _ _) ro R1 f1 λxs s2 z2 as2 sm2 R2 st2 f2 r2=> ?_
 refine r2.eCons λq0 q0 ra rl=>rl.eNil (ra.eInt λq0=> ?_)
 refine call_range_1 (eI (rep:=rM) (b:=((0:Int),k)) R2 f2 (λy s3 z3 as3 sm3 R3 st3 f3 r3=>q y s3 z3 as3 ((sm1.trans sm2).trans sm3) R3 ((st1.trans0 st2).trans0 st3) f3 r3) (iV.push _ _) (aB _) (aaL _ rfl) ?_ _)
 exact⟨_,_,_,_,rfl,af.put_self _ _ _⟩
theorem xM(B:iH prog h₀)(H:bV K T h₀){e a b:Expr}{j k:Int}{mu1:Mu}(hb:bO T nm "range" e=some [a,b])(hs:∀x y,a≠.Starred x y)(hs':∀x y,b≠.Starred x y)(h1:Ev aC prog w h₀ r env nm loc mu (eval a env) (.int j) mu1)(h:Ev aC prog w h₀ r env nm loc mu1 (eval b env) (.int k) mu'):
  Ev rM prog w h₀ r env nm loc mu (eval e env) (j,k) mu':=λA z as s Q E ro R f q=>by
 obtain⟨fx,fp,pos,rfl,hk,hd,hg⟩:=iJ hb
 rw[dg (by intro o n p h;cases h)]
 refine wpAny_bind (oo B H hk hd hg ro R f λs1 z1 as1 sm1 R1 st1 f1=> ?_)
 refine eX (first:=[]) (by rw[bF hs,bF hs'];rfl) (lD (pos:=pos) hs h1 (lD hs' h (sX pos))) (by intro q;cases q) H (iY _ _) ro R1 f1 λxs s2 z2 as2 sm2 R2 st2 f2 r2=> ?_
 refine r2.eCons λq0 q0 ra rl=> ?_
 refine rl.eCons λq0 q0 rb rl=>rl.eNil (ra.eInt λq0=>rb.eInt λq0=> ?_)
 refine call_range_2 (eI (rep:=rM) (b:=(j,k)) R2 f2 (λy s3 z3 as3 sm3 R3 st3 f3 r3=>q y s3 z3 as3 ((sm1.trans sm2).trans sm3) R3 ((st1.trans0 st2).trans0 st3) f3 r3) (iV.push _ _) (aB _) (aaL _ rfl) ?_ _)
 exact⟨_,_,_,_,rfl,af.put_self _ _ _⟩
end
end
section
section
variable{prog:Program}{w:World}{h₀:Heap}{r:Nat}{K:Frag}{T:ba}{F:bM}{hint:Nat->Nat->Bool}
variable{env:Env}{nm:ae}{loc:au}{mu mu' mu'':Mu}{n:Nat}
theorem lE(a b:Int):aa5 a b 1=((b-a).toNat:Int):=by
 rw[rangeSize_one];split<;>lia
theorem ug{a b:Int}(h1: -1000<=a)(h2:a<=1000)(h3: -1000<=b)(h4:b<=1000):Builtin.Range.small a b 1=true:=
 small_one (ad 260424005353473 [] [_] h1) (ad 236527144653 [] [_] h2) (ad 260424005353473 [] [_] h3) (ad 236527144653 [] [_] h4)
theorem Wk.tgMono{A:Around}{tg tg':Expr->Prop}{it:Value}{wr:List Addr}{z₀:af}{as₀:aX}{items:List V}{St:Nat->Heap->Prop}(W:Wk prog w h₀ A tg it wr z₀ as₀ items St)(k:∀t,tg' t->tg t):Wk prog w h₀ A tg' it wr z₀ as₀ items St:=
 ⟨W.frame,W.live,W.self,λt i v z as mu s Q E ht=>W.item t i v z as mu s Q E (k t ht),W.done⟩
theorem rO{e:Expr}{j k:Int}(h:Ev rM prog w h₀ r env nm loc mu (eval e env) (j,k) mu')(h1: -1000<=j)(h2:j<=1000)(h3: -1000<=k)(h4:k<=1000):EK prog w h₀ r T env nm loc mu e (aM j k) mu':=λA z as s Q E ro R f q=>
 h A z as s _ E ro R f λx s1 z1 as1 sm1 R1 st1 f1 r1=>by
  obtain⟨a,t,u,v,rfl,ha⟩:=r1
  refine wpAny_pyIter_range (R1.zin _ _ ha) (ug h1 h2 h3 h4) ?_
  have x1:=iV.push s1.heap {cls:= .type "range_iterator",data:= .fields #[rawInt j,rawInt (aa5 j k 1),rawInt 1]}
  have st2:ai gh z1 as1 mu' s1.heap z1 as1 mu' (s1.heap.push {cls:= .type "range_iterator",data:= .fields #[rawInt j,rawInt (aa5 j k 1),rawInt 1]}):=ai.ext _ x1
  have hit:=aaL s1.heap (o:={cls:= .type "range_iterator",data:= .fields #[rawInt j,rawInt (aa5 j k 1),rawInt 1]}) rfl
  refine q _ [s1.heap.objs.size] _ _ z1 as1 (sm1.trans ⟨_,s1.toks,rfl⟩) (R1.ext x1) (st1.trans0 st2) (f1.step st2) ((Wk.range ro.handled (a:=j) (b:=k)).tgMono λq0 q0=>trivial) ?_ λb hb=> ?_
  ·show _=_
   rw[hit,lE]
   simp
  ·simp at hb;subst hb
   exact⟨st1.none (aB _) id,de.fresh R1 (aB _) ⟨_,hit⟩⟩
theorem zd{e:Expr}{l:List V}(h:Ev aC prog w h₀ r env nm loc mu (eval e env) (.lst l) mu'):EK prog w h₀ r T env nm loc mu e l mu':=λA z as s Q E ro R f q=>
 h A z as s _ E ro R f λx s1 z1 as1 sm1 R1 st1 f1 r1=>by
  refine r1.eLst λ_ _ _ ha rl=> ?_
  rename_i vs a k
  refine wpAny_pyIter_list (aJ (R1.zin _ _ ha)) ?_
  have x1:=iV.push s1.heap {cls:= .type "list_iterator",data:= .fields #[.ref a,.int 0 0]}
  have st2:ai gh z1 as1 mu' s1.heap z1 as1 mu' (s1.heap.push {cls:= .type "list_iterator",data:= .fields #[.ref a,.int 0 0]}):=ai.ext _ x1
  have hit:=aaL s1.heap (o:={cls:= .type "list_iterator",data:= .fields #[.ref a,.int 0 0]}) rfl
  have hne:a≠s1.heap.objs.size:=Nat.ne_of_lt (aaI (R1.zin _ _ ha))
  refine q _ [s1.heap.objs.size] _ _ z1 as1 (sm1.trans ⟨_,s1.toks,rfl⟩) (R1.ext x1) (st1.trans0 st2) (f1.step st2) ((Wk.list ro.handled ha rl hne).tgMono λ_ _=>trivial) ⟨⟨_,hit,rfl,rfl⟩,x1 _ _ (R1.zin _ _ ha)⟩ λb hb=> ?_
  simp at hb;subst hb
  exact⟨st1.none (aB _) id,de.fresh R1 (aB _) ⟨_,hit⟩⟩
theorem Cd{e:Expr}{l:List V}(h:Ev aC prog w h₀ r env nm loc mu (eval e env) (.tup l) mu'):EK prog w h₀ r T env nm loc mu e l mu':=λA z as s Q E ro R f q=>
 h A z as s _ E ro R f λx s1 z1 as1 sm1 R1 st1 f1 r1=>by
  refine r1.eTup λ_ _ _ ha rl=> ?_
  rename_i vs a k
  refine wpAny_pyIter_tuple (cW (R1.zin _ _ ha)) ?_
  have x1:=iV.push s1.heap {cls:= .type "tuple_iterator",data:= .fields #[.ref a,.int 0 0]}
  have st2:ai gh z1 as1 mu' s1.heap z1 as1 mu' (s1.heap.push {cls:= .type "tuple_iterator",data:= .fields #[.ref a,.int 0 0]}):=ai.ext _ x1
  have hit:=aaL s1.heap (o:={cls:= .type "tuple_iterator",data:= .fields #[.ref a,.int 0 0]}) rfl
  have hne:a≠s1.heap.objs.size:=Nat.ne_of_lt (aaI (R1.zin _ _ ha))
  refine q _ [s1.heap.objs.size] _ _ z1 as1 (sm1.trans ⟨_,s1.toks,rfl⟩) (R1.ext x1) (st1.trans0 st2) (f1.step st2) ((Wk.tup ro.handled ha rl hne).tgMono λ_ _=>trivial) ⟨⟨_,hit,rfl,rfl⟩,x1 _ _ (R1.zin _ _ ha)⟩ λb hb=> ?_
  simp at hb;subst hb
  exact⟨st1.none (aB _) id,de.fresh R1 (aB _) ⟨_,hit⟩⟩
theorem ze(B:iH prog h₀)(H:bV K T h₀){e x:Expr}{l:List V}(hb:bO T nm "enumerate" e=some [x])(hs:∀a b,x≠.Starred a b)(h:Ev aC prog w h₀ r env nm loc mu (eval x env) (.lst l) mu'):
  EK prog w h₀ r T env nm loc mu e (fD 0 l) mu':=λA z as s Q E ro R f q=>by
 have htg:∀t,oX T nm e t=true->y5 t:=λt ht=>by
  unfold oX at ht
  rw[hb] at ht
  obtain⟨ts,h⟩:=Option.isSome_iff_exists.mp (show(gM t).isSome=true from ht)
  obtain⟨k,p,h⟩:=oj h
  exact⟨ts,k,p,h⟩
 obtain⟨fx,fp,pos,rfl,hk,hd,hg⟩:=iJ hb
 rw[dg (by intro o n p h;cases h)]
 refine wpAny_bind (oo B H hk hd hg ro R f λs1 z1 as1 sm1 R1 st1 f1=> ?_)
 refine eX (first:=[]) (by rw[bF hs];rfl) (lD (pos:=pos) hs h (sX pos)) (by intro q;cases q) H (iY _ _) ro R1 f1 λxs s2 z2 as2 sm2 R2 st2 f2 r2=> ?_
 refine r2.eCons λq0 q0 ra rl=> ?_
 cases rl
 refine ra.eLst λq0 q0 q0 ha rl=> ?_
 rename_i vs a k
 refine call_enumerate_list (aJ (R2.zin _ _ ha)) λh' he hit hsz x1=> ?_
 refine wpAny_pyIter_enum he ?_
 have st3:ai gh z2 as2 mu' s2.heap z2 as2 mu' h':=ai.ext _ x1
 have hlt:=aaI (R2.zin _ _ ha)
 have hf1:s2.heap.get? (s2.heap.objs.size+1)=none:=by
  cases q:s2.heap.get? (s2.heap.objs.size+1) with
  |none=>rfl
  |some o=>exact absurd (aaI q) (Nat.not_lt.mpr (Nat.le_succ _))
 refine q _ [s2.heap.objs.size+1,s2.heap.objs.size] _ _ z2 as2 ((sm1.trans sm2).trans ⟨h',s2.toks,rfl⟩) (R2.ext x1) ((st1.trans0 st2).trans0 st3) (f2.step st3)
  ((Wk.enum ro.handled ha rl (Nat.ne_of_gt (Nat.lt_succ_self _)) (Nat.ne_of_lt (Nat.lt_succ_of_lt hlt)) (Nat.ne_of_lt hlt)).tgMono htg) ⟨⟨_,he⟩,hit,x1 _ _ (R2.zin _ _ ha)⟩ λb hb=> ?_
 simp at hb
 rcases hb with rfl|rfl
 ·exact⟨(st1.trans0 st2).none hf1 id,de.fresh R2 hf1 ⟨_,he⟩⟩
 ·obtain⟨o,ho,_⟩:=hit
  exact⟨(st1.trans0 st2).none (aB _) id,de.fresh R2 (aB _) ⟨o,ho⟩⟩
theorem sZ(B:iH prog h₀)(H:bV K T h₀){f e:Expr}{args:List Expr}{pos:Pos}{k:Int}(hb:bO T nm "list" (.Call f args [] pos)=some [e])(hs:∀a b,e≠.Starred a b)(h1: -1000<=k)(h2:k<=1000)
  (h:Ev rM prog w h₀ r env nm loc mu (eval e env) (0,k) mu'):Ev aC prog w h₀ r env nm loc mu (eval (.Call f args [] pos) env) (.ref mu'.length) (mu'++[.lst (aM 0 k)]):=λA z as s Q E ro R fr q=>by
 obtain⟨fx,fp,pos',e0,hk,hd,hg⟩:=iJ hb
 cases e0
 rw[dg (by intro o n p h;cases h)]
 refine wpAny_bind (oo B H hk hd hg ro R fr λs1 z1 as1 sm1 R1 st1 f1=> ?_)
 show wpAny (model prog w) A (callWith pos (.type "list") [] (backTo pos (starEach [e] env)) []) Q E s1
 refine callWith_of (P:=λh=>K.In h) (by rw[ld pos _ (by rw[bF hs];rfl)];rfl) (iY "list" _) ?_
 rw[bF hs]
 refine Calls.evalArgs_plain ?_
 have key:=spliced_more (Q:=λxs s'=>K.In s'.heap/\wpAny (model prog w) A (call (.type "list") ([]++xs)) Q E s') (pos:=pos) (rest:=[]) (E:=E) (h A z1 as1 s1 _ E ro R1 f1 λx s2 z2 as2 sm2 R2 st2 f2 r2=>Calls.spliced_nil ⟨H.at R2,?_⟩) (bF hs [] env)
 ·rw[bF hs] at key;exact key
 obtain⟨a,t,u,v,rfl,ha⟩:=r2
 refine call_list_range (n:=k.toNat) ro.handled (R2.zin _ _ ha) (ug (by lia) (by lia) h1 h2) (by rw[lE,Int.sub_zero]) (av 4707450170447745399053395039202037560641653 [_] [_] h2 (tn _)) λh' tk acc c x1 ho hI=> ?_
 refine rL (rep:=aC) (b:=V.ref mu'.length) (l:=aM 0 k) (xs:=acc.toList) (k:=c) R2 f2 (λy s3 z3 as3 sm3 R3 st3 f3 r3=>q y s3 z3 as3 ((sm1.trans sm2).trans sm3) R3 ((st1.trans0 st2).trans0 st3) f3 r3) x1 (aB _) (by rw[ho]) ?_ (uf R2.len) tk
 have gen:∀(l:List V)(xs:List Value),l.length=xs.length->(∀(i:Nat)(v:V)(x:Value),l[i]? =some v->xs[i]? =some x->aC z2 as2 v x)->aA z2 as2 l xs:=by
  intro l
  induction l with
  |nil=>intro xs hl _;cases xs with|nil=>exact .nil|cons _ _=>cases hl
  |cons v l ih=>
   intro xs hl hr
   cases xs with
   |nil=>cases hl
   |cons x xs=>exact .cons (hr 0 v x rfl rfl) (ih xs (by simpa using hl) λi v x h1 h2=>hr (i+1) v x (by simpa using h1) (by simpa using h2))
 refine gen _ _ ?_ λi v x hv hx=> ?_
 ·rw[o7,Array.length_toList,hI.1,Int.sub_zero]
 ·obtain⟨rfl,_⟩:=o6 hv
  obtain⟨t,rfl⟩:=hI.2 i x (by rw[<-Array.getElem?_toList];exact hx)
  rw[Int.mul_one]
  exact .int _ _
end
end
section
theorem gN{α:Type}(x:Str):∀(a b:List (Str×α)),(a++b).lookup x=match a.lookup x with|some v=>some v|none=>b.lookup x:=by
 intro L0
 induction L0 with
 |nil=>
  intro b
  exact rfl
 |cons e0 a ih=>
  obtain⟨k,v⟩:=e0
  intro b
  rw[aa6,aau,aau]
  cases x==k with
  |true=>rfl
  |false=>exact ih b
theorem dZ:∀(names:List (Str×NameKind))(n:Nat)(acc:List (Str×Addr)),cellsFrom n names acc=cellsFrom n names []++acc:=by
 intro L0
 induction L0 with
 |nil=>
  intro _ _
  exact rfl
 |cons e0 r ih=>
  obtain⟨x,k⟩:=e0
  intro n acc
  unfold cellsFrom
  split
  ·rw[ih (n+1) ((x,n)::acc),ih (n+1) [(x,n)],aa7];rfl
  ·exact ih n acc
theorem q5:∀(names:List (Str×NameKind))(n:Nat){x:Str}{a:Addr},(x,a)∈cellsFrom n names []->(x,NameKind.cell)∈names:=by
 intro L0
 induction L0 with
 |nil=>
  intro _ _ _ h
  cases h
 |cons e0 r ih=>
  obtain⟨y,k⟩:=e0
  intro n x a h
  unfold cellsFrom at h
  split at h
  ·rename_i hk
   rw[dZ,aaj] at h
   rcases h with h|h
   ·exact .tail _ (ih _ h)
   ·rw[aah] at h
    cases h
    rw[beq_iff_eq.mp hk];exact .head _
  ·exact .tail _ (ih _ h)
theorem kG:∀(names:List (Str×NameKind))(n:Nat){x:Str},(x,NameKind.cell)∈names->∃a,(cellsFrom n names []).lookup x=some a:=by
 intro L0
 induction L0 with
 |nil=>
  intro _ _ h
  cases h
 |cons e0 r ih=>
  obtain⟨y,k⟩:=e0
  intro n x h
  unfold cellsFrom
  split
  ·rw[dZ,gN]
   cases q:(cellsFrom (n+1) r []).lookup x with
   |some a=>exact⟨a,rfl⟩
   |none=>
    rcases aai.mp h with e|h
    ·cases e
     exact⟨n,by rw[aau,beq_self_eq_true]⟩
    ·obtain⟨a,ha⟩:=ih (n+1) h
     rw[q] at ha;cases ha
  ·rename_i hk
   rcases aai.mp h with e|h
   ·cases e;exact absurd rfl hk
   ·exact ih n h
theorem o9{α:Type}:∀{l:List (Str×α)}{n:Str}{c:α},(n,c)∈l->∃c',l.lookup n=some c'
 |(k,v)::r,n,c,h=>by
  rw[aau]
  cases hb:n==k with
  |true=>exact⟨v,rfl⟩
  |false=>
   rcases aai.mp h with e|h
   ·cases e;rw[beq_self_eq_true] at hb;cases hb
   ·exact o9 h
noncomputable def gp(cells:List (Str×Addr)):List (Str×NameKind)->List (Str×Addr)->List (Str×Addr)
 |[],acc=>acc
 |(n,k)::r,acc=>if k== .free then gp cells r ((n,(cells.lookup n).getD 0)::acc) else gp cells r acc
theorem xN(cells:List (Str×Addr)):∀(names:List (Str×NameKind))(acc:List (Str×Addr)){x:Str}{a:Addr},(x,a)∈gp cells names acc->(x,a)∈acc\/((x,aa8)∈names/\a=(cells.lookup x).getD 0):=by
 intro L0
 induction L0 with
 |nil=>
  intro _ _ _ h
  exact .inl h
 |cons e0 r ih=>
  obtain⟨n,k⟩:=e0
  intro acc x a h
  unfold gp at h
  split at h
  ·rename_i hk
   rcases ih _ h with h|h
   ·rcases aai.mp h with e|h
    ·cases e;exact .inr ⟨by rw[beq_iff_eq.mp hk];exact .head _,rfl⟩
    ·exact .inl h
   ·exact .inr ⟨.tail _ h.1,h.2⟩
  ·rcases ih _ h with h|h
   ·exact .inl h
   ·exact .inr ⟨.tail _ h.1,h.2⟩
theorem xO(cells:List (Str×Addr)):∀(names:List (Str×NameKind))(acc:List (Str×Addr)){x:Str},((x,aa8)∈names\/∃a,(x,a)∈acc)->∃a,(x,a)∈gp cells names acc:=by
 intro L0
 induction L0 with
 |nil=>
  intro _ _ h
  exact h.elim (λh=>by cases h) id
 |cons e0 r ih=>
  obtain⟨n,k⟩:=e0
  intro acc x h
  unfold gp
  split
  ·refine ih _ ?_
   rcases h with h|⟨a,h⟩
   ·rcases aai.mp h with e|h
    ·cases e;exact .inr ⟨_,.head _⟩
    ·exact .inl h
   ·exact .inr ⟨a,.tail _ h⟩
  ·rename_i hk
   refine ih _ ?_
   rcases h with h|h
   ·rcases aai.mp h with e|h
    ·cases e;exact absurd rfl hk
    ·exact .inl h
   ·exact .inr h
theorem q6{env:Env}(scope:Scope)(h:∀x,(x,aa8)∈scope.names->(env.cells.lookup x).isSome=true):closureFor scope env=pure (gp env.cells scope.names []):=by
 unfold closureFor
 have gen:∀(names:List (Str×NameKind))(acc:List (Str×Addr)),(∀x,(x,aa8)∈names->(env.cells.lookup x).isSome=true)->
   ((forIn names acc λ(x:Str×NameKind)(r:List (Str×Addr))=>if(x.2==aa8)=true then do let a <-cellOf env x.1;pure (aa0 ((x.1,a)::r)) else pure (aa0 r)):Sem (List (Str×Addr)))=pure (gp env.cells names acc):=by
  intro names
  induction names with
  |nil=>intro acc _;rfl
  |cons p r ih=>
   intro acc hh
   obtain⟨n,k⟩:=p
   rw[List.forIn_cons]
   unfold gp
   dsimp only
   split
   ·rename_i hk
    obtain⟨c,hc⟩:=Option.isSome_iff_exists.mp (hh n (by rw[beq_iff_eq.mp hk];exact .head _))
    have e:cellOf env n=pure c:=by unfold cellOf;rw[hc]
    rw[e,hc]
    exact ih _ λx hx=>hh x (.tail _ hx)
   ·exact ih _ λx hx=>hh x (.tail _ hx)
 have:=gen scope.names [] h
 show(forIn scope.names [] _>>=λr=>pure r)=_
 rw[show(forIn scope.names [] _:Sem (List (Str×Addr)))=_ from this]
 rfl
noncomputable def zf(nm:ae)(n:Str)(k:NameKind):NameKind:=if(k== .free&&nm.lookup n==some .cell) then .cell else k
theorem zg(nm names:ae):bE nm names=names.map λp=>(p.1,zf nm p.1 p.2):=by
 unfold bE
 refine aa9 λp q0=> ?_
 obtain⟨n,k⟩:=p
 unfold zf
 dsimp only
 split<;>rfl
theorem uh(g:Str->NameKind->NameKind)(x:Str):∀names:ae,(names.map λp=>(p.1,g p.1 p.2)).lookup x=(names.lookup x).map (g x):=by
 intro L0
 induction L0 with
 |nil=>
  exact rfl
 |cons e0 r ih=>
  obtain⟨n,k⟩:=e0
  rw[aaX,aau,aau,ih]
  cases hx:x==n with
  |true=>have:=b6 hx;subst this;rfl
  |false=>rfl
theorem iZ(nm:ae)(x:Str)(names:ae):(bE nm names).lookup x=(names.lookup x).map (zf nm x):=by
 rw[zg,uh]
theorem q7(p:Str->Bool)(x:Str):∀loc:au,(loc.filter λe=>p e.1).lookup x=if p x then loc.lookup x else none:=by
 intro L0
 induction L0 with
 |nil=>
  simp
 |cons e0 r ih=>
  obtain⟨y,v⟩:=e0
  have ih:=ih
  rw[List.filter_cons]
  cases hx:x==y with
  |true=>
   have:=b6 hx;subst this
   cases hp:p x with
   |true=>simp[aau]
   |false=>rw[hp] at ih;simpa [hp] using ih
  |false=>
   cases hp:p y with
   |true=>simp only[if_true,aau,hx,ih]
   |false=>simp only[Bool.false_eq_true,if_false,aau,hx,ih]
theorem gw(names:ae)(x:Str)(loc:au):(f8 names loc).lookup x=if names.lookup x==some .free then loc.lookup x else none:=
 q7 (λy=>names.lookup y==some .free) x loc
theorem lf{nm names:ae}(h:iX nm names=true){x:Str}(hx:(x,aa8)∈names):nm.lookup x=some .cell\/nm.lookup x=some .free:=by
 unfold iX at h
 rw[aa4] at h
 have:=h _ hx
 simpa using this
theorem lg{names:ae}(h:gv names=true){x:Str}{k:NameKind}(hx:(x,k)∈names):names.lookup x=some k:=by
 unfold gv at h
 rw[aa4] at h
 exact b6 (h _ hx)
theorem q8{h₀:Heap}{env:Env}{nm:ae}{loc:au}{z:af}{as:aX}{mu:Mu}{h:Heap}(f:FR h₀ env nm loc z as mu h)(scope:Scope):(relabel scope env).names=bE nm scope.names:=by
 unfold relabel bE
 dsimp only
 refine aa9 λp q0=> ?_
 obtain⟨n,k⟩:=p
 dsimp only
 have e1:(env.scope.kind==ScopeKind.function)=true:=by rw[f.kind];rfl
 have e2:env.kindOf n=nm.lookup n:=by rw[Env.kindOf,f.nms]
 rw[e1,e2,Bool.and_true]
section
variable{prog:Program}{w:World}{h₀:Heap}{r:Nat}{K:Frag}{T:ba}{F:bM}{hint:Nat->Nat->Bool}
variable{env:Env}{nm:ae}{loc:au}{mu mu' mu'':Mu}{n:Nat}
theorem pc{z:af}{as:aX}{h:Heap}(f:FR h₀ env nm loc z as mu h){scope:Scope}(hf:iX nm scope.names=true):∀x,(x,aa8)∈scope.names->(env.cells.lookup x).isSome=true:=λx hx=>by
 obtain⟨c,ov,e1,_⟩:∃c ov,env.cells.lookup x=some c/\h.IsCell c ov:=by
  rcases lf hf hx with k|k
  ·obtain⟨c,ov,e1,e2,_⟩:=f.cell x _ k (.inl rfl);exact⟨c,ov,e1,e2⟩
  ·obtain⟨c,ov,e1,e2,_⟩:=f.cell x _ k (.inr rfl);exact⟨c,ov,e1,e2⟩
 rw[e1];rfl
theorem zh{A:Around}{z:af}{as:aX}{s:Shared}{Q:Env->Shared->Prop}{E:Value->Shared->Prop}{scope:Scope}(hk:scope.kind= .function)(hf:iX nm scope.names=true)(hno:gv scope.names=true)
  (R:MR h₀ z as mu s.heap) (f:FR h₀ env nm loc z as mu s.heap)
  (q:∀(cenv:Env) h',iV s.heap h'->s.heap.get? cenv.locals=none->h'.Ns cenv.locals (λq0=>none)->(∀x a,(scope.names.lookup x=some .local\/scope.names.lookup x=some .cell)->xI {cenv with scope:=relabel scope env} x a->s.heap.get? a=none)->
   (∀x a,cenv.cells.lookup x=some a->s.heap.get? a=none\/∃y,env.cells.lookup y=some a)->
   FR h₀ {cenv with scope:=relabel scope env} (bE nm scope.names) (f8 scope.names loc) z as mu h'->Q cenv {s with heap:=h'}):
  wpAny (model prog w) A (newFunctionEnv scope env.globals (gp env.cells scope.names []) [] env.qual none .none (some env)) Q E s:=by
 simp only[newFunctionEnv,Option.isSome_some,if_true]
 refine wpAny_bind (wpAny_alloc ?_)
 refine wpAny_bind (wpAny_layCells _ (λname kind cells=>by cases hkc:kind==NameKind.cell<;>simp[hkc]) _ _ _ _ ?_)
 have ok:=cellsFrom_ok scope.names (s.heap.push {cls:= .type "dict",data:= .dict #[]}) (s.heap.objs.size+1) [] ⟨λq0 q0 hm=>(nomatch hm),List.Pairwise.nil⟩ (by rw[aaV];exact aaS _)
 rw[aaV] at ok
 rw[show({s with heap:=s.heap.push {cls:= .type "dict",data:= .dict #[]}}:Shared).heap.objs.size=s.heap.objs.size+1 from aaV ..]
 refine wpAny_bind (wpAny_pure (wpAny_pure ?_))
 have hfresh:∀a,s.heap.objs.size<=a->s.heap.get? a=none:=λa ha=>by
  cases e:s.heap.get? a with
  |none=>rfl
  |some o'=>exact absurd (aaI e) (Nat.not_lt.mpr ha)
 have x1:iV s.heap (pushCells (s.heap.push {cls:= .type "dict",data:= .dict #[]}) scope.names):=λb o e=>pushCells_keeps _ _ b o (aaw _ e)
 have Ej:(pushCells (s.heap.push {cls:= .type "dict",data:= .dict #[]}) scope.names).Ns s.heap.objs.size (λq0=>none):=(Heap.Ns.new s.heap (.type "dict")).keeps (pushCells_keeps _ _)
 have own_lookup:∀x a,(cellsFrom (s.heap.objs.size+1) scope.names []).lookup x=some a->s.heap.get? a=none/\(pushCells (s.heap.push {cls:= .type "dict",data:= .dict #[]}) scope.names).IsCell a none/\scope.names.lookup x=some .cell:=λx a h=>by
  have hm:=mem_of_lookup h
  have:=ok.empty x a hm
  exact⟨hfresh a (Nat.le_of_succ_le this.2),this.1,lg hno (q5 _ _ hm)⟩
 have clos_lookup:∀x a,(gp env.cells scope.names []).lookup x=some a->env.cells.lookup x=some a/\scope.names.lookup x=some .free:=λx a h=>by
  have hm:=mem_of_lookup h
  rcases xN _ _ _ hm with h1|⟨h1,h2⟩
  ·cases h1
  ·obtain⟨c,hc⟩:=Option.isSome_iff_exists.mp (pc f hf x h1)
   rw[hc] at h2
   exact⟨by rw[hc,h2];rfl,lg hno h1⟩
 have cells_lookup:∀x a,(cellsFrom (s.heap.objs.size+1) scope.names (gp env.cells scope.names [])).lookup x=some a->
   ((cellsFrom (s.heap.objs.size+1) scope.names []).lookup x=some a)\/((gp env.cells scope.names []).lookup x=some a):=λx a h=>by
  rw[dZ,gN] at h
  split at h
  ·cases h;rename_i h;exact .inl h
  ·exact .inr h
 have names:=q8 f scope
 refine q _ _ x1 (hfresh _ (aaS _)) Ej ?_ ?_ ⟨?_,names,f.glob,f.blt,⟨_,Ej,?_⟩,?_,?_,?_,?_,?_⟩
 ·rintro x a hx (⟨_,rfl⟩|⟨_,ha⟩)
  ·exact hfresh _ (aaS _)
  ·rcases cells_lookup x a ha with h|h
   ·exact(own_lookup x a h).1
   ·have:=(clos_lookup x a h).2
    rw[this] at hx
    rcases hx with h|h<;>cases h
 ·intro x a ha
  rcases cells_lookup x a ha with h|h
  ·exact .inl (own_lookup x a h).1
  ·exact .inr ⟨x,(clos_lookup x a h).1⟩
 ·exact hk
 ·intro x v hx hl
  rw[gw] at hx
  split at hx
  ·rename_i h
   rw[iZ,b6 h] at hl
   simp only[Option.map_some,Option.some.injEq,zf] at hl
   split at hl<;>cases hl
  ·cases hx
 ·cases e:z s.heap.objs.size with
  |none=>rfl
  |some o=>have:=R.zin _ _ e;rw[hfresh _ (aaS _)] at this;cases this
 ·intro q
  obtain⟨o,e⟩:=R.live q
  rw[hfresh _ (aaS _)] at e;cases e
 ·intro x k hx hc
  rw[iZ] at hx
  cases hn:scope.names.lookup x with
  |none=>rw[hn] at hx;cases hx
  |some k0=>
   have hmem:=mem_of_lookup hn
   have hk0:k0= .free\/k0= .cell:=by
    rw[hn] at hx
    simp only[Option.map_some,Option.some.injEq,zf] at hx
    cases k0<;>first|exact .inl rfl|exact .inr rfl|(exfalso;simp at hx;rcases hc with h|h<;>rw[h] at hx<;>cases hx)
   rcases hk0 with rfl|rfl
   ·have hown:(cellsFrom (s.heap.objs.size+1) scope.names []).lookup x=none:=by
     cases e:(cellsFrom (s.heap.objs.size+1) scope.names []).lookup x with
     |none=>rfl
     |some a=>have:=(own_lookup x a e).2.2;rw[hn] at this;cases this
    obtain⟨a,ha⟩:=xO env.cells scope.names [] (.inl hmem)
    obtain⟨a,ha⟩:=o9 ha
    have hca:=(clos_lookup x a ha).1
    have hlk:(cellsFrom (s.heap.objs.size+1) scope.names (gp env.cells scope.names [])).lookup x=some a:=by rw[dZ,gN,hown];exact ha
    have fin:∀k',nm.lookup x=some k'->(k'= .cell\/k'= .free)->∃c ov,(cellsFrom (s.heap.objs.size+1) scope.names (gp env.cells scope.names [])).lookup x=some c/\(pushCells (s.heap.push {cls:= .type "dict",data:= .dict #[]}) scope.names).IsCell c ov/\z c=none/\¬jx as mu c/\
      ∀v,(f8 scope.names loc).lookup x=some v->∃val,ov=some val/\aC z as v val:=λk' h1 h2=>by
     obtain⟨c,ov,e1,e2,e3,e4,e5⟩:=f.cell x k' h1 h2
     rw[hca] at e1;cases e1
     refine⟨a,ov,hlk,e2.keeps x1,e3,e4,λv hv=>e5 v ?_⟩
     rw[gw,hn,if_pos (show(some aa8==some aa8)=true from rfl)] at hv
     exact hv
    rcases lf hf hmem with h|h
    ·exact fin _ h (.inl rfl)
    ·exact fin _ h (.inr rfl)
   ·obtain⟨a,ha⟩:=kG scope.names (s.heap.objs.size+1) hmem
    obtain⟨h1,h2,_⟩:=own_lookup x a ha
    refine⟨a,none,by rw[dZ,gN,ha],h2,?_,?_,λv hv=> ?_⟩
    ·cases e:z a with
     |none=>rfl
     |some o=>have:=R.zin _ _ e;rw[h1] at this;cases this
    ·intro q
     obtain⟨o,e⟩:=R.live q
     rw[h1] at e;cases e
    ·rw[gw,hn,if_neg (by decide)] at hv
     cases hv
 ·intro x y c hx hy
  have live:∀x,(gp env.cells scope.names []).lookup x=some c->∃o,s.heap.get? c=some o:=λx h=>by
   obtain⟨h1,h2⟩:=clos_lookup x c h
   have hm:=mem_of_lookup h2
   rcases lf hf hm with k|k
   ·obtain⟨c',ov,e1,⟨o,eo,_⟩,_⟩:=f.cell x _ k (.inl rfl);rw[h1] at e1;cases e1;exact⟨o,eo⟩
   ·obtain⟨c',ov,e1,⟨o,eo,_⟩,_⟩:=f.cell x _ k (.inr rfl);rw[h1] at e1;cases e1;exact⟨o,eo⟩
  rcases cells_lookup x c hx with h|h<;>rcases cells_lookup y c hy with h'|h'
  ·exact name_of_addr ok.apart (mem_of_lookup h) (mem_of_lookup h')
  ·obtain⟨o,e⟩:=live y h';rw[(own_lookup x c h).1] at e;cases e
  ·obtain⟨o,e⟩:=live x h;rw[(own_lookup y c h').1] at e;cases e
  ·exact f.capart _ _ _ (clos_lookup x c h).1 (clos_lookup y c h').1
 ·intro x c hx
  rcases cells_lookup x c hx with h|h
  ·obtain⟨h1,⟨o,ho,_⟩,_⟩:=own_lookup x c h
   have aw:=de.fresh R h1 ⟨o,ho⟩
   exact⟨aw.z,aw.m,o,ho⟩
  ·obtain⟨h1,h2,o,h3⟩:=f.cells x c (clos_lookup x c h).1
   exact⟨h1,h2,o,x1 _ _ h3⟩
end
end
section
theorem pd{x y:Str}{v:V}{loc:au}(h:y≠x):(jD x v loc).lookup y=loc.lookup y:=by
 rw[dy,if_neg (by rw[beq_iff_eq];exact h)]
noncomputable def lF(names:ae)(x:Str):Prop:=names.lookup x=some .local\/names.lookup x=some .cell
theorem ui{names:ae}{t:Expr}{v:V}{loc loc':au}(h:wv names t v loc=some loc'):∃x p,t= .Name x p/\lF names x/\loc'=jD x v loc:=by
 obtain⟨x,h1,h⟩:=bG h
 obtain⟨hk,h⟩:=cr h
 obtain⟨p,h1⟩:=sS h1
 exact⟨x,p,h1,hk,(aag h).symm⟩
theorem jR{names:ae}{t:Expr}{ts:List Expr}{vs:List V}{loc loc':au}(h:iA names (t::ts) vs loc=some loc'):∃x p v vs',t= .Name x p/\vs=v::vs'/\lF names x/\iA names ts vs' (jD x v loc)=some loc':=by
 cases vs with
 |nil=>exact ak h
 |cons v vs=>
  obtain⟨loc1,h1,h2⟩:=bG h
  obtain⟨x,p,e,hk,rfl⟩:=ui h1
  exact⟨x,p,v,vs,e,rfl,hk,h2⟩
theorem pe{names:ae}{vs:List V}{loc loc':au}(h:iA names [] vs loc=some loc'):vs=[]/\loc=loc':=by
 obtain⟨h1,h⟩:=cr h
 exact⟨aaH.mp h1,aag h⟩
theorem lG(ts:List Expr)(k:Nat)(p:Pos):iB (.Tuple ts k p)=ts.flatMap cB:=rfl
theorem rP{names:ae}{ts:List Expr}{vs:List V}{loc loc':au}(h:iA names ts vs loc=some loc'):ts.length=vs.length/\(∀x∈ts.flatMap cB,lF names x)/\∀x,x∉ts.flatMap cB->loc'.lookup x=loc.lookup x:=by
 induction ts generalizing vs loc with
 |nil=>
  obtain⟨rfl,rfl⟩:=pe h
  exact⟨rfl,λq0 h=>(nomatch h),λq0 q0=>rfl⟩
 |cons t ts ih=>
  obtain⟨x,p,v,vs',rfl,rfl,hk,h2⟩:=jR h
  obtain⟨i1,i2,i3⟩:=ih h2
  refine⟨congrArg Nat.succ i1,λy hy=> ?_,λy hy=> ?_⟩
  ·rcases aai.mp (show y∈x::ts.flatMap cB from hy) with rfl|hy
   ·exact hk
   ·exact i2 y hy
  ·have hy:y∉x::ts.flatMap cB:=hy
   rw[aai,not_or] at hy
   rw[i3 y hy.2,pd hy.1]
theorem nr{names:ae}{t:Expr}{v:V}{loc loc':au}(h:cv names t v loc=some loc'):(∃ts k p vs,t= .Tuple ts k p/\v= .tup vs/\iA names ts vs loc=some loc')\/(∃x p,t= .Name x p/\lF names x/\loc'=jD x v loc):=by
 have h:(match gM t with|some ts=>(xy v).bind λvs=>iA names ts vs loc|none=>wv names t v loc)=some loc':=h
 cases k:gM t with
 |some ts=>
  rw[k] at h
  obtain⟨vs,h1,h⟩:=bG h
  obtain⟨a,b,k⟩:=oj k
  exact .inl ⟨ts,a,b,vs,k,wq h1,h⟩
 |none=>rw[k] at h;exact .inr (ui h)
theorem zi{names:ae}{t:Expr}{v:V}{loc loc':au}(h:cv names t v loc=some loc'):(∀x∈iB t,lF names x)/\∀x,x∉iB t->loc'.lookup x=loc.lookup x:=by
 rcases nr h with⟨ts,k,p,vs,rfl,rfl,h⟩|⟨x,p,rfl,hk,rfl⟩
 ·rw[lG]
  obtain⟨_,h2,h3⟩:=rP h
  exact⟨h2,h3⟩
 ·refine⟨λy hy=> ?_,λy hy=> ?_⟩
  ·rw[aah.mp (show y∈[x] from hy)];exact hk
  ·exact pd λe=>hy (e▸aah.mpr rfl)
section
variable{prog:Program}{w:World}{h₀:Heap}{r:Nat}{K:Frag}{T:ba}{F:bM}{hint:Nat->Nat->Bool}
variable{env:Env}{nm:ae}{loc:au}{mu mu' mu'':Mu}{n:Nat}
theorem mL{env:Env}:∀{ts:List Expr},(∀t∈ts,∃x p,t= .Name x p)->(assignEach ts env)=ts.map λt=>(false,assign t env):=by
 intro L0
 induction L0 with
 |nil=>
  intro _
  exact rfl
 |cons t ts ih=>
  intro h
  obtain⟨x,p,rfl⟩:=h t (.head _)
  rw[aaX,<-ih λt ht=>h t (.tail _ ht)]
  rfl
theorem rQ(ts:List Expr)(env:Env):(ts.map λt=>(false,assign t env)).findIdx? (·.1)=none:=by
 rw[List.findIdx?_eq_none_iff]
 intro x hx
 obtain⟨t,_,rfl⟩:=aak.mp hx
 rfl
theorem s8{names:ae}{ts:List Expr}{vs:List V}{loc loc':au}(h:iA names ts vs loc=some loc'):∀t∈ts,∃x p,t= .Name x p:=by
 induction ts generalizing vs loc with
 |nil=>exact λq0 h=>nomatch h
 |cons t ts ih=>
  obtain⟨x,p,v,vs',e,rfl,hk,h2⟩:=jR h
  intro u hu
  rcases aai.mp hu with rfl|hu
  ·exact⟨x,p,e⟩
  ·exact ih h2 u hu
noncomputable def WB(env:Env)(xs:List Str)(a:Addr):Prop:=∃x∈xs,xI env x a
theorem WB.wr{xs:List Str}{a:Addr}(h:WB env xs a):Wr env a:=let⟨_,_,k⟩:=h;k.wr
theorem s9{A:Around}{names:ae}(hn:∀x,lF names x->nm.lookup x=names.lookup x){ts:List Expr}{vs:List V}{xs:List Value}{loc loc':au}{z:af}{as:aX}{s:Shared}{Q:Unit->Shared->Prop}{E:Value->Shared->Prop}
  (h:iA names ts vs loc=some loc') (R:MR h₀ z as mu s.heap) (f:FR h₀ env nm loc z as mu s.heap) (rl:aA z as vs xs)
  (q:∀s',bo s s'->MR h₀ z as mu s'.heap->ai (WB env (ts.flatMap cB)) z as mu s.heap z as mu s'.heap->FR h₀ env nm loc' z as mu s'.heap->Q () s'):wpAny (model prog w) A (assignInOrder (ts.map λt=>assign t env) xs) Q E s:=by
 induction ts generalizing vs xs loc s with
 |nil=>
  obtain⟨rfl,rfl⟩:=pe h
  exact rl.eNil (wpAny_assignInOrder_none (q s (bo.refl s) R (ai.refl _ _ _ _ _) f))
 |cons t ts ih=>
  obtain⟨x,p,v,vs',rfl,rfl,hk,h2⟩:=jR h
  refine rl.eCons λ_ _ rv rl=> ?_
  rw[aaX]
  refine wpAny_assignInOrder_more (wpAny_assign_Name (jQ ((hn x hk).symm▸hk:nm.lookup x=some .local\/nm.lookup x=some .cell) R f rv λs1 sm1 R1 st1 f1=>ih h2 R1 f1 rl λs2 sm2 R2 st2 f2=>
   q s2 (sm1.trans sm2) R2 ((st1.mono λa ha=>⟨x,.head _,ha⟩).trans (st2.mono λa ⟨y,hy,ha⟩=>⟨y,.tail _ hy,ha⟩) λa ha=>f1.wr a ha.wr) f2))
theorem uj{A:Around}{names:ae}(hh:A.handled=none)(hn:∀x,lF names x->nm.lookup x=names.lookup x){t:Expr}{v:V}{val:Value}{loc loc':au}{z:af}{as:aX}{s:Shared}{Q:Unit->Shared->Prop}{E:Value->Shared->Prop}
  (h:cv names t v loc=some loc') (R:MR h₀ z as mu s.heap) (f:FR h₀ env nm loc z as mu s.heap) (rv:aC z as v val)
  (q:∀s',bo s s'->MR h₀ z as mu s'.heap->ai (WB env (iB t)) z as mu s.heap z as mu s'.heap->FR h₀ env nm loc' z as mu s'.heap->Q () s'):wpAny (model prog w) A (assign t env val) Q E s:=by
 rcases nr h with⟨ts,k,p,vs,rfl,rfl,h⟩|⟨x,p,rfl,hk,rfl⟩
 ·refine rv.eTup λq0 q0 q0 ha rl=> ?_
  have hnm:=mL (env:=env) (s8 h)
  have hlen:=(rP h).1
  refine wpAny_assign_Tuple hh (cW (R.zin _ _ ha)) (by rw[hnm,aaq,hlen,rl.length,aaJ]) (by rw[hnm];exact rQ _ _) λh' x=> ?_
  rw[hnm,aba]
  have x1:iV s.heap h':=λb o e=>x b o (λq=>by rw[q,aB] at e;cases e) e
  have st1:ai gh z as mu s.heap z as mu h':=ai.ext _ x1
  refine s9 hn h (R.ext x1) (f.step st1) rl λs2 sm2 R2 st2 f2=> ?_
  rw[lG] at q
  exact q s2 (bo.trans ⟨h',s.toks,rfl⟩ sm2) R2 (st1.wide.trans st2 λa ha=>(f.step st1).wr a ha.wr) f2
 ·refine wpAny_assign_Name (jQ (by rw[hn x hk];exact hk) R f rv λs1 sm1 R1 st1 f1=>q s1 sm1 R1 (st1.mono λa ha=>⟨x,.head _,ha⟩) f1)
theorem jE{A:Around}{R:Result->Shared->Prop}{s:Shared}{elt t:Expr}{gens:List Comprehension}{scope:Scope}{pos:Pos}{d:Nat}{it acc:Value}{cenv:Env}{p:Pos}{tail:Sem Fin}
  (hturn:compTurn (.ListComp elt gens scope pos) d it acc cenv=(standAt p>>=λq0=>pyNext it>>=λr=>match r with|none=>pure (.done .next)|some v=>letOwnedTupleGo t it v>>=λq0=>assign t cenv v>>=λq0=>tail)) (I:Nat->Shared->Prop)
  (bx:∀n s,I n s->wpAny (model prog w) A (pyNext it) (λr s₁=>match r with
   |none=>R (.ok .next) s₁
   |some v=>wpAny (model prog w) A (letOwnedTupleGo t it v) (λq0 s₂=>wpAny (model prog w) A (assign t cenv v) (λq0 s₃=>wpAny (model prog w) A tail (λfin s₄=>fin= .again (.compLoop (.ListComp elt gens scope pos) d it acc cenv)/\∃m,m<n/\I m s₄)
     (notedBy (model prog w) A cenv λe s'=>R (.error e) s') s₃) (notedBy (model prog w) A cenv λe s'=>R (.error e) s') s₂) (notedBy (model prog w) A cenv λe s'=>R (.error e) s') s₁) (notedBy (model prog w) A cenv λe s'=>R (.error e) s') s)
  (n:Nat) (h:I n s):codeAny (model prog w) A (.compLoop (.ListComp elt gens scope pos) d it acc cenv) R s:=by
 refine codeAny_loop rfl I (λn s hI=> ?_) n h
 show wpAny _ A ((compTurn (.ListComp elt gens scope pos) d it acc cenv).onRaise (λx=>do noteFrame x cenv;theTreesLotGoes x)) _ _ s
 refine wpAny_noted ?_
 rw[hturn]
 refine wpAny_bind (wpAny_standAt (wpAny_bind (wpAny_mono (bx n s hI) (λr s₁ h₁=> ?_) λq0 q0 h'=>h')))
 cases r with
 |none=>exact wpAny_pure h₁
 |some v=>
  refine wpAny_bind (wpAny_mono h₁ (λq0 s₂ h₂=>wpAny_bind (wpAny_mono h₂ (λq0 s₃ h₃=>wpAny_mono h₃ (λfin s₄ h₄=> ?_) λq0 q0 h'=>h') λq0 q0 h'=>h')) λq0 q0 h'=>h')
  obtain⟨rfl,h₄⟩:=h₄
  exact⟨rfl,h₄⟩
end
end
section
section
variable{prog:Program}{w:World}{h₀:Heap}{r:Nat}{K:Frag}{T:ba}{F:bM}{hint:Nat->Nat->Bool}
variable{env:Env}{nm:ae}{loc:au}{mu mu' mu'':Mu}{n:Nat}
structure rR(h₀:Heap)(cenv:Env)(nm':ae)(D:Addr)(loc:au)(z:af)(as:aX)(mu:Mu)(vs:List V)(h:Heap):Prop where
 R:MR h₀ z as mu h
 fc:FR h₀ cenv nm' loc z as mu h
 acc:∃xs k,h.get? D=some (aaZ (List.toArray xs) k)/\aA z as vs xs
 off:z D=none/\¬jx as mu D
theorem rR.aw{cenv:Env}{nm':ae}{D:Addr}{loc:au}{z:af}{as:aX}{vs:List V}{h:Heap}(c:rR h₀ cenv nm' D loc z as mu vs h):de z as mu h D:=⟨c.off.1,c.off.2,let⟨_,_,e,_⟩:=c.acc;⟨_,e⟩⟩
theorem rR.stepW{W:Addr->Prop}{cenv:Env}{nm':ae}{D:Addr}{loc:au}{z z':af}{as as':aX}{vs:List V}{h h':Heap}(c:rR h₀ cenv nm' D loc z as mu vs h)(R':MR h₀ z' as' mu' h')(st:ai W z as mu h z' as' mu' h')(hD:¬W D)
  (w1:¬W cenv.locals) (w2:∀x c,cenv.cells.lookup x=some c->¬W c):rR h₀ cenv nm' D loc z' as' mu' vs h' where
 R:=R'
 fc:=c.fc.stepW st w1 w2
 acc:=let⟨xs,k,e,rl⟩:=c.acc;⟨xs,k,st.keep _ _ e c.off.2 hD,rl.mono st.zsub st.asub⟩
 off:=c.aw.off st
theorem rR.step{cenv:Env}{nm':ae}{D:Addr}{loc:au}{z z':af}{as as':aX}{vs:List V}{h h':Heap}(c:rR h₀ cenv nm' D loc z as mu vs h)(R':MR h₀ z' as' mu' h')(st:ai gh z as mu h z' as' mu' h'):rR h₀ cenv nm' D loc z' as' mu' vs h':=
 c.stepW R' st id id λq0 q0 q0=>id
noncomputable def WC(cenv:Env)(D:Addr)(hb:Heap)(a:Addr):Prop:=hb.get? a=none/\(a=D\/Wr cenv a)
noncomputable def tc(prog:Program)(w:World)(h₀:Heap)(A:Around)(cenv:Env)(nm':ae)(D:Addr)(hb:Heap)(c:Code)(tail:Sem Fin)(g:au->Mu->Option (List V×Mu))(B:Nat)(locs:au->Prop):Prop:=
 ∀(loc:au)(mu:Mu)(a:List V)(mu':Mu)(z:af)(as:aX)(vs:List V)(s:Shared)(Q:Fin->Shared->Prop)(E:Value->Shared->Prop),locs loc->g loc mu=some (a,mu')->rR h₀ cenv nm' D loc z as mu vs s.heap->vs.length+B<=2^22->
  (∀s' z' as',bo s s'->a.length<=B->rR h₀ cenv nm' D loc z' as' mu' (vs++a) s'.heap->ai (WC cenv D hb) z as mu s.heap z' as' mu' s'.heap->Q (.again c) s')->wpAny (model prog w) A tail Q E s
theorem pf{α:Type}(l:List α)(i:Nat):(l.drop i=[]/\l.length<=i)\/∃v,l[i]? =some v/\l.drop i=v::l.drop (i+1):=by
 rcases Nat.lt_or_ge i l.length with h|h
 ·exact .inr ⟨l[i],aaD h,(List.drop_eq_getElem_cons h)⟩
 ·exact .inl ⟨List.drop_eq_nil_of_le h,h⟩
theorem rS{A:Around}{tg:Expr->Prop}{it:Value}{wr:List Addr}{z₀:af}{as₀:aX}{items:List V}{St:Nat->Heap->Prop}(hh:A.handled=none)(Wk0:Wk prog w h₀ A tg it wr z₀ as₀ items St)
  {elt t:Expr} {gens:List Comprehension} {scope:Scope} {pos:Pos} {d:Nat} {acc:Value} {cenv:Env} {nm':ae} {D:Addr} {hb:Heap} {p:Pos} {tail:Sem Fin} {names:ae} {g:au->Mu->Option (List V×Mu)} {B:Nat} {loc0:au} {locs:au->Prop}
  (hturn:compTurn (.ListComp elt gens scope pos) d it acc cenv=(standAt p>>=λq0=>pyNext it>>=λr=>match r with|none=>pure (.done .next)|some v=>letOwnedTupleGo t it v>>=λq0=>assign t cenv v>>=λq0=>tail))
  (htg:tg t) (hn:∀x,lF names x->nm'.lookup x=names.lookup x) (hlocs:∀v loc',cv names t v loc0=some loc'->locs loc') (hfr:∀x∈iB t,lF names x->loc0.lookup x=none) (hown:∀x a,lF names x->xI cenv x a->hb.get? a=none)
  (hD:hb.get? D=none) (hDp:D≠cenv.locals/\∀x,cenv.cells.lookup x≠some D) (hwr:∀b∈wr,b≠D/\b≠cenv.locals/\∀x,cenv.cells.lookup x≠some b)
  (htail:tc prog w h₀ A cenv nm' D hb (.compLoop (.ListComp elt gens scope pos) d it acc cenv) tail g B locs)
  {z1:af} {as1:aX} {mu1 muF:Mu} {vs1 out:List V} {s1:Shared} {R:Result->Shared->Prop} (hz:cV z₀ z1) (ha:as₀<+:as1) (c1:rR h₀ cenv nm' D loc0 z1 as1 mu1 vs1 s1.heap) (haw:∀b∈wr,de z1 as1 mu1 s1.heap b) (hst:St 0 s1.heap)
  (hlen:vs1.length+items.length*B+B<=2^22) (hcomp:aW (λv mu=>(cv names t v loc0).bind λloc'=>g loc' mu) items mu1=some (out,muF))
  (q:∀s' z' as',bo s1 s'->out.length<=items.length*B->rR h₀ cenv nm' D loc0 z' as' muF (vs1++out) s'.heap->ai (λa=>WC cenv D hb a\/a∈wr) z1 as1 mu1 s1.heap z' as' muF s'.heap->R (.ok .next) s'):
  codeAny (model prog w) A (.compLoop (.ListComp elt gens scope pos) d it acc cenv) R s1:=by
 have wDl:∀a,Wr cenv a->a≠D:=by
  rintro a (rfl|⟨x,_,hx⟩) e
  ·exact hDp.1 e.symm
  ·exact hDp.2 x (e▸hx)
 have wrW:∀b∈wr,¬Wr cenv b:=by
  rintro b hb (rfl|⟨x,_,hx⟩)
  ·exact(hwr _ hb).2.1 rfl
  ·exact(hwr b hb).2.2 x hx
 let I:Nat->Shared->Prop:=λn s=>∃(i:Nat)(z:af)(as:aX)(mu:Mu)(done rest:List V),n+i=items.length/\aW (λv mu=>(cv names t v loc0).bind λloc'=>g loc' mu) (items.drop i) mu=some (rest,muF)/\out=done++rest/\done.length<=i*B/\
   bo s1 s/\rR h₀ cenv nm' D loc0 z as mu (vs1++done) s.heap/\ai (λa=>WC cenv D hb a\/a∈wr) z1 as1 mu1 s1.heap z as mu s.heap/\St i s.heap/\∀b∈wr,de z as mu s.heap b
 refine jE hturn I ?_ items.length
   ⟨0,z1,as1,mu1,[],out,dk 141442202 [_] [],by simpa using hcomp,rfl,by simp,bo.refl s1,by simpa using c1,ai.refl _ _ _ _ _,hst,haw⟩
 intro n s hI
 refine L7 λP kk=> ?_
 obtain⟨i,z,as,mu,done,rest,hni,hcv,hout,hdl,sm,cs,st,t6,aw⟩:=hI
 have hzz:cV z₀ z:=hz.trans st.zsub
 have haa:as₀<+:as:=ha.trans st.asub
 have hwA:∀{z:af}{as:aX}{mu:Mu}{loc:au}{vs:List V}{h:Heap},rR h₀ cenv nm' D loc z as mu vs h->(∀b∈wr,de z as mu h b)->∀a,(WC cenv D hb a\/a∈wr)->z a=none/\¬jx as mu a/\∃o,h.get? a=some o:=λc aw a ha=>by
  rcases ha with⟨_,rfl|ha⟩|ha
  ·exact⟨c.aw.z,c.aw.m,c.aw.live⟩
  ·exact c.fc.wr a ha
  ·exact⟨(aw a ha).z,(aw a ha).m,(aw a ha).live⟩
 rcases pf items i with⟨hd,hil⟩|⟨v,hv,hd⟩
 ·
  rw[hd] at hcv
  cases hcv
  have hi:i=items.length:=av 105387079606101320402 [_,_,_] [] hni hil
  subst hi
  refine kk<|wpAny_mono (Wk0.done z as _ s (λs'=>R (.ok .next) s') (notedBy (model prog w) A cenv λe s'=>R (.error e) s') t6 hzz haa cs.R aw λs' sm' R' st'=> ?_) (λr s' hr=> ?_) λq0 q0 h=>h
  ·refine q s' z as (sm.trans sm') (by rw[hout,abb];exact hdl) ?_ (st.trans (st'.mono λa h=> .inr h) (hwA cs aw))
   rw[hout,abb]
   exact cs.stepW R' st' (λh=>(hwr _ h).1 rfl) (λh=>(hwr _ h).2.1 rfl) λx c hc h=>(hwr _ h).2.2 x hc
  ·cases r with
   |none=>exact hr
   |some _=>exact hr.elim
 ·rw[hd] at hcv
  have hcv:(match(cv names t v loc0).bind λloc'=>g loc' mu with|some (a,mu')=>(match aW (λv mu=>(cv names t v loc0).bind λloc'=>g loc' mu) (items.drop (i+1)) mu' with|some (b,mu'')=>some (a++b,mu'')|none=>none)|none=>none)=some (rest,muF):=hcv
  cases hg:(cv names t v loc0).bind λloc'=>g loc' mu with
  |none=>rw[hg] at hcv;exact ak hcv
  |some pa=>
   obtain⟨a,muA⟩:=pa
   rw[hg] at hcv
   have hcv:(match aW (λv mu=>(cv names t v loc0).bind λloc'=>g loc' mu) (items.drop (i+1)) muA with|some (b,mu'')=>some (a++b,mu'')|none=>none)=some (rest,muF):=hcv
   cases hrest:aW (λv mu=>(cv names t v loc0).bind λloc'=>g loc' mu) (items.drop (i+1)) muA with
   |none=>rw[hrest] at hcv;exact ak hcv
   |some pb=>
    obtain⟨b,muB⟩:=pb
    rw[hrest] at hcv
    cases hcv
    obtain⟨loc',hb1,hg'⟩:=Option.bind_eq_some_iff.mp hg
    obtain⟨hb2,hb3⟩:=zi hb1
    have hi:i<items.length:=aO hv
    refine kk<|wpAny_mono (Wk0.item t i v z as mu s (λx s2=>wpAny (model prog w) A (assign t cenv x) (λq0 s₃=>wpAny (model prog w) A tail (λfin s₄=>fin= .again (.compLoop (.ListComp elt gens scope pos) d it acc cenv)/\∃m,m<n/\I m s₄)
     (notedBy (model prog w) A cenv λe s'=>R (.error e) s') s₃) (notedBy (model prog w) A cenv λe s'=>R (.error e) s') s2) (notedBy (model prog w) A cenv λe s'=>R (.error e) s') htg hv t6 hzz haa cs.R aw λx s2 z2 sm2 R2 st2 rx hSt2=> ?_) (λr s' hr=> ?_) λq0 q0 h=>h
    rotate_left
    ·cases r with
     |none=>exact hr.elim
     |some x=>exact hr
    have cs2:=cs.stepW R2 st2 (λh=>(hwr _ h).1 rfl) (λh=>(hwr _ h).2.1 rfl) λx c hc h=>(hwr _ h).2.2 x hc
    have aw2:∀b∈wr,de z2 as mu s2.heap b:=λb hb=>⟨((aw b hb).off st2).1,((aw b hb).off st2).2,Wk0.live _ _ hSt2 b hb⟩
    have S2:=st.trans (st2.mono λa h=> .inr h) (hwA cs aw)
    refine uj hh hn hb1 R2 cs2.fc rx λs3 sm3 R3 st3 f3=> ?_
    have wb:∀a,WB cenv (iB t) a->WC cenv D hb a:=λa ha=>⟨let⟨y,hy,hwx⟩:=ha;hown y a (hb2 y hy) hwx,.inr ha.wr⟩
    have cs3:rR h₀ cenv nm' D loc' z2 as mu (vs1++done) s3.heap:=⟨R3,f3,let⟨xs,k,e,rl⟩:=cs2.acc;⟨xs,k,st3.keep _ _ e cs2.off.2 λh=>wDl _ h.wr rfl,rl⟩,cs2.off⟩
    have aw3:∀b∈wr,de z2 as mu s3.heap b:=λb hb=>(aw2 b hb).step st3 λh=>wrW b hb h.wr
    have hSt3:St (i+1) s3.heap:=Wk0.frame _ _ _ hSt2 (λa o e=>R3.zin _ _ ((hzz.trans st2.zsub) a o e)) λb hb o e=>st3.keep _ _ e (aw2 b hb).m λh=>wrW b hb h.wr
    have S3:=S2.trans (st3.mono λa h=> .inl (wb a h)) (hwA cs2 aw2)
    have hB:(vs1++done).length+B<=2^22:=by
     rw[aap]
     have:i*B<=items.length*B:=Nat.mul_le_mul_right _ (Nat.le_of_lt hi)
     exact dX 68148004639752994488205472420519718000 [_,_,_,_,_,_] [] hlen hdl this
    refine htail loc' mu a muA z2 as _ s3 _ _ (hlocs v loc' hb1) hg' cs3 hB λs4 z4 as4 sm4 hal cs4 st4=>⟨rfl,n-1,dX 175749724890973483508386242704236331928633419149890302 [_,_,_,_] [] hni hi (su _ _),?_⟩
    have cs4':rR h₀ cenv nm' D loc0 z4 as4 muA (vs1++(done++a)) s4.heap:=by
     rw[<-aa7]
     refine⟨cs4.R,cs4.fc.weaken λx u hx=> ?_,cs4.acc,cs4.off⟩
     rw[hb3 x λhm=>by rw[hfr x hm (hb2 x hm)] at hx;cases hx]
     exact hx
    have notW:∀b∈wr,¬WC cenv D hb b:=λb hb' h=>h.2.elim (hwr b hb').1 (wrW b hb')
    refine⟨i+1,z4,as4,muA,done++a,b,dX 15898097508130200681278328148670843955919881993747057952567502 [_,_,_,_] [] hni hi (su _ _),hrest,by rw[hout,aa7],?_,((sm.trans sm2).trans sm3).trans sm4,cs4',S3.trans (st4.mono λa h=> .inl h) (hwA cs3 aw3),?_,λb hb=>(aw3 b hb).step st4 (notW b hb)⟩
    ·rw[aap,Nat.add_mul,Nat.one_mul];exact av 1424701277119440921362580 [_,_,_,_] [] hdl hal
    ·exact Wk0.frame _ _ _ hSt3 (λa o e=>cs4.R.zin _ _ (((hzz.trans st2.zsub).trans st4.zsub) a o e)) λb hb o e=>st4.keep _ _ e (aw3 b hb).m (notW b hb)
end
end
section
noncomputable def uk(elt:Expr)(ifs:List Expr)(acc:Value)(cenv:Env)(c:Code):Sem Fin:=do
 let mut ok:=true
 for c' in ifs do
  if ok then ok <-isTrue c' cenv (eval c' cenv)
 if ok then
  (do let _ <-call (.builtin "list.append") [acc,<-eval elt cenv])
 again c
noncomputable def wH(e it':Expr)(acc:Value)(cenv:Env)(c:Code):Sem Fin:=do
 let x <-eval it' cenv
 standAt it'.pos
 let x <-foldedSetIterable it' cenv x
 let _ <-runOwn (.compStart e 1 (<-holding [x] (pyIter x)) acc cenv) cenv
 again c
theorem Go(elt t it':Expr)(ifs:List Expr)(scope:Scope)(pos:Pos)(it acc:Value)(env:Env):
  compTurn (.ListComp elt [⟨t,it',ifs,0⟩] scope pos) 0 it acc env=(standAt it'.pos>>=λq0=>pyNext it>>=λr=>match r with|none=>pure (.done .next)|some v=>letOwnedTupleGo t it v>>=λq0=>assign t env v>>=λq0=>uk elt ifs acc env (.compLoop (.ListComp elt [⟨t,it',ifs,0⟩] scope pos) 0 it acc env)):=by rfl
theorem Gp(elt t it' t2 it2:Expr)(scope:Scope)(pos:Pos)(it acc:Value)(env:Env):
  compTurn (.ListComp elt [⟨t,it',[],0⟩,⟨t2,it2,[],0⟩] scope pos) 0 it acc env=(standAt it'.pos>>=λq0=>pyNext it>>=λr=>match r with|none=>pure (.done .next)|some v=>letOwnedTupleGo t it v>>=λq0=>assign t env v>>=λq0=>wH (.ListComp elt [⟨t,it',[],0⟩,⟨t2,it2,[],0⟩] scope pos) it2 acc env (.compLoop (.ListComp elt [⟨t,it',[],0⟩,⟨t2,it2,[],0⟩] scope pos) 0 it acc env)):=by rfl
theorem Gq(elt t it' t2 it2:Expr)(scope:Scope)(pos:Pos)(it acc:Value)(env:Env):
  compTurn (.ListComp elt [⟨t,it',[],0⟩,⟨t2,it2,[],0⟩] scope pos) 1 it acc env=(standAt it2.pos>>=λq0=>pyNext it>>=λr=>match r with|none=>pure (.done .next)|some v=>letOwnedTupleGo t2 it v>>=λq0=>assign t2 env v>>=λq0=>uk elt [] acc env (.compLoop (.ListComp elt [⟨t,it',[],0⟩,⟨t2,it2,[],0⟩] scope pos) 1 it acc env)):=by rfl
theorem ul{prog:Program}{w:World}{A:Around}{R:Result->Shared->Prop}{s:Shared}{elt:Expr}{gens:List Comprehension}{d:Nat}{scope pos it acc env}(hd:(gens[d]?).elim false (·.is_async !=0)=false)
  (h0:codeAny (model prog w) A (.compLoop (.ListComp elt gens scope pos) d it acc env) R s)
  (h:wpAny (model prog w) A (pyIter it) (λit' s'=>codeAny (model prog w) A (.compLoop (.ListComp elt gens scope pos) d it' acc env) R s') (notedBy (model prog w) A env λx s'=>R (.error x) s') s):
  codeAny (model prog w) A (.compStart (.ListComp elt gens scope pos) d it acc env) R s:=by
 refine codeAny_of_tree ?_
 show wpAny _ _ ((compStart (.ListComp elt gens scope pos) d it acc env).onRaise (λx=>do noteFrame x env;standAt theWindowsPlace)) _ _ s
 refine wpAny_notedAt ?_
 unfold compStart
 rw[show clausesOf (.ListComp elt gens scope pos)=gens from rfl,hd]
 show wpAny _ _ (ask>>=_) _ _ s
 refine wpAny_bind (wpAny_askSetting (wpAny_ite ?_))
 split
 ·first
   |exact wpAny_bind (wpAny_pure (wpAny_pure (And.intro rfl h0)))
   |exact wpAny_pure (And.intro rfl h0)
 ·refine wpAny_bind (wpAny_rule ?_)
  split
  ·exact wpAny_bind (wpAny_standAt (wpAny_bind (wpAny_mono h (λit' s' h'=>wpAny_pure (And.intro rfl h')) λq0 q0 x=>x)))
  ·exact wpAny_bind (wpAny_mono h (λit' s' h'=>wpAny_pure (And.intro rfl h')) λq0 q0 x=>x)
section
variable{h₀:Heap}
theorem MR.putZ{z:af}{as:aX}{mu:Mu}{h:Heap}(R:MR h₀ z as mu h){D:Addr}{o:Obj}(off:z D=none/\¬jx as mu D)(ho:h.get? D=some o):MR h₀ (z.put D o) as mu h where
 base:=λb o' e=>af.put_sub off.1 b o' (R.base b o' e)
 zin:=λb o' e=>by
  unfold af.put at e
  by_cases q:b=D
  ·rw[if_pos q] at e;cases e;rw[q];exact ho
  ·rw[if_neg q] at e;exact R.zin _ _ e
 len:=R.len
 ok:=λi mo p e f=>(R.ok i mo p e f).mono (af.put_sub off.1) (aav _) λq0 q0 q0 q=>q
 out:=λi mo p e f b hb=>by
  unfold af.put
  by_cases q:b=D
  ·exact absurd ⟨i,mo,p,e,f,q▸hb⟩ off.2
  ·rw[if_neg q];exact R.out i mo p e f b hb
 apart:=R.apart
theorem ai.putZ{W:Addr->Prop}{z z':af}{as as':aX}{mu mu':Mu}{h h':Heap}(s:ai W z as mu h z' as' mu' h'){D:Addr}{o:Obj}(hz:z' D=Option.none)(hn:h.get? D=Option.none):ai W z as mu h (z'.put D o) as' mu' h' where
 zsub:=s.zsub.trans (af.put_sub hz)
 asub:=s.asub
 keep:=s.keep
 zfresh:=λb o' e=>by
  unfold af.put at e
  by_cases q:b=D
  ·exact .inr (.inl (q▸hn))
  ·rw[if_neg q] at e;exact s.zfresh b o' e
 mfresh:=s.mfresh
 live:=s.live
end
section
variable{prog:Program}{w:World}{h₀:Heap}{r:Nat}{K:Frag}{T:ba}{F:bM}{hint:Nat->Nat->Bool}
variable{env:Env}{nm:ae}{loc:au}{mu mu' mu'':Mu}{n:Nat}
theorem i4{x:Expr}{y:List V×Mu}(h:yx T F hint nm loc n x mu=some y):∀env v,foldedSetIterable x env v=pure v:=by
 intro env v
 cases x with
 |Set e k p=>
  cases n with
  |zero=>exact ak h
  |succ n=>
   obtain⟨_,_,h,_⟩:=Ex h
   cases n<;>exact ak h
 |_=>rfl
theorem vr{A:Around}{cenv:Env}{nm':ae}{D:Addr}{hb:Heap}{loc:au}{z:af}{as:aX}{vs:List V}{v:V}{x:Value}{s:Shared}{Q:Value->Shared->Prop}{E:Value->Shared->Prop}(c:rR h₀ cenv nm' D loc z as mu vs s.heap)(hl:vs.length<=2^22)
  (hD:hb.get? D=none) (hDp:D≠cenv.locals/\∀x,cenv.cells.lookup x≠some D) (rv:aC z as v x)
  (q:∀s',bo s s'->rR h₀ cenv nm' D loc z as mu (vs++[v]) s'.heap->ai (WC cenv D hb) z as mu s.heap z as mu s'.heap->Q .none s'):wpAny (model prog w) A (call (.builtin "list.append") [.ref D,x]) Q E s:=by
 obtain⟨xs,k,ho,rl⟩:=c.acc
 refine wpAny_list_append_plain (items:=xs.toArray) ⟨k,ho⟩ (λh' hp hs=> ?_) (by rw[aaJ,<-rl.length,sizeLine_eq];exact ad 254042333280 [_] [] hl)
 obtain⟨k',hp⟩:=hp
 have hk:∀a o,¬a=D->s.heap.get? a=some o->h'.get? a=some o:=λa o ha e=>by rw[hs.2 a ha];exact e
 have R':MR h₀ z as mu h':=c.R.offW (W:=λa=>a=D) (λt ht=>by rw[ht];exact c.off) hk
 have st:ai (λa=>a=D) z as mu s.heap z as mu h':=ai.offW hk
 exact q _ ⟨h',s.toks,rfl⟩ ⟨R',c.fc.stepW st (λq=>hDp.1 q.symm) (λy b hb q=>hDp.2 y (by rw[hb,q])),⟨xs++[x],k',by rw[hp,List.push_toArray],rl.append (.cons rv .nil)⟩,c.off⟩ (st.mono λa ha=>⟨by rw[ha];exact hD,.inl ha⟩)
theorem um(S:ue prog w h₀ r T F hint n){A:Around}(ro:dK A r){cenv:Env}{nm':ae}{D:Addr}{hb:Heap}{c:Code}{elt:Expr}{ifs:List Expr}{locs:au->Prop}(hD:hb.get? D=none)(hDp:D≠cenv.locals/\∀x,cenv.cells.lookup x≠some D):
  tc prog w h₀ A cenv nm' D hb c (uk elt ifs (.ref D) cenv c) (λloc mu=>(vh T F hint nm' loc n ifs mu).bind λ(ok,mu)=>if ok then(fu T F hint nm' loc n elt mu).map λ(x,mu)=>([x],mu) else some ([],mu)) 1 locs:=by
 intro loc mu a mu' z as vs s Q E _ hg cs hl q
 obtain⟨⟨ok,mu1⟩,h1,h2⟩:=Option.bind_eq_some_iff.mp hg
 unfold uk
 refine wpAny_bind (S.ts cenv nm' loc ifs mu ok mu1 h1 A z as s _ E ro cs.R cs.fc λb s1 z1 as1 sm1 R1 st1 f1 r1=> ?_)
 cases r1
 have cs1:=cs.step R1 st1
 cases ok with
 |false=>
  cases h2
  exact wpAny_pure (q s1 z1 as1 sm1 (by simp) (by rw[abb];exact cs1) st1.wide)
 |true=>
  simp only[if_true] at h2
  obtain⟨⟨v,mu2⟩,h3,h4⟩:=Option.map_eq_some_iff.mp h2
  cases h4
  refine wpAny_bind (wpAny_bind (S.e cenv nm' loc elt mu1 v _ h3 A z1 as1 s1 _ E ro R1 f1 λx s2 z2 as2 sm2 R2 st2 f2 r2=>wpAny_bind ?_))
  have cs2:=cs1.step R2 st2
  refine vr (hb:=hb) cs2 (ad 144552159781200 [_,_] [] hl) hD hDp r2 λs3 sm3 cs3 st3=>wpAny_pure (wpAny_pure (q s3 z2 as2 ((sm1.trans sm2).trans sm3) (by simp) cs3 ?_))
  exact(st1.trans0 st2).wide.trans st3 λa ha=>by
   rcases ha.2 with rfl|h
   ·exact⟨cs2.aw.z,cs2.aw.m,cs2.aw.live⟩
   ·exact cs2.fc.wr a h
end
end
section
section
variable{prog:Program}{w:World}{h₀:Heap}{r:Nat}{K:Frag}{T:ba}{F:bM}{hint:Nat->Nat->Bool}
variable{env:Env}{nm:ae}{loc:au}{mu mu' mu'':Mu}{n:Nat}
theorem un{names:ae}:∀x,lF names x->(bE nm names).lookup x=names.lookup x:=λx h=>by
 rw[iZ]
 rcases h with h|h<;>rw[h]<;>rfl
theorem uo{elt t it':Expr}{ifs:List Expr}{rest:List Comprehension}{scope:Scope}{items out:List V}{mu1 muF:Mu}{g:au->Mu->Option (List V×Mu)}{B:Nat}{locs:au->Prop}{p:Pos}{tail:Value->Env->Pos->Code->Sem Fin}
  (hI:EK prog w h₀ r T env nm loc mu it' items mu1) (eH:∀env v,foldedSetIterable it' env v=pure v) (htg:oX T nm it' t=true) (hk:scope.kind= .function) (hf:iX nm scope.names=true) (hno:gv scope.names=true)
  (hturn:∀it acc cenv pos,compTurn (.ListComp elt (⟨t,it',ifs,0⟩::rest) scope pos) 0 it acc cenv=(standAt p>>=λq0=>pyNext it>>=λr=>match r with|none=>pure (.done .next)|some v=>letOwnedTupleGo t it v>>=λq0=>assign t cenv v>>=λq0=>tail acc cenv pos (.compLoop (.ListComp elt (⟨t,it',ifs,0⟩::rest) scope pos) 0 it acc cenv)))
  (htail:∀(A:Around)(D:Addr)(cenv:Env)(pos:Pos)(hb:Heap)(c:Code),dK A r->hb.get? D=none->(D≠cenv.locals/\∀x,cenv.cells.lookup x≠some D)->(∀x a,lF scope.names x->xI cenv x a->hb.get? a=none)->
   tc prog w h₀ A cenv (bE nm scope.names) D hb c (tail (.ref D) cenv pos c) g B locs)
  (hlocs:∀v loc',cv scope.names t v (f8 scope.names loc)=some loc'->locs loc')
  (hcomp:aW (λv mu=>(cv scope.names t v (f8 scope.names loc)).bind λloc'=>g loc' mu) items mu1=some (out,muF)) (hlen:items.length*B+B<=2^22):
  Ki prog w h₀ r env nm loc mu elt (⟨t,it',ifs,0⟩::rest) scope (.lst out) muF:=by
 intro pos use A z as s Q E ro R f q
 refine wpAny_comprehension_free (gs:=rest) rfl (λx=>eH env x) (q6 scope (pc f hf)) hk (λx hx hl=>by obtain⟨n,k⟩:=x;dsimp only at hl;subst hl;exact lg hno hx) ?_
 refine hI A z as s _ E ro R f λit wr St s2 z2 as2 sm2 R2 st2 f2 Wk1 t6 hwr=> ?_
 refine wpAny_newObj_type ?_
 have hD2:=aB s2.heap
 have x3:=iV.push s2.heap (aaZ (List.toArray []) 0)
 have st3:ai gh z2 as2 mu1 s2.heap z2 as2 mu1 (s2.heap.push (aaZ (List.toArray []) 0)):=ai.ext _ x3
 have hD3:=aaL s2.heap (o:=aaZ (List.toArray []) 0) rfl
 refine zh (s:={s2 with heap:=s2.heap.push (aaZ (List.toArray []) 0)}) hk hf hno (R2.ext x3) (f2.step st3) λcenv h4 x4 hcl hns hown hcells f4=> ?_
 have hDp:s2.heap.objs.size≠cenv.locals/\∀x,cenv.cells.lookup x≠some s2.heap.objs.size:=by
  refine⟨λe=> ?_,λx e=> ?_⟩
  ·rw[<-e] at hcl;rw[hD3] at hcl;cases hcl
  ·rcases hcells x _ e with h|⟨y,h⟩
   ·rw[hD3] at h;cases h
   ·obtain⟨_,_,o,e3⟩:=f2.cells y _ h
    rw[hD2] at e3;cases e3
 have hwrp:∀b∈wr,b≠s2.heap.objs.size/\b≠cenv.locals/\∀x,cenv.cells.lookup x≠some b:=λb hb=>by
  obtain⟨h1,h2⟩:=hwr b hb
  obtain⟨o,ho⟩:=h2.live
  refine⟨λe=>(by rw[e,hD2] at ho;cases ho),λe=> ?_,λx e=> ?_⟩
  ·rw[<-e] at hcl;rw[x3 _ _ ho] at hcl;cases hcl
  ·rcases hcells x _ e with h|⟨y,h⟩
   ·rw[x3 _ _ ho] at h;cases h
   ·obtain⟨_,_,o,e3⟩:=f.cells y _ h
    rw[h1] at e3;cases e3
 have hown2:∀x a,lF scope.names x->xI {cenv with scope:=relabel scope env} x a->s2.heap.get? a=none:=λx a hx ha=>by
  have:=hown x a hx ha
  cases e:s2.heap.get? a with
  |none=>rfl
  |some o=>rw[x3 _ _ e] at this;cases this
 have x24:iV s2.heap h4:=x3.trans x4
 have st4:ai gh z2 as2 mu1 s2.heap z2 as2 mu1 h4:=ai.ext _ x24
 have R4:=R2.ext x24
 have hSt4:St 0 h4:=Wk1.frame _ _ _ t6 (λa o e=>R4.zin _ _ e) λb q0 o e=>x24 _ _ e
 have aw4:∀b∈wr,de z2 as2 mu1 h4 b:=λb hb=>(hwr b hb).2.step st4 id
 have offD:z2 s2.heap.objs.size=none/\¬jx as2 mu1 s2.heap.objs.size:=by
  have:=de.fresh R2 hD2 ⟨_,hD3⟩
  exact⟨this.z,this.m⟩
 have c4:rR h₀ {cenv with scope:=relabel scope env} (bE nm scope.names) s2.heap.objs.size (f8 scope.names loc) z2 as2 mu1 [] h4:=⟨R4,f4,⟨[],0,x4 _ _ hD3,.nil⟩,offD⟩
 have loop:codeAny (model prog w) A (.compLoop (.ListComp elt (⟨t,it',ifs,0⟩::rest) scope pos) 0 it (.ref s2.heap.objs.size) {cenv with scope:=relabel scope env}) (compPost (model prog w) A E use Q (.ref s2.heap.objs.size) cenv.locals) {s2 with heap:=h4}:=by
  refine rS (s1:={s2 with heap:=h4}) ro.handled Wk1 (hturn _ _ _ _) htg un hlocs (λx hx hlc=> ?_) hown2 hD2 hDp hwrp (htail A _ _ pos s2.heap _ ro hD2 hDp hown2) (cV.refl z2) (aav _) c4 aw4 hSt4 (by simpa using hlen) hcomp λs5 z5 as5 sm5 hol c5 st5=> ?_
  ·rw[gw]
   split
   ·rename_i hfree
    have hfree:=b6 hfree
    rcases hlc with h|h<;>rw[h] at hfree<;>cases hfree
   ·rfl
  ·have hWn:∀a,(WC {cenv with scope:=relabel scope env} s2.heap.objs.size s2.heap a\/a∈wr)->s.heap.get? a=none:=λa ha=>by
    rcases ha with ha|ha
    ·exact st2.none ha.1 id
    ·exact(hwr a ha).1
   have ST:ai gh z as mu s.heap z5 as5 muF s5.heap:=((st2.trans0 st4).after0 st5 hWn)
   obtain⟨xs,k,hacc,rl⟩:=c5.acc
   rw[aa3] at rl
   have R6:=c5.R.putZ c5.off hacc
   have hDs:s.heap.get? s2.heap.objs.size=none:=st2.none hD2 id
   have ST6:ai gh z as mu s.heap (z5.put s2.heap.objs.size (aaZ xs.toArray k)) as5 muF s5.heap:=ST.putZ c5.off.1 hDs
   have rep6:aC (z5.put s2.heap.objs.size (aaZ xs.toArray k)) as5 (.lst out) (.ref s2.heap.objs.size):= .lst (af.put_self _ _ _) (rl.mono (af.put_sub c5.off.1) (aav _))
   have hCs:s.heap.get? cenv.locals=none:=by
    cases e:s.heap.get? cenv.locals with
    |none=>rfl
    |some o=>
     obtain⟨o',e'⟩:=st2.live _ _ e id
     rw[x3 _ _ e'] at hcl;cases hcl
   have awC:de (z5.put s2.heap.objs.size (aaZ xs.toArray k)) as5 muF s5.heap cenv.locals:=by
    have a:=c5.fc.awayL
    refine⟨?_,a.m,a.live⟩
    unfold af.put
    rw[if_neg (Ne.symm hDp.1)]
    exact a.z
   have sm:bo s s5:=sm2.trans (bo.trans ⟨h4,s2.toks,rfl⟩ sm5)
   unfold compPost
   obtain⟨m,hn,_⟩:=c5.fc.ns
   cases use with
   |none=>
    refine⟨m,hn,λh' hs'=> ?_⟩
    have hk:∀a o,¬a=cenv.locals->s5.heap.get? a=some o->h'.get? a=some o:=λa o ha e=>by rw[hs'.2 a ha];exact e
    have R7:=R6.offW (W:=λa=>a=cenv.locals) (λt ht=>by rw[ht];exact⟨awC.z,awC.m⟩) hk
    have ST7:=ST6.after0 (ai.offW (W:=λa=>a=cenv.locals) hk) λa ha=>by rw[ha];exact hCs
    exact q _ {s5 with heap:=h'} _ _ (sm.trans ⟨h',s5.toks,rfl⟩) R7 ST7 (f.step ST7) rep6
   |some u=>exact q _ s5 _ _ cenv.locals sm R6 ST6 (f.step ST6) rep6 hCs awC ⟨m,hn⟩
 exact ul rfl loop (Wk1.self _ _ _ _ hSt4 loop)
end
end
section
section
variable{prog:Program}{w:World}{h₀:Heap}{r:Nat}{K:Frag}{T:ba}{F:bM}{hint:Nat->Nat->Bool}
variable{env:Env}{nm:ae}{loc:au}{mu mu' mu'':Mu}{n:Nat}
theorem zj(S:ue prog w h₀ r T F hint n){A:Around}(ro:dK A r){cenv:Env}{D:Addr}{hb:Heap}{c:Code}{elt t it' t2 it2:Expr}{scope:Scope}{pos:Pos}{locs:au->Prop}(hD:hb.get? D=none)(hDp:D≠cenv.locals/\∀x,cenv.cells.lookup x≠some D)
  (hown:∀x a,lF scope.names x->xI cenv x a->hb.get? a=none) (htg:oX T (bE nm scope.names) it2 t2=true):
  tc prog w h₀ A cenv (bE nm scope.names) D hb c (wH (.ListComp elt [⟨t,it',[],0⟩,⟨t2,it2,[],0⟩] scope pos) it2 (.ref D) cenv c)
   (λloc' mu=>(yx T F hint (bE nm scope.names) loc' n it2 mu).bind λ(items',mu)=>if items'.length<=1000/\(iB t2).all (λx=>(loc'.lookup x).isNone)=true then
       aW (λv mu=>(cv scope.names t2 v loc').bind λloc''=>(fu T F hint (bE nm scope.names) loc'' n elt mu).map λ(x,mu)=>([x],mu)) items' mu
      else none) 1001 locs:=by
 intro loc' mu a mu' z as vs s Q E _ hg cs hl q
 obtain⟨⟨items,mu1⟩,h1,h2⟩:=bG hg
 obtain⟨hc,h2⟩:=cr h2
 obtain⟨m,rfl⟩:∃m,n=m+1:=by
  cases n with
  |zero=>exact ak h1
  |succ m=>exact⟨m,rfl⟩
 ·unfold wH
  refine wpAny_bind (wpAny_mono (S.i cenv _ loc' it2 mu items mu1 h1 A z as s (λi s'=>wpAny (model prog w) A (runOwn (.compStart (.ListComp elt [⟨t,it',[],0⟩,⟨t2,it2,[],0⟩] scope pos) 1 i (.ref D) cenv) cenv>>=λq0=>again c) Q E s') E ro cs.R cs.fc λit wr St s1 z1 as1 sm1 R1 st1 f1 Wk1 t6 hwr=> ?_)
   (λx s1 hx=>wpAny_bind (wpAny_standAt (wpAny_bind (wpAny_of_eq (i4 h1 cenv x) (wpAny_bind (wpAny_holding hx)))))) λq0 q0 h=>h)
  have cs1:=cs.step R1 st1
  have hwrp:∀b∈wr,b≠D/\b≠cenv.locals/\∀x,cenv.cells.lookup x≠some b:=λb hb=>by
   have hn:=(hwr b hb).1
   refine⟨λe=> ?_,λe=> ?_,λx e=> ?_⟩
   ·obtain⟨o,ho⟩:=cs.aw.live;rw[<-e,hn] at ho;cases ho
   ·obtain⟨o,ho⟩:=cs.fc.awayL.live;rw[<-e,hn] at ho;cases ho
   ·obtain⟨_,_,o,ho⟩:=cs.fc.cells x b e;rw[hn] at ho;cases ho
  have fin:∀s' z' as',bo s1 s'->a.length<=items.length*1->rR h₀ cenv (bE nm scope.names) D loc' z' as' mu' (vs++a) s'.heap->ai (λb=>WC cenv D hb b\/b∈wr) z1 as1 mu1 s1.heap z' as' mu' s'.heap->Q (.again c) s':=λs' z' as' sm' hal c' st'=>by
   refine q s' z' as' (sm1.trans sm') (by lia) c' (st1.wide.after st' (λb hb'=> ?_) λb hb'=>hb'.elim .inl λh=> .inr (hwr b h).1)
   rcases hb'.2 with rfl|h
   ·exact⟨cs1.aw.z,cs1.aw.m,cs1.aw.live⟩
   ·exact cs1.fc.wr b h
  have loop:codeAny (model prog w) A (.compLoop (.ListComp elt [⟨t,it',[],0⟩,⟨t2,it2,[],0⟩] scope pos) 1 it (.ref D) cenv) (λr s'=>match r with| .ok f=>wpAny (model prog w) A (again c) Q E s'| .error e=>cameBackBy (model prog w) A cenv E e s') s1:=
   rS ro.handled Wk1 (Gq elt t it' t2 it2 scope pos it (.ref D) cenv) htg un (locs:=λq0=>True) (λq0 q0 q0=>trivial) (λx hx q0=>by
    have:=aa4.mp hc.2 x hx
    exact Option.isNone_iff_eq_none.mp this) hown hD hDp hwrp (um S ro hD hDp) (cV.refl z1) (aav _) cs1 (λb hb=>(hwr b hb).2) t6 (by lia) h2
    λs' z' as' sm' hal c' st'=>wpAny_pure (fin s' z' as' sm' hal c' st')
  exact wpAny_bind (wpAny_runOwn (ul rfl loop (Wk1.self _ _ _ _ t6 loop)))
theorem Gr(S:ue prog w h₀ r T F hint n){elt:Expr}{gens:List Comprehension}{scope:Scope}{v:V}(h:Gh T F hint nm loc (n+1) elt gens scope mu=some (v,mu')):Ki prog w h₀ r env nm loc mu elt gens scope v mu':=by
 obtain⟨⟨⟨t,it,ifs⟩,q⟩,hg,e0⟩:=bG h
 obtain⟨hc,e1⟩:=cr e0
 obtain⟨items,mu1,h1,e2⟩:=Ex e1
 obtain⟨hl,e3⟩:=cr e2
 clear h e0 e1 e2
 rcases BW hg with⟨hq,rfl⟩|⟨⟨t2,it2⟩,hq,rfl⟩
 ·obtain rfl:=hq
  clear hg
  obtain⟨⟨vs,mu2⟩,h3,h4⟩:=fZ e3
  cases h4
  exact uo (tail:=λacc cenv q0 c=>uk elt ifs acc cenv c) (p:=it.pos) (locs:=λq0=>True) (B:=1) (S.i _ _ _ _ _ _ _ h1) (i4 h1) hc.1 hc.2.1 hc.2.2.1 hc.2.2.2 (λq0 q0 q0 q0=>Go _ _ _ _ _ _ _ _ _) (λA D cenv pos hb c ro hD hDp q0=>um S ro hD hDp) (λq0 q0 q0=>trivial) h3 (ad 19823733534637054080 [_] [] hl)
 ·obtain rfl:=hq
  clear hg
  obtain⟨ht,e4⟩:=cr e3
  obtain⟨⟨vs,mu2⟩,h3,h4⟩:=fZ e4
  cases h4
  exact uo (tail:=λacc cenv pos c=>wH (.ListComp elt [⟨t,it,[],0⟩,⟨t2,it2,[],0⟩] scope pos) it2 acc cenv c) (p:=it.pos) (locs:=λq0=>True) (B:=1001) (S.i _ _ _ _ _ _ _ h1) (i4 h1) hc.1 hc.2.1 hc.2.2.1 hc.2.2.2 (λq0 q0 q0 q0=>Gp _ _ _ _ _ _ _ _ _ _)
   (λA D cenv pos hb c ro hD hDp hown=>zj S ro hD hDp hown ht) (λq0 q0 q0=>trivial) h3 (ad 20032653620557054080 [_] [] hl)
end
end
section
section
variable{prog:Program}{w:World}{h₀:Heap}{r:Nat}{K:Frag}{T:ba}{F:bM}{hint:Nat->Nat->Bool}
variable{env:Env}{nm:ae}{loc:au}{mu mu' mu'':Mu}{n:Nat}
theorem wI{vs:List V}(h:yy T F hint nm loc n [] mu=some (vs,mu')):vs=[]/\mu'=mu:=by
 cases n with
 |zero=>exact ak h
 |succ n=>cases h;exact⟨rfl,rfl⟩
theorem Dz{es:List Expr}{vs:List V}(h:yy T F hint nm loc n es mu=some (vs,mu')):es=[]->vs=[]/\mu'=mu:=by
 rintro rfl;exact wI h
theorem zk(B:iH prog h₀)(H:bV K T h₀){x:Str}{pos:Pos}{v:V}(h:yQ T nm loc x=some v):Ev aC prog w h₀ r env nm loc mu (eval (.Name x pos) env) v mu:=by
 refine Du h λhd k1=> ?_
 clear h
 rename _=>h
 rw[not_or,Bool.not_eq_true,Bool.not_eq_true] at hd
 cases hk:nm.lookup x with
 |none=>rw[hk] at h;exact ak h
 |some k=>
  rw[hk] at h
  cases k with
  |globalImplicit=>exact wG B H hk h hd.1
  |«local»=>exact yV hk h hd.1
  |cell=>exact B0 hk h hd.1
  |free=>exact B1 hk h hd.1 hd.2
  |_=>exact ak h
theorem zl(B:iH prog h₀)(H:bV K T h₀)(hF:BI K prog w h₀ r F)(S:ue prog w h₀ r T F hint n){f:Expr}{args:List Expr}{cp:Pos}(hf:∀o n p,f≠.Attribute o n p){v:V}
  (h:(match bO T nm "list" (.Call f args [] cp) with
    |some es=>if hint cp.line cp.col then(jP es).bind λe=>(bO T nm "range" e).bind λbs=>(jP bs).bind λb=>dY (fu T F hint nm loc n b mu) λx mu=>(bp x).bind λk=>if -1000<=k/\k<=1000 then some (.ref mu.length,mu++[.lst (aM 0 k)]) else none else none
    |none=>dY (fu T F hint nm loc n f mu) λfv mu=>dY (yy T F hint nm loc n args mu) λvs mu=>(t8 fv).bind λv=>fE T F v vs mu)=some (v,mu')):
  Ev aC prog w h₀ r env nm loc mu (eval (.Call f args [] cp) env) v mu':=by
 cases hb:bO T nm "list" (.Call f args [] cp) with
 |some es=>
  rw[hb] at h
  refine eV h λ_ k1=>aT k1 λe he k2=>aT k2 λbs hr k3=>aT k3 λb hbs k4=>cg k4 λx mu1 h1 k5=>aT k5 λk hx k6=>eV k6 λhk k7=> ?_
  clear h k1 k2 k3 k4 k5 k6
  rename _=>h
  refine cJ h λea eb=> ?_
  clear h
  subst ea eb
  rw[ua he] at hb
  rw[ua hbs] at hr
  rw[cb hx] at h1
  have hs:∀a b,e≠.Starred a b:=by
   obtain⟨_,_,_,rfl,_⟩:=iJ hr
   intro a b h;cases h
  exact sZ B H hb hs hk.1 hk.2 (rN B H hr (eJ h1) (S.e _ _ _ _ _ _ _ h1))
 |none=>
  rw[hb] at h
  refine cg h λfv mu1 h1 k1=>cg k1 λvs mu2 h3 k2=>aT k2 λu hu k3=> ?_
  clear h k1 k2
  rename _=>h
  rw[yM hu] at h1
  obtain⟨l1,l2⟩:=S.l env _ _ _ _ _ _ h3
  refine Ca H hF hf (S.e _ _ _ _ _ _ _ h1) l1 l2 (Dz h3) ?_
  have h:(match aL T mu2 u vs with|some x=>some (x,mu2)|none=>F u vs mu2)=some (v,mu'):=h
  cases hu:aL T mu2 u vs with
  |some x=>rw[hu] at h;cases h;exact .inl ⟨rfl,rfl⟩
  |none=>rw[hu] at h;exact .inr h
inductive ES(ev:Expr->Mu->Option (V×Mu))(l:Expr)(mu:Mu)(c:Bool)(mu':Mu):List CmpOp->List Expr->Prop
 |one (op:CmpOp) (x:Expr) (a:V) (mu1:Mu) (b:V):ev l mu=some (a,mu1)->ev x mu1=some (b,mu')->b9 mu' op a b=some c->ES ev l mu c mu' [op] [x]
 |two (op op':CmpOp) (x x':Expr) (a b:V) (mu1 mu2:Mu) (c1:Bool):behindInMarks op' x'=false->ev l mu=some (a,mu1)->ev x mu1=some (b,mu2)->b9 mu2 op a b=some c1->
   (c1=true->∃d,ev x' mu2=some (d,mu')/\b9 mu' op' b d=some c)->(c1=false->c=false/\mu'=mu2)->ES ev l mu c mu' [op,op'] [x,x']
theorem DA{ev:Expr->Mu->Option (V×Mu)}{l:Expr}{ops:List CmpOp}{rs:List Expr}{c:Bool}(h:BS ev l ops rs mu=some (c,mu')):ES ev l mu c mu' ops rs:=by
 refine aT h λq hq k1=>cg k1 λa mu1 h1 k2=>cg k2 λb mu2 h2 k3=>aT k3 λc1 h3 k4=> ?_
 clear h k1 k2 k3
 obtain⟨⟨op,x⟩,q2⟩:=q
 rcases Gg hq with⟨rfl,rfl,e3⟩|⟨⟨op',x'⟩,e3,rfl,rfl,hm⟩
 ·clear hq
  cases e3
  refine cJ k4 λea eb=> ?_
  clear k4
  subst ea eb
  exact .one _ _ _ _ _ h1 h2 h3
 ·clear hq
  cases e3
  refine .two _ _ _ _ _ _ _ _ _ hm h1 h2 h3 (λhc=> ?_) (λhc=> ?_)
  ·subst hc
   refine cg (xx rfl k4) λd mu3 h4 k5=>jK k5 λc' h5 ea eb=> ?_
   subst eb ea
   exact⟨d,h4,h5⟩
  ·subst hc
   exact cJ k4 λea eb=>⟨ea.symm,eb.symm⟩
theorem Gs(B:iH prog h₀)(H:bV K T h₀)(hF:BI K prog w h₀ r F)(S:ue prog w h₀ r T F hint n){x:Expr}{v:V}(h:fu T F hint nm loc (n+1) x mu=some (v,mu')):Ev aC prog w h₀ r env nm loc mu (eval x env) v mu':=by
 cases x with
 |Constant c k pos=>
  refine jK h λu h1 ea eb=> ?_
  clear h
  subst ea eb
  cases c with
  |none=>cases h1;exact BY
  |bool b=>cases h1;exact BZ
  |int i=>cases h1;exact Ez
  |_=>exact ak h1
 |Name x pos=>
  refine jK h λu h1 ea eb=> ?_
  clear h
  subst ea eb
  exact zk B H h1
 |BoolOp op vs pos=>exact S.bs _ _ _ _ _ _ _ _ h pos
 |BinOp l op r pos=>
  refine cg h λa mu1 h1 k1=>cg k1 λb mu2 h2 k2=> ?_
  clear h k1
  rename _=>h
  refine jK h λc h3 ea eb=> ?_
  clear h
  subst ea eb
  exact EM B (S.e _ _ _ _ _ _ _ h1) (S.e _ _ _ _ _ _ _ h2) h3
 |UnaryOp op x pos=>
  refine cg h λa mu1 h1 k1=> ?_
  clear h
  rename _=>h
  refine jK h λu h2 ea eb=> ?_
  clear h
  subst ea eb
  cases op with
  |USub=>
   obtain⟨i,h3,h4⟩:=fZ h2
   rw[cb h3] at h1
   cases h4
   exact EO (S.e _ _ _ _ _ _ _ h1)
  |Not=>
   obtain⟨b,h3,h4⟩:=fZ h2
   cases h4
   exact EP (S.e _ _ _ _ _ _ _ h1) h3
  |_=>exact ak h2
 |IfExp t a b pos=>
  refine cg h λc mu1 h1 k1=> ?_
  clear h
  rename _=>h
  exact Gn (S.t _ _ _ _ _ _ _ h1) (S.e _ _ _ _ _ _ _ h)
 |Compare l ops rs pos=>
  refine sP h λp h1 e=> ?_
  clear h
  obtain⟨c,mu2⟩:=p
  obtain rfl:V.bool c=v:=congrArg Prod.fst e
  obtain rfl:mu2=mu':=congrArg Prod.snd e
  clear e
  have hk:=DA h1
  clear h1
  cases hk with
  |one op x a mu1 b g1 g2 g3=>exact EN (S.e _ _ _ _ _ _ _ g1) (S.e _ _ _ _ _ _ _ g2) g3 (o8 _ g2)
  |two op op' x x' a b mu1 mu2 c1 hm g1 g2 g3 g4 g5=>exact zb (S.e _ _ _ _ _ _ _ g1) (S.e _ _ _ _ _ _ _ g2) g3 (λe=>let⟨d,k1,k2⟩:=g4 e;⟨d,c,S.e _ _ _ _ _ _ _ k1,k2,rfl⟩) (λe=>let⟨k1,k2⟩:=g5 e;⟨congrArg V.bool k1,k2⟩) hm
 |Attribute o name pos=>
  refine eV h λhb k1=>cg k1 λa mu1 h1 k2=> ?_
  clear h k1
  rename _=>h
  refine jK h λu h2 ea eb=> ?_
  clear h
  subst ea eb
  exact B7 H hb (S.e _ _ _ _ _ _ _ h1) h2
 |Subscript o i pos=>
  refine cg h λov mu1 h1 k1=> ?_
  clear h
  rename _=>h
  cases hs:lv i with
  |some q=>
   rw[hs] at h
   refine cg h λka mu2 h2 k1=>cg k1 λkb mu3 h3 k2=> ?_
   clear h k1
   rename _=>h
   refine jK h λu h4 ea eb=> ?_
   clear h
   subst ea eb
   obtain⟨p,hs⟩:=yR hs
   subst hs
   exact EQ (S.e _ _ _ _ _ _ _ h1) (S.o _ _ _ _ _ _ _ h2) (S.o _ _ _ _ _ _ _ h3) h4
  |none=>
   rw[hs] at h
   refine cg h λiv mu2 h2 k1=>aT k1 λk hk k2=> ?_
   clear h k1
   rename _=>h
   refine jK h λu h3 ea eb=> ?_
   clear h
   subst ea eb
   rw[cb hk] at h2
   exact B8 (S.e _ _ _ _ _ _ _ h1) (S.e _ _ _ _ _ _ _ h2) h3
 |Tuple es k pos=>
  refine cg h λvs mu1 h1 k1=>eV k1 λhl k2=> ?_
  clear h k1
  rename _=>h
  refine cJ h λea eb=> ?_
  clear h
  subst ea eb
  exact y7 (S.l env _ _ _ _ _ _ h1).2 hl
 |List es pos=>
  refine cg h λvs mu1 h1 k1=>eV k1 λhl k2=> ?_
  clear h k1
  rename _=>h
  have h:=aag h
  cases hh:hint pos.line pos.col with
  |true=>rw[hh] at h;cases h;exact y8 (S.l env _ _ _ _ _ _ h1).2 hl
  |false=>rw[hh] at h;cases h;exact B9 (S.l env _ _ _ _ _ _ h1).2 hl
 |Call f args kws pos=>
  refine eV h λhk k1=> ?_
  clear h
  rename _=>h
  rw[aaH] at hk
  subst hk
  cases ha:mH f with
  |some q=>
   rw[ha] at h
   refine eV h λhc k1=>cg k1 λov mu1 h1 k2=>aT k2 λm h2 k3=>cg k3 λvs mu2 h3 k4=> ?_
   clear h k1 k2 k3
   rename _=>h
   obtain⟨l1,l2⟩:=S.l env _ _ _ _ _ _ h3
   have:=BU ha
   subst this
   exact Cc H hF hc.1 hc.2.1 hc.2.2 (S.e _ _ _ _ _ _ _ h1) h2 l1 l2 (Dz h3) h
  |none=>
   rw[ha] at h
   exact zl B H hF S (BV ha) h
 |ListComp elt gens scope pos=>exact λA z as s Q E ro R f q=>S.c env nm loc elt gens scope mu v mu' h pos none A z as s Q E ro R f q
 |_=>exact ak h
theorem Gu(S:ue prog w h₀ r T F hint n){es:List Expr}{vs:List V}(h:yy T F hint nm loc (n+1) es mu=some (vs,mu')):(starEach es env).any (·.1)=false/\∀pos,Ev aA prog w h₀ r env nm loc mu (spliced (backTo pos (starEach es env))) vs mu':=by
 cases es with
 |nil=>
  obtain⟨rfl,rfl⟩:=wI h
  exact⟨rfl,sX⟩
 |cons e rest=>
  refine cg h λv mu1 h1 k1=>cg k1 λvs1 mu2 h2 k2=> ?_
  clear h k1
  rename _=>h
  refine cJ h λea eb=> ?_
  clear h
  subst ea eb
  have hs:=eJ h1
  obtain⟨l1,l2⟩:=S.l env _ _ _ _ _ _ h2
  exact⟨by rw[bF hs];exact l1,λpos=>lD hs (S.e _ _ _ _ _ _ _ h1) (l2 pos)⟩
end
end
section
section
variable{prog:Program}{w:World}{h₀:Heap}{r:Nat}{K:Frag}{T:ba}{F:bM}{hint:Nat->Nat->Bool}
variable{env:Env}{nm:ae}{loc:au}{mu mu' mu'':Mu}{n:Nat}
theorem zm(T:ba)(F:bM)(hint:Nat->Nat->Bool)(nm:ae)(loc:au)(n:Nat)(e:Expr)(mu:Mu):yx T F hint nm loc (n+1) e mu=(match bO T nm "range" e with
  |some es=>(match es with
   |[]=>none
   |b::r=>if r.isEmpty=true then dY (fu T F hint nm loc n b mu) λx mu=>(bp x).bind λk=>if -1000<=k/\k<=1000 then some (aM 0 k,mu) else none
    else(jP r).bind λc=>dY (fu T F hint nm loc n b mu) λy mu=>dY (fu T F hint nm loc n c mu) λx mu=>(bp y).bind λj=>(bp x).bind λk=>if -1000<=j/\j<=1000/\-1000<=k/\k<=1000 then some (aM j k,mu) else none)
  |none=>match bO T nm "enumerate" e with
   |some es=>(jP es).bind λe=>dY (fu T F hint nm loc n e mu) λx mu=>(lt x).map λl=>(fD 0 l,mu)
   |none=>dY (fu T F hint nm loc n e mu) λx mu=>(ww x).map λl=>(l,mu)):=rfl
theorem Gv(B:iH prog h₀)(H:bV K T h₀)(S:ue prog w h₀ r T F hint n){x:Expr}{l:List V}(h:yx T F hint nm loc (n+1) x mu=some (l,mu')):EK prog w h₀ r T env nm loc mu x l mu':=by
 cases hb:bO T nm "range" x with
 |some es=>
  have h0:=(zm ..).symm.trans h
  clear h
  rw[hb] at h0
  cases es with
  |nil=>exact ak h0
  |cons b rest=>
   by_cases ho:rest.isEmpty=true
   ·refine cg (xx ho h0) λv mu1 h1 k1=>aT k1 λk h2 k2=>eV k2 λhk k3=>cJ k3 λea eb=> ?_
    clear h0 k1 k2 k3
    subst ea eb
    rw[aaH.mp ho] at hb
    rw[cb h2] at h1
    exact rO (rN B H hb (eJ h1) (S.e _ _ _ _ _ _ _ h1)) (by decide) (by decide) hk.1 hk.2
   ·refine aT (yH ho h0) λc hc k0=>cg k0 λv mu1 h1 k1=>cg k1 λu mu2 h2 k2=>aT k2 λj hj k3=>aT k3 λk hk k4=>eV k4 λhi k5=>cJ k5 λea eb=> ?_
    clear h0 k0 k1 k2 k3 k4 k5
    subst ea eb
    rw[ua hc] at hb
    rw[cb hj] at h1
    rw[cb hk] at h2
    exact rO (xM B H hb (eJ h1) (eJ h2) (S.e _ _ _ _ _ _ _ h1) (S.e _ _ _ _ _ _ _ h2)) hi.1 hi.2.1 hi.2.2.1 hi.2.2.2
 |none=>
  have h:=(zm ..).symm.trans h
  rw[hb] at h
  cases he:bO T nm "enumerate" x with
  |some es=>
   rw[he] at h
   refine aT h λe h0 k0=>cg k0 λv mu1 h1 k1=>jK k1 λl h2 ea eb=> ?_
   clear h k0 k1
   subst ea eb
   rw[ua h0] at he
   rw[sQ h2] at h1
   exact ze B H he (eJ h1) (S.e _ _ _ _ _ _ _ h1)
  |none=>
   rw[he] at h
   refine cg h λv mu1 h1 k1=>jK k1 λl h2 ea eb=> ?_
   clear h k1
   subst ea eb
   cases v with
   |lst l'=>exact Dv h2 (zd (S.e _ _ _ _ _ _ _ h1))
   |tup l'=>exact Dv h2 (Cd (S.e _ _ _ _ _ _ _ h1))
   |_=>exact ak h2
theorem Gw(S:ue prog w h₀ r T F hint n){x:Option Expr}{k:Option Int}(h:F1 T F hint nm loc (n+1) x mu=some (k,mu')):Ev yX prog w h₀ r env nm loc mu (evalPart x env) k mu':=by
 cases x with
 |none=>exact cJ h λea eb=>ea▸eb▸λA z as s Q E ro R f q=>wpAny_pure (bq (rep:=yX) R f q (IsPart.none))
 |some x=>
  refine cg h λv mu1 h1 k1=>aT k1 λi h2 k2=>eV k2 λhk k3=>cJ k3 λea eb=> ?_
  clear h k1 k2 k3
  subst ea eb
  rw[cb h2] at h1
  exact λA z as s Q E ro R f q=>S.e _ _ _ _ _ _ _ h1 A z as s Q E ro R f λy s' z' as' sm R' st f' ry=>ry.eInt (P:=λy=>Q y s') λt=>q _ s' z' as' sm R' st f' (IsPart.int _ _)
theorem ET(S:ue prog w h₀ r T F hint n){op:BoolOp}{es:List Expr}{v:V}(h:xA T F hint nm loc (n+1) op es mu=some (v,mu'))(pos:Pos):Ev aC prog w h₀ r env nm loc mu (eval (.BoolOp op es pos) env) v mu':=by
 cases es with
 |nil=>exact ak h
 |cons e rest=>
  cases rest with
  |nil=>exact λA z as s Q E ro R f q=>BoolOp_one (S.e env nm loc e mu v mu' h A z as s Q E ro R f q)
  |cons e2 rest=>
   refine cg h λa mu1 h1 k1=>aT k1 λb h2 k2=> ?_
   clear h k1
   intro A z as s Q E ro R f q
   cases op with
   |And=>
    refine BoolOp_and (S.e _ _ _ _ _ _ _ h1 A z as s _ E ro R f λx s1 z1 as1 sm1 R1 st1 f1 r1=>f9 h2 A z1 as1 x s1 _ E ro R1 f1 r1 λy s2 z2 as2 sm2 R2 st2 f2 r2=> ?_)
    clear h1 h2
    subst r2
    cases y with
    |false=>exact cJ (xx rfl k2) λea eb=>by subst ea eb;exact q x s2 z2 as2 (sm1.trans sm2) R2 (st1.trans0 st2) f2 (r1.mono st2.zsub st2.asub)
    |true=>exact S.bs _ _ _ _ _ _ _ _ (yH aaG k2) pos A z2 as2 s2 Q E ro R2 f2 λu s3 z3 as3 sm3 R3 st3 f3 r3=>q u s3 z3 as3 ((sm1.trans sm2).trans sm3) R3 ((st1.trans0 st2).trans0 st3) f3 r3
   |Or=>
    refine BoolOp_or (S.e _ _ _ _ _ _ _ h1 A z as s _ E ro R f λx s1 z1 as1 sm1 R1 st1 f1 r1=>f9 h2 A z1 as1 x s1 _ E ro R1 f1 r1 λy s2 z2 as2 sm2 R2 st2 f2 r2=> ?_)
    clear h1 h2
    subst r2
    cases y with
    |true=>exact cJ (xx rfl k2) λea eb=>by subst ea eb;exact q x s2 z2 as2 (sm1.trans sm2) R2 (st1.trans0 st2) f2 (r1.mono st2.zsub st2.asub)
    |false=>exact S.bs _ _ _ _ _ _ _ _ (yH aaG k2) pos A z2 as2 s2 Q E ro R2 f2 λu s3 z3 as3 sm3 R3 st3 f3 r3=>q u s3 z3 as3 ((sm1.trans sm2).trans sm3) R3 ((st1.trans0 st2).trans0 st3) f3 r3
theorem Gx(S:ue prog w h₀ r T F hint n){op:BoolOp}{es:List Expr}{b:Bool}(h:F2 T F hint nm loc (n+1) op es mu=some (b,mu')):Ev kD prog w h₀ r env nm loc mu (allTrue op es env) b mu':=by
 cases es with
 |nil=>
  refine cJ h λea eb=> ?_
  clear h
  subst ea eb
  exact λA z as s Q E ro R f q=>by cases op<;>exact wpAny_pure (bq (rep:=kD) R f q rfl)
 |cons e rest=>
  refine cg h λa mu1 h1 k1=> ?_
  clear h
  intro A z as s Q E ro R f q
  show wpAny (model prog w) A (isTrue e env (eval e env)>>=_) Q E s
  refine wpAny_bind (S.t _ _ _ _ _ _ _ h1 A z as s _ E ro R f λx s1 z1 as1 sm1 R1 st1 f1 r1=> ?_)
  clear h1
  subst r1
  have go:ub op x=false->wpAny (model prog w) A (allTrue op rest env) Q E s1:=λhs=>
   S.a _ _ _ _ _ _ _ _ (yH (by rw[hs];exact aaG) k1) A z1 as1 s1 Q E ro R1 f1 λu s3 z3 as3 sm3 R3 st3 f3 r3=>q u s3 z3 as3 (sm1.trans sm3) R3 (st1.trans0 st3) f3 r3
  have fin:ub op x=true->wpAny (model prog w) A (pure x) Q E s1:=λhs=>cJ (xx hs k1) λea eb=>wpAny_pure (q _ s1 z1 as1 sm1 (eb▸R1) (eb▸st1) (eb▸f1) ea)
  cases op<;>cases x<;>first|exact fin rfl|exact go rfl
theorem EU(S:ue prog w h₀ r T F hint n){es:List Expr}{b:Bool}(h:vh T F hint nm loc (n+1) es mu=some (b,mu')):Ev kD prog w h₀ r env nm loc mu (wF env es) b mu':=by
 cases es with
 |nil=>exact cJ h λea eb=>ea▸eb▸λA z as s Q E ro R f q=>wpAny_tests_nil (bq (rep:=kD) R f q rfl)
 |cons e rest=>
  cases rest with
  |nil=>exact λA z as s Q E ro R f q=>wpAny_tests_one (S.t env nm loc e mu b mu' h A z as s Q E ro R f q)
  |cons _ _=>exact ak h
theorem zn(S:ue prog w h₀ r T F hint n){x:Expr}{b:Bool}(hx:∀whole:Sem Value,isTrue x env whole=(do let v <-whole;standAt x.pos;holding [v] (truthy v)))
  (h:(dY (fu T F hint nm loc n x mu) λv mu=>(gK v).map λb=>(b,mu))=some (b,mu')):Ev kD prog w h₀ r env nm loc mu (isTrue x env (eval x env)) b mu':=by
 refine cg h λa mu1 e1 k1=>jK k1 λc e2 ea eb=> ?_
 clear h k1
 subst ea eb
 intro A z as s Q E ro R f q
 rw[hx]
 exact wpAny_bind (wpAny_mono (y9 (S.e _ _ _ _ _ _ _ e1) e2 ro R f q) (λv s' hv=>wpAny_bind (wpAny_standAt (wpAny_holding hv))) λq0 q0 h=>h)
theorem Gy(S:ue prog w h₀ r T F hint n){x:Expr}{b:Bool}(h:oY T F hint nm loc (n+1) x mu=some (b,mu')):Ev kD prog w h₀ r env nm loc mu (isTrue x env (eval x env)) b mu':=by
 cases x with
 |UnaryOp op y pos=>
  by_cases ho:ol op=true
  ·have k0:=xx ho h
   clear h
   obtain rfl:=yS ho
   refine cg k0 λa mu1 h1 k1=>cJ k1 λea eb=> ?_
   clear k0 k1
   subst ea eb
   exact λA z as s Q E ro R f q=>isTrue_not (S.t _ _ _ _ _ _ _ h1 A z as s _ E ro R f λx s1 z1 as1 sm1 R1 st1 f1 r1=>q _ s1 z1 as1 sm1 R1 st1 f1 (congrArg _ r1))
  ·refine zn S (λq0=> ?_) (yH ho h)
   cases op<;>first|rfl|exact absurd rfl ho
 |BoolOp op vs pos=>exact λA z as s Q E ro R f q=>wpAny_isTrue_BoolOp (S.a _ _ _ _ _ _ _ _ h A z as s Q E ro R f q)
 |IfExp a b c pos=>exact ak h
 |Compare l ops rs pos=>
  have hk:=DA h
  clear h
  cases hk with
  |one op x a mu1 b h1 h2 h3=>
   intro A z as s Q E ro R f q
   exact wpAny_isTrue_Compare1 (pos:=pos) (S.e _ _ _ _ _ _ _ h1 A z as s _ E ro R f λxa s1 z1 as1 sm1 R1 st1 f1 r1=>S.e _ _ _ _ _ _ _ h2 A z1 as1 s1 _ E ro R1 f1 λxb s2 z2 as2 sm2 R2 st2 f2 r2=>
     mK h3 A z2 as2 xa xb s2 _ E ro R2 f2 (r1.mono st2.zsub st2.asub) r2 λy s3 z3 as3 sm3 R3 st3 f3 r3=>f9 (a:= .bool _) rfl A z3 as3 y s3 Q E ro R3 f3 r3 λt s4 z4 as4 sm4 R4 st4 f4 r4=>
      q t s4 z4 as4 (((sm1.trans sm2).trans sm3).trans sm4) R4 (((st1.trans0 st2).trans0 st3).trans0 st4) f4 r4) (o8 _ h2)
  |two op op' x x' a b mu1 mu2 c1 hm h1 h2 h3 h4 h5=>exact xL (S.e _ _ _ _ _ _ _ h1) (S.e _ _ _ _ _ _ _ h2) h3 (λe=>let⟨d,k1,k2⟩:=h4 e;⟨d,S.e _ _ _ _ _ _ _ k1,k2⟩) h5 hm
 |_=>exact zn S (λq0=>rfl) h
theorem L9(B:iH prog h₀)(H:bV K T h₀)(hF:BI K prog w h₀ r F)(n:Nat):ue prog w h₀ r T F hint n:=by
 induction n with
 |zero=>exact⟨λq0 q0 q0 q0 q0 q0 q0 h=>ak h,λq0 q0 q0 q0 q0 q0 q0 q0 q0 h=>ak h,λq0 q0 q0 q0 q0 q0 q0 h=>ak h,λq0 q0 q0 q0 q0 q0 q0 h=>ak h,λq0 q0 q0 q0 q0 q0 q0 h=>ak h,λq0 q0 q0 q0 q0 q0 q0 q0 h=>ak h,λq0 q0 q0 q0 q0 q0 q0 h=>ak h,λq0 q0 q0 q0 q0 q0 q0 q0 h=>ak h,λq0 q0 q0 q0 q0 q0 q0 h=>ak h⟩
 |succ n S=>exact⟨λq0 q0 q0 q0 q0 q0 q0 h=>Gs B H hF S h,λq0 q0 q0 q0 q0 q0 q0 q0 q0 h=>Gr S h,λq0 q0 q0 q0 q0 q0 q0 h=>Gv B H S h,λq0 q0 q0 q0 q0 q0 q0 h=>Gw S h,λq0 q0 q0 q0 q0 q0 q0 h=>Gu S h,λq0 q0 q0 q0 q0 q0 q0 q0 h=>ET S h,λq0 q0 q0 q0 q0 q0 q0 h=>Gy S h,λq0 q0 q0 q0 q0 q0 q0 q0 h=>Gx S h,λq0 q0 q0 q0 q0 q0 q0 h=>EU S h⟩
end
end
section
section
variable{prog:Program}{w:World}{h₀:Heap}{r:Nat}{K:Frag}{T:ba}{F:bM}{hint:Nat->Nat->Bool}
variable{env:Env}{nm:ae}{loc loc':au}{mu mu' mu'':Mu}{n:Nat}
noncomputable def Ls(prog:Program)(w:World)(h₀:Heap)(r:Nat)(env:Env)(nm:ae)(loc:au)(mu:Mu)(k:Value->Sem Unit)(v:V)(loc':au)(mu':Mu):Prop:=
 ∀(A:Around)(z:af)(as:aX)(x:Value)(s:Shared)(Q:Unit->Shared->Prop)(E:Value->Shared->Prop),dK A r->MR h₀ z as mu s.heap->FR h₀ env nm loc z as mu s.heap->aC z as v x->
  (∀s' z' as',bo s s'->MR h₀ z' as' mu' s'.heap->ai (Wr env) z as mu s.heap z' as' mu' s'.heap->FR h₀ env nm loc' z' as' mu' s'.heap->Q () s')->wpAny (model prog w) A (k x) Q E s
noncomputable def Kj(prog:Program)(w:World)(h₀:Heap)(r:Nat)(env:Env)(nm:ae)(loc:au)(mu:Mu)(ks:List (Value->Sem Unit))(vs:List V)(loc':au)(mu':Mu):Prop:=
 ∀(A:Around)(z:af)(as:aX)(xs:List Value)(s:Shared)(Q:Unit->Shared->Prop)(E:Value->Shared->Prop),dK A r->MR h₀ z as mu s.heap->FR h₀ env nm loc z as mu s.heap->aA z as vs xs->
  (∀s' z' as',bo s s'->MR h₀ z' as' mu' s'.heap->ai (Wr env) z as mu s.heap z' as' mu' s'.heap->FR h₀ env nm loc' z' as' mu' s'.heap->Q () s')->wpAny (model prog w) A (assignInOrder ks xs) Q E s
theorem ai.transWr{z₁ z₂ z₃:af}{a₁ a₂ a₃:aX}{m₁ m₂ m₃:Mu}{h₁ h₂ h₃:Heap}(x:ai (Wr env) z₁ a₁ m₁ h₁ z₂ a₂ m₂ h₂)(f:FR h₀ env nm loc z₂ a₂ m₂ h₂)(y:ai (Wr env) z₂ a₂ m₂ h₂ z₃ a₃ m₃ h₃):ai (Wr env) z₁ a₁ m₁ h₁ z₃ a₃ m₃ h₃:=
 x.trans y λa ha=>f.wr a ha
theorem pg{t:Expr}{v:V}{y:au×Mu}(h:BX T F hint nm n t v loc mu=some y):∀a b,t≠.Starred a b:=by
 rintro a b rfl
 cases n<;>exact ak h
theorem jy{t:Expr}(h:∀a b,t≠.Starred a b)(rest:List Expr)(env:Env):assignEach (t::rest) env=(false,assign t env)::assignEach rest env:=by
 cases t<;>first|rfl|exact absurd rfl (h _ _)
theorem xP{ts:List Expr}{vs:List V}{y:au×Mu}(h:xB T F hint nm n ts vs loc mu=some y):assignEach ts env=ts.map λt=>(false,assign t env):=by
 induction n generalizing ts vs loc mu with
 |zero=>exact ak h
 |succ n ih=>
  cases ts with
  |nil=>rfl
  |cons t ts=>
   cases vs with
   |nil=>exact ak h
   |cons v vs=>exact cg h λloc1 mu1 h1 h2=>by rw[jy (pg h1),ih h2];rfl
theorem wJ(H:bV K T h₀)(S:∀n,ue prog w h₀ r T F hint n)(n:Nat):
  (∀env nm loc mu t v loc' mu',BX T F hint nm n t v loc mu=some (loc',mu')->Ls prog w h₀ r env nm loc mu (assign t env) v loc' mu')/\
  (∀env nm loc mu ts vs loc' mu',xB T F hint nm n ts vs loc mu=some (loc',mu')->Kj prog w h₀ r env nm loc mu (ts.map λt=>assign t env) vs loc' mu'):=by
 induction n with
 |zero=>exact⟨λq0 q0 q0 q0 q0 q0 q0 q0 h=>ak h,λq0 q0 q0 q0 q0 q0 q0 q0 h=>ak h⟩
 |succ n ih=>
  refine⟨?_,?_⟩
  ·intro env nm loc mu t v loc' mu' h
   cases t with
   |Name y pos=>
    refine eV h λhk k1=>cJ k1 λea eb=> ?_
    clear h k1
    subst ea eb
    exact λA z as x s Q E ro R f rx q=>wpAny_assign_Name (jQ hk R f rx λs1 sm1 R1 st1 f1=>q s1 z as sm1 R1 (st1.mono λa ha=>ha.wr) f1)
   |Attribute o a pos=>
    refine cg h λov mu1 h1 k1=>sP k1 λmu2 h2 k2=> ?_
    clear h k1
    obtain rfl:loc=loc':=congrArg Prod.fst k2
    obtain rfl:mu2=mu':=congrArg Prod.snd k2
    clear k2
    intro A z as x s Q E ro R f rx q
    rw[arm_assign_Attribute]
    exact wpAny_bind (wpAny_holding ((S n).e _ _ _ _ _ _ _ h1 A z as s _ E ro R f λy s1 z1 as1 sm1 R1 st1 f1 r1=>wpAny_bind (wpAny_standAt (wpAny_bind (wpAny_holding (o4 H h2 A z1 as1 y x s1 _ E ro R1 f1 r1 (rx.mono st1.zsub st1.asub) λq0 s2 z2 as2 sm2 R2 st2 f2 q0=>wpAny_release' (q s2 z2 as2 (sm1.trans sm2) R2 (st1.trans0 st2).wide f2)))))))
   |Subscript o i pos=>
    refine cg h λov mu1 h1 k1=>cg k1 λiv mu2 h2 k2=>sP k2 λmu3 h3 k3=>aT h3 λi hi k4=>aT k4 λk hk k5=>aT k5 λl hm k6=>eV k6 λhc k7=> ?_
    clear h k1 k2 h3 k4 k5 k6
    obtain rfl:loc=loc':=congrArg Prod.fst k3
    obtain rfl:mu3=mu':=congrArg Prod.snd k3
    clear k3
    obtain rfl:=aag k7
    clear k7
    obtain rfl:=oT hi
    obtain rfl:=cb hk
    clear hi hk
    intro A z as x s Q E ro R f rx q
    rw[arm_assign_Subscript]
    exact wpAny_bind (wpAny_holding ((S n).e _ _ _ _ _ _ _ h1 A z as s _ E ro R f λy s1 z1 as1 sm1 R1 st1 f1 r1=>wpAny_bind (wpAny_holding ((S n).e _ _ _ _ _ _ _ h2 A z1 as1 s1 _ E ro R1 f1 λk s2 z2 as2 sm2 R2 st2 f2 r2=>wpAny_bind (wpAny_standAt (wpAny_bind (wpAny_holding (o5 (mF hm) hc.1 hc.2.1 hc.2.2 A z2 as2 y x k s2 _ E ro R2 f2 (r1.mono st2.zsub st2.asub) r2 ((rx.mono st1.zsub st1.asub).mono st2.zsub st2.asub) λq0 s3 z3 as3 sm3 R3 st3 f3=>wpAny_release' (q s3 z3 as3 ((sm1.trans sm2).trans sm3) R3 ((st1.trans0 st2).trans0 st3).wide f3)))))))))
   |Tuple ts k pos=>
    refine aT h λvs hv k1=>eV k1 λhl k2=> ?_
    clear h k1
    obtain rfl:=wq hv
    clear hv
    intro A z as x s Q E ro R f rx q
    refine rx.eTup λq0 q0 q0 ha rl=> ?_
    clear rx
    have hE:=xP (env:=env) k2
    refine wpAny_assign_Tuple ro.handled (cW (R.zin _ _ ha)) (by rw[hE,aaq,hl,rl.length,aaJ]) (by rw[hE];exact rQ _ _) λh' x=> ?_
    rw[hE,aba]
    have x1:iV s.heap h':=λb o e=>x b o (λq=>by rw[q,aB] at e;cases e) e
    have st1:ai gh z as mu s.heap z as mu h':=ai.ext _ x1
    exact ih.2 env nm loc mu ts vs loc' mu' k2 A z as _ {s with heap:=h'} Q E ro (R.ext x1) (f.step st1) rl λs2 z2 as2 sm2 R2 st2 f2=>q s2 z2 as2 (bo.trans ⟨h',s.toks,rfl⟩ sm2) R2 (ai.transWr st1.wide (f.step st1) st2) f2
   |_=>exact ak h
  ·intro env nm loc mu ts vs loc' mu' h
   cases ts with
   |nil=>
    refine eV h λhv k1=>cJ k1 λea eb=> ?_
    clear h k1
    subst ea eb
    intro A z as xs s Q E ro R f rl q
    rw[aaH.mp hv] at rl
    exact rl.eNil (wpAny_assignInOrder_none (q s z as (bo.refl s) R (ai.refl _ _ _ _ _) f))
   |cons t ts=>
    cases vs with
    |nil=>exact ak h
    |cons v vs=>
     refine cg h λloc1 mu1 h1 h2=> ?_
     clear h
     intro A z as xs s Q E ro R f rl q
     refine rl.eCons λq0 q0 rx rl=> ?_
     exact wpAny_assignInOrder_more (ih.1 env nm loc mu t v loc1 mu1 h1 A z as _ s _ E ro R f rx λs1 z1 as1 sm1 R1 st1 f1=>ih.2 env nm loc1 mu1 ts vs loc' mu' h2 A z1 as1 _ s1 Q E ro R1 f1 (rl.mono st1.zsub st1.asub) λs2 z2 as2 sm2 R2 st2 f2=>q s2 z2 as2 (sm1.trans sm2) R2 (ai.transWr st1 f1 st2) f2)
noncomputable def eE:List Str->List V->au->au
 |x::xs,v::vs,loc=>eE xs vs (jD x v loc)
 |_,_,loc=>loc
theorem xQ:∀{xs:List Str},mG xs=true->xs.Nodup:=by
 intro L0
 induction L0 with
 |nil=>
  intro _
  exact List.nodup_nil
 |cons x r ih=>
  intro h
  unfold mG at h
  rw[aan,Bool.not_eq_true'] at h
  refine abc.mpr ⟨λhm=> ?_,ih h.2⟩
  rw[abd.mpr hm] at h
  cases h.1
theorem kH(y:Str):∀{xs:List Str}{vs:List V}{loc:au},xs.Nodup->xs.length=vs.length->(eE xs vs loc).lookup y=match(xs.zip vs).lookup y with|some v=>some v|none=>loc.lookup y:=by
 intro L0
 induction L0 with
 |nil=>
  intro t1
  cases t1 with
  |nil=>
   intro loc _ _
   exact rfl
  |cons _ _=>
   intro _ _ h
   cases h
 |cons x xs ih=>
  intro t1
  cases t1 with
  |nil=>
   intro _ _ h
   cases h
  |cons v vs=>
   intro loc hn hl
   obtain⟨h1,h2⟩:=abc.mp hn
   unfold eE
   rw[ih h2 (by simpa using hl),aaW,aau,dy]
   cases hy:y==x with
   |true=>
    have:=b6 hy;subst this
    have:(xs.zip vs).lookup y=none:=by
     cases e:(xs.zip vs).lookup y with
     |none=>rfl
     |some u=>exact absurd (List.of_mem_zip (mem_of_lookup e)).1 h1
    rw[this];rfl
   |false=>rfl
theorem vv(y:Str){xs:List Str}{vs:List V}(hn:xs.Nodup)(hl:xs.length=vs.length):(xs.reverse.zip vs.reverse).lookup y=(xs.zip vs).lookup y:=by
 have e:∀{xs:List Str}{vs:List V},xs.length=vs.length->xs.reverse.zip vs.reverse=(xs.zip vs).reverse:=by
  intro xs
  induction xs with
  |nil=>intro vs hl;cases vs with|nil=>rfl|cons _ _=>cases hl
  |cons x xs ih=>
   intro vs hl
   cases vs with
   |nil=>cases hl
   |cons v vs=>
    have hl':xs.length=vs.length:=by simpa using hl
    rw[abe,abe,List.zip_append (by rw[abf,abf];exact hl'),ih hl']
    rw[show(x::xs).zip (v::vs)=(x,v)::xs.zip vs from rfl,abe]
    rfl
 have e:=e hl
 rw[e]
 have key:∀{l:List (Str×V)},(l.map Prod.fst).Nodup->l.reverse.lookup y=l.lookup y:=by
  intro l
  induction l with
  |nil=>intro _;rfl
  |cons p l ih=>
   intro hn
   obtain⟨k,v⟩:=p
   rw[aaX] at hn
   obtain⟨h1,h2⟩:=abc.mp hn
   have c1:∀m:List (Str×V),List.lookup y ((k,v)::m)=match y==k with|true=>some v|false=>m.lookup y:=λm=>aau
   rw[abe,gN,ih h2,c1,c1]
   cases hy:y==k with
   |true=>
    have:=b6 hy;subst this
    have:l.lookup y=none:=by
     cases e:l.lookup y with
     |none=>rfl
     |some u=>exact absurd (aak.mpr ⟨_,mem_of_lookup e,rfl⟩) h1
    rw[this]
   |false=>
    dsimp only
    cases l.lookup y with
    |some _=>rfl
    |none=>rfl
 refine key ?_
 rw[List.map_fst_zip (ad 17845944482 [_,_] [] hl)]
 exact hn
end
end
section
section
variable{prog:Program}{w:World}{h₀:Heap}{r:Nat}{K:Frag}{T:ba}{F:bM}{hint:Nat->Nat->Bool}
variable{env:Env}{nm:ae}{loc loc':au}{mu mu' mu'':Mu}{n:Nat}
noncomputable def wK(z:af)(as:aX):Fl->Flow->Prop
 | .next,f=>f= .next
 | .ret v,f=>∃x,f= .ret x/\aC z as v x
noncomputable def DB(prog:Program)(w:World)(h₀:Heap)(r:Nat)(env:Env)(nm:ae)(loc:au)(mu:Mu)(t:Sem Flow)(fl:Fl)(loc':au)(mu':Mu):Prop:=
 ∀(A:Around)(z:af)(as:aX)(s:Shared)(Q:Flow->Shared->Prop)(E:Value->Shared->Prop),dK A r->MR h₀ z as mu s.heap->FR h₀ env nm loc z as mu s.heap->
  (∀f s' z' as',bo s s'->MR h₀ z' as' mu' s'.heap->ai (Wr env) z as mu s.heap z' as' mu' s'.heap->FR h₀ env nm loc' z' as' mu' s'.heap->wK z' as' fl f->Q f s')->wpAny (model prog w) A t Q E s
theorem q9{f:Expr->Option Str}(hf:∀t x,f t=some x->cB t=[x]):∀{l:List Expr},(l.filterMap f).length=l.length->l.filterMap f=l.flatMap cB/\∀t∈l,∃x,f t=some x:=by
 intro L0
 induction L0 with
 |nil=>
  intro _
  exact⟨rfl,by simp⟩
 |cons t l ih=>
  intro h
  cases e:f t with
  |none=>
   rw[List.filterMap_cons_none e] at h
   have:=List.length_filterMap_le f l
   rw[aaf] at h
   lia
  |some x=>
   rw[List.filterMap_cons_some e] at h⊢
   obtain⟨h1,h2⟩:=ih (by simpa using h)
   refine⟨by rw[h1,abg,hf t x e];rfl,λu hu=> ?_⟩
   rcases aai.mp hu with rfl|hu
   ·exact⟨x,e⟩
   ·exact h2 u hu
theorem zo{α:Type}{c:Prop}[Decidable c]{a b:α}(P:α->Prop)(h1:c->P a)(h2:¬c->P b):P (if c then a else b):=by
 by_cases h:c
 ·rw[if_pos h];exact h1 h
 ·rw[if_neg h];exact h2 h
noncomputable def F3(env:Env)(ts:List Expr)(x:Sem (Option (List Str))):Prop:=x=pure none\/((∀u∈ts,∃x p,u= .Name x p/\env.kindOf x=some .local)/\x=pure (some (ts.flatMap cB)))
theorem Cf{f:Expr->Option Str}{env:Env}{line:Nat}(hf:∀id p,f (.Name id p)=if env.kindOf id==some .local&&p.line==line then some id else none)(ho:∀t,(∀id p,t≠.Name id p)->f t=none){t:Expr}{x:Str}(h:f t=some x):∃p,t= .Name x p/\env.kindOf x=some .local:=by
 cases hn:oU t with
 |some y=>
  obtain⟨p,rfl⟩:=sS hn
  rw[hf] at h
  obtain⟨hc,h⟩:=cr h
  cases h
  rw[aan] at hc
  exact⟨p,rfl,b6 hc.1⟩
 |none=>exact ak ((ho t λid p e=>by rw[e] at hn;cases hn).symm.trans h)
theorem EV{f:Expr->Option Str}{env:Env}{line:Nat}{ts:List Expr}(hl:(ts.filterMap f).length=ts.length)(hf:∀id p,f (.Name id p)=if env.kindOf id==some .local&&p.line==line then some id else none)(ho:∀t,(∀id p,t≠.Name id p)->f t=none):
  (∀u∈ts,∃x p,u= .Name x p/\env.kindOf x=some .local)/\(pure (some (ts.filterMap f)):Sem (Option (List Str)))=pure (some (ts.flatMap cB)):=by
 have key:=λt x (h:f t=some x)=>Cf hf ho h
 obtain⟨e1,e2⟩:=q9 (λt x h=>let⟨p,e,_⟩:=key t x h;by rw[e];rfl) hl
 exact⟨λu hu=>let⟨x,hx⟩:=e2 u hu;let⟨p,e,h⟩:=key u x hx;⟨x,p,e,h⟩,by rw[e1]⟩
theorem zp{ts vs:List Expr}{k k':Nat}{p p':Pos}{env:Env}(h3:(vs.all (foldedForSure 8)|| !vs.all (constantsAlone 8))=true):F3 env ts (swappedStores [.Tuple ts k p] (.Tuple vs k' p') env):=by
 refine zo (F3 env ts) (λq0=> .inl rfl) λq0=>zo (F3 env ts) (λq0=> .inl rfl) λq0=>zo (F3 env ts) (λq0=> .inl rfl) λhn=>zo (F3 env ts) (λq0=> .inl rfl) λhf=>zo (F3 env ts) (λhc=> ?_) λq0=> .inr ?_
 ·rw[Bool.or_eq_true,Bool.not_eq_true'] at h3
  exact h3.elim (λh=>absurd h hf) λh=>absurd (hc.symm.trans h) Bool.noConfusion
 ·rw[Bool.not_eq_true,Bool.or_eq_false_iff,bne_eq_false_iff_eq] at hn
  exact EV hn.1 (λq0 q0=>rfl) (λt h=>by cases t<;>first|rfl|exact absurd rfl (h _ _))
theorem re{t e:Expr}(hl:∀a b,t≠.List a b)(hs:sT t e=true)(env:Env):swappedStores [t] e env=pure none\/
  ∃ts k p,t= .Tuple ts k p/\mG (ts.flatMap cB)=true/\(∀u∈ts,∃x p,u= .Name x p/\env.kindOf x=some .local)/\swappedStores [t] e env=pure (some (ts.flatMap cB)):=by
 cases ht:gM t with
 |some ts=>
  obtain⟨k,p,rfl⟩:=oj ht
  cases he:gM e with
  |some vs=>
   obtain⟨k',p',rfl⟩:=oj he
   have hs:(ts.length==vs.length&&mG (ts.flatMap cB)&&(vs.all (foldedForSure 8)|| !vs.all (constantsAlone 8)))=true:=hs
   rw[aan,aan] at hs
   exact(zp hs.2).imp id λh=>⟨ts,k,p,rfl,hs.1.2,h.1,h.2⟩
  |none=>exact .inl (by cases e<;>first|rfl|exact ak he.symm)
 |none=>exact .inl (by cases t<;>first|rfl|exact ak ht.symm|exact absurd rfl (hl _ _))
end
end
section
section
variable{prog:Program}{w:World}{h₀:Heap}{r:Nat}{K:Frag}{T:ba}{F:bM}{hint:Nat->Nat->Bool}
variable{env:Env}{nm:ae}{loc loc':au}{mu mu' mu'':Mu}{n:Nat}
theorem vw{e t:Expr}{y:V×Mu}(h:fu T F hint nm loc n e mu=some y)(line:Nat)(env:Env):∃b,swapsWith e (some t) line env=pure b/\(b=true->∃elt gens scope p,e= .ListComp elt gens scope p):=by
 cases e with
 |ListComp elt gens scope p=>
  have:∃b,swapsWith (.ListComp elt gens scope p) (some t) line env=pure b:=by
   cases t<;>exact⟨_,rfl⟩
  obtain⟨b,hb⟩:=this
  exact⟨b,hb,λq0=>⟨_,_,_,_,rfl⟩⟩
 |SetComp elt gens scope p=>cases n<;>exact ak h
 |DictComp k v gens scope p=>cases n<;>exact ak h
 |_=>exact⟨false,rfl,λh=>absurd h aaG⟩
theorem vx{A:Around}{xs:List Str}{vs:List V}{ys:List Value}{loc:au}{z:af}{as:aX}{s:Shared}{Q:Unit->Shared->Prop}{E:Value->Shared->Prop}(hk:∀x∈xs,nm.lookup x=some .local)(hl:xs.length=vs.length)(R:MR h₀ z as mu s.heap)(f:FR h₀ env nm loc z as mu s.heap)(rl:aA z as vs ys)
  (q:∀s',bo s s'->MR h₀ z as mu s'.heap->ai (Wr env) z as mu s.heap z as mu s'.heap->FR h₀ env nm (eE xs vs loc) z as mu s'.heap->Q () s'):wpAny (model prog w) A (assignInOrder (xs.map λn=>bindName env n) ys) Q E s:=by
 induction xs generalizing vs ys loc s with
 |nil=>
  cases vs with
  |nil=>exact rl.eNil (wpAny_assignInOrder_none (q s (bo.refl s) R (ai.refl _ _ _ _ _) f))
  |cons _ _=>exact nomatch hl
 |cons x xs ih=>
  cases vs with
  |nil=>exact nomatch hl
  |cons v vs=>
   refine rl.eCons λ_ _ rv rl=> ?_
   exact wpAny_assignInOrder_more (wpAny_bindName (jQ (.inl (hk x (.head _))) R f rv λs1 sm1 R1 st1 f1=>ih (λy hy=>hk y (.tail _ hy)) (aao hl) R1 f1 rl λs2 sm2 R2 st2 f2=>q s2 (sm1.trans sm2) R2 (ai.transWr (st1.mono λa ha=>ha.wr) f1 st2) f2))
theorem vy{ts:List Expr}{vs:List V}(hn:∀u∈ts,∃x p,u=Expr.Name x p)(h:xB T F hint nm n ts vs loc mu=some (loc',mu')):mu'=mu/\loc'=eE (ts.flatMap cB) vs loc/\ts.length=vs.length:=by
 induction n generalizing ts vs loc mu with
 |zero=>exact ak h
 |succ n ih=>
  cases ts with
  |nil=>
   refine eV h λhv k1=>cJ k1 λea eb=> ?_
   rw[aaH.mp hv]
   exact⟨eb.symm,ea.symm,rfl⟩
  |cons t ts=>
   cases vs with
   |nil=>exact ak h
   |cons v vs=>
    refine cg h λloc1 mu1 h1 h2=> ?_
    clear h
    obtain⟨x,p,rfl⟩:=hn t (.head _)
    obtain⟨e1,e2,e3⟩:=ih (λu hu=>hn u (.tail _ hu)) h2
    cases n with
    |zero=>exact ak h1
    |succ n=>
     refine eV h1 λ_ k1=>cJ k1 λea eb=> ?_
     exact⟨e1.trans eb.symm,e2.trans (ea▸rfl),congrArg Nat.succ e3⟩
theorem aA.reverse{z:af}{as:aX}{l:List V}{xs:List Value}(h:aA z as l xs):aA z as l.reverse xs.reverse:=by
 induction l generalizing xs with
 |nil=>exact h.eNil .nil
 |cons v l ih=>
  refine h.eCons λ_ _ hv hl=> ?_
  rw[abe,abe]
  exact(ih hl).append (.cons hv .nil)
theorem zq{ts:List Expr}(h:∀u∈ts,∃x p,u=Expr.Name x p):(ts.flatMap cB).length=ts.length:=by
 induction ts with
 |nil=>rfl
 |cons t ts ih=>
  obtain⟨x,p,rfl⟩:=h t (.head _)
  rw[abg,aap,ih λu hu=>h u (.tail _ hu)]
  show 1+_=_
  rw[aaf];exact dk 7983426379502 [_] []
theorem vz(H:bV K T h₀)(S:∀n,ue prog w h₀ r T F hint n){t e:Expr}{pos:Pos}{v:V}{mu1 mu2:Mu}(h1:fu T F hint nm loc n e mu=some (v,mu1))(h2:BX T F hint nm n t v loc mu1=some (loc',mu2))(hs:sT t e=true):
  DB prog w h₀ r env nm loc mu (exec (.Assign [t] e pos) env) .next loc' mu2:=by
 intro A z as s Q E ro R f q
 have hE:(assignEach [t] env).map (·.2)=[assign t env]:=by rw[jy (pg h2)];rfl
 have hA:=(wJ H S n).1 env nm loc mu1 t v loc' mu2 h2
 rw[exec_Assign_arm]
 refine wpAny_bind (wpAny_standAt ?_)
 obtain⟨b,hb,hlc⟩:=vw (t:=t) h1 pos.line env
 rw[show swapsWithSole [t] e pos.line env=pure b from hb]
 refine wpAny_bind (wpAny_pure ?_)
 rw[hE]
 cases b with
 |true=>
  obtain⟨elt,gens,scope,p,rfl⟩:=hlc rfl
  cases n with
  |zero=>exact ak h1
  |succ n=>
   have hc:=(S n).c env nm loc elt gens scope mu v mu1 h1 p (some λv=>assignAll v [assign t env]) A z as s (λq0 s'=>wpAny (model prog w) A (pure .next) Q E s') E ro R f
   rw[if_pos rfl]
   refine wpAny_bind ?_
   show wpAny (model prog w) A (comprehension (.ListComp elt gens scope p) scope env (firstIterPos gens p) (newList []) (firstAsync gens) (firstIter gens env) (some λv=>assignAll v [assign t env])>>=λq0=>pure ()) _ E s
   refine wpAny_bind (wpAny_mono (hc ?_) (λq0 s' h=>wpAny_pure h) λq0 q0 h=>h)
   intro acc s1 z1 as1 C sm1 R1 st1 f1 r1 hC awC Ej
   refine hA A z1 as1 acc s1 _ E ro R1 f1 r1 λs2 z2 as2 sm2 R2 st2 f2=> ?_
   have hnW:¬Wr env C:=λhw=>by
    obtain⟨_,_,o,ho⟩:=f.wr C hw
    rw[hC] at ho;cases ho
   have awC2:=awC.step st2 hnW
   obtain⟨m,hn⟩:=Ej
   refine⟨m,hn.at' λo e=>st2.keep _ _ e awC.m hnW,λh' hs'=>wpAny_pure ?_⟩
   have hk:∀a o,¬a=C->s2.heap.get? a=some o->h'.get? a=some o:=λa o ha e=>by rw[hs'.2 a ha];exact e
   have st3:ai (λa=>a=C) z2 as2 mu2 s2.heap z2 as2 mu2 h':=ai.offW hk
   refine q _ {s2 with heap:=h'} z2 as2 ((sm1.trans sm2).trans ⟨h',s2.toks,rfl⟩) (R2.offW (W:=λa=>a=C) (λt ht=>by rw[ht];exact⟨awC2.z,awC2.m⟩) hk) ?_ (f2.stepW st3 (λe=> ?_) λx c hc e=> ?_) rfl
   ·exact(ai.transWr st1.wide f1 st2).after st3 (λa ha=>f2.wr a ha) λa ha=> .inr (by rw[ha];exact hC)
   ·obtain⟨o,ho⟩:=f.awayL.live;rw[e,hC] at ho;cases ho
   ·obtain⟨_,_,o,ho⟩:=f.cells x c hc;rw[e,hC] at ho;cases ho
 |false=>
  rw[if_neg (by decide)]
  refine wpAny_bind ((S n).e _ _ _ _ _ _ _ h1 A z as s _ E ro R f λx s1 z1 as1 sm1 R1 st1 f1 r1=> ?_)
  have hnl:∀a b,t≠.List a b:=by
   rintro a b rfl
   cases n<;>exact ak h2
  rcases re hnl hs env with hw|⟨ts,k,p,rfl,hnd,hnm,hw⟩
  ·rw[hw]
   refine wpAny_bind (wpAny_pure ?_)
   show wpAny (model prog w) A (do assignAll x [assign t env];pure .next) Q E s1
   exact wpAny_bind (hA A z1 as1 x s1 _ E ro R1 f1 r1 λs2 z2 as2 sm2 R2 st2 f2=>wpAny_pure (q _ s2 z2 as2 (sm1.trans sm2) R2 (ai.transWr st1.wide f1 st2) f2 rfl))
  ·rw[hw]
   refine wpAny_bind (wpAny_pure ?_)
   cases n with
   |zero=>exact ak h2
   |succ n=>
    refine aT h2 λvs hv k1=>eV k1 λhl k2=> ?_
    clear h2 k1 hE hA
    obtain rfl:=wq hv
    obtain⟨e1,e2,_⟩:=vy (λu hu=>let⟨x,p,e,_⟩:=hnm u hu;⟨x,p,e⟩) k2
    clear k2
    subst e1 e2
    refine r1.eTup λys a c ha rl=> ?_
    clear r1
    have hlen:(ts.flatMap cB).length=vs.length:=by rw[zq λu hu=>let⟨x,p,e,_⟩:=hnm u hu;⟨x,p,e⟩];exact hl
    have hloc:∀x∈ts.flatMap cB,nm.lookup x=some .local:=λx hx=>by
     obtain⟨u,hu,hxu⟩:=aam.mp hx
     obtain⟨y,p,rfl,hk⟩:=hnm u hu
     obtain rfl:=aah.mp (show x∈[y] from hxu)
     rw[Env.kindOf,f.nms] at hk
     exact hk
    show wpAny (model prog w) A (rule "assign.swapped-stores">>=λq0=>unpackItems (.ref a) (ts.flatMap cB).length none>>=λitems=>assignInOrder ((ts.flatMap cB).reverse.map λn=>bindName env n) items.reverse>>=λq0=>pure .next) Q E s1
    refine wpAny_bind (wpAny_rule (wpAny_bind ?_))
    rw[hlen,rl.length,<-aaJ]
    refine wpAny_unpackItems_tuple ro.handled (cW (R1.zin _ _ ha)) λh' x=> ?_
    have x1:iV s1.heap h':=λb o e=>x b o (λq=>by rw[q,aB] at e;cases e) e
    have st2:ai gh z1 as1 mu2 s1.heap z1 as1 mu2 h':=ai.ext _ x1
    have hnd':=xQ hnd
    refine wpAny_bind (vx (λx hx=>hloc x (List.mem_reverse.mp hx)) (by rw[abf,abf];exact hlen) (R1.ext x1) (f1.step st2) rl.reverse λs3 sm3 R3 st3 f3=>wpAny_pure ?_)
    refine q _ s3 z1 as1 (sm1.trans (bo.trans ⟨h',s1.toks,rfl⟩ sm3)) R3 (ai.transWr (st1.trans0 st2).wide (f1.step st2) st3) (f3.weaken λx u hx=> ?_) rfl
    rw[kH x (List.pairwise_reverse.mpr (hnd'.imp λh=>Ne.symm h)) (by rw[abf,abf];exact hlen),vv x hnd' hlen]
    rw[kH x hnd' hlen] at hx
    exact hx
end
end
section
section
variable{prog:Program}{w:World}{h₀:Heap}{r:Nat}{K:Frag}{T:ba}{F:bM}{hint:Nat->Nat->Bool}
variable{env:Env}{nm:ae}{loc loc':au}{mu mu' mu'':Mu}{n:Nat}
theorem rT{x:Str}{v:V}{l:au}:∀{ks:au},(dx ks l).lookup x=some v->l.lookup x=some v:=by
 intro L0
 induction L0 with
 |nil=>
  intro h
  cases h
 |cons e0 ks ih=>
  obtain⟨y,u⟩:=e0
  intro h
  unfold dx at h
  rw[List.filterMap_cons] at h
  cases e:l.lookup y with
  |none=>
   rw[e] at h
   exact ih h
  |some w'=>
   rw[e] at h
   dsimp only[Option.map_some] at h
   rw[aau] at h
   cases hx:x==y with
   |true=>
    rw[hx] at h
    have:=b6 hx;subst this
    rw[e];exact h
   |false=>
    rw[hx] at h
    exact ih h
set_option tactic.hygienic true in
theorem zr{A:Around}{tg:Expr->Prop}{it:Value}{wr:List Addr}{z₀:af}{as₀:aX}{items:List V}{St:Nat->Heap->Prop}(ro:dK A r)(Wk0:Wk prog w h₀ A tg it wr z₀ as₀ items St){t:Expr}{body:List Stmt}(htg:tg t)
  {g:V->au->Mu->Option (au×Mu)} {b:au->Mu->Option (Fl×au×Mu)} (hA:∀v loc mu loc' mu',g v loc mu=some (loc',mu')->Ls prog w h₀ r env nm loc mu (assign t env) v loc' mu')
  (hB:∀loc mu fl loc' mu',b loc mu=some (fl,loc',mu')->DB prog w h₀ r env nm loc mu (execs body env) fl loc' mu') {loc0:au}
  (hwr:∀b∈wr,b≠env.locals/\∀x,env.cells.lookup x≠some b) {fl:Fl} {locF:au} {muF mu1:Mu} {z1:af} {as1:aX} {s1:Shared} {R:Result->Shared->Prop} (hz:cV z₀ z1) (ha:as₀<+:as1) (R1:MR h₀ z1 as1 mu1 s1.heap) (f1:FR h₀ env nm loc0 z1 as1 mu1 s1.heap)
  (haw:∀b∈wr,de z1 as1 mu1 s1.heap b) (hst:St 0 s1.heap) (hfor:jN (λv loc mu=>(g v loc mu).bind λ(loc,mu)=>b loc mu) items loc0 mu1=some (fl,locF,muF))
  (q:∀f s' z' as',bo s1 s'->MR h₀ z' as' muF s'.heap->ai (λa=>Wr env a\/a∈wr) z1 as1 mu1 s1.heap z' as' muF s'.heap->FR h₀ env nm locF z' as' muF s'.heap->wK z' as' fl f->R (.ok f) s'):
  codeAny (model prog w) A (.forLoop t it body [] env) R s1:=by
 have wrW:∀b∈wr,¬Wr env b:=by
  rintro b hb (rfl|⟨x,_,hx⟩)
  ·exact(hwr _ hb).1 rfl
  ·exact(hwr b hb).2 x hx
 let I:Nat->Shared->Prop:=λn s=>∃(i:Nat)(z:af)(as:aX)(mu:Mu)(loc:au),n+i=items.length/\jN (λv loc mu=>(g v loc mu).bind λ(loc,mu)=>b loc mu) (items.drop i) loc mu=some (fl,locF,muF)/\
   bo s1 s/\MR h₀ z as mu s.heap/\FR h₀ env nm loc z as mu s.heap/\ai (λa=>Wr env a\/a∈wr) z1 as1 mu1 s1.heap z as mu s.heap/\St i s.heap/\∀b∈wr,de z as mu s.heap b
 refine codeAny_forLoop_any I ?_ items.length ⟨0,z1,as1,mu1,loc0,dk 141442202 [_] [],by simpa using hfor,bo.refl s1,R1,f1,ai.refl _ _ _ _ _,hst,haw⟩
 rintro n s ⟨i,z,as,mu,loc,hni,hcv,sm,R0,f0,st,t6,aw⟩
 have hzz:cV z₀ z:=hz.trans st.zsub
 have haa:as₀<+:as:=ha.trans st.asub
 have hwA:∀{z:af}{as:aX}{mu:Mu}{loc:au}{h:Heap},FR h₀ env nm loc z as mu h->(∀b∈wr,de z as mu h b)->∀a,(Wr env a\/a∈wr)->z a=none/\¬jx as mu a/\∃o,h.get? a=some o:=λf aw a ha=>by
  rcases ha with ha|ha
  ·exact f.wr a ha
  ·exact⟨(aw a ha).z,(aw a ha).m,(aw a ha).live⟩
 rcases pf items i with⟨hd,hil⟩|⟨v,hv,hd⟩
 ·rw[hd] at hcv
  simp only[jN] at hcv
  cases hcv
  have hi:i=items.length:=av 105387079606101320402 [_,_,_] [] hni hil
  subst hi
  refine wpAny_mono (Wk0.done z as _ s (λs'=>R (.ok .next) s') (notedBy (model prog w) A env λe s'=>R (.error e) s') t6 hzz haa R0 aw λs' sm' R' st'=> ?_) (λr s' hr=> ?_) λq0 q0 h=>h
  ·exact q _ s' z as (sm.trans sm') R' (st.trans (st'.mono λa h=> .inr h) (hwA f0 aw)) (f0.stepW st' (λh=>(hwr _ h).1 rfl) λx c hc h=>(hwr _ h).2 x hc) rfl
  ·cases r with
   |none=>exact wpAny_execs_nil hr
   |some _=>exact hr.elim
 ·rw[hd] at hcv
  simp only[jN] at hcv
  have hi:i<items.length:=aO hv
  have main:∀{loc2:au}{mu2:Mu}{fl':Fl}{loc3:au}{mu3:Mu},g v loc mu=some (loc2,mu2)->b loc2 mu2=some (fl',loc3,mu3)->
    (∀f s' z' as',bo s1 s'->MR h₀ z' as' mu3 s'.heap->ai (λa=>Wr env a\/a∈wr) z1 as1 mu1 s1.heap z' as' mu3 s'.heap->FR h₀ env nm loc3 z' as' mu3 s'.heap->wK z' as' fl' f->cV z z'->St (i+1) s'.heap->(∀b∈wr,de z' as' mu3 s'.heap b)->
     (match f with| .next| .cont=>∃m,m<n/\I m s'| .brk=>R (.ok .next) s'| .ret v=>R (.ok (.ret v)) s'))->
    wpAny (model prog w) A (pyNext it) (λr s₁=>match r with
     |none=>wpAny (model prog w) A (execs [] env) (λf s₃=>R (.ok f) s₃) (notedBy (model prog w) A env λe s'=>R (.error e) s') s₁
     |some v=>wpAny (model prog w) A (letOwnedTupleGo t it v) (λq0 s₁'=>
       wpAny (model prog w) A (assign t env v) (λq0 s₂=>wpAny (model prog w) A (execs body env) (λf s₃=>match f with
        | .next| .cont=>∃m,m<n/\I m s₃
        | .brk=>R (.ok .next) s₃
        | .ret v=>R (.ok (.ret v)) s₃) (notedBy (model prog w) A env λe s'=>R (.error e) s') s₂) (notedBy (model prog w) A env λe s'=>R (.error e) s') s₁') (notedBy (model prog w) A env λe s'=>R (.error e) s') s₁) (notedBy (model prog w) A env λe s'=>R (.error e) s') s:=by
   intro loc2 mu2 fl' loc3 mu3 hg hb' k
   refine wpAny_mono (Wk0.item t i v z as mu s (λx s2=>wpAny (model prog w) A (assign t env x) (λq0 s₂=>wpAny (model prog w) A (execs body env) (λf s₃=>match f with
        | .next| .cont=>∃m,m<n/\I m s₃
        | .brk=>R (.ok .next) s₃
        | .ret v=>R (.ok (.ret v)) s₃) (notedBy (model prog w) A env λe s'=>R (.error e) s') s₂) (notedBy (model prog w) A env λe s'=>R (.error e) s') s2) (notedBy (model prog w) A env λe s'=>R (.error e) s') htg hv t6 hzz haa R0 aw λx s2 z2 sm2 R2 st2 rx hSt2=> ?_) (λr s' hr=> ?_) λq0 q0 h=>h
   rotate_left
   ·cases r with
    |none=>exact hr.elim
    |some x=>exact hr
   have f2:=f0.stepW st2 (λh=>(hwr _ h).1 rfl) λx c hc h=>(hwr _ h).2 x hc
   have aw2:∀b∈wr,de z2 as mu s2.heap b:=λb hb=>⟨((aw b hb).off st2).1,((aw b hb).off st2).2,Wk0.live _ _ hSt2 b hb⟩
   have S2:=st.trans (st2.mono λa h=> .inr h) (hwA f0 aw)
   refine hA _ _ _ _ _ hg A z2 as x s2 _ _ ro R2 f2 rx λs3 z3 as3 sm3 R3 st3 f3=> ?_
   have aw3:∀b∈wr,de z3 as3 mu2 s3.heap b:=λb hb=>(aw2 b hb).step st3 (wrW b hb)
   have hSt3:St (i+1) s3.heap:=Wk0.frame _ _ _ hSt2 (λa o e=>R3.zin _ _ (((hzz.trans st2.zsub).trans st3.zsub) a o e)) λb hb o e=>st3.keep _ _ e (aw2 b hb).m (wrW b hb)
   have S3:=S2.trans (st3.mono λa h=> .inl h) (hwA f2 aw2)
   refine hB _ _ _ _ _ hb' A z3 as3 s3 _ _ ro R3 f3 λf s4 z4 as4 sm4 R4 st4 f4 r4=> ?_
   refine k f s4 z4 as4 (((sm.trans sm2).trans sm3).trans sm4) R4 (S3.trans (st4.mono λa h=> .inl h) (hwA f3 aw3)) f4 r4 ((st2.zsub.trans st3.zsub).trans st4.zsub) ?_ λb hb=>(aw3 b hb).step st4 (wrW b hb)
   exact Wk0.frame _ _ _ hSt3 (λa o e=>R4.zin _ _ ((((hzz.trans st2.zsub).trans st3.zsub).trans st4.zsub) a o e)) λb hb o e=>st4.keep _ _ e (aw3 b hb).m (wrW b hb)
  split at hcv
  ·rename_i loc3 mu3 hg
   obtain⟨⟨loc2,mu2⟩,hg1,hg2⟩:=bG hg
   refine main hg1 hg2 λf s' z' as' sm' R' st' f' rf hzs hSt' aw'=> ?_
   cases rf
   exact⟨n-1,dX 175749724890973483508386242704236331928633419149890302 [_,_,_,_] [] hni hi (su _ _),i+1,z',as',mu3,dx loc loc3,dX 15898097508130200681278328148670843955919881993747057952567502 [_,_,_,_] [] hni hi (su _ _),hcv,sm',R',f'.weaken λx u hx=>rT hx,st',hSt',aw'⟩
  ·rename_i hne
   cases hg:((g v loc mu).bind λ(loc,mu)=>b loc mu) with
   |none=>rw[hg] at hcv;cases hcv
   |some y=>
    obtain⟨fl',loc3,mu3⟩:=y
    obtain⟨⟨loc2,mu2⟩,hg1,hg2⟩:=bG hg
    rw[hg] at hcv
    cases hcv
    refine main hg1 hg2 λf s' z' as' sm' R' st' f' rf hzs hSt' aw'=> ?_
    cases fl with
    |next=>exact absurd hg (hne _ _)
    |ret u=>
     obtain⟨x,rfl,rx⟩:=rf
     exact q _ s' z' as' sm' R' st' f' ⟨x,rfl,rx⟩
end
end
section
section
variable{prog:Program}{w:World}{h₀:Heap}{r:Nat}{K:Frag}{T:ba}{F:bM}{hint:Nat->Nat->Bool}
variable{env:Env}{nm:ae}{loc loc':au}{mu mu' mu'':Mu}{n:Nat}
set_option tactic.hygienic true in
theorem vA{A:Around}(ro:dK A r){t:Expr}{body:List Stmt}{tv:au->Mu->Option (Bool×Mu)}{b:au->Mu->Option (Fl×au×Mu)}
  (hT:∀loc mu c mu',tv loc mu=some (c,mu')->Ev kD prog w h₀ r env nm loc mu (isTrue t env (eval t env)) c mu')
  (hB:∀loc mu fl loc' mu',b loc mu=some (fl,loc',mu')->DB prog w h₀ r env nm loc mu (execs body env) fl loc' mu') {loc0:au} {fl:Fl} {locF:au} {muF mu1:Mu} {z1:af} {as1:aX} {s1:Shared} {R:Result->Shared->Prop} {k:Nat}
  (R1:MR h₀ z1 as1 mu1 s1.heap) (f1:FR h₀ env nm loc0 z1 as1 mu1 s1.heap) (hw:jO tv b k loc0 mu1=some (fl,locF,muF))
  (q:∀f s' z' as',bo s1 s'->MR h₀ z' as' muF s'.heap->ai (Wr env) z1 as1 mu1 s1.heap z' as' muF s'.heap->FR h₀ env nm locF z' as' muF s'.heap->wK z' as' fl f->R (.ok f) s'):
  codeAny (model prog w) A (.whileLoop t body [] env) R s1:=by
 let I:Nat->Shared->Prop:=λn s=>∃(z:af)(as:aX)(mu:Mu)(loc:au),jO tv b n loc mu=some (fl,locF,muF)/\bo s1 s/\MR h₀ z as mu s.heap/\FR h₀ env nm loc z as mu s.heap/\ai (Wr env) z1 as1 mu1 s1.heap z as mu s.heap
 refine codeAny_whileLoop I ?_ k ⟨z1,as1,mu1,loc0,hw,bo.refl s1,R1,f1,ai.refl _ _ _ _ _⟩
 rintro n s ⟨z,as,mu,loc,hcv,sm,R0,f0,st⟩
 cases n with
 |zero=>exact ak hcv
 |succ n=>
  simp only[jO] at hcv
  split at hcv
  ·rename_i mu2 ht
   cases hcv
   refine hT _ _ _ _ ht A z as s _ _ ro R0 f0 λc s2 z2 as2 sm2 R2 st2 f2 rc=> ?_
   cases rc
   rw[if_neg (by decide)]
   exact wpAny_execs_nil (q _ s2 z2 as2 (sm.trans sm2) R2 (ai.transWr st f0 st2.wide) f2 rfl)
  ·rename_i mu2 ht
   refine hT _ _ _ _ ht A z as s _ _ ro R0 f0 λc s2 z2 as2 sm2 R2 st2 f2 rc=> ?_
   cases rc
   rw[if_pos rfl]
   split at hcv
   ·rename_i loc3 mu3 hb
    refine hB _ _ _ _ _ hb A z2 as2 s2 _ _ ro R2 f2 λf s3 z3 as3 sm3 R3 st3 f3 r3=> ?_
    cases r3
    exact⟨n,Nat.lt_succ_self _,z3,as3,mu3,dx loc loc3,hcv,(sm.trans sm2).trans sm3,R3,f3.weaken λx u hx=>rT hx,ai.transWr (ai.transWr st f0 st2.wide) f2 st3⟩
   ·rename_i hne
    cases hb:b loc mu2 with
    |none=>rw[hb] at hcv;cases hcv
    |some y=>
     obtain⟨fl',loc3,mu3⟩:=y
     rw[hb] at hcv
     cases hcv
     refine hB _ _ _ _ _ hb A z2 as2 s2 _ _ ro R2 f2 λf s3 z3 as3 sm3 R3 st3 f3 r3=> ?_
     cases fl with
     |next=>exact absurd hb (hne _ _)
     |ret u=>
      obtain⟨x,rfl,rx⟩:=r3
      exact q _ s3 z3 as3 ((sm.trans sm2).trans sm3) R3 (ai.transWr (ai.transWr st f0 st2.wide) f2 st3) f3 ⟨x,rfl,rx⟩
  ·cases hcv
theorem Cg(H:bV K T h₀)(S:∀n,ue prog w h₀ r T F hint n){t:Expr}{e:Expr}{pos:Pos}{fl:Fl}(h:BH T F hint nm (n+1) (.AugAssign t .Add e pos) loc mu=some (fl,loc',mu')):DB prog w h₀ r env nm loc mu (exec (.AugAssign t .Add e pos) env) fl loc' mu':=by
 cases t with
 |Attribute o a p=>
  refine cg h λov mu1 h1 k1=>aT k1 λold h2 k2=>cg k2 λv mu2 h3 k3=>aT k3 λi hi k4=>aT k4 λj hj k5=>sP k5 λmu3 h4 k6=> ?_
  clear h k1 k2 k3 k4 k5
  obtain rfl:=cb hi
  obtain rfl:=cb hj
  obtain rfl:Fl.next=fl:=congrArg Prod.fst k6
  obtain rfl:loc=loc':=congrArg (λp=>p.2.1) k6
  obtain rfl:mu3=mu':=congrArg (λp=>p.2.2) k6
  clear k6 hi hj
  intro A z as s Q E ro R f q
  exact wpAny_AugAssign_AttributeAny ((S n).e _ _ _ _ _ _ _ h1 A z as s _ E ro R f λx s1 z1 as1 sm1 R1 st1 f1 r1=>wE H h2 A z1 as1 x s1 _ E ro R1 f1 r1 λy s2 z2 as2 sm2 R2 st2 f2 r2=>(S n).e _ _ _ _ _ _ _ h3 A z2 as2 s2 _ E ro R2 f2 λu s3 z3 as3 sm3 R3 st3 f3 r3=>r2.eInt λq0=>r3.eInt λq0=>AutoIntOps.iadd_0
   (o4 H h4 A z3 as3 x _ {s3 with toks:=s3.toks+1} _ E ro R3 f3 ((r1.mono st2.zsub st2.asub).mono st3.zsub st3.asub) (.int _ _) λq0 s4 z4 as4 sm4 R4 st4 f4 q0=>
    q _ s4 z4 as4 ((((sm1.trans sm2).trans sm3).trans ⟨s3.heap,s3.toks+1,rfl⟩).trans sm4) R4 (((st1.trans0 st2).trans0 st3).trans0 st4).wide f4 rfl))
 |Subscript o i p=>
  refine cg h λov mu1 h1 k1=>cg k1 λiv mu2 h2 k2=>aT k2 λk hk k3=>aT k3 λold h3 k4=>cg k4 λv mu3 h4 k5=>aT k5 λa ha k6=>aT k6 λb hb k7=>sP k7 λmu4 h5 k8=>aT h5 λix hix k9=>aT k9 λk' hk' k10=>aT k10 λl hm k11=>eV k11 λhc k12=> ?_
  clear h k1 k2 k3 k4 k5 k6 k7 h5 k9 k10 k11
  obtain rfl:=cb hk
  obtain rfl:=aag hk'
  obtain rfl:=cb ha
  obtain rfl:=cb hb
  obtain rfl:=oT hix
  obtain rfl:=aag k12
  obtain rfl:Fl.next=fl:=congrArg Prod.fst k8
  obtain rfl:loc=loc':=congrArg (λp=>p.2.1) k8
  clear hk hk' ha hb hix k12
  obtain rfl:=(congrArg (λp=>p.2.2) k8:_=mu')
  clear k8
  intro A z as s Q E ro R f q
  refine wpAny_AugAssign_SubscriptAny ((S n).e _ _ _ _ _ _ _ h1 A z as s _ E ro R f λx s1 z1 as1 sm1 R1 st1 f1 r1=>(S n).e _ _ _ _ _ _ _ h2 A z1 as1 s1 _ E ro R1 f1 λy s2 z2 as2 sm2 R2 st2 f2 r2=>aT h3 λl' hm' hil=> ?_)
   (by cases i<;>first|(intros;rfl)|(cases n<;>exact ak h2))
  exact xH (mF hm') hil A z2 as2 x y s2 _ E ro R2 f2 (r1.mono st2.zsub st2.asub) r2 λu s3 z3 as3 sm3 R3 st3 f3 r3=>(S n).e _ _ _ _ _ _ _ h4 A z3 as3 s3 _ E ro R3 f3 λu' s4 z4 as4 sm4 R4 st4 f4 r4=>r3.eInt λq0=>r4.eInt λq0=>AutoIntOps.iadd_0
   (o5 (mF hm) hc.1 hc.2.1 hc.2.2 A z4 as4 x _ y {s4 with toks:=s4.toks+1} _ E ro R4 f4 (((r1.mono st2.zsub st2.asub).mono st3.zsub st3.asub).mono st4.zsub st4.asub) ((r2.mono st3.zsub st3.asub).mono st4.zsub st4.asub) (.int _ _) λq0 s5 z5 as5 sm5 R5 st5 f5=>
    q _ s5 z5 as5 (((((sm1.trans sm2).trans sm3).trans sm4).trans ⟨s4.heap,s4.toks+1,rfl⟩).trans sm5) R5 ((((st1.trans0 st2).trans0 st3).trans0 st4).trans0 st5).wide f5 rfl)
 |_=>exact ak h
theorem FR.inter{z:af}{as:aX}{h:Heap}(f:FR h₀ env nm loc z as mu h):interactive env=false:=by
 unfold interactive
 rw[f.kind];rfl
theorem uq(g:V->V)(x:Str):∀loc:au,(loc.map λq=>(q.1,g q.2)).lookup x=(loc.lookup x).map g:=by
 intro L0
 induction L0 with
 |nil=>
  exact rfl
 |cons e0 r ih=>
  obtain⟨y,v⟩:=e0
  rw[aaX,aau,aau]
  cases x==y with
  |true=>rfl
  |false=>exact ih
theorem FR.mapV{z z':af}{as:aX}{h:Heap}(f:FR h₀ env nm loc z as mu h)(s:ai gh z as mu h z' as mu' h){g:V->V}(hg:∀v x,aC z as v x->aC z' as (g v) x):FR h₀ env nm (loc.map λq=>(q.1,g q.2)) z' as mu' h:=by
 have f':=f.step s
 have hl:∀{x v},(loc.map λq=>(q.1,g q.2)).lookup x=some v->∃u,loc.lookup x=some u/\v=g u:=λ{x v} e=>by
  rw[uq] at e
  cases e0:loc.lookup x with
  |none=>rw[e0] at e;cases e
  |some u=>rw[e0] at e;cases e;exact⟨u,rfl,rfl⟩
 refine⟨f'.kind,f'.nms,f'.glob,f'.blt,?_,f'.lz,f'.lm,?_,f'.capart,f'.cells⟩
 ·obtain⟨m,hn,hv⟩:=f.ns
  refine⟨m,hn,λx v e k=> ?_⟩
  obtain⟨u,e0,rfl⟩:=hl e
  obtain⟨val,a,r⟩:=hv x u e0 k
  exact⟨val,a,hg _ _ r⟩
 ·intro x k hk hc
  obtain⟨c,ov,e1,e2,e3,e4,e5⟩:=f.cell x k hk hc
  obtain⟨c',ov',e1',e2',e3',e4',_⟩:=f'.cell x k hk hc
  rw[e1] at e1';cases e1'
  refine⟨c,ov,e1,e2,e3',e4',λv e=> ?_⟩
  obtain⟨u,e0,rfl⟩:=hl e
  obtain⟨val,a,r⟩:=e5 u e0
  exact⟨val,a,hg _ _ r⟩
theorem Gz{z:af}{as:aX}{h:Heap}{s:Stmt}(R:MR h₀ z as mu h)(f:FR h₀ env nm loc z as mu h):
  ∃z',MR h₀ z' as (fz hint s loc mu).2 h/\ai gh z as mu h z' as (fz hint s loc mu).2 h/\FR h₀ env nm (fz hint s loc mu).1 z' as (fz hint s loc mu).2 h:=by
 unfold fz
 split
 ·obtain⟨z',R',st,r⟩:=wp (aaa mu.length) R
  exact⟨z',R',st,f.mapV st r⟩
 ·exact⟨z,R,ai.refl _ _ _ _ _,f⟩
theorem GA(B:iH prog h₀)(H:bV K T h₀)(hF:BI K prog w h₀ r F)(n:Nat)
  (i2:∀env nm loc mu sts fl loc' mu',g6 T F hint nm n sts loc mu=some (fl,loc',mu')->DB prog w h₀ r env nm loc mu (execs sts env) fl loc' mu') {st:Stmt} {fl:Fl} (h:BH T F hint nm (n+1) st loc mu=some (fl,loc',mu')):DB prog w h₀ r env nm loc mu (exec st env) fl loc' mu':=by
 have S:=λn=>L9 (hint:=hint) (w:=w) B H hF n
 cases st with
 |Pass pos=>
  cases h
  exact λA z as s Q E ro R f q=>wpAny_Pass (q _ s z as (bo.refl s) R (ai.refl _ _ _ _ _) f rfl)
 |Expr e pos=>
  refine Du h λhc k1=>cg k1 λv mu1 h1 k2=> ?_
  clear h k1
  cases k2
  intro A z as s Q E ro R f q
  refine wpAny_Expr_any ((S n).e _ _ _ _ _ _ _ h1 A z as s _ E ro R f λx s1 z1 as1 sm1 R1 st1 f1 r1=>q _ s1 z1 as1 sm1 R1 st1.wide f1 rfl) f.inter ?_
  cases e<;>first|rfl|exact absurd rfl hc
 |Return e pos=>
  refine aT h λe he k1=>cg k1 λv mu1 h1 k2=> ?_
  clear h k1
  cases k2
  subst he
  exact λA z as s Q E ro R f q=>wpAny_Return_some ((S n).e _ _ _ _ _ _ _ h1 A z as s _ E ro R f λx s1 z1 as1 sm1 R1 st1 f1 r1=>q _ s1 z1 as1 sm1 R1 st1.wide f1 ⟨x,rfl,r1⟩)
 |Assign ts e pos=>
  refine aT h λt ht k1=>eV k1 λhs k2=>cg k2 λv mu1 h1 k3=>cg k3 λloc1 mu2 h2 k4=> ?_
  clear h k1 k2 k3
  cases k4
  obtain rfl:=ua ht
  exact vz H S h1 h2 hs
 |AugAssign t op e pos=>
  have ho:op= .Add:=eV h λhc q0=>vf hc
  subst ho
  exact Cg H S h
 |If t a b pos=>
  refine cg h λc mu1 h1 k1=> ?_
  clear h
  intro A z as s Q E ro R f q
  refine wpAny_If ((S n).t _ _ _ _ _ _ _ h1 A z as s _ E ro R f λx s1 z1 as1 sm1 R1 st1 f1 r1=> ?_)
  clear h1
  subst r1
  have go:=i2 env nm loc mu1 _ fl loc' mu' k1 A z1 as1 s1 Q E ro R1 f1 λg s2 z2 as2 sm2 R2 st2 f2 r2=>q g s2 z2 as2 (sm1.trans sm2) R2 (ai.transWr st1.wide f1 st2) f2 r2
  cases x<;>exact go
 |For t it body orelse pos=>
  refine eV h λhc k1=>cg k1 λitems mu1 h1 k2=>eV k2 λq0 k3=> ?_
  clear h k1 k2
  obtain⟨ho,htg⟩:=hc
  obtain rfl:=aaH.mp ho
  intro A z as s Q E ro R f q
  refine wpAny_For ((S n).i _ _ _ _ _ _ _ h1 A z as s _ E ro R f λit wr St s1 z1 as1 sm1 R1 st1 f1 Wk1 t6 hwr=> ?_) (i4 h1 env)
  refine zr ro Wk1 htg (g:=λv loc mu=>BX T F hint nm n t v loc mu) (b:=λloc mu=>g6 T F hint nm n body loc mu) (λv loc mu loc' mu' h=>(wJ H S n).1 _ _ _ _ _ _ _ _ h) (λloc mu fl loc' mu' h=>i2 _ _ _ _ _ _ _ _ h) (λb hb=> ?_) (cV.refl z1) (aav _) R1 f1 (λb hb=>(hwr b hb).2) t6 k3 λg s2 z2 as2 sm2 R2 st2 f2 r2=>
   q g s2 z2 as2 (sm1.trans sm2) R2 (st1.wide.after st2 (λa ha=>f1.wr a ha) λa ha=>ha.elim .inl λh=> .inr (hwr a h).1) f2 r2
  have hn:=(hwr b hb).1
  refine⟨λe=> ?_,λx e=> ?_⟩
  ·obtain⟨o,ho⟩:=f.awayL.live;rw[<-e,hn] at ho;exact ak ho
  ·obtain⟨_,_,o,ho⟩:=f.cells x b e;rw[hn] at ho;exact ak ho
 |While t body orelse pos=>
  refine eV h λho k1=> ?_
  clear h
  obtain rfl:=aaH.mp ho
  exact λA z as s Q E ro R f q=>wpAny_While (vA ro (λloc mu c mu' h=>(S n).t _ _ _ _ _ _ _ h) (λloc mu fl loc' mu' h=>i2 _ _ _ _ _ _ _ _ h) R f k1 λg s2 z2 as2 sm2 R2 st2 f2 r2=>q g s2 z2 as2 sm2 R2 st2 f2 r2)
 |_=>exact ak h
theorem EW(B:iH prog h₀)(H:bV K T h₀)(hF:BI K prog w h₀ r F)(n:Nat):
  (∀env nm loc mu st fl loc' mu',BH T F hint nm n st loc mu=some (fl,loc',mu')->DB prog w h₀ r env nm loc mu (exec st env) fl loc' mu')/\
  (∀env nm loc mu sts fl loc' mu',g6 T F hint nm n sts loc mu=some (fl,loc',mu')->DB prog w h₀ r env nm loc mu (execs sts env) fl loc' mu'):=by
 induction n with
 |zero=>exact⟨λq0 q0 q0 q0 q0 q0 q0 q0 h=>ak h,λq0 q0 q0 q0 q0 q0 q0 q0 h=>ak h⟩
 |succ n ih=>
  obtain⟨i1,i2⟩:=ih
  refine⟨λq0 q0 q0 q0 q0 q0 q0 q0 h=>GA B H hF n i2 h,?_⟩
  intro env nm loc mu sts fl loc' mu' h
  cases sts with
  |nil=>
   cases h
   exact λA z as s Q E ro R f q=>wpAny_execs_nil (q _ s z as (bo.refl s) R (ai.refl _ _ _ _ _) f rfl)
  |cons st rest=>
   refine aT h λp h1 k1=> ?_
   clear h
   obtain⟨g,loc1,mu1⟩:=p
   intro A z as s Q E ro R f q
   obtain⟨z0,R0,st0,f0⟩:=Gz (hint:=hint) (s:=st) R f
   refine wpAny_execs_cons (i1 env nm _ _ st _ _ _ h1 A z0 as s _ E ro R0 f0 λg' s1 z1 as1 sm1 R1 st1 f1 r1=> ?_)
   clear h1 i1
   cases g with
   |next=>
    obtain rfl:=r1
    exact i2 env nm loc1 mu1 rest fl loc' mu' k1 A z1 as1 s1 Q E ro R1 f1 λg s2 z2 as2 sm2 R2 st2 f2 r2=>q g s2 z2 as2 (sm1.trans sm2) R2 (ai.transWr (ai.transWr st0.wide f0 st1) f1 st2) f2 r2
   |ret u=>
    clear i2
    cases k1
    obtain⟨x,rfl,rx⟩:=r1
    exact q _ s1 z1 as1 sm1 R1 (ai.transWr st0.wide f0 st1) f1 ⟨x,rfl,rx⟩
end
end
section
section
variable{prog:Program}{w:World}{h₀:Heap}{r:Nat}{K:Frag}{T:ba}{F:bM}{hint:Nat->Nat->Bool}
variable{env:Env}{nm:ae}{loc loc':au}{mu mu' mu'':Mu}{n:Nat}
theorem ur{A:Around}(f:Str×Value->PUnit->Sem (ForInStep PUnit))(hf:∀n v u,f (n,v) u=(do storeName env n v;pure (.yield ⟨⟩))):∀{xs:List Str}{vs:List V}{ys:List Value}{loc:au}{z:af}{as:aX}{s:Shared}{Q:PUnit->Shared->Prop}{E:Value->Shared->Prop},
  (∀x∈xs,nm.lookup x=some .local\/nm.lookup x=some .cell)->xs.length=vs.length->MR h₀ z as mu s.heap->FR h₀ env nm loc z as mu s.heap->aA z as vs ys->
  (∀s',bo s s'->MR h₀ z as mu s'.heap->ai (Wr env) z as mu s.heap z as mu s'.heap->FR h₀ env nm (eE xs vs loc) z as mu s'.heap->Q ⟨⟩ s')->wpAny (model prog w) A (forIn (xs.zip ys) ⟨⟩ f) Q E s:=by
 intro L0
 induction L0 with
 |nil=>
  intro t1
  cases t1 with
  |nil=>
   intro ys loc z as s Q E _ _ R f' rl q
   cases rl
   show wpAny _ _ (forIn [] PUnit.unit f) Q E s
   rw[List.forIn_nil]
   exact wpAny_pure (q s (bo.refl s) R (ai.refl _ _ _ _ _) f')
  |cons _ _=>
   intro _ _ _ _ _ _ _ _ h _ _ _ _
   cases h
 |cons x xs ih=>
  intro t1
  cases t1 with
  |nil=>
   intro _ _ _ _ _ _ _ _ h _ _ _ _
   cases h
  |cons v vs=>
   intro ys loc z as s Q E hk hl R f' rl q
   refine rl.eCons λ_ _ rv rl=> ?_
   rename_i y ys
   show wpAny _ _ (forIn ((x,y)::xs.zip ys) PUnit.unit f) Q E s
   rw[List.forIn_cons,hf]
   refine wpAny_bind (wpAny_bind (jQ (hk x (.head _)) R f' rv λs1 sm1 R1 st1 f1=>wpAny_pure (ih (λy hy=>hk y (.tail _ hy)) (by simpa using hl) R1 f1 rl λs2 sm2 R2 st2 f2=> ?_)))
   exact q s2 (sm1.trans sm2) R2 (ai.transWr (st1.mono λa ha=>ha.wr) f1 st2) f2
theorem Ci{A:Around}{z:af}{as:aX}{s:Shared}{Q:Env->Shared->Prop}{E:Value->Shared->Prop}{scope:Scope}{qual:Str}{func:Option Addr}{code:Value}{xs:List Str}{vs:List V}{ys:List Value}(hk:scope.kind= .function)(hno:gv scope.names=true)(hfree:∀x,scope.names.lookup x≠some .free)
  (hxs:∀x∈xs,scope.names.lookup x=some .local\/scope.names.lookup x=some .cell) (hl:xs.length=vs.length) (R:MR h₀ z as mu s.heap) (rl:aA z as vs ys)
  (q:∀(env:Env) s',env.scope=scope->env.globals=mainGlobals->env.builtins=builtinsNs->bo s s'->MR h₀ z as mu s'.heap->ai gh z as mu s.heap z as mu s'.heap->(∀a,Wr env a->s.heap.get? a=none)->FR h₀ env scope.names (eE xs vs []) z as mu s'.heap->Q env s'):
  wpAny (model prog w) A (newFunctionEnv scope mainGlobals [] (xs.zip ys) qual func code none builtinsNs) Q E s:=by
 simp only[newFunctionEnv,Option.isSome_none,Bool.false_eq_true,if_false]
 refine wpAny_bind (wpAny_alloc ?_)
 refine wpAny_bind (wpAny_layCells _ (λname kind cells=>by cases hkc:kind==NameKind.cell<;>simp[hkc]) _ _ _ _ ?_)
 have ok:=cellsFrom_ok scope.names (s.heap.push {cls:= .type "frame",data:= .dict #[]}) (s.heap.objs.size+1) [] ⟨λq0 q0 hm=>(nomatch hm),List.Pairwise.nil⟩ (by rw[aaV];exact aaS _)
 rw[aaV] at ok
 rw[show({s with heap:=s.heap.push {cls:= .type "frame",data:= .dict #[]}}:Shared).heap.objs.size=s.heap.objs.size+1 from aaV ..]
 have hfresh:∀a,s.heap.objs.size<=a->s.heap.get? a=none:=λa ha=>by
  cases e:s.heap.get? a with
  |none=>rfl
  |some o'=>exact absurd (aaI e) (Nat.not_lt.mpr ha)
 have x1:iV s.heap (pushCells (s.heap.push {cls:= .type "frame",data:= .dict #[]}) scope.names):=λb o e=>pushCells_keeps _ _ b o (aaw _ e)
 have Ej:(pushCells (s.heap.push {cls:= .type "frame",data:= .dict #[]}) scope.names).Ns s.heap.objs.size (λq0=>none):=(Heap.Ns.new s.heap (.type "frame")).keeps (pushCells_keeps _ _)
 have own_lookup:∀x a,(cellsFrom (s.heap.objs.size+1) scope.names []).lookup x=some a->s.heap.get? a=none/\(pushCells (s.heap.push {cls:= .type "frame",data:= .dict #[]}) scope.names).IsCell a none:=λx a h=>by
  have:=ok.empty x a (mem_of_lookup h)
  exact⟨hfresh a (Nat.le_of_succ_le this.2),this.1⟩
 have offz:∀a,s.heap.get? a=none->z a=none/\¬jx as mu a:=λa h=>by
  constructor
  ·cases e:z a with
   |none=>rfl
   |some o=>have:=R.zin _ _ e;rw[h] at this;cases this
  ·intro q
   obtain⟨o,e⟩:=R.live q
   rw[h] at e;cases e
 have f0:FR h₀ (newEnv scope s.heap.objs.size mainGlobals (cellsFrom (s.heap.objs.size+1) scope.names []) qual func code none builtinsNs) scope.names [] z as mu (pushCells (s.heap.push {cls:= .type "frame",data:= .dict #[]}) scope.names):=by
  refine⟨hk,rfl,rfl,rfl,⟨_,Ej,λx v h=>by cases h⟩,(offz _ (hfresh _ (aaS _))).1,(offz _ (hfresh _ (aaS _))).2,λx k hx hc=> ?_,λx y c h h'=>name_of_addr ok.apart (mem_of_lookup h) (mem_of_lookup h'),λx c h=> ?_⟩
  ·have hcell:k= .cell:=hc.elim id λh=>absurd (h▸hx) (hfree x)
   subst hcell
   obtain⟨a,ha⟩:=kG scope.names (s.heap.objs.size+1) (mem_of_lookup hx)
   obtain⟨h1,h2⟩:=own_lookup x a ha
   exact⟨a,none,ha,h2,(offz a h1).1,(offz a h1).2,λv h=>by cases h⟩
  ·obtain⟨h1,⟨o,ho,_⟩⟩:=own_lookup x c h
   exact⟨(offz c h1).1,(offz c h1).2,o,ho⟩
 have st0:ai gh z as mu s.heap z as mu (pushCells (s.heap.push {cls:= .type "frame",data:= .dict #[]}) scope.names):=ai.ext _ x1
 have hW:∀a,Wr (newEnv scope s.heap.objs.size mainGlobals (cellsFrom (s.heap.objs.size+1) scope.names []) qual func code none builtinsNs) a->s.heap.get? a=none:=by
  rintro a (rfl|⟨x,_,h⟩)
  ·exact hfresh _ (aaS _)
  ·exact(own_lookup x a h).1
 refine wpAny_bind (ur (env:=newEnv scope s.heap.objs.size mainGlobals (cellsFrom (s.heap.objs.size+1) scope.names []) qual func code none builtinsNs) _ (λq0 q0 q0=>rfl) hxs hl (R.ext x1) f0 rl λs1 sm1 R1 st1 f1=>wpAny_pure ?_)
 exact q _ s1 rfl rfl rfl (bo.trans ⟨_,s.toks,rfl⟩ sm1) R1 (st0.after0 st1 hW) hW f1
noncomputable def DC:Fl->V
 | .next=> .none
 | .ret v=>v
structure GB(K:Frag)(h₀:Heap)(f:Addr)(fd:FuncData)(body:List Stmt):Prop where
 obj:∃o,K.lookup f=some o/\o.data= .func fd
 body:fd.body= .stmts body
 glob:fd.globals=mainGlobals
 blt:fd.builtins=builtinsNs
 clo:fd.closure=[]
 code:h₀.CodeRec fd.code fd.qualname
 co:fd.scope.isCoroutine=false
 gen:fd.scope.isGenerator=false
 kind:fd.scope.kind= .function
 names:gv fd.scope.names=true
 nofree:∀x,fd.scope.names.lookup x≠some .free
noncomputable def eF(prog:Program)(w:World)(h₀:Heap)(r:Nat)(f:Value)(vs:List V)(mu:Mu)(v:V)(mu':Mu):Prop:=
 ∀(A:Around)(z:af)(as:aX)(xs:List Value)(s:Shared)(R:Result->Shared->Prop),dK A r->MR h₀ z as mu s.heap->aA z as vs xs->
  (∀y s' z' as',bo s s'->MR h₀ z' as' mu' s'.heap->ai gh z as mu s.heap z' as' mu' s'.heap->aC z' as' v y->R (.ok (.ret y)) s')->codeAny (model prog w) A (.call f ⟨xs,[]⟩) R s
theorem eF.call{f:Value}{vs:List V}{v:V}(h:eF prog w h₀ r f vs mu v mu'):y6 prog w h₀ r f vs mu v mu':=λA z as xs s Q E ro R rl q=>
 wpAny_call (h A z as xs s _ ro R rl λy s' z' as' sm R' st ry=>q y s' z' as' sm R' st ry)
structure wL(A:Around)(r:Nat):Prop where
 frames:∃fs,A.frames=some fs
 handled:A.handled=none
 depth:A.depth+r+110<recursionLimit
 units:A.units+70*r+70<cLine
theorem dK.to0{A:Around}(ro:dK A r):wL A r:=by
 obtain⟨⟨e0,outer,h1,_⟩,hh,hd,hu⟩:=ro
 exact⟨⟨_,h1⟩,hh,hd,hu⟩
theorem wL.deeper{A:Around}(ro:wL A (r+1)){env:Env}(hg:env.scope.isGenerator=false)(hc:env.scope.isCoroutine=false)(hb:env.builtins=builtinsNs)(hgl:env.globals=mainGlobals):dK (A.deeper env) r:=by
 obtain⟨⟨fs,h1⟩,hh,hd,hu⟩:=ro
 refine⟨⟨env,fs,?_,hg,hc,hb,hgl⟩,hh,?_,?_⟩
 ·show A.frames.map (env::·)=_
  rw[h1];rfl
 ·show A.depth+1+r+110<recursionLimit
  exact ad 7523914006160757821927332471158001 [_,_,_] [] hd
 ·show A.units+3+70*r+70<cLine
  exact ad 487569066378494201651238924290801737968001 [_,_,_] [] hu
noncomputable def wN(prog:Program)(w:World)(h₀:Heap)(r:Nat)(f:Value)(vs:List V)(mu:Mu)(v:V)(mu':Mu):Prop:=
 ∀(A:Around)(z:af)(as:aX)(xs:List Value)(s:Shared)(R:Result->Shared->Prop),wL A r->MR h₀ z as mu s.heap->aA z as vs xs->
  (∀y s' z' as',bo s s'->MR h₀ z' as' mu' s'.heap->ai gh z as mu s.heap z' as' mu' s'.heap->aC z' as' v y->R (.ok (.ret y)) s')->codeAny (model prog w) A (.call f ⟨xs,[]⟩) R s
theorem wN.ok{f:Value}{vs:List V}{v:V}(h:wN prog w h₀ r f vs mu v mu'):eF prog w h₀ r f vs mu v mu':=λA z as xs s R ro=>h A z as xs s R ro.to0
theorem Cj(B:iH prog h₀)(H:bV K T h₀)(hF:BI K prog w h₀ r F){f:Addr}{fd:FuncData}{body:List Stmt}(hf:GB K h₀ f fd body){xs:List Str}{vs vs':List V}{fl:Fl}
  (hbind:∀(z:af)(as:aX)(ys:List Value)(s:Shared),K.In s.heap->aA z as vs ys->∃ys',aA z as vs' ys'/\BindsTo s fd ⟨ys,[]⟩ (xs.zip ys')) (hxs:∀x∈xs,fd.scope.names.lookup x=some .local\/fd.scope.names.lookup x=some .cell) (hl:xs.length=vs'.length)
  (Ho:g6 T F hint fd.scope.names n body (eE xs vs' []) mu=some (fl,loc',mu')):wN prog w h₀ (r+1) (.ref f) vs mu (DC fl) mu':=by
 intro A z as ys s Q ro R rl q
 obtain⟨o,ho,hd⟩:=hf.obj
 have X:=H.at R
 obtain⟨ys',rl',hb⟩:=hbind z as ys s X rl
 refine codeAny_call_function (by have:=ro.depth;exact ad 9484456113386276058001 [_,_,_] [] this) (X _ _ ho) hd hf.co hf.gen hf.body (hf.code.keeps R.keep0) (hb _ _ _ _ ?_)
 rw[hf.glob,hf.blt,hf.clo]
 refine Ci hf.kind hf.names hf.nofree hxs hl R rl' λenv s1 e1 e2 e3 sm1 R1 st1 hW f1=>⟨B.nolimit.keeps R1.keep0,codeAny_func ?_⟩
 ·refine(EW B H hF n).2 env fd.scope.names (eE xs vs' []) mu body fl loc' mu' Ho (A.deeper env) z as s1 _ _ (ro.deeper (by rw[e1];exact hf.gen) (by rw[e1];exact hf.co) e3 e2) R1 f1 λg s2 z2 as2 sm2 R2 st2 f2 r2=> ?_
  cases fl with
  |next=>cases r2;exact q .none s2 z2 as2 (sm1.trans sm2) R2 (st1.after0 st2 hW) .none
  |ret v=>obtain⟨x,rfl,rx⟩:=r2;exact q x s2 z2 as2 (sm1.trans sm2) R2 (st1.after0 st2 hW) rx
end
end
section
section
variable{prog:Program}{w:World}{h₀:Heap}{r:Nat}{K:Frag}{T:ba}{F:bM}{hint:Nat->Nat->Bool}
variable{env:Env}{nm:ae}{loc loc':au}{mu mu' mu'':Mu}{n:Nat}
theorem zt(A:Around)(C:Addr)(rest:List Value)(kw:List (Str×Value)):(A.under (.builtin "type.__call__" ⟨.ref C::rest,kw⟩)).depth=A.depth+1/\(A.under (.builtin "type.__call__" ⟨.ref C::rest,kw⟩)).frames=A.frames/\(A.under (.builtin "type.__call__" ⟨.ref C::rest,kw⟩)).units=A.units+1/\(A.under (.builtin "type.__call__" ⟨.ref C::rest,kw⟩)).handled=A.handled:=by
 have hg:guardIds.contains "type.__call__"=false:=by decide
 refine⟨?_,rfl,rfl,rfl⟩
 show A.depth+Code.weight _=_
 have:Code.weight (.builtin "type.__call__" ⟨.ref C::rest,kw⟩)=1:=by
  show 0+1+(if guardIds.contains "type.__call__"=true then 1 else 0)+0=1
  rw[hg];rfl
 rw[this]
theorem dK.under{A:Around}(ro:dK A (r+1))(C:Addr)(rest:List Value)(kw:List (Str×Value)):dK (A.under (.builtin "type.__call__" ⟨.ref C::rest,kw⟩)) r:=by
 obtain⟨h1,h2,h3,h4⟩:=zt A C rest kw
 obtain⟨hfr,hh,hd,hu⟩:=ro
 exact⟨by unfold o0;rw[h2];exact hfr,by rw[h4];exact hh,by rw[h1];exact ad 7523914006160757821927332471158001 [_,_,_] [] hd,by rw[h3];exact ad 487569066285843192208646874290801737968001 [_,_,_] [] hu⟩
theorem zu(H:bV K T h₀){C fI:Addr}{vs:List V}(hm:makesIn K C=true)(hi:findIn K (.ref C) "__init__"=some (some (.ref fI)))(hf:typeIn K (.ref fI)=some (.type "function"))
  (hc:eF prog w h₀ r (.ref fI) (.ref mu.length::vs) (mu++[.obj C []]) .none mu'):eF prog w h₀ (r+1) (.ref C) vs mu (.ref mu.length) mu':=by
 intro A z as xs s R ro M rl q
 have X:=H.at M
 obtain⟨hh,g,d,t,os⟩:=s
 refine make_core (makes_of X hm) (looks_findIn X hi) (λself=>bind_fn X self hf) (.inl rfl) ?_
 have e1:iV hh ((hh.push emptyDict).push (instObj C hh.objs.size)):=(iV.push _ _).trans (iV.push _ _)
 have hx:((hh.push emptyDict).push (instObj C hh.objs.size)).get? (hh.objs.size+1)=some (instObj C hh.objs.size):=by
  have:=aaL (hh.push emptyDict) (o:=instObj C hh.objs.size) rfl
  rw[aaV] at this
  exact this
 have hd:((hh.push emptyDict).push (instObj C hh.objs.size)).get? hh.objs.size=some (dictOf [] 0):=aaw _ (aaL hh rfl)
 have hne:(hh.objs.size+1:Nat)≠hh.objs.size:=Nat.succ_ne_self _
 have hfr:∀a∈MO.own (.obj C []) (hh.objs.size+1,hh.objs.size),hh.get? a=none:=λa ha=>by
  simp only[MO.own,aai,abh,or_false] at ha
  rcases ha with rfl|rfl
  ·cases e:hh.get? (hh.objs.size+1) with
   |none=>rfl
   |some o=>exact absurd (aaI e) (Nat.not_lt.mpr (Nat.le_succ _))
  ·exact aB _
 have hmok:yw z (as++[(hh.objs.size+1,hh.objs.size)]) ((hh.push emptyDict).push (instObj C hh.objs.size)) (.obj C []) (hh.objs.size+1,hh.objs.size):=⟨hne,hx,[],0,hd,.nil⟩
 have M':=M.newM e1 hfr hmok
 have st:ai gh z as mu hh z (as++[(hh.objs.size+1,hh.objs.size)]) (mu++[.obj C []]) ((hh.push emptyDict).push (instObj C hh.objs.size)):=ai.newM _ M e1 hfr
 refine hc _ z (as++[(hh.objs.size+1,hh.objs.size)]) (.ref (hh.objs.size+1)::xs) ⟨(hh.push emptyDict).push (instObj C hh.objs.size),g,d,t,os⟩ _ (ro.under C xs []) M' (.cons (.ref (d:=hh.objs.size) (by rw[<-M.len];exact ls _ _)) (rl.mono (cV.refl z) (aay _ _))) λy s' z' as' sm R' st' ry=> ?_
 cases ry
 refine⟨rfl,q _ s' z' as' (bo.trans ⟨_,t,rfl⟩ sm) R' (st.trans0 st') (.ref (d:=hh.objs.size) (wo st'.asub (by rw[<-M.len];exact ls _ _)))⟩
end
end
section
section
variable{z:af}{as as0:aX}
theorem aC.close{n:Nat}(h:∀t p,t<n->as[t]? =aaC p->as0[t]? =aaC p){v:V}{x:Value}(b:Mine.aG n v=true)(r:aC z as v x):aC z as0 v x:=
 aC.rec (motive_1:=λv x q0=>Mine.aG n v=true->aC z as0 v x) (motive_2:=λl xs q0=>ab n l=true->aA z as0 l xs) (motive_3:=λl es q0=>dQ n l=true->cD z as0 l es)
  (λq0=> .none) (λb q0=> .bool b) (λi t q0=> .int i t) (λv e q0=> .top v e) (λe q0 ih b=> .tup e (ih b)) (λe q0 ih b=> .lst e (ih b)) (λe c d q0 ih b=> .arg e c d (ih b)) (λe d q0 ih b=> .obj e d (ih b)) (λe b=> .ref (h _ _ (of_decide_eq_true b) e))
  (λq0=> .nil) (λq0 q0 i j b=> .cons (i (abi.mp b).1) (j (abi.mp b).2)) (λq0=> .nil) (λk q0 q0 i j b=> .cons k (i (abi.mp b).1) (j (abi.mp b).2)) r b
theorem aA.close{n:Nat}(h:∀t p,t<n->as[t]? =aaC p->as0[t]? =aaC p){l:List V}{xs:List Value}(b:ab n l=true)(r:aA z as l xs):aA z as0 l xs:=by
 induction l generalizing xs with
 |nil=>exact r.eNil .nil
 |cons v l ih=>exact r.eCons λ_ _ a t=> .cons (aC.close h (abi.mp b).1 a) (ih (abi.mp b).2 t)
theorem cD.close{n:Nat}(h:∀t p,t<n->as[t]? =aaC p->as0[t]? =aaC p){l:List (Str×V)}{es:List DictEntry}(b:dQ n l=true)(r:cD z as l es):cD z as0 l es:=by
 induction l generalizing es with
 |nil=>exact r.eNil .nil
 |cons v l ih=>exact r.eCons λq0 q0 q0 k a t=> .cons k (aC.close h (abi.mp b).1 a) (ih (abi.mp b).2 t)
end
mutual
theorem ph{m n:Nat}(h:m<=n):∀{v:V},aG m v=true->aG n v=true
 | .none,_=>rfl
 | .bool b,_=>rfl
 | .int i,_=>rfl
 | .top v,_=>rfl
 | .tup l,b=>fF h (l:=l) b
 | .lst l,b=>fF h (l:=l) b
 | .arg l,b=>fF h (l:=l) b
 | .obj C fs,b=>rU h (l:=fs) b
 | .ref i,b=>decide_eq_true (Nat.lt_of_lt_of_le (of_decide_eq_true b) h)
theorem fF{m n:Nat}(h:m<=n):∀{l:List V},ab m l=true->ab n l=true
 |[],_=>rfl
 |v::l,b=>by
  simp only[ab,aan] at b⊢
  exact⟨ph h b.1,fF h b.2⟩
theorem rU{m n:Nat}(h:m<=n):∀{l:List (Str×V)},dQ m l=true->dQ n l=true
 |[],_=>rfl
 |(x,v)::l,b=>by
  simp only[dQ,aan] at b⊢
  exact⟨ph h b.1,rU h b.2⟩
end
theorem yw.close{z:af}{as as0:aX}{h:Heap}{n:Nat}(hg:∀t p,t<n->as[t]? =some p->as0[t]? =some p){m:MO}{p:Addr×Addr}(b:og n m=true)(k:yw z as h m p):yw z as0 h m p:=by
 cases m with
 |lst l=>obtain⟨vs,n,e,r⟩:=k;exact⟨vs,n,e,aA.close hg b r⟩
 |obj C fs=>obtain⟨hne,e,es,n,d,r⟩:=k;exact⟨hne,e,es,n,d,cD.close hg b r⟩
 |dead=>trivial
section
variable{prog:Program}{w:World}{h₀:Heap}{r:Nat}{mu mu':Mu}{z:af}{as:aX}{h:Heap}
theorem ec{α:Type}{l:List α}{n i:Nat}{x:α}(e:(l.take n)[i]? =some x):i<n/\l[i]? =some x:=by
 rw[List.getElem?_take] at e
 by_cases q:i<n
 ·rw[if_pos q] at e;exact⟨q,e⟩
 ·rw[if_neg q] at e;cases e
theorem MR.take(R:MR h₀ z as mu h){n:Nat}(hn:n<=mu.length)(hb:(mu.take n).all (og n)=true):MR h₀ z (as.take n) (mu.take n) h:=by
 refine⟨R.base,R.zin,by rw[aaO,aaO,R.len],λi mo p e f=> ?_,λi mo p e f=> ?_,λi j mi mj pi pj ei ej fi fj hij=> ?_⟩
 ·obtain⟨hi,e'⟩:=ec e
  obtain⟨_,f'⟩:=ec f
  refine(R.ok i mo p e' f').close (n:=n) (λt q ht hq=> ?_) (aa4.mp hb mo (abj e))
  rw[List.getElem?_take,if_pos ht];exact hq
 ·exact R.out i mo p (ec e).2 (ec f).2
 ·exact R.apart i j mi mj pi pj (ec ei).2 (ec ej).2 (ec fi).2 (ec fj).2 hij
theorem jx.of_take{n:Nat}{a:Addr}(m:jx (as.take n) (mu.take n) a):jx as mu a:=by
 obtain⟨i,mo,p,e,f,ha⟩:=m
 exact⟨i,mo,p,(ec e).2,(ec f).2,ha⟩
theorem zv{α:Type}{a b:List α}{n:Nat}(h:a<+:b)(hn:a.length<=n):a<+:b.take n:=by
 obtain⟨t,rfl⟩:=h
 rw[List.take_append,aaU hn]
 exact aay _ _
theorem ai.take{W:Addr->Prop}{z':af}{as':aX}{mu':Mu}{h':Heap}(s:ai W z as mu h z' as' mu' h'){n:Nat}(hn:as.length<=n):ai W z as mu h z' (as'.take n) (mu'.take n) h':=
 ⟨s.zsub,zv s.asub hn,s.keep,s.zfresh,λa m=>s.mfresh a m.of_take,s.live⟩
noncomputable def cX(n:Nat)(keep:Option Nat)(v:V)(mu:Mu):Option (V×Mu):=match keep with
 |none=>some (v,mu)
 |some k=>let js:=(aaa (mu.length-(n+k))).map λi=>n+k+i
  let v':=iW (dc js mu).1 v
  let mu':=(dc js mu).2.take (n+k)
  if n+k<=(dc js mu).2.length/\aG (n+k) v'=true/\mu'.all (og (n+k))=true then some (v',mu') else none
theorem mM{f:Value}{vs:List V}{v v':V}{mu1:Mu}(c:eF prog w h₀ r f vs mu v mu1){keep:Option Nat}(e:cX mu.length keep v mu1=some (v',mu')):eF prog w h₀ r f vs mu v' mu':=by
 cases keep with
 |none=>cases e;exact c
 |some k=>
  simp only[cX] at e
  split at e
  ·rename_i hc
   cases e
   intro A z as xs s Q ro R rl q
   refine c A z as xs s Q ro R rl λy s1 z1 as1 sm R1 st1 ry=> ?_
   obtain⟨z2,R2,st2,hr⟩:=wp ((aaa (mu1.length-(mu.length+k))).map λi=>mu.length+k+i) R1
   refine q y s1 z2 (as1.take (mu.length+k)) sm (R2.take hc.1 hc.2.2) ((st1.trans0 st2).take (by rw[R.len];exact dk 198288180 [_,_] [])) ?_
   refine aC.close (n:=mu.length+k) (λt p ht hp=> ?_) hc.2.1 (hr _ _ ry)
   rw[List.getElem?_take,if_pos ht];exact hp
  ·cases e
theorem oq{a:Addr}(m:jx [] [] a):False:=by
 obtain⟨i,mo,p,e,_⟩:=m
 simp at e
theorem EX{as:aX}(R:MR h₀ z as [] h):as=[]:=List.length_eq_zero_iff.mp R.len
theorem ut{f:Value}{vs:List V}{v:V}(c:eF prog w h₀ r f vs [] v [])(hb:ab 0 vs=true):eF prog w h₀ r f vs mu v mu:=by
 intro A z as xs s Q ro R rl q
 have R0:MR h₀ z [] [] s.heap:=⟨R.base,R.zin,rfl,λi mo p e=>by simp at e,λi mo p e=>by simp at e,λi j mi mj pi pj e=>by simp at e⟩
 refine c A z [] xs s Q ro R0 (aA.close (n:=0) (λt p ht=>absurd ht (aad _)) hb rl) λy s1 z1 as1 sm R1 st1 ry=> ?_
 cases EX R1
 have keepM:∀a,jx as mu a->z1 a=none:=λa m=>by
  obtain⟨o,e⟩:=R.live m
  cases q:z1 a with
  |none=>rfl
  |some o'=>
   rcases st1.zfresh a o' q with h|h|h
   ·rw[R.mut_z m] at h;cases h
   ·rw[e] at h;cases h
   ·exact(oq h).elim
 refine q y s1 z1 as sm ⟨R1.base,R1.zin,R.len,λi mo p e f=>(R.ok i mo p e f).mono st1.zsub (aav _) λa ha o ho=>st1.keep a o ho oq id,λi mo p e f a ha=>keepM a ⟨i,mo,p,e,f,ha⟩,R.apart⟩
  ⟨st1.zsub,aav _,λa o e hm _=>st1.keep a o e oq id,λa o e=>(st1.zfresh a o e).imp id λh=>h.imp id λh=>(oq h).elim,λa m=> .inl m,λa o e _=>st1.live a o e id⟩ (ry.mono (cV.refl _) (List.nil_prefix))
set_option tactic.hygienic true in
theorem uu{f:Value}{ws l l':List V}{v:V}{i:Nat}(c:eF prog w h₀ r f (.ref 0::ws) [.lst l] v [.lst l'])(hb:ab 0 ws=true)(hl:ab 0 l=true)(hl':ab 0 l'=true)(hv:aG 0 v=true)(hi:mu[i]? =some (.lst l)):
  eF prog w h₀ r f (.ref i::ws) mu v (mu.set i (.lst l')):=by
 intro A z as xs s Q ro R rl q
 have hlt:=aO hi
 obtain⟨p,hp⟩:∃p,as[i]? =some p:=by
  rw[<-R.len] at hlt
  exact⟨_,aaD hlt⟩
 have hc0:∀{as as0:aX},∀t (p:Addr×Addr),t<0->as[t]? =some p->as0[t]? =some p:=λt p ht=>absurd ht (aad _)
 have one:∀{k:Nat}{m m':MO}{q:Addr×Addr},[m][k]? =some m'->[p][k]? =some q->m'=m/\q=p:=λ{k m m' q} e f=>by
  cases k with
  |zero=>simp at e f;exact⟨e.symm,f.symm⟩
  |succ k=>simp at e
 have R0:MR h₀ z [p] [.lst l] s.heap:=⟨R.base,R.zin,rfl,λk mo q e f=>by
   obtain⟨rfl,rfl⟩:=one e f
   exact(R.ok i _ _ hi hp).close (n:=0) hc0 hl,λk mo q e f=>by
   obtain⟨rfl,rfl⟩:=one e f
   exact R.out i _ _ hi hp,λk j mi mj pi pj e1 e2 q0 q0 hn=>by
   have:=aO e1;have:=aO e2
   simp at*;lia⟩
 cases rl with|cons r0 rl=>
 cases r0 with|ref e0=>
 rename_i ys a d
 rw[hp] at e0;cases e0
 refine c A z [(a,d)] (.ref a::ys) s Q ro R0 (.cons (.ref (d:=d) rfl) (aA.close (n:=0) hc0 hb rl)) λy s1 z1 as1 sm R1 st1 ry=> ?_
 obtain⟨t,rfl⟩:=st1.asub
 have ht:t=[]:=by have:=R1.len;simp at this;exact this
 subst ht
 have m0:∀b,jx [(a,d)] [.lst l] b->b=a:=λb m=>by
  obtain⟨k,mo,q,e,f,hb⟩:=m
  obtain⟨rfl,rfl⟩:=one e f
  simpa [MO.own] using hb
 have ma:jx as mu a:=⟨i,_,_,hi,hp,by simp[MO.own]⟩
 have za:z1 a=none:=R1.out 0 (.lst l') (a,d) rfl rfl a (by simp[MO.own])
 have keepM:∀b,jx as mu b->z1 b=none:=λb m=>by
  obtain⟨o,e⟩:=R.live m
  cases q:z1 b with
  |none=>rfl
  |some o'=>
   rcases st1.zfresh b o' q with h|h|h
   ·rw[R.mut_z m] at h;cases h
   ·rw[e] at h;cases h
   ·rw[m0 b h,za] at q;cases q
 have back:∀{j:Nat}{m:MO},(mu.set i (.lst l'))[j]? =some m->(j=i/\m= .lst l')\/(j≠i/\mu[j]? =some m):=λ{j m} e=>by
  by_cases q:i=j
  ·subst q
   rw[aaA hlt] at e
   exact .inl ⟨rfl,(aag e).symm⟩
  ·rw[aaB q] at e;exact .inr ⟨λh=>q h.symm,e⟩
 have mback:∀b,jx as (mu.set i (.lst l')) b->jx as mu b:=λb m=>by
  obtain⟨j,mo,q,e,f,hb⟩:=m
  rcases back e with⟨rfl,rfl⟩|⟨hj,e⟩
  ·exact⟨j,_,_,hi,f,hb⟩
  ·exact⟨j,mo,q,e,f,hb⟩
 refine q y s1 z1 as sm ⟨R1.base,R1.zin,by rw[List.length_set];exact R.len,λj mo q e f=> ?_,λj mo q e f b hb=> ?_,λj k mj mk pj pk ej ek fj fk hjk b hb hb'=> ?_⟩
  ⟨st1.zsub,aav _,λb o e hm q0=>st1.keep b o e (λm=>hm (m0 b m▸ma)) id,λb o e=>(st1.zfresh b o e).imp id λh=>h.imp id λh=>m0 b h▸ma,λb m=> .inl (mback b m),λb o e q0=>st1.live b o e id⟩ (aC.close (n:=0) hc0 hv ry)
 ·rcases back e with⟨rfl,rfl⟩|⟨hj,e⟩
  ·rw[hp] at f;cases f
   exact(R1.ok 0 (.lst l') (a,d) rfl rfl).close (n:=0) hc0 hl'
  ·exact(R.ok j mo q e f).mono st1.zsub (aav _) λb hb o ho=>st1.keep b o ho (λm=>R.apart j i mo _ q _ e hi f hp hj b hb (by rw[m0 b m];simp[MO.own])) id
 ·rcases back e with⟨rfl,rfl⟩|⟨hj,e⟩
  ·exact keepM b ⟨j,_,_,hi,f,hb⟩
  ·exact keepM b ⟨j,mo,q,e,f,hb⟩
 ·rcases back ej with⟨h1,h3⟩|⟨h1,h3⟩<;>rcases back ek with⟨h2,h4⟩|⟨h2,h4⟩
  ·exact hjk (h1.trans h2.symm)
  ·subst h1;subst h3;exact R.apart _ k _ mk pj pk hi h4 fj fk hjk b hb hb'
  ·subst h2;subst h4;exact R.apart j _ mj _ pj pk h3 hi fj fk hjk b hb hb'
  ·exact R.apart j k mj mk pj pk h3 h4 fj fk hjk b hb hb'
end
end
theorem km{α:Type}(x y:Str)(v:α)(r:List (Str×α)):((y,v)::r).lookup x=if x==y then some v else r.lookup x:=by
 rw[aau];cases x==y<;>rfl
theorem xR{α:Type}{x:Str}:∀{a:List (Str×α)},x∉a.map (·.1)->a.lookup x=none:=by
 intro L0
 induction L0 with
 |nil=>
  intro _
  exact rfl
 |cons e0 a ih=>
  obtain⟨y,v⟩:=e0
  intro h
  rw[km]
  simp only[aaX,aai,not_or] at h
  rw[if_neg (λq=>h.1 (beq_iff_eq.mp q))]
  exact ih h.2
theorem rV{α:Type}{x:Str}:∀{a:List (Str×α)},x∈a.map (·.1)->∃v,a.lookup x=some v:=by
 intro L0
 induction L0 with
 |nil=>
  intro h
  simp at h
 |cons e0 a ih=>
  obtain⟨y,v⟩:=e0
  intro h
  rw[km]
  by_cases q:(x==y)=true
  ·exact⟨v,if_pos q⟩
  ·rw[if_neg q]
   simp only[aaX,aai] at h
   exact ih (h.resolve_left λe=>q (beq_iff_eq.mpr e))
theorem zw{α β:Type}{f g:α->Option β}:∀{l:List α},(∀x∈l,f x=g x)->l.filterMap f=l.filterMap g:=by
 intro L0
 induction L0 with
 |nil=>
  intro _
  exact rfl
 |cons x l ih=>
  intro h
  rw[List.filterMap_cons,List.filterMap_cons,h x (.head _),ih λy hy=>h y (.tail _ hy)]
theorem uv{α β:Type}:∀(n:Nat)(a:List α)(b:List β),(a.zip b).drop n=(a.drop n).zip (b.drop n)
 |0,a,b=>rfl
 |n+1,[],b=>by simp
 |n+1,_::_,[]=>by simp
 |n+1,x::a,y::b=>by rw[aaW,List.drop_succ_cons,List.drop_succ_cons,List.drop_succ_cons];exact uv n a b
theorem zx{α:Type}:∀(s:List (Str×α)),(s.map (·.1)).Nodup->(s.map (·.1)).filterMap (λn=>(s.lookup n).map (n,·))=s:=by
 intro L0
 induction L0 with
 |nil=>
  intro _
  exact rfl
 |cons e0 s ih=>
  obtain⟨y,v⟩:=e0
  intro h
  rw[aaX,abc] at h
  rw[aaX,List.filterMap_cons,km,if_pos (beq_self_eq_true y)]
  show(y,v)::_=_
  congr 1
  refine Eq.trans (zw λx hx=> ?_) (ih h.2)
  rw[km,if_neg]
  intro q
  rw[beq_iff_eq.mp q] at hx
  exact h.1 hx
theorem EY{M:Model}{A:Around}{E:Value->Shared->Prop}{s:Shared}{f:Str×Value->List (Str×Value)->Sem (ForInStep (List (Str×Value)))}(hf:∀n d sl,f (n,d) sl=if(sl.lookup n).isNone=true then pure (.yield (sl++[(n,d)])) else pure (.yield sl)){b:List (Str×Value)}{slots:List (Str×Value)}{Q:List (Str×Value)->Shared->Prop}
  (hb:∀p∈b,p.1∉slots.map (·.1)) (hn:(b.map (·.1)).Nodup) (q:Q (slots++b) s):wpAny M A (forIn b slots f) Q E s:=by
 induction b generalizing slots with
 |nil=>rw[abb] at q;exact wpAny_pure q
 |cons p b ih=>
  obtain⟨n,d⟩:=p
  rw[aaX,abc] at hn
  rw[List.forIn_cons,hf,xR (hb (n,d) (.head _)),if_pos (show(none:Option Value).isNone=true from rfl)]
  refine wpAny_bind (wpAny_pure (ih (λp hp h=> ?_) hn.2 (by rw[aa7];exact q)))
  rw[abk,aaj] at h
  exact h.elim (hb p (.tail _ hp)) λh=>hn.1 (aak.mpr ⟨p,hp,aah.mp h⟩)
theorem xS{M:Model}{A:Around}{E:Value->Shared->Prop}{s:Shared}{f:Str×Value->List (Str×Value)->Sem (ForInStep (List (Str×Value)))}(hf:∀n d sl,f (n,d) sl=if(sl.lookup n).isNone=true then pure (.yield (sl++[(n,d)])) else pure (.yield sl)){a b:List (Str×Value)}{slots:List (Str×Value)}{Q:List (Str×Value)->Shared->Prop}
  (ha:∀p∈a,p.1∈slots.map (·.1)) (hb:∀p∈b,p.1∉slots.map (·.1)) (hn:(b.map (·.1)).Nodup) (q:Q (slots++b) s):wpAny M A (forIn (a++b) slots f) Q E s:=by
 induction a with
 |nil=>exact EY hf hb hn q
 |cons p a ih=>
  obtain⟨v,hv⟩:=rV (ha p (.head _))
  rw[aa6,List.forIn_cons,hf p.1 p.2,hv,if_neg (by simp)]
  exact wpAny_bind (wpAny_pure (ih λp hp=>ha p (.tail _ hp)))
structure te(p:Arguments)(ps:List Str):Prop where
 po:p.posonlyargs=[]
 va:p.vararg=none
 ko:p.kwonlyargs=[]
 kw:p.kwarg=none
 ps:p.args.map (·.arg)=ps
noncomputable def zy(h:Heap)(d:Value)(ds:List Value):Prop:=(d= .none/\ds=[])\/∃T o n,d= .ref T/\h.get? T=some o/\o.data= .seq ds.toArray n
theorem kp{α:Type}:∀{ps:List Str}{ys:List α},ps.length=ys.length->(ps.zip ys).map (·.1)=ps
 |[],[],_=>rfl
 |p::ps,y::ys,h=>by
  rw[aaW,aaX,kp (by simpa using h)]
theorem vB{fd:FuncData}{ps:List Str}{ys:List Value}(P:te fd.params ps):∃(X Y:Option (Array Value)->Sem (List (Str×Value))),bindArgs fd ⟨ys,[]⟩=(seqItems? fd.defaults>>=λo=>
  if(decide (ys.length>ps.length)&&true)=true then X o
  else if(!((ps.take (ps.length-((o.getD #[]).toList.drop ((o.getD #[]).toList.length-ps.length)).length)).filter λn=>((ps.zip ys).lookup n).isNone).isEmpty)=true then Y o
  else forIn ((ps.drop (ps.length-((o.getD #[]).toList.drop ((o.getD #[]).toList.length-ps.length)).length)).zip ((o.getD #[]).toList.drop ((o.getD #[]).toList.length-ps.length))) (ps.zip ys) (λ(x:Str×Value)(r:List (Str×Value))=>if(r.lookup x.1).isNone=true then pure (aa0 (r++[(x.1,x.2)])) else pure (aa0 r))>>=λsl=>
   pure ((ps++[]).filterMap λn=>(sl.lookup n).map (n,·))):=by
 obtain⟨nm,qn,⟨po,as,va,ko,kd,kw,dd⟩,body,sc,gl,cl,df,kwd,doc,pm,an,cd,ct,bl⟩:=fd
 obtain⟨e1,e2,e3,e4,e5⟩:=P
 obtain rfl:po=[]:=e1
 obtain rfl:va=none:=e2
 obtain rfl:ko=[]:=e3
 obtain rfl:kw=none:=e4
 obtain rfl:as.map (·.arg)=ps:=e5
 exact⟨_,_,rfl⟩
theorem pn{α:Type}{ps:List Str}{ys:List α}(h:ys.length<=ps.length):(ps.zip ys).map (·.1)=ps.take ys.length:=by
 have:ps.zip ys=(ps.take ys.length).zip ys:=by
  rw[List.zip_eq_zip_take_min,Nat.min_eq_right h,aaU (aaS ys.length)]
 rw[this,kp (by rw[aaO];exact av 3674623569692963119479362400665681795670 [_,_,_] [] h (mn _ _))]
theorem zz{ps:List Str}{ds ys:List Value}(hn:ps.Nodup)(h1:ys.length<=ps.length)(h2:ps.length<=ys.length+ds.length)(h3:ds.length<=ps.length){M:Model}{A:Around}{E:Value->Shared->Prop}{s:Shared}{Q:List (Str×Value)->Shared->Prop}
  {f:Str×Value->List (Str×Value)->Sem (ForInStep (List (Str×Value)))} (hf:∀n d sl,f (n,d) sl=if(sl.lookup n).isNone=true then pure (.yield (sl++[(n,d)])) else pure (.yield sl))
  (q:Q (ps.zip (ys++ds.drop (ds.length-(ps.length-ys.length)))) s):wpAny M A (forIn ((ps.drop (ps.length-ds.length)).zip ds) (ps.zip ys) f) Q E s:=by
 have hb:((ps.drop (ps.length-ds.length)).zip ds).drop (ys.length-(ps.length-ds.length))=(ps.drop ys.length).zip (ds.drop (ds.length-(ps.length-ys.length))):=by
  rw[uv,List.drop_drop]
  congr 2<;>omega
 have hbn:((ps.drop ys.length).zip (ds.drop (ds.length-(ps.length-ys.length)))).map (·.1)=ps.drop ys.length:=kp (by rw[aaP,aaP];exact tX 670548502597152650489482793727658659370586860544314316781074109709537285440527696343937764498948271820166877605360 [_,_,_,_,_,_] [] h2 (su _ _) (su _ _) (su _ _))
 rw[<-abl (ys.length-(ps.length-ds.length)) ((ps.drop (ps.length-ds.length)).zip ds),hb]
 refine xS hf (λp hp=> ?_) (λp hp=> ?_) (by rw[hbn];exact hn.sublist (List.drop_sublist _ _)) ?_
 ·rw[pn h1]
  obtain⟨i,hi,rfl⟩:=List.mem_iff_getElem.mp hp
  rw[List.getElem_take,List.getElem_zip,List.getElem_drop,List.mem_take_iff_getElem]
  rw[aaO,List.length_zip,aaP] at hi
  exact⟨ps.length-ds.length+i,Kc 4683241086468175844452142195456632975355568127811035894654016855801912252688078893613973873288253846262398422721564679762492701256878724341781485891168599088757074803771 [_,_,_,_,_,_,_,_,_,_] [] hi (mn _ _) (mn _ _) (su _ _) (mn _ _) (su _ _),rfl⟩
 ·rw[pn h1]
  intro hx
  rw[<-abl ys.length ps,List.nodup_append] at hn
  exact hn.2.2 _ hx _ (hbn▸List.mem_map_of_mem hp) rfl
 ·generalize ds.drop (ds.length-(ps.length-ys.length))=X at q⊢
  have e:ps.zip (ys++X)=ps.zip ys++(ps.drop ys.length).zip X:=by
   rw[show ps.zip (ys++X)=(ps.take ys.length++ps.drop ys.length).zip (ys++X) by rw[abl],List.zip_append (by rw[aaO];exact av 3674623569692963119479362400665681795670 [_,_,_] [] h1 (mn _ _))]
   rw[List.zip_eq_zip_take_min (l₁:=ps),Nat.min_eq_right h1,aaU (aaS ys.length)]
  rw[<-e];exact q
theorem vC{s:Shared}{fd:FuncData}{ps:List Str}{ds ys:List Value}(P:te fd.params ps)(hn:ps.Nodup)(D:zy s.heap fd.defaults ds)(h1:ys.length<=ps.length)(h2:ps.length<=ys.length+ds.length)(h3:ds.length<=ps.length):
  BindsTo s fd ⟨ys,[]⟩ (ps.zip (ys++ds.drop (ds.length-(ps.length-ys.length)))):=by
 obtain⟨X,Y,e⟩:=vB (ys:=ys) P
 intro M A E Q q
 rw[e]
 clear e
 have key:∀{o:Option (Array Value)},(o.getD #[]).toList=ds->wpAny M A (if(decide (ys.length>ps.length)&&true)=true then X o
  else if(!((ps.take (ps.length-((o.getD #[]).toList.drop ((o.getD #[]).toList.length-ps.length)).length)).filter λn=>((ps.zip ys).lookup n).isNone).isEmpty)=true then Y o
  else forIn ((ps.drop (ps.length-((o.getD #[]).toList.drop ((o.getD #[]).toList.length-ps.length)).length)).zip ((o.getD #[]).toList.drop ((o.getD #[]).toList.length-ps.length))) (ps.zip ys) (λ(x:Str×Value)(r:List (Str×Value))=>if(r.lookup x.1).isNone=true then pure (aa0 (r++[(x.1,x.2)])) else pure (aa0 r))>>=λsl=>
   pure ((ps++[]).filterMap λn=>(sl.lookup n).map (n,·))) Q E s:=λ{o} ho=>by
  rw[ho,show ds.length-ps.length=0 by exact av 138089385239900328494940518615602226432795670 [_,_,_] [] h3 (su _ _),List.drop_zero,if_neg (by rw[Bool.and_true,decide_eq_true_eq];exact ad 1606204258470 [_,_] [] h1)]
  have hmiss:((ps.take (ps.length-ds.length)).filter λn=>((ps.zip ys).lookup n).isNone)=[]:=by
   rw[List.filter_eq_nil_iff]
   intro x hx
   have hsub:ps.take (ps.length-ds.length)<+:ps.take ys.length:=List.take_prefix_take_left (by exact av 241073451179703142443144228948271820166810537360 [_,_,_,_] [] h2 (su _ _))
   obtain⟨v,hv⟩:=rV (pn (α:=Value) h1▸hsub.subset hx:x∈(ps.zip ys).map (·.1))
   rw[hv];exact aaG
  rw[hmiss,if_neg (show ¬(!([]:List Str).isEmpty)=true from aaG)]
  refine wpAny_bind (zz hn h1 h2 h3 (λq0 q0 q0=>rfl) (wpAny_pure ?_))
  have hall:(ps.zip (ys++ds.drop (ds.length-(ps.length-ys.length)))).map (·.1)=ps:=kp (by rw[aap,aaP];exact yv 5283753021915818806632977128436449773121972692445956365966542702505518202292989937036622857053837832887763760146781604236470 [_,_,_,_,_,_] [] h1 h2 (su _ _) (su _ _) (su _ _))
  have hpick:=zx (ps.zip (ys++ds.drop (ds.length-(ps.length-ys.length)))) (by rw[hall];exact hn)
  rw[hall] at hpick
  rw[abb,hpick]
  exact q
 rcases D with⟨e,hd⟩|⟨T,o,n,e,ho,hd⟩
 ·rw[e];exact wpAny_bind (wpAny_pure (key (o:=none) hd.symm))
 ·rw[e];exact wpAny_bind (wpAny_seqItems ho hd (key (o:=some ds.toArray) rfl))
section
inductive GC where
 |dir|zero|one
inductive cy where
 |fn (ps:List Str) (ds:List V) (names:ae) (body:List Stmt) (fr:GC) (keep:Option Nat)
 |cls (fI:Addr) (fr:GC) (keep:Option Nat)
noncomputable def cy.fr:cy->GC
 | .fn _ _ _ _ f _=>f
 | .cls _ f _=>f
noncomputable def cy.keep:cy->Option Nat
 | .fn _ _ _ _ _ k=>k
 | .cls _ _ k=>k
noncomputable def uw(ps:List Str)(ds vs:List V):Option (List V):=
 if vs.length<=ps.length/\ps.length<=vs.length+ds.length then some (vs++ds.drop (ds.length-(ps.length-vs.length))) else none
noncomputable def xT(T:ba)(hint:Nat->Nat->Bool)(F:bM)(a:Addr)(e:cy)(vs:List V)(mu:Mu):Option (V×Mu):=match e with
 | .fn ps ds names body _ _=>(uw ps ds vs).bind λvs'=>(g6 T F hint names 60 body (eE ps vs' []) mu).map λx=>(DC x.1,x.2.2)
 | .cls fI _ _=>(F (.ref fI) (.ref mu.length::vs) (mu++[.obj a []])).bind λx=>match x.1 with
  | .none=>some (.ref mu.length,x.2)
  |_=>none
noncomputable def Lu(mu:Mu)(p:V×Mu):Option (V×Mu):=if p.2.isEmpty=true then some (p.1,mu) else none
noncomputable def DD(m:Mu):Option (List V):=if m.length=1 then oh m 0 else none
theorem EZ{m:Mu}{l:List V}(h:DD m=some l):m=[.lst l]:=by
 refine eV h λhl h=> ?_
 have h:=mF h
 cases m with
 |nil=>exact ak h
 |cons x r=>
  obtain rfl:=List.eq_nil_of_length_eq_zero (aao hl)
  exact congrArg (λx=>[x]) (aag h)
noncomputable def J2(mu:Mu)(i:Nat)(p:V×Mu):Option (V×Mu):=(DD p.2).bind λl=>if ab 0 l=true/\aG 0 p.1=true then some (p.1,mu.set i (.lst l)) else none
noncomputable def zA:Value->Option Addr
 | .ref a=>some a|_=>none
theorem wO{v:Value}{a:Addr}(h:zA v=some a):v= .ref a:=by cases v<;>first|exact ak h|(cases h;rfl)
noncomputable def tf:List V->Option (Nat×List V)
 |[]=>none
 |v::ws=>(t9 v).map λi=>(i,ws)
theorem zB{vs:List V}{q:Nat×List V}(h:tf vs=some q):vs= .ref q.1::q.2:=by
 cases vs with
 |nil=>exact ak h
 |cons v ws=>exact sP h λi h1 h2=>by rw[oT h1,<-h2]
noncomputable def g7(T:ba)(hint:Nat->Nat->Bool)(tab:Addr->Option cy):Nat->bM
 |0,_,_,_=>none
 |r+1,f,vs,mu=>(zA f).bind λa=>(tab a).bind λe=>match e.fr with
  | .dir=>(xT T hint (g7 T hint tab r) a e vs mu).bind λp=>cX mu.length e.keep p.1 p.2
  | .zero=>if ab 0 vs=true then((xT T hint (g7 T hint tab r) a e vs []).bind λp=>cX 0 e.keep p.1 p.2).bind (Lu mu) else none
  | .one=>(tf vs).bind λq=>(oh mu q.1).bind λl=>if ab 0 q.2=true/\ab 0 l=true then((xT T hint (g7 T hint tab r) a e (.ref 0::q.2) [.lst l]).bind λp=>cX 1 e.keep p.1 p.2).bind (J2 mu q.1) else none
noncomputable def zC(K:Frag)(d:Value)(ds:List V):Prop:=(d= .none/\ds=[])\/∃T o its n,d= .ref T/\K.lookup T=some o/\o.data= .seq its n/\aA (λq0=>none) [] ds its.toList
noncomputable def ux(K:Frag)(h₀:Heap)(a:Addr):cy->Prop
 | .fn ps ds names body _ _=>∃fd,GB K h₀ a fd body/\fd.scope.names=names/\te fd.params ps/\ps.Nodup/\(∀x∈ps,names.lookup x=some .local\/names.lookup x=some .cell)/\ds.length<=ps.length/\zC K fd.defaults ds
 | .cls fI _ _=>makesIn K a=true/\findIn K (.ref a) "__init__"=some (some (.ref fI))/\typeIn K (.ref fI)=some (.type "function")
structure DE(K:Frag)(h₀:Heap)(tab:Addr->Option cy):Prop where
 keep:∀a e,tab a=some e->keepIn K (.ref a)=true
 ok:∀a e,tab a=some e->ux K h₀ a e
section
variable{prog:Program}{w:World}{h₀:Heap}{r:Nat}{K:Frag}{T:ba}{F:bM}{hint:Nat->Nat->Bool}{tab:Addr->Option cy}
theorem zD(B:iH prog h₀)(H:bV K T h₀)(hk:∀f vs mu x,F f vs mu=some x->keepIn K f=true)(hF:∀f vs mu v mu',F f vs mu=some (v,mu')->eF prog w h₀ r f vs mu v mu')
  {a:Addr} {ps:List Str} {ds:List V} {names:ae} {body:List Stmt} {fr:GC} {keep:Option Nat} (ok:ux K h₀ a (.fn ps ds names body fr keep)) {vs:List V} {mu mu':Mu} {v:V} (h:xT T hint F a (.fn ps ds names body fr keep) vs mu=some (v,mu')):wN prog w h₀ (r+1) (.ref a) vs mu v mu':=by
 have FO:BI K prog w h₀ r F:=⟨hk,λf vs mu v mu' q=>(hF f vs mu v mu' q).call⟩
 obtain⟨fd,hf,rfl,hp,hnd,hxs,hds,hdf⟩:=ok
 refine aT h λvs' h1 k1=>sP k1 λx h2 k2=> ?_
 clear h k1
 obtain⟨fl,loc',mu1⟩:=x
 obtain rfl:DC fl=v:=congrArg Prod.fst k2
 obtain rfl:mu1=mu':=congrArg Prod.snd k2
 clear k2
 refine eV h1 λhc k3=> ?_
 clear h1
 ·obtain rfl:=aag k3
  clear k3
  refine Cj B H FO hf (λz as ys s X rl=> ?_) hxs (by rw[aap,aaP];exact tX 475537771972423692596967941559280479580977542320136072936988843225496638206369094333296057134845404959898738413210344381282306 [_,_,_,_,_,_] [] hc (su _ _) (su _ _) (su _ _)) h2
  have hlen:=rl.length
  have D:∃dv,zy s.heap fd.defaults dv/\aA z as ds dv:=by
   rcases hdf with⟨e,rfl⟩|⟨T,o,its,n,e,ho,hd,rl⟩
   ·exact⟨[],.inl ⟨e,rfl⟩,.nil⟩
   ·exact⟨its.toList,.inr ⟨T,o,n,e,X _ _ ho,by rw[hd]⟩,rl.mono (λq0 q0 h=>by cases h) List.nil_prefix⟩
  obtain⟨dv,D,rd⟩:=D
  have hd':=rd.length
  refine⟨ys++dv.drop (dv.length-(ps.length-ys.length)),?_,vC hp hnd D (av 6913881469534733514976919406 [_,_,_,_] [] hc hlen) (dX 54484389682518261340035112920861298506 [_,_,_,_,_] [] hc hlen hd') (av 13009687753722660 [_,_,_] [] hds hd')⟩
  rw[<-hd',<-hlen]
  exact rl.append (rd.drop _)
theorem vD(B:iH prog h₀)(H:bV K T h₀)(hk:∀f vs mu x,F f vs mu=some x->keepIn K f=true)(hF:∀f vs mu v mu',F f vs mu=some (v,mu')->eF prog w h₀ r f vs mu v mu')
  {a:Addr} {e:cy} (ok:ux K h₀ a e) {vs:List V} {mu mu':Mu} {v:V} (h:xT T hint F a e vs mu=some (v,mu')):eF prog w h₀ (r+1) (.ref a) vs mu v mu':=by
 cases e with
 |fn ps ds names body fr keep=>exact(zD B H hk hF ok h).ok
 |cls fI fr keep=>
  obtain⟨h1,h2,h3⟩:=ok
  refine aT h λx h4 k1=> ?_
  clear h
  obtain⟨u,mu1⟩:=x
  cases u with
  |none=>cases k1;exact zu H h1 h2 h3 (hF _ _ _ _ _ h4)
  |_=>exact ak k1
theorem E6(B:iH prog h₀)(H:bV K T h₀)(TO:DE K h₀ tab)(r:Nat):(∀f vs mu x,g7 T hint tab r f vs mu=some x->keepIn K f=true)/\(∀f vs mu v mu',g7 T hint tab r f vs mu=some (v,mu')->eF prog w h₀ r f vs mu v mu'):=by
 induction r with
 |zero=>exact⟨λq0 q0 q0 q0 h=>ak h,λq0 q0 q0 q0 q0 h=>ak h⟩
 |succ r ih=>
  obtain⟨ik,io⟩:=ih
  refine⟨λf vs mu x h=> ?_,λf vs mu v mu' h=> ?_⟩
  ·refine aT h λa h1 k1=>aT k1 λe he q0=> ?_
   rw[wO h1];exact TO.keep _ _ he
  ·refine aT h λa h0 k0=>aT k0 λe he k1=> ?_
   clear h k0
   obtain rfl:=wO h0
   clear h0
   have ok:=TO.ok _ _ he
   cases hf:e.fr with
   |dir=>
    rw[hf] at k1
    exact aT k1 λp h1 h=>mM (vD B H ik io ok h1) h
   |zero=>
    rw[hf] at k1
    refine eV k1 λhb k2=>aT k2 λp h2 k3=>aT h2 λq h1 h3=>eV k3 λhp k4=>cJ k4 λea eb=> ?_
    clear k1 k2 h2 k3 k4
    rw[aaH] at hp
    obtain⟨u,m⟩:=p
    subst ea eb hp
    exact ut (mM (mu:=[]) (vD B H ik io ok h1) h3) hb
   |one=>
    rw[hf] at k1
    refine aT k1 λq hq k2=>aT k2 λl hl k3=>eV k3 λhb k4=>aT k4 λp h2 k5=>aT h2 λp1 h1 h3=>aT k5 λl' hm k6=>eV k6 λhw k7=>cJ k7 λea eb=> ?_
    clear k1 k2 k3 k4 h2 k5 k6 k7
    obtain⟨u,m⟩:=p
    obtain rfl:=zB hq
    obtain rfl:=EZ hm
    subst ea eb
    exact uu (mM (mu:=[.lst l]) (vD B H ik io ok h1) h3) hb.1 hb.2 hw.1 hw.2 (mF hl)
end
end
noncomputable def pw:Program:=PySem.Challenge.pw_tu0009_01
noncomputable def br(i:Nat):Stmt:=pw.main.body.getD i (.Pass default)
set_option backward.match.sparseCases false in
noncomputable def jz(name:Str):Stmt->Stmt
 | .ClassDef _ _ _ b _ _ _ _ _ _ _=>(b.find? λs=>match s with
  | .FunctionDef n _ _ _ _ _ _ _ _ _=>n==name
  |_=>false).getD (.Pass default)
 |s=>s
noncomputable def aD:Stmt->List Stmt
 | .FunctionDef _ _ b _ _ _ _ _ _ _=>b
 |_=>[]
noncomputable def bn:Stmt->ae
 | .FunctionDef _ _ _ _ _ _ s _ _ _=>s.names
 |_=>[]
noncomputable abbrev fG:Addr:=105
noncomputable abbrev fQ:Addr:=112
noncomputable abbrev cK:Addr:=119
noncomputable abbrev kq:Addr:=126
noncomputable abbrev iL:Addr:=161
noncomputable abbrev ga:Addr:=190
noncomputable abbrev gx:Addr:=197
noncomputable abbrev hU:Addr:=254
noncomputable abbrev iC:Addr:=268
noncomputable abbrev gy:Addr:=275
noncomputable abbrev eY:Addr:=282
noncomputable abbrev cF:Addr:=289
noncomputable abbrev cP:Addr:=296
noncomputable abbrev gO:Addr:=348
noncomputable abbrev hV:Addr:=369
noncomputable abbrev hX:Addr:=390
noncomputable abbrev hY:Addr:=412
noncomputable abbrev eZ:Addr:=434
noncomputable abbrev fR:Addr:=448
noncomputable abbrev be:Addr:=466
noncomputable abbrev bz:Addr:=472
noncomputable abbrev i5:Addr:=477
noncomputable abbrev hZ:Addr:=482
noncomputable abbrev i6:Addr:=487
noncomputable abbrev fT:Addr:=494
noncomputable abbrev gz:Addr:=501
noncomputable abbrev fa:Addr:=516
noncomputable abbrev lH:Addr:=523
noncomputable abbrev fb:Addr:=530
noncomputable abbrev dM:Addr:=537
noncomputable abbrev i7:Addr:=544
noncomputable abbrev gP:Addr:=551
noncomputable abbrev th:Addr:=558
noncomputable abbrev gQ:Addr:=565
noncomputable abbrev ia:Addr:=572
noncomputable abbrev lI:Addr:=579
noncomputable abbrev ib:Addr:=593
noncomputable abbrev iM:Addr:=600
noncomputable abbrev ot:Addr:=608
noncomputable abbrev ou:Addr:=616
noncomputable abbrev lJ:Addr:=623
noncomputable abbrev fU:Addr:=630
noncomputable abbrev ff:Addr:=637
noncomputable abbrev jS:Addr:=642
noncomputable abbrev ic:Addr:=649
noncomputable abbrev i8:Addr:=656
noncomputable abbrev ie:Addr:=663
noncomputable abbrev kr:Addr:=668
noncomputable abbrev i9:Addr:=675
noncomputable abbrev kt:Addr:=682
noncomputable abbrev ja:Addr:=689
noncomputable abbrev jb:Addr:=696
noncomputable abbrev ku:Addr:=703
noncomputable abbrev cj:Addr:=710
noncomputable abbrev jc:Addr:=717
noncomputable abbrev jd:Addr:=724
noncomputable abbrev je:Addr:=731
noncomputable abbrev jf:Addr:=736
noncomputable abbrev jg:Addr:=741
noncomputable abbrev cf:Addr:=746
noncomputable abbrev ig:Addr:=753
noncomputable abbrev ii:Addr:=760
noncomputable abbrev ij:Addr:=765
noncomputable abbrev cY:Addr:=770
noncomputable abbrev rW:Addr:=775
noncomputable abbrev dR:Addr:=243
noncomputable abbrev aU:Addr:=306
noncomputable abbrev ay:Addr:=351
noncomputable abbrev eG:Addr:=372
noncomputable abbrev iD:Addr:=393
noncomputable abbrev gR:Addr:=415
noncomputable abbrev bH:Addr:=437
noncomputable def pp:Stmt:=br 14
noncomputable def pq:cy:= .fn ["value","low","high"] [] (bn pp) (aD pp) .dir none
noncomputable def kI:Stmt:=br 15
noncomputable def kJ:cy:= .fn ["value"] [] (bn kI) (aD kI) .dir none
noncomputable def kK:Stmt:=br 16
noncomputable def kL:cy:= .fn ["value"] [] (bn kK) (aD kK) .dir none
noncomputable def rX:Stmt:=br 17
noncomputable def rY:cy:= .fn ["number","by"] [] (bn rX) (aD rX) .dir none
noncomputable def rZ:Stmt:=br 24
noncomputable def r8:cy:= .fn ["excess","total"] [] (bn rZ) (aD rZ) .dir none
noncomputable def nt:Stmt:=jz "__init__" (br 27)
noncomputable def nv:cy:= .fn ["self","width","stretch","stretch_order","shrink","shrink_order"] [V.int 0,V.int 0,V.int 0,V.int 0,V.int 0] (bn nt) (aD nt) .dir none
noncomputable def lK:Stmt:=jz "parts" (br 27)
noncomputable def lL:cy:= .fn ["self"] [] (bn lK) (aD lK) .dir none
noncomputable def bQ:Stmt:=br 28
noncomputable def nw:cy:= .fn ["sums"] [] (bn bQ) (aD bQ) .dir none
noncomputable def kM:Stmt:=jz "__init__" (br 29)
noncomputable def kN:cy:= .fn ["self"] [] (bn kM) (aD kM) .dir none
noncomputable def lM:Stmt:=jz "add" (br 29)
noncomputable def lN:cy:= .fn ["self","glue"] [] (bn lM) (aD lM) .dir none
noncomputable def jT:Stmt:=jz "widen" (br 29)
noncomputable def jU:cy:= .fn ["self","width"] [] (bn jT) (aD jT) .dir none
noncomputable def gb:Stmt:=jz "stretch_top" (br 29)
noncomputable def gc:cy:= .fn ["self"] [] (bn gb) (aD gb) .dir none
noncomputable def gq:Stmt:=jz "shrink_top" (br 29)
noncomputable def gr:cy:= .fn ["self"] [] (bn gq) (aD gq) .dir none
noncomputable def pr:Stmt:=jz "__init__" (br 38)
noncomputable def lh:cy:= .fn ["self","kind","width","height","depth","items"] [] (bn pr) (aD pr) .dir none
noncomputable def cS:Stmt:=jz "__init__" (br 39)
noncomputable def nx:cy:= .fn ["self","width","height","depth"] [] (bn cS) (aD cS) .dir none
noncomputable def ny:Stmt:=jz "__init__" (br 40)
noncomputable def nA:cy:= .fn ["self","width","sort"] [] (bn ny) (aD ny) .dir none
noncomputable def nB:Stmt:=jz "__init__" (br 41)
noncomputable def nC:cy:= .fn ["self","glue","sort","leader"] [V.none] (bn nB) (aD nB) .dir none
noncomputable def lO:Stmt:=jz "__init__" (br 42)
noncomputable def lP:cy:= .fn ["self","width","height","depth","items","spans","totals","is_vertical"] [V.bool false] (bn lO) (aD lO) .dir none
noncomputable def kO:Stmt:=br 43
noncomputable def kP:cy:= .fn ["depth"] [] (bn kO) (aD kO) .dir none
noncomputable def eK:Stmt:=br 46
noncomputable def nD:cy:= .fn ["node","depth"] [V.int 0] (bn eK) (aD eK) .dir none
noncomputable def aY:Stmt:=br 47
noncomputable def iN:cy:= .fn ["items","depth"] [V.int 0] (bn aY) (aD aY) .dir none
noncomputable def pt:Stmt:=br 48
noncomputable def pv:cy:= .fn ["node"] [] (bn pt) (aD pt) .dir none
noncomputable def nE:Stmt:=br 49
noncomputable def nF:cy:= .fn ["node"] [] (bn nE) (aD nE) .dir none
noncomputable def px:Stmt:=br 50
noncomputable def pz:cy:= .fn ["node"] [] (bn px) (aD px) .dir none
noncomputable def kQ:Stmt:=br 51
noncomputable def kR:cy:= .fn ["node"] [] (bn kQ) (aD kQ) .dir none
noncomputable def lQ:Stmt:=br 52
noncomputable def lR:cy:= .fn ["node"] [] (bn lQ) (aD lQ) .dir none
noncomputable def dz:Stmt:=br 56
noncomputable def jV:cy:= .fn ["items"] [] (bn dz) (aD dz) .zero (some 0)
noncomputable def uy:Stmt:=br 57
noncomputable def uz:cy:= .fn ["node"] [] (bn uy) (aD uy) .dir none
noncomputable def dD:Stmt:=br 58
noncomputable def jW:cy:= .fn ["items"] [] (bn dD) (aD dD) .dir none
noncomputable def cQ:Stmt:=br 59
noncomputable def iO:cy:= .fn ["items"] [] (bn cQ) (aD cQ) .dir (some 1)
noncomputable def pA:Stmt:=br 60
noncomputable def pC:cy:= .fn ["up","down"] [] (bn pA) (aD pA) .dir none
noncomputable def pD:Stmt:=br 61
noncomputable def pE:cy:= .fn ["totals","excess"] [] (bn pD) (aD pD) .dir none
noncomputable def zE:Stmt:=br 62
noncomputable def zF:cy:= .fn ["box","glue"] [] (bn zE) (aD zE) .dir none
noncomputable def pF:Stmt:=br 63
noncomputable def pG:cy:= .fn ["box","flexed"] [] (bn pF) (aD pF) .dir none
noncomputable def nG:Stmt:=br 64
noncomputable def nH:cy:= .fn ["box","node"] [] (bn nG) (aD nG) .dir none
noncomputable def jX:Stmt:=br 65
noncomputable def uA:cy:= .fn ["box"] [] (bn jX) (aD jX) .zero (some 0)
noncomputable def nI:Stmt:=br 67
noncomputable def nJ:cy:= .fn ["own","mode","amount"] [] (bn nI) (aD nI) .dir none
noncomputable def r9:Stmt:=br 68
noncomputable def sa:cy:= .fn ["box","totals","excess"] [] (bn r9) (aD r9) .dir none
noncomputable def wP:Stmt:=br 69
noncomputable def wQ:cy:= .fn ["items","mode","amount","outside"] [V.int 1,V.int 0,V.none] (bn wP) (aD wP) .zero (some 0)
noncomputable def ti:Stmt:=br 70
noncomputable def wR:cy:= .fn ["items","mode","amount","most_depth"] [V.int 1,V.int 0,V.int 1073741823] (bn ti) (aD ti) .zero (some 0)
noncomputable def wT:Stmt:=br 73
noncomputable def wU:cy:= .fn ["cell"] [] (bn wT) (aD wT) .dir none
noncomputable def ef:Stmt:=br 74
noncomputable def kS:cy:= .fn ["columns","skips"] [] (bn ef) (aD ef) .dir none
noncomputable def dF:Stmt:=br 75
noncomputable def jY:cy:= .fn ["row","columns"] [] (bn dF) (aD dF) .zero (some 0)
noncomputable def aF:Stmt:=br 76
noncomputable def uB:cy:= .fn ["rows","columns","skips"] [] (bn aF) (aD aF) .zero (some 0)
noncomputable def nK:Stmt:=br 77
noncomputable def nL:cy:= .fn ["width","is_vertical"] [] (bn nK) (aD nK) .zero (some 0)
noncomputable def pH:Stmt:=br 78
noncomputable def pI:cy:= .fn ["sizes","skips","column"] [] (bn pH) (aD pH) .dir none
noncomputable def eL:Stmt:=br 79
noncomputable def nM:cy:= .fn ["sizes","skips","mode","amount","is_vertical"] [] (bn eL) (aD eL) .zero (some 0)
noncomputable def bW:Stmt:=br 80
noncomputable def sb:cy:= .fn ["cells","model","is_vertical"] [] (bn bW) (aD bW) .dir none
noncomputable def pJ:Stmt:=br 81
noncomputable def pK:cy:= .fn ["cell","width","size","row"] [] (bn pJ) (aD pJ) .dir (some 0)
noncomputable def bX:Stmt:=br 82
noncomputable def se:cy:= .fn ["cells","sizes","skips","model","edges","is_vertical"] [] (bn bX) (aD bX) .zero (some 0)
noncomputable def pN:Stmt:=br 83
noncomputable def pO:cy:= .fn ["rule","model"] [] (bn pN) (aD pN) .dir none
noncomputable def cm:Stmt:=br 84
noncomputable def pP:cy:= .fn ["rows","sizes","skips","mode","amount","is_vertical"] [] (bn cm) (aD cm) .zero (some 0)
noncomputable def sf:Stmt:=br 86
noncomputable def sj:cy:= .fn ["cell","more"] [] (bn sf) (aD sf) .dir none
noncomputable def pQ:Stmt:=br 87
noncomputable def pR:cy:= .fn ["box","many"] [] (bn pQ) (aD pQ) .one (some 0)
noncomputable def pT:Stmt:=br 88
noncomputable def pU:cy:= .fn ["box"] [] (bn pT) (aD pT) .one (some 0)
noncomputable def pX:Stmt:=br 89
noncomputable def pY:cy:= .fn ["box"] [] (bn pX) (aD pX) .one (some 0)
noncomputable def p4:Stmt:=br 90
noncomputable def p5:cy:= .fn ["part"] [] (bn p4) (aD p4) .zero (some 0)
noncomputable def fH:Stmt:=br 91
noncomputable def p6:cy:= .fn ["parts","spans","upright"] [] (bn fH) (aD fH) .zero (some 0)
noncomputable def b7:Stmt:=br 92
noncomputable def p7:cy:= .fn ["box","columns","gone"] [] (bn b7) (aD b7) .one (some 0)
noncomputable def bA:Stmt:=br 93
noncomputable def nN:cy:= .fn ["rows","skips","goal","upright"] [] (bn bA) (aD bA) .zero (some 0)
noncomputable def gd:Stmt:=br 94
noncomputable def nO:cy:= .fn ["sizes"] [] (bn gd) (aD gd) .zero (some 0)
noncomputable def cU:Stmt:=br 95
noncomputable def nP:cy:= .fn ["box","many"] [] (bn cU) (aD cU) .one (some 0)
noncomputable def ge:Stmt:=br 96
noncomputable def nQ:cy:= .fn ["rows","kept"] [] (bn ge) (aD ge) .zero (some 0)
noncomputable def aE:Stmt:=br 97
noncomputable def lS:cy:= .fn ["told","row","kept","sizes","upright"] [] (bn aE) (aD aE) .zero (some 0)
noncomputable def a8:Stmt:=br 98
noncomputable def zG:cy:= .fn ["script"] [] (bn a8) (aD a8) .dir none
noncomputable def zH:cy:= .cls ga .zero (some 0)
noncomputable def uC:cy:= .cls iC .dir none
noncomputable def DF:cy:= .cls gO .dir none
noncomputable def zI:cy:= .cls hV .zero (some 0)
noncomputable def zJ:cy:= .cls hX .zero (some 0)
noncomputable def zK:cy:= .cls hY .zero (some 0)
noncomputable def wV:cy:= .cls eZ .dir none
noncomputable def vE:List (Addr×cy):=[
 (fG,pq),
 (fQ,kJ),
 (cK,kL),
 (kq,rY),
 (iL,r8),
 (ga,nv),
 (gx,lL),
 (hU,nw),
 (iC,kN),
 (gy,lN),
 (eY,jU),
 (cF,gc),
 (cP,gr),
 (gO,lh),
 (hV,nx),
 (hX,nA),
 (hY,nC),
 (eZ,lP),
 (fR,kP),
 (be,nD),
 (bz,iN),
 (i5,pv),
 (hZ,nF),
 (i6,pz),
 (fT,kR),
 (gz,lR),
 (fa,jV),
 (lH,uz),
 (fb,jW),
 (dM,iO),
 (i7,pC),
 (gP,pE),
 (th,zF),
 (gQ,pG),
 (ia,nH),
 (lI,uA),
 (ib,nJ),
 (iM,sa),
 (ot,wQ),
 (ou,wR),
 (lJ,wU),
 (fU,kS),
 (ff,jY),
 (jS,uB),
 (ic,nL),
 (i8,pI),
 (ie,nM),
 (kr,sb),
 (i9,pK),
 (kt,se),
 (ja,pO),
 (jb,pP),
 (ku,sj),
 (cj,pR),
 (jc,pU),
 (jd,pY),
 (je,p5),
 (jf,p6),
 (jg,p7),
 (cf,nN),
 (ig,nO),
 (ii,nP),
 (ij,nQ),
 (cY,lS),
 (rW,zG),
 (dR,zH),
 (aU,uC),
 (ay,DF),
 (eG,zI),
 (iD,zJ),
 (gR,zK),
 (bH,wV)]
noncomputable def dh(a:Addr):Option cy:=vE.lookup a
theorem lT:dh fG=some pq:=rfl
theorem n6:dh fQ=some kJ:=rfl
theorem n7:dh cK=some kL:=rfl
theorem nR:dh kq=some rY:=rfl
theorem im:dh iL=some r8:=rfl
theorem eg:dh ga=some nv:=rfl
theorem p8:dh gx=some lL:=rfl
theorem kT:dh hU=some nw:=rfl
theorem n8:dh iC=some kN:=rfl
theorem p9:dh gy=some lN:=rfl
theorem mN:dh eY=some jU:=rfl
theorem jh:dh cF=some gc:=rfl
theorem jF:dh cP=some gr:=rfl
theorem tj:dh gO=some lh:=rfl
theorem rh:dh hV=some nx:=rfl
theorem ri:dh hX=some nA:=rfl
theorem kU:dh hY=some nC:=rfl
theorem jZ:dh eZ=some lP:=rfl
theorem n9:dh fR=some kP:=rfl
theorem eh:dh be=some nD:=rfl
theorem gS:dh bz=some iN:=rfl
theorem gA:dh i5=some pv:=rfl
theorem fV:dh hZ=some nF:=rfl
theorem gB:dh i6=some pz:=rfl
theorem eA:dh fT=some kR:=rfl
theorem fg:dh gz=some lR:=rfl
theorem mO:dh fa=some jV:=rfl
theorem ji:dh lH=some uz:=rfl
theorem mP:dh fb=some jW:=rfl
theorem li:dh dM=some iO:=rfl
theorem lU:dh i7=some pC:=rfl
theorem bI:dh gP=some pE:=rfl
theorem j0:dh th=some zF:=rfl
theorem tm:dh gQ=some pG:=rfl
theorem el:dh ia=some nH:=rfl
theorem qa:dh lI=some uA:=rfl
theorem kW:dh ib=some nJ:=rfl
theorem nS:dh iM=some sa:=rfl
theorem xU:dh ot=some wQ:=rfl
theorem xV:dh ou=some wR:=rfl
theorem sn:dh lJ=some wU:=rfl
theorem oa:dh fU=some kS:=rfl
theorem mQ:dh ff=some jY:=rfl
theorem vF:dh jS=some uB:=rfl
theorem fW:dh ic=some nL:=rfl
theorem lV:dh i8=some pI:=rfl
theorem kX:dh ie=some nM:=rfl
theorem nT:dh kr=some sb:=rfl
theorem gC:dh i9=some pK:=rfl
theorem uD:dh kt=some se:=rfl
theorem tp:dh ja=some pO:=rfl
theorem tq:dh jb=some pP:=rfl
theorem nU:dh ku=some sj:=rfl
theorem lW:dh cj=some pR:=rfl
theorem tr:dh jc=some pU:=rfl
theorem jj:dh jd=some pY:=rfl
theorem jk:dh je=some p5:=rfl
theorem lX:dh jf=some p6:=rfl
theorem lY:dh jg=some p7:=rfl
theorem rj:dh cf=some nN:=rfl
theorem rm:dh ig=some nO:=rfl
theorem rn:dh ii=some nP:=rfl
theorem rq:dh ij=some nQ:=rfl
theorem j1:dh cY=some lS:=rfl
theorem Ck:dh rW=some zG:=rfl
theorem uE:dh dR=some zH:=rfl
theorem vG:dh aU=some uC:=rfl
theorem tu:dh ay=some DF:=rfl
theorem zL:dh eG=some zI:=rfl
theorem zM:dh iD=some zJ:=rfl
theorem zN:dh gR=some zK:=rfl
theorem sq:dh bH=some wV:=rfl
noncomputable def GD:List (Nat×Nat):=[(133,23),(134,22),(387,12),(443,21),(454,14),(459,13),(460,12),(474,12),(481,102),(485,52),(516,12),(531,11),(567,11),(569,23),(581,12),(591,18),(598,19),(598,38),(605,54),(429,1000),(478,1000),(459,1000),(587,1000)]
noncomputable def HT(l c:Nat):Bool:=GD.contains (l,c)
noncomputable def zO:List (Str×V):=[
 (aaQ "UNITY",V.int 65536),
 (aaQ "MAX_DIMEN",V.int 1073741823),
 (aaQ "MAX_NUMBER",V.int 2147483647),
 (aaQ "INF_BAD",V.int 10000),
 (aaQ "NORMAL",V.int 0),
 (aaQ "FIL",V.int 1),
 (aaQ "FILL",V.int 2),
 (aaQ "FILLL",V.int 3),
 (aaQ "CHAR",V.int 0),
 (aaQ "LIGATURE",V.int 1),
 (aaQ "HBOX",V.int 2),
 (aaQ "VBOX",V.int 3),
 (aaQ "RULE",V.int 4),
 (aaQ "KERN",V.int 5),
 (aaQ "GLUE",V.int 6),
 (aaQ "PENALTY",V.int 7),
 (aaQ "DISC",V.int 8),
 (aaQ "MARK",V.int 9),
 (aaQ "INSERT",V.int 10),
 (aaQ "ADJUST",V.int 11),
 (aaQ "MATH",V.int 12),
 (aaQ "SPECIAL",V.int 13),
 (aaQ "UNSET",V.int 14),
 (aaQ "NATURAL",V.int 0),
 (aaQ "STRETCHED",V.int 1),
 (aaQ "SHRUNK",V.int 2),
 (aaQ "FONT_KERN",V.int 0),
 (aaQ "MU_KERN",V.int 3),
 (aaQ "PLAIN",V.int 0),
 (aaQ "ALEADERS",V.int 1),
 (aaQ "XLEADERS",V.int 3),
 (aaQ "NONSCRIPT",V.int 5),
 (aaQ "NAMED",V.int 100),
 (aaQ "DEEPEST",V.int 60),
 (aaQ "EXACTLY",V.int 0),
 (aaQ "SPREAD",V.int 1),
 (aaQ "FINE",V.int 0),
 (aaQ "LOOSE",V.int 1),
 (aaQ "TIGHT",V.int 2),
 (aaQ "OVERFULL",V.int 3),
 (aaQ "TAB_SORT",V.int 109),
 (aaQ "is_whole",V.top (.ref fG)),
 (aaQ "check_whole",V.top (.ref fQ)),
 (aaQ "check_dimen",V.top (.ref cK)),
 (aaQ "rounded",V.top (.ref kq)),
 (aaQ "badness",V.top (.ref iL)),
 (aaQ "top_order",V.top (.ref hU)),
 (aaQ "check_depth",V.top (.ref fR)),
 (aaQ "described",V.top (.ref be)),
 (aaQ "described_list",V.top (.ref bz)),
 (aaQ "width_of",V.top (.ref i5)),
 (aaQ "height_of",V.top (.ref hZ)),
 (aaQ "depth_of",V.top (.ref i6)),
 (aaQ "line_height",V.top (.ref fT)),
 (aaQ "line_depth",V.top (.ref gz)),
 (aaQ "natural_line",V.top (.ref fa)),
 (aaQ "across",V.top (.ref lH)),
 (aaQ "check_column",V.top (.ref fb)),
 (aaQ "natural_column",V.top (.ref dM)),
 (aaQ "quotient",V.top (.ref i7)),
 (aaQ "set_glue",V.top (.ref gP)),
 (aaQ "flex",V.top (.ref th)),
 (aaQ "set_part",V.top (.ref gQ)),
 (aaQ "part_size",V.top (.ref ia)),
 (aaQ "places",V.top (.ref lI)),
 (aaQ "goal_size",V.top (.ref ib)),
 (aaQ "set_box",V.top (.ref iM)),
 (aaQ "hpack",V.top (.ref ot)),
 (aaQ "vpack",V.top (.ref ou)),
 (aaQ "along",V.top (.ref lJ)),
 (aaQ "check_skips",V.top (.ref fU)),
 (aaQ "placed_cells",V.top (.ref ff)),
 (aaQ "widths",V.top (.ref jS)),
 (aaQ "empty_box",V.top (.ref ic)),
 (aaQ "tab_node",V.top (.ref i8)),
 (aaQ "prototype",V.top (.ref ie)),
 (aaQ "row_box",V.top (.ref kr)),
 (aaQ "set_cell",V.top (.ref i9)),
 (aaQ "set_row",V.top (.ref kt)),
 (aaQ "set_rule",V.top (.ref ja)),
 (aaQ "finished",V.top (.ref jb)),
 (aaQ "_law_box",V.top (.ref ku)),
 (aaQ "_law_take",V.top (.ref cj)),
 (aaQ "_law_flow",V.top (.ref jc)),
 (aaQ "_law_part",V.top (.ref jd)),
 (aaQ "_law_node",V.top (.ref je)),
 (aaQ "_law_cell",V.top (.ref jf)),
 (aaQ "_law_rows",V.top (.ref jg)),
 (aaQ "_law_table",V.top (.ref cf)),
 (aaQ "_law_blank",V.top (.ref ig)),
 (aaQ "_law_order",V.top (.ref ii)),
 (aaQ "_law_fewer",V.top (.ref ij)),
 (aaQ "_law_shrunk",V.top (.ref cY)),
 (aaQ "law",V.top (.ref rW)),
 (aaQ "Glue",V.top (.ref dR)),
 (aaQ "Totals",V.top (.ref aU)),
 (aaQ "Box",V.top (.ref ay)),
 (aaQ "Rule",V.top (.ref eG)),
 (aaQ "Kern",V.top (.ref iD)),
 (aaQ "Skip",V.top (.ref gR)),
 (aaQ "Unset",V.top (.ref bH)),
 (aaQ "len",V.top (.builtin "len")),
 (aaQ "max",V.top (.builtin "max")),
 (aaQ "abs",V.top (.builtin "abs")),
 (aaQ "sum",V.top (.builtin "sum")),
 (aaQ "isinstance",V.top (.builtin "isinstance")),
 (aaQ "tuple",V.top (.type "tuple")),
 (aaQ "int",V.top (.type "int")),
 (aaQ "bool",V.top (.type "bool")),
 (aaQ "list",V.top (.type "list")),
 (aaQ "range",V.top (.type "range")),
 (aaQ "enumerate",V.top (.type "enumerate"))]
noncomputable def j2:List (Addr×Str):=[(dR,aaQ "width"),(dR,aaQ "stretch"),(dR,aaQ "stretch_order"),(dR,aaQ "shrink"),(dR,aaQ "shrink_order"),(aU,aaQ "natural"),(aU,aaQ "stretch"),(aU,aaQ "shrink"),(ay,aaQ "kind"),(ay,aaQ "width"),(ay,aaQ "height"),(ay,aaQ "depth"),(ay,aaQ "items"),(ay,aaQ "shift"),(ay,aaQ "sign"),(ay,aaQ "order"),(ay,aaQ "ratio"),(eG,aaQ "width"),(eG,aaQ "height"),(eG,aaQ "depth"),(iD,aaQ "width"),(iD,aaQ "sort"),(gR,aaQ "glue"),(gR,aaQ "sort"),(gR,aaQ "leader"),(bH,aaQ "width"),(bH,aaQ "height"),(bH,aaQ "depth"),(bH,aaQ "items"),(bH,aaQ "spans"),(bH,aaQ "totals"),(bH,aaQ "is_vertical")]
noncomputable def zP:List ((Addr×Str)×Addr):=[((dR,aaQ "parts"),gx),((aU,aaQ "add"),gy),((aU,aaQ "widen"),eY),((aU,aaQ "stretch_top"),cF),((aU,aaQ "shrink_top"),cP)]
noncomputable def Fa:List ((Addr×Str)×V):=[((eG,aaQ "kind"),V.int 4),((iD,aaQ "kind"),V.int 5),((gR,aaQ "kind"),V.int 6),((bH,aaQ "kind"),V.int 14)]
noncomputable def TT:ba:=⟨λx=>zO.lookup x,λC x=>j2.contains (C,x),λC x=>zP.lookup (C,x),λC x=>Fa.lookup (C,x),λC=>(j2.map (·.1)).contains C⟩
noncomputable abbrev RF(r:Nat):bM:=g7 TT HT dh r
section
inductive yz where
 |a|g|b (c:Bool)|w (v:V)|v (v:V) (mu:Mu)|l (vs:List V) (mu:Mu)|r (vs:List V)|s (fl:Fl) (loc:au) (mu:Mu)|m (mu:Mu)|z (loc:au) (mu:Mu)|p (v:V)
noncomputable abbrev D(α:Type):=List yz->Option (α×List yz×List Prop)
@[irreducible] noncomputable def D.pure{α:Type}(a:α):D α:=λo=>some (a,o,[])
@[irreducible] noncomputable def D.none{α:Type}:D α:=λq0=>Option.none
@[irreducible] noncomputable def D.bind{α β:Type}(x:D α)(f:α->D β):D β:=λo=>match x o with
 | .none=> .none
 |some (a,o',p)=>match f a o' with
  | .none=> .none
  |some (b,o'',q)=>some (b,o'',p++q)
@[irreducible] noncomputable def D.up{α:Type}(x:Option α):D α:=λo=>match x with
 | .none=> .none
 |some a=>some (a,o,[])
@[irreducible] noncomputable def D.q{α:Type}(pick:yz->Option (Option α))(x:Option α):D α:=λo=>match o with
 |[]=> .none
 |an::r=>match pick an with
  | .none=> .none
  |some .none=>match x with
   | .none=> .none
   |some a=>some (a,r,[])
  |some (some a)=>some (a,r,[x=some a])
@[irreducible] noncomputable def D.g(c:Prop)[Decidable c]:D Unit:=λo=>match o with
 | .a::r=>if c then some ((),r,[]) else .none
 | .g::r=>some ((),r,[c])
 |_=> .none
noncomputable def pB:yz->Option (Option Bool)
 | .a=>some none
 | .b c=>some (some c)
 |_=>none
noncomputable def pW:yz->Option (Option V)
 | .a=>some none
 | .w c=>some (some c)
 |_=>none
noncomputable def pV:yz->Option (Option (V×Mu))
 | .a=>some none
 | .v c mu=>some (some (c,mu))
 |_=>none
noncomputable def pL:yz->Option (Option (List V×Mu))
 | .a=>some none
 | .l c mu=>some (some (c,mu))
 |_=>none
set_option backward.match.sparseCases false in
noncomputable def pS:yz->Option (Option (Fl×au×Mu))
 | .a=>some none
 | .s f l m=>some (some (f,l,m))
 |_=>none
noncomputable def pM:yz->Option (Option Mu)
 | .a=>some none
 | .m mu=>some (some mu)
 |_=>none
noncomputable def pZ:yz->Option (Option (au×Mu))
 | .a=>some none
 | .z l m=>some (some (l,m))
 |_=>none
noncomputable def vH:List Prop->Prop
 |[]=>True
 |p::r=>p/\vH r
theorem zQ:∀{a b:List Prop},vH (a++b)->vH a/\vH b:=by
 intro L0
 induction L0 with
 |nil=>
  intro _ h
  exact⟨trivial,h⟩
 |cons _ a ih=>
  intro b h
  exact⟨⟨h.1,(ih h.2).1⟩,(ih h.2).2⟩
@[irreducible] noncomputable def D.map{α β:Type}(x:D α)(f:α->β):D β:=x.bind λa=>D.pure (f a)
@[irreducible] noncomputable def D.bnd{α β:Type}(x:D (α×Mu))(f:α->Mu->D β):D β:=x.bind λp=>f p.1 p.2
noncomputable def Sd{α:Type}(d:D α)(x:Option α):Prop:=∀o a o' p,d o=some (a,o',p)->vH p->x=some a
theorem Sd.pure{α:Type}(a:α):Sd (D.pure a) (some a):=λo b o' p h _=>by unfold D.pure at h;cases h;rfl
theorem Sd.none{α:Type}{x:Option α}:Sd D.none x:=λo b o' p h _=>by unfold D.none at h;exact ak h
theorem Sd.up{α:Type}(x:Option α):Sd (D.up x) x:=λo b o' p h _=>by
 unfold D.up at h
 cases x with
 |none=>cases h
 |some a=>cases h;rfl
set_option tactic.hygienic true in
theorem Sd.bind{α β:Type}{d:D α}{x:Option α}{f:α->D β}{g:α->Option β}(h:Sd d x)(k:∀a,Sd (f a) (g a)):Sd (d.bind f) (x.bind g):=λo b o' p e hp=>by
 unfold D.bind at e
 split at e
 ·cases e
 ·rename_i a o1 p1 h1
  split at e
  ·cases e
  ·rename_i b1 o2 p2 h2
   cases e
   obtain⟨q1,q2⟩:=zQ hp
   rw[h _ _ _ _ h1 q1]
   exact k a _ _ _ _ h2 q2
theorem Sd.map{α β:Type}{d:D α}{x:Option α}{f:α->β}(h:Sd d x):Sd (d.bind λa=>D.pure (f a)) (x.map f):=by
 have e:x.map f=x.bind λa=>some (f a):=by cases x<;>rfl
 rw[e]
 exact h.bind λa=>Sd.pure _
theorem Sd.mapD{α β:Type}{d:D α}{x:Option α}{f:α->β}(h:Sd d x):Sd (d.map f) (x.map f):=by unfold D.map;exact h.map
theorem Sd.bnd{α β:Type}{d:D (α×Mu)}{x:Option (α×Mu)}{f:α->Mu->D β}{g:α->Mu->Option β}(h:Sd d x)(k:∀a m,Sd (f a m) (g a m)):Sd (d.bnd f) (dY x g):=by
 have e:Mine.dY x g=x.bind λp=>g p.1 p.2:=by unfold Mine.dY;cases x<;>rfl
 rw[e];unfold D.bnd;exact h.bind λp=>k p.1 p.2
theorem Sd.q{α:Type}(pick:yz->Option (Option α))(x:Option α):Sd (D.q pick x) x:=λo b o' p h hp=>by
 unfold D.q at h
 split at h
 ·cases h
 ·split at h
  ·cases h
  ·split at h
   ·cases h
   ·cases h;rfl
  ·cases h;exact hp.1
theorem Sd.g{α:Type}{c:Prop}[Decidable c]{d:D α}{x:Option α}(h:Sd d x):Sd ((D.g c).bind λq0=>d) (if c then x else .none):=λo a o' p e hp=>by
 have key:Sd (D.g c) (if c then some () else .none):=λo a o' p e hp=>by
  unfold D.g at e
  split at e
  ·split at e
   ·rename_i hc;cases e;rw[if_pos hc]
   ·cases e
  ·cases e;rw[if_pos hp.1]
  ·cases e
 have:=key.bind (λq0=>h) o a o' p e hp
 by_cases hc:c
 ·rw[if_pos hc] at this⊢;exact this
 ·rw[if_neg hc] at this;cases this
theorem Sd.ite{α:Type}{c:Prop}[Decidable c]{d d':D α}{x x':Option α}(h:Sd d x)(h':Sd d' x'):Sd (if c then d else d') (if c then x else x'):=by
 by_cases hc:c
 ·rw[if_pos hc,if_pos hc];exact h
 ·rw[if_neg hc,if_neg hc];exact h'
noncomputable def Fb(op:Operator)(a b:V):Option V:=match op with
 | .Add=>(bp a).bind λa=>(bp b).map λb=> .int (a+b)
 | .Sub=>(bp a).bind λa=>(bp b).map λb=> .int (a-b)
 |_=>none
noncomputable def Fc(op:Operator)(a b:V):D V:=match Fb op a b with
 |some c=>D.pure c
 |none=>D.q pW (oO op a b)
theorem GE{op:Operator}{a b c:V}(h:Fb op a b=some c):oO op a b=some c:=by
 cases op with
 |Add=>exact aT h λi h1 h=>sP h λj h2 h=>by rw[cb h1,cb h2,<-h];rfl
 |Sub=>exact aT h λi h1 h=>sP h λj h2 h=>by rw[cb h1,cb h2,<-h];rfl
 |_=>exact ak h
theorem Sd.bin(op:Operator)(a b:V):Sd (Fc op a b) (oO op a b):=by
 unfold Fc
 cases h:Fb op a b with
 |some c=>rw[GE h];exact Sd.pure _
 |none=>exact Sd.q _ _
noncomputable def D.call(T:ba)(F:bM)(f:Value)(vs:List V)(mu:Mu):D (V×Mu):=λo=>match o with
 | .p x::r=>some ((x,mu),r,[∀m,fE T F f vs m=some (x,m)])
 |o=>D.q pV (fE T F f vs mu) o
noncomputable def D.meth(F:bM)(ov:V)(vs:List V)(mu:Mu)(k:n5):D (V×Mu):=λo=>match o with
 | .p x::r=>some ((x,mu),r,[∀m,dJ F ov vs m k=some (x,m)])
 |o=>D.q pV (dJ F ov vs mu k) o
theorem Sd.call(T:ba)(F:bM)(f:Value)(vs:List V)(mu:Mu):Sd (D.call T F f vs mu) (fE T F f vs mu):=λo a o' p e hp=>by
 unfold D.call at e
 split at e
 ·cases e;exact hp.1 mu
 ·exact Sd.q _ _ _ _ _ _ e hp
theorem Sd.meth(F:bM)(ov:V)(vs:List V)(mu:Mu)(k:n5):Sd (D.meth F ov vs mu k) (dJ F ov vs mu k):=λo a o' p e hp=>by
 unfold D.meth at e
 split at e
 ·cases e;exact hp.1 mu
 ·exact Sd.q _ _ _ _ _ _ e hp
theorem uF{T:ba}{F:bM}{a:Addr}{vs:List V}{mu:Mu}{x:V×Mu}(h:F (.ref a) vs mu=some x):fE T F (.ref a) vs mu=some x:=by
 unfold fE
 exact h
section
variable(T:ba)(F:bM)(hint:Nat->Nat->Bool)
noncomputable def dG(nm:ae)(loc:au)(n:Nat)(t:Expr)(ifs:List Expr)(elt:Expr)(names:ae)(v:V)(mu:Mu):Option (List V×Mu):=
 (cv names t v (f8 names loc)).bind λloc'=>(vh T F hint (bE nm names) loc' n ifs mu).bind λ(ok,mu)=>
  if ok then(fu T F hint (bE nm names) loc' n elt mu).map λ(x,mu)=>([x],mu) else some ([],mu)
noncomputable def Cl(nm:ae)(loc:au)(n:Nat)(t it' t':Expr)(elt:Expr)(names:ae)(v:V)(mu:Mu):Option (List V×Mu):=
 (cv names t v (f8 names loc)).bind λloc'=>(yx T F hint (bE nm names) loc' n it' mu).bind λ(items',mu)=>
  if items'.length<=1000/\(iB t').all (λx=>(loc'.lookup x).isNone)=true then
   aW (λv mu=>(cv names t' v loc').bind λloc''=>(fu T F hint (bE nm names) loc'' n elt mu).map λ(x,mu)=>([x],mu)) items' mu
  else none
noncomputable def cu(nm:ae)(n:Nat)(t:Expr)(body:List Stmt)(v:V)(loc:au)(mu:Mu):Option (Fl×au×Mu):=
 (BX T F hint nm n t v loc mu).bind λ(loc,mu)=>g6 T F hint nm n body loc mu
noncomputable def Fd(ev:Expr->Mu->D (V×Mu))(l:Expr)(ops:List CmpOp)(rs:List Expr)(mu:Mu):D (Bool×Mu):=(D.up (Ey ops rs)).bind λq=>
 D.bnd (ev l mu) λa mu=>D.bnd (ev q.1.2 mu) λb mu=>(D.q pB (b9 mu q.1.1 a b)).bind λc=>match q.2 with
  |none=>D.pure (c,mu)
  |some p=>if c then D.bnd (ev p.2 mu) λd mu=>D.map (D.q pB (b9 mu p.1 b d)) λc=>(c,mu) else D.pure (false,mu)
mutual
noncomputable def dE(nm:ae)(loc:au):Nat->Expr->Mu->D (V×Mu)
 |0,_,_=>D.none
 |n+1,e,mu=>match e with
  | .Constant c _ _=>D.up ((yP c).map λv=>(v,mu))
  | .Name x _=>D.up ((yQ T nm loc x).map λv=>(v,mu))
  | .BoolOp op vs _=>J3 nm loc n op vs mu
  | .BinOp l op r _=>D.bnd (dE nm loc n l mu) λa mu=>D.bnd (dE nm loc n r mu) λb mu=>D.map (Fc op a b) λc=>(c,mu)
  | .UnaryOp op x _=>D.bnd (dE nm loc n x mu) λa mu=>D.up ((Lr op a).map λv=>(v,mu))
  | .IfExp t a b _=>D.bnd (dT nm loc n t mu) λc mu=>dE nm loc n (if c then a else b) mu
  | .Compare l ops rs _=>D.map (Fd (dE nm loc n) l ops rs mu) λp=>(.bool p.1,p.2)
  | .Attribute o name _=>if lc o=true then D.bnd (dE nm loc n o mu) λov mu=>D.up ((rF T mu ov name).map λv=>(v,mu)) else D.none
  | .Subscript o i _=>D.bnd (dE nm loc n o mu) λov mu=>match lv i with
   |some q=>D.bnd (dO nm loc n q.1 mu) λka mu=>D.bnd (dO nm loc n q.2 mu) λkb mu=>D.map (D.q pW (qW ov ka kb)) λv=>(v,mu)
   |none=>D.bnd (dE nm loc n i mu) λiv mu=>(D.up (bp iv)).bind λk=>D.map (D.q pW (bP mu ov k)) λv=>(v,mu)
  | .Tuple es _ _=>D.bnd (dL nm loc n es mu) λvs mu=>if vs.length<=1000 then D.pure (.tup vs,mu) else D.none
  | .List es pos=>D.bnd (dL nm loc n es mu) λvs mu=>if vs.length<=1000 then D.pure (if hint pos.line pos.col then(.ref mu.length,mu++[.lst vs]) else(.lst vs,mu)) else D.none
  | .Call f args kws cp=>if kws.isEmpty then(match mH f with
   |some q=>if lc q.1=true/\args.length<=29/\(q.2.2.endLine==cp.line)=true then D.bnd (dE nm loc n q.1 mu) λov mu=>(D.up (rG T mu ov q.2.1)).bind λm=>D.bnd (dL nm loc n args mu) λvs mu=>D.meth F ov vs mu m else D.none
   |none=>match bO T nm "list" (.Call f args [] cp) with
    |some es=>if hint cp.line cp.col then(D.up (jP es)).bind λe=>(D.up (bO T nm "range" e)).bind λbs=>(D.up (jP bs)).bind λb=>D.bnd (dE nm loc n b mu) λx mu=>(D.up (bp x)).bind λk=>(D.g (-1000<=k/\k<=1000)).bind λ_=>D.pure (.ref mu.length,mu++[.lst (aM 0 k)]) else D.none
    |none=>D.bnd (dE nm loc n f mu) λfv mu=>D.bnd (dL nm loc n args mu) λvs mu=>(D.up (t8 fv)).bind λv=>D.call T F v vs mu) else D.none
  | .ListComp elt gens scope _=>dC nm loc n elt gens scope mu
  |_=>D.none
noncomputable def dC(nm:ae)(loc:au):Nat->Expr->List Comprehension->Scope->Mu->D (V×Mu)
 |0,_,_,_,_=>D.none
 |n+1,elt,gens,scope,mu=>(D.up (vg gens)).bind λq=>if oX T nm q.1.2.1 q.1.1=true/\scope.kind= .function/\iX nm scope.names=true/\gv scope.names=true then
   D.bnd (dI nm loc n q.1.2.1 mu) λitems mu=>(D.g (items.length<=1000)).bind λ_=>match q.2 with
    |none=>D.map (D.q pL (aW (dG T F hint nm loc n q.1.1 q.1.2.2 elt scope.names) items mu)) λp=>(.lst p.1,p.2)
    |some p=>if oX T (bE nm scope.names) p.2 p.1=true then D.map (D.q pL (aW (Cl T F hint nm loc n q.1.1 p.2 p.1 elt scope.names) items mu)) λp=>(.lst p.1,p.2) else D.none
  else D.none
noncomputable def dI(nm:ae)(loc:au):Nat->Expr->Mu->D (List V×Mu)
 |0,_,_=>D.none
 |n+1,e,mu=>match bO T nm "range" e with
  |some es=>(match es with
   |[]=>D.none
   |b::r=>if r.isEmpty=true then D.bnd (dE nm loc n b mu) λx mu=>(D.up (bp x)).bind λk=>(D.g (-1000<=k/\k<=1000)).bind λ_=>D.pure (aM 0 k,mu)
    else(D.up (jP r)).bind λc=>D.bnd (dE nm loc n b mu) λy mu=>D.bnd (dE nm loc n c mu) λx mu=>(D.up (bp y)).bind λj=>(D.up (bp x)).bind λk=>(D.g (-1000<=j/\j<=1000/\-1000<=k/\k<=1000)).bind λ_=>D.pure (aM j k,mu))
  |none=>match bO T nm "enumerate" e with
   |some es=>(D.up (jP es)).bind λe=>D.bnd (dE nm loc n e mu) λx mu=>D.up ((lt x).map λl=>(fD 0 l,mu))
   |none=>D.bnd (dE nm loc n e mu) λx mu=>D.up ((ww x).map λl=>(l,mu))
noncomputable def dO(nm:ae)(loc:au):Nat->Option Expr->Mu->D (Option Int×Mu)
 |0,_,_=>D.none
 |n+1,o,mu=>match o with
  |none=>D.pure (none,mu)
  |some e=>D.bnd (dE nm loc n e mu) λx mu=>(D.up (bp x)).bind λk=>(D.g (-2^62<k/\k<2^62)).bind λ_=>D.pure (some k,mu)
noncomputable def dL(nm:ae)(loc:au):Nat->List Expr->Mu->D (List V×Mu)
 |0,_,_=>D.none
 |n+1,es,mu=>match es with
  |[]=>D.pure ([],mu)
  |e::r=>D.bnd (dE nm loc n e mu) λv mu=>D.bnd (dL nm loc n r mu) λvs mu=>D.pure (v::vs,mu)
noncomputable def J3(nm:ae)(loc:au):Nat->BoolOp->List Expr->Mu->D (V×Mu)
 |0,_,_,_=>D.none
 |n+1,op,es,mu=>match es with
  |[]=>D.none
  |e::r=>if r.isEmpty then dE nm loc n e mu else D.bnd (dE nm loc n e mu) λv mu=>(D.up (gK v)).bind λb=>if ub op b then D.pure (v,mu) else J3 nm loc n op r mu
noncomputable def dT(nm:ae)(loc:au):Nat->Expr->Mu->D (Bool×Mu)
 |0,_,_=>D.none
 |n+1,e,mu=>match e with
  | .UnaryOp op x p=>if ol op then D.bnd (dT nm loc n x mu) λb mu=>D.pure (!b,mu) else D.bnd (dE nm loc n (.UnaryOp op x p) mu) λv mu=>D.up ((gK v).map λb=>(b,mu))
  | .BoolOp op vs _=>dA nm loc n op vs mu
  | .IfExp _ _ _ _=>D.none
  | .Compare l ops rs _=>Fd (dE nm loc n) l ops rs mu
  |e=>D.bnd (dE nm loc n e mu) λv mu=>D.up ((gK v).map λb=>(b,mu))
noncomputable def dA(nm:ae)(loc:au):Nat->BoolOp->List Expr->Mu->D (Bool×Mu)
 |0,_,_,_=>D.none
 |n+1,op,es,mu=>match es with
  |[]=>D.pure (!ub op true,mu)
  |e::r=>D.bnd (dT nm loc n e mu) λb mu=>if ub op b then D.pure (b,mu) else dA nm loc n op r mu
end
mutual
noncomputable def Cm(nm:ae):Nat->Expr->V->au->Mu->D (au×Mu)
 |0,_,_,_,_=>D.none
 |n+1,t,v,loc,mu=>match t with
  | .Name x _=>if nm.lookup x=some .local\/nm.lookup x=some .cell then D.pure (jD x v loc,mu) else D.none
  | .Attribute o a _=>D.bnd (dE T F hint nm loc n o mu) λov mu=>D.up ((jM T mu ov a v).map λmu=>(loc,mu))
  | .Subscript o i _=>D.bnd (dE T F hint nm loc n o mu) λov mu=>D.bnd (dE T F hint nm loc n i mu) λiv mu=>D.map (D.q pM (iG mu ov iv v)) λmu=>(loc,mu)
  | .Tuple ts _ _=>(D.up (xy v)).bind λvs=>if ts.length=vs.length then zR nm n ts vs loc mu else D.none
  |_=>D.none
noncomputable def zR(nm:ae):Nat->List Expr->List V->au->Mu->D (au×Mu)
 |0,_,_,_,_=>D.none
 |n+1,ts,vs,loc,mu=>match ts with
  |[]=>if vs.isEmpty then D.pure (loc,mu) else D.none
  |t::ts=>match vs with
   |[]=>D.none
   |v::vs=>D.bnd (Cm nm n t v loc mu) λloc mu=>zR nm n ts vs loc mu
end
noncomputable def Kk(s:Stmt)(loc:au)(mu:Mu):D (au×Mu):=if hint s.pos.line 1000=true then D.q pZ (some (fz hint s loc mu)) else D.pure (loc,mu)
mutual
noncomputable def dS(nm:ae):Nat->Stmt->au->Mu->D (Fl×au×Mu)
 |0,_,_,_=>D.none
 |n+1,s,loc,mu=>match s with
  | .Pass _=>D.pure (.next,loc,mu)
  | .Expr e _=>if yT e=true then D.none else D.bnd (dE T F hint nm loc n e mu) λ_ mu=>D.pure (.next,loc,mu)
  | .Return o _=>(D.up o).bind λe=>D.bnd (dE T F hint nm loc n e mu) λv mu=>D.pure (.ret v,loc,mu)
  | .Assign ts e _=>(D.up (jP ts)).bind λt=>if sT t e=true then D.bnd (dE T F hint nm loc n e mu) λv mu=>D.bnd (Cm T F hint nm n t v loc mu) λloc mu=>D.pure (.next,loc,mu) else D.none
  | .AugAssign t op e _=>if t7 op=true then(match t with
   | .Attribute o a _=>D.bnd (dE T F hint nm loc n o mu) λov mu=>(D.up (rF T mu ov a)).bind λold=>D.bnd (dE T F hint nm loc n e mu) λv mu=>(D.up (bp old)).bind λi=>(D.up (bp v)).bind λj=>D.up ((jM T mu ov a (.int (i+j))).map λmu=>(.next,loc,mu))
   | .Subscript o i _=>D.bnd (dE T F hint nm loc n o mu) λov mu=>D.bnd (dE T F hint nm loc n i mu) λiv mu=>(D.up (bp iv)).bind λk=>(D.q pW (bP mu ov k)).bind λold=>D.bnd (dE T F hint nm loc n e mu) λv mu=>(D.up (bp old)).bind λi=>(D.up (bp v)).bind λj=>D.map (D.q pM (iG mu ov (.int k) (.int (i+j)))) λmu=>(.next,loc,mu)
   |_=>D.none) else D.none
  | .If t a b _=>D.bnd (dT T F hint nm loc n t mu) λc mu=>dB nm n (if c then a else b) loc mu
  | .For t it body els _=>if els.isEmpty=true/\oX T nm it t=true then D.bnd (dI T F hint nm loc n it mu) λitems mu=>
    (D.g (items.length<=1000)).bind λ_=>D.q pS (jN (cu T F hint nm n t body) items loc mu) else D.none
  | .While t body els _=>if els.isEmpty=true then D.q pS (jO (λloc mu=>oY T F hint nm loc n t mu) (λloc mu=>g6 T F hint nm n body loc mu) 100 loc mu) else D.none
  |_=>D.none
noncomputable def dB(nm:ae):Nat->List Stmt->au->Mu->D (Fl×au×Mu)
 |0,_,_,_=>D.none
 |n+1,ss,loc,mu=>match ss with
  |[]=>D.pure (.next,loc,mu)
  |s::r=>(Kk hint s loc mu).bind λq0=>(dS nm n s q0.1 q0.2).bind λq=>match q.1 with
   | .next=>dB nm n r q.2.1 q.2.2
   | .ret _=>D.pure q
end
end
end
section
structure rt(T:ba)(F:bM)(hint:Nat->Nat->Bool)(n:Nat):Prop where
 e:∀nm loc x mu,Sd (dE T F hint nm loc n x mu) (fu T F hint nm loc n x mu)
 c:∀nm loc x gens sc mu,Sd (dC T F hint nm loc n x gens sc mu) (Gh T F hint nm loc n x gens sc mu)
 i:∀nm loc x mu,Sd (dI T F hint nm loc n x mu) (yx T F hint nm loc n x mu)
 o:∀nm loc x mu,Sd (dO T F hint nm loc n x mu) (F1 T F hint nm loc n x mu)
 l:∀nm loc x mu,Sd (dL T F hint nm loc n x mu) (yy T F hint nm loc n x mu)
 bs:∀nm loc op x mu,Sd (J3 T F hint nm loc n op x mu) (xA T F hint nm loc n op x mu)
 t:∀nm loc x mu,Sd (dT T F hint nm loc n x mu) (oY T F hint nm loc n x mu)
 a:∀nm loc op x mu,Sd (dA T F hint nm loc n op x mu) (F2 T F hint nm loc n op x mu)
section
variable{T:ba}{F:bM}{hint:Nat->Nat->Bool}{n:Nat}
theorem d0:rt T F hint 0:=⟨λq0 q0 q0 q0=>Sd.none,λq0 q0 q0 q0 q0 q0=>Sd.none,λq0 q0 q0 q0=>Sd.none,λq0 q0 q0 q0=>Sd.none,λq0 q0 q0 q0=>Sd.none,λq0 q0 q0 q0 q0=>Sd.none,λq0 q0 q0 q0=>Sd.none,λq0 q0 q0 q0 q0=>Sd.none⟩
theorem Sd.cmp{d:Expr->Mu->D (V×Mu)}{e:Expr->Mu->Option (V×Mu)}(h:∀x m,Sd (d x m) (e x m))(l:Expr)(ops:List CmpOp)(rs:List Expr)(mu:Mu):Sd (Fd d l ops rs mu) (BS e l ops rs mu):=by
 refine Sd.bind (Sd.up _) λq=>Sd.bnd (h _ _) λa m=>Sd.bnd (h _ _) λb m=>Sd.bind (Sd.q _ _) λc=> ?_
 cases q.2 with
 |none=>exact Sd.pure _
 |some p=>exact Sd.ite (Sd.bnd (h _ _) λd m=>Sd.mapD (Sd.q _ _)) (Sd.pure _)
theorem Ma(S:rt T F hint n)(nm:ae)(loc:au)(x:Expr)(mu:Mu):Sd (dE T F hint nm loc (n+1) x mu) (fu T F hint nm loc (n+1) x mu):=by
 cases x with
 |Constant c k p=>exact Sd.up _
 |Name x p=>exact Sd.up _
 |BoolOp op vs p=>exact S.bs _ _ _ _ _
 |BinOp l op r p=>exact Sd.bnd (S.e _ _ _ _) λa m=>Sd.bnd (S.e _ _ _ _) λb m=>Sd.mapD (Sd.bin _ _ _)
 |UnaryOp op x p=>exact Sd.bnd (S.e _ _ _ _) λa m=>Sd.up _
 |IfExp t a b p=>exact Sd.bnd (S.t _ _ _ _) λc m=>S.e _ _ _ _
 |Compare l ops rs p=>exact Sd.mapD (Sd.cmp (S.e _ _) _ _ _ _)
 |Attribute o a p=>exact Sd.ite (Sd.bnd (S.e _ _ _ _) λa m=>Sd.up _) Sd.none
 |Subscript o i p=>
  refine Sd.bnd (S.e _ _ _ _) λov m=> ?_
  cases lv i with
  |some q=>exact Sd.bnd (S.o _ _ _ _) λa m=>Sd.bnd (S.o _ _ _ _) λb m=>Sd.mapD (Sd.q _ _)
  |none=>exact Sd.bnd (S.e _ _ _ _) λa m=>Sd.bind (Sd.up _) λk=>Sd.mapD (Sd.q _ _)
 |Tuple es k p=>exact Sd.bnd (S.l _ _ _ _) λvs m=>Sd.ite (Sd.pure _) Sd.none
 |List es p=>exact Sd.bnd (S.l _ _ _ _) λvs m=>Sd.ite (Sd.pure _) Sd.none
 |Call f args kws cp=>
  refine Sd.ite ?_ Sd.none
  cases mH f with
  |some q=>exact Sd.ite (Sd.bnd (S.e _ _ _ _) λov m=>Sd.bind (Sd.up _) λk=>Sd.bnd (S.l _ _ _ _) λvs m=>Sd.meth _ _ _ _ _) Sd.none
  |none=>
   cases bO T nm "list" (.Call f args [] cp) with
   |some es=>exact Sd.ite (Sd.bind (Sd.up _) λe=>Sd.bind (Sd.up _) λbs=>Sd.bind (Sd.up _) λb=>Sd.bnd (S.e _ _ _ _) λx m=>Sd.bind (Sd.up _) λk=>Sd.g (Sd.pure _)) Sd.none
   |none=>exact Sd.bnd (S.e _ _ _ _) λfv m=>Sd.bnd (S.l _ _ _ _) λvs m=>Sd.bind (Sd.up _) λv=>Sd.call _ _ _ _ _
 |ListComp elt gens sc p=>exact S.c _ _ _ _ _ _
 |_=>exact Sd.none
theorem Mb(S:rt T F hint n)(nm:ae)(loc:au)(x:Expr)(gens:List Comprehension)(sc:Scope)(mu:Mu):Sd (dC T F hint nm loc (n+1) x gens sc mu) (Gh T F hint nm loc (n+1) x gens sc mu):=by
 refine Sd.bind (Sd.up _) λq=>Sd.ite (Sd.bnd (S.i _ _ _ _) λitems m=>Sd.g ?_) Sd.none
 cases q.2 with
 |none=>exact Sd.mapD (Sd.q _ _)
 |some p=>exact Sd.ite (Sd.mapD (Sd.q _ _)) Sd.none
theorem Mc(S:rt T F hint n)(nm:ae)(loc:au)(x:Expr)(mu:Mu):Sd (dI T F hint nm loc (n+1) x mu) (yx T F hint nm loc (n+1) x mu):=by
 show Sd _ (match bO T nm "range" x with|some es=>_|none=>_)
 show Sd (match bO T nm "range" x with
  |some es=>(match es with
   |[]=>D.none
   |b::r=>if r.isEmpty=true then D.bnd (dE T F hint nm loc n b mu) λx mu=>(D.up (bp x)).bind λk=>(D.g (-1000<=k/\k<=1000)).bind λ_=>D.pure (aM 0 k,mu)
    else(D.up (jP r)).bind λc=>D.bnd (dE T F hint nm loc n b mu) λy mu=>D.bnd (dE T F hint nm loc n c mu) λx mu=>(D.up (bp y)).bind λj=>(D.up (bp x)).bind λk=>(D.g (-1000<=j/\j<=1000/\-1000<=k/\k<=1000)).bind λ_=>D.pure (aM j k,mu))
  |none=>match bO T nm "enumerate" x with
   |some es=>(D.up (jP es)).bind λe=>D.bnd (dE T F hint nm loc n e mu) λx mu=>D.up ((lt x).map λl=>(fD 0 l,mu))
   |none=>D.bnd (dE T F hint nm loc n x mu) λx mu=>D.up ((ww x).map λl=>(l,mu))) _
 cases bO T nm "range" x with
 |none=>
  cases bO T nm "enumerate" x with
  |none=>exact Sd.bnd (S.e _ _ _ _) λv m=>Sd.up _
  |some es=>exact Sd.bind (Sd.up _) λe=>Sd.bnd (S.e _ _ _ _) λv m=>Sd.up _
 |some es=>
  cases es with
  |nil=>exact Sd.none
  |cons b r=>exact Sd.ite (Sd.bnd (S.e _ _ _ _) λx m=>Sd.bind (Sd.up _) λk=>Sd.g (Sd.pure _)) (Sd.bind (Sd.up _) λc=>Sd.bnd (S.e _ _ _ _) λy m=>Sd.bnd (S.e _ _ _ _) λx m=>Sd.bind (Sd.up _) λj=>Sd.bind (Sd.up _) λk=>Sd.g (Sd.pure _))
theorem Md(S:rt T F hint n)(nm:ae)(loc:au)(x:Option Expr)(mu:Mu):Sd (dO T F hint nm loc (n+1) x mu) (F1 T F hint nm loc (n+1) x mu):=by
 cases x with
 |none=>exact Sd.pure _
 |some x=>exact Sd.bnd (S.e _ _ _ _) λv m=>Sd.bind (Sd.up _) λk=>Sd.g (Sd.pure _)
theorem Me(S:rt T F hint n)(nm:ae)(loc:au)(x:List Expr)(mu:Mu):Sd (dL T F hint nm loc (n+1) x mu) (yy T F hint nm loc (n+1) x mu):=by
 cases x with
 |nil=>exact Sd.pure _
 |cons e r=>exact Sd.bnd (S.e _ _ _ _) λv m=>Sd.bnd (S.l _ _ _ _) λvs m=>Sd.pure _
theorem Kl(S:rt T F hint n)(nm:ae)(loc:au)(op:BoolOp)(x:List Expr)(mu:Mu):Sd (J3 T F hint nm loc (n+1) op x mu) (xA T F hint nm loc (n+1) op x mu):=by
 cases x with
 |nil=>exact Sd.none
 |cons e r=>exact Sd.ite (S.e _ _ _ _) (Sd.bnd (S.e _ _ _ _) λv m=>Sd.bind (Sd.up _) λb=>Sd.ite (Sd.pure _) (S.bs _ _ _ _ _))
theorem Mf(S:rt T F hint n)(nm:ae)(loc:au)(x:Expr)(mu:Mu):Sd (dT T F hint nm loc (n+1) x mu) (oY T F hint nm loc (n+1) x mu):=by
 cases x with
 |UnaryOp op x p=>exact Sd.ite (Sd.bnd (S.t _ _ _ _) λb m=>Sd.pure _) (Sd.bnd (S.e _ _ _ _) λv m=>Sd.up _)
 |BoolOp op vs p=>exact S.a _ _ _ _ _
 |IfExp a b c p=>exact Sd.none
 |Compare l ops rs p=>exact Sd.cmp (S.e _ _) _ _ _ _
 |_=>exact Sd.bnd (S.e _ _ _ _) λv m=>Sd.up _
theorem Mg(S:rt T F hint n)(nm:ae)(loc:au)(op:BoolOp)(x:List Expr)(mu:Mu):Sd (dA T F hint nm loc (n+1) op x mu) (F2 T F hint nm loc (n+1) op x mu):=by
 cases x with
 |nil=>exact Sd.pure _
 |cons e r=>exact Sd.bnd (S.t _ _ _ _) λb m=>Sd.ite (Sd.pure _) (S.a _ _ _ _ _)
theorem vI(n:Nat):rt T F hint n:=by
 induction n with
 |zero=>exact d0
 |succ n S=>exact⟨Ma S,Mb S,Mc S,Md S,Me S,Kl S,Mf S,Mg S⟩
theorem DG(n:Nat):(∀nm t v loc mu,Sd (Cm T F hint nm n t v loc mu) (BX T F hint nm n t v loc mu))/\(∀nm ts vs loc mu,Sd (zR T F hint nm n ts vs loc mu) (xB T F hint nm n ts vs loc mu)):=by
 induction n with
 |zero=>exact⟨λq0 q0 q0 q0 q0=>Sd.none,λq0 q0 q0 q0 q0=>Sd.none⟩
 |succ n ih=>
  have S:=vI (T:=T) (F:=F) (hint:=hint) n
  refine⟨λnm t v loc mu=> ?_,λnm ts vs loc mu=> ?_⟩
  ·cases t with
   |Name x p=>exact Sd.ite (Sd.pure _) Sd.none
   |Attribute o a p=>exact Sd.bnd (S.e _ _ _ _) λov m=>Sd.up _
   |Subscript o i p=>exact Sd.bnd (S.e _ _ _ _) λov m=>Sd.bnd (S.e _ _ _ _) λiv m=>Sd.mapD (Sd.q _ _)
   |Tuple ts k p=>exact Sd.bind (Sd.up _) λvs=>Sd.ite (ih.2 _ _ _ _ _) Sd.none
   |_=>exact Sd.none
  ·cases ts with
   |nil=>exact Sd.ite (Sd.pure _) Sd.none
   |cons t ts=>cases vs with
    |nil=>exact Sd.none
    |cons v vs=>exact Sd.bnd (ih.1 _ _ _ _ _) λl m=>ih.2 _ _ _ _ _
theorem Km(s:Stmt)(loc:au)(mu:Mu):Sd (Kk hint s loc mu) (some (fz hint s loc mu)):=by
 unfold Kk
 split
 ·exact Sd.q _ _
 ·rename_i h
  have:fz hint s loc mu=(loc,mu):=by unfold fz;rw[if_neg h]
  rw[this];exact Sd.pure _
theorem tw(n:Nat):(∀nm st loc mu,Sd (dS T F hint nm n st loc mu) (BH T F hint nm n st loc mu))/\(∀nm sts loc mu,Sd (dB T F hint nm n sts loc mu) (g6 T F hint nm n sts loc mu)):=by
 induction n with
 |zero=>exact⟨λ_ _ _ _=>Sd.none,λ_ _ _ _=>Sd.none⟩
 |succ n ih=>
  obtain⟨i1,i2⟩:=ih
  have S:=vI (T:=T) (F:=F) (hint:=hint) n
  obtain⟨a1,a2⟩:=DG (T:=T) (F:=F) (hint:=hint) n
  refine⟨λnm st loc mu=> ?_,λnm sts loc mu=> ?_⟩
  ·cases st with
   |Pass p=>exact Sd.pure _
   |Expr e p=>exact Sd.ite Sd.none (Sd.bnd (S.e _ _ _ _) λv m=>Sd.pure _)
   |Return o p=>exact Sd.bind (Sd.up _) λe=>Sd.bnd (S.e _ _ _ _) λv m=>Sd.pure _
   |Assign ts e p=>exact Sd.bind (Sd.up _) λt=>Sd.ite (Sd.bnd (S.e _ _ _ _) λv m=>Sd.bnd (a1 _ _ _ _ _) λl m=>Sd.pure _) Sd.none
   |AugAssign t op e p=>
    refine Sd.ite ?_ Sd.none
    cases t with
    |Attribute o a p=>exact Sd.bnd (S.e _ _ _ _) λov m=>Sd.bind (Sd.up _) λold=>Sd.bnd (S.e _ _ _ _) λv m=>Sd.bind (Sd.up _) λi=>Sd.bind (Sd.up _) λj=>Sd.up _
    |Subscript o i p=>exact Sd.bnd (S.e _ _ _ _) λov m=>Sd.bnd (S.e _ _ _ _) λiv m=>Sd.bind (Sd.up _) λk=>Sd.bind (Sd.q _ _) λold=>Sd.bnd (S.e _ _ _ _) λv m=>Sd.bind (Sd.up _) λi=>Sd.bind (Sd.up _) λj=>Sd.mapD (Sd.q _ _)
    |_=>exact Sd.none
   |If t a b p=>exact Sd.bnd (S.t _ _ _ _) λc m=>i2 _ _ _ _
   |For t it body els p=>exact Sd.ite (Sd.bnd (S.i _ _ _ _) λitems m=>Sd.g (Sd.q _ _)) Sd.none
   |While t body els p=>exact Sd.ite (Sd.q _ _) Sd.none
   |_=>exact Sd.none
  ·cases sts with
   |nil=>exact Sd.pure _
   |cons s r=>
    refine Sd.bind (x:=some (fz hint s loc mu)) (g:=λq0=>(BH T F hint nm n s q0.1 q0.2).bind λq=>match q.1 with
     | .next=>g6 T F hint nm n r q.2.1 q.2.2
     | .ret _=>some q) (Km _ _ _) λq0=>Sd.bind (i1 _ _ _ _) λq=> ?_
    cases q.1 with
    |next=>exact i2 _ _ _ _
    |ret v=>exact Sd.pure _
end
end
section
structure Ob(T:ba)(F:bM) where
 an:yz
 ps:List Prop
 h:vH ps
section
variable{T:ba}{F:bM}
noncomputable def mR:List (Ob T F)->List Prop
 |[]=>[]
 |o::r=>match o.ps with
  |[]=>mR r
  |p::_=>p::mR r
theorem eB:∀obs:List (Ob T F),vH (mR obs)
 |[]=>trivial
 |⟨a,[],h⟩::r=>eB r
 |⟨a,p::l,h⟩::r=>⟨h.1,eB r⟩
noncomputable abbrev oA:Ob T F:=⟨.a,[],trivial⟩
noncomputable abbrev oG{c:Prop}(h:c):Ob T F:=⟨.g,[c],⟨h,trivial⟩⟩
noncomputable abbrev oB{x:Option Bool}{c:Bool}(h:x=some c):Ob T F:=⟨.b c,[x=some c],⟨h,trivial⟩⟩
noncomputable abbrev oW{x:Option V}{c:V}(h:x=some c):Ob T F:=⟨.w c,[x=some c],⟨h,trivial⟩⟩
noncomputable abbrev oV{x:Option (V×Mu)}{c:V}{mu:Mu}(h:x=some (c,mu)):Ob T F:=⟨.v c mu,[x=some (c,mu)],⟨h,trivial⟩⟩
noncomputable abbrev oC{a:Addr}{vs:List V}{mu mu':Mu}{c:V}(h:F (.ref a) vs mu=some (c,mu')):Ob T F:=⟨.v c mu',[fE T F (.ref a) vs mu=some (c,mu')],⟨uF h,trivial⟩⟩
noncomputable abbrev oP{a:Addr}{vs:List V}{c:V}(h:∀m,F (.ref a) vs m=some (c,m)):Ob T F:=⟨.p c,[∀m,fE T F (.ref a) vs m=some (c,m)],⟨λm=>uF (h m),trivial⟩⟩
noncomputable abbrev zS{a:Addr}{o:V}{vs:List V}{c:V}(h:∀m,F (.ref a) (o::vs) m=some (c,m)):Ob T F:=⟨.p c,[∀m,dJ F o vs m (.fn a)=some (c,m)],⟨h,trivial⟩⟩
noncomputable abbrev oN{a:Addr}{o:V}{vs:List V}{mu mu':Mu}{c:V}(h:F (.ref a) (o::vs) mu=some (c,mu')):Ob T F:=⟨.v c mu',[dJ F o vs mu (.fn a)=some (c,mu')],⟨h,trivial⟩⟩
noncomputable abbrev oF{a:Addr}{vs:List V}{mu mu':Mu}{c:V}(h:F (.ref a) vs mu=some (c,mu')):Ob T F:=⟨.v c mu',[F (.ref a) vs mu=some (c,mu')],⟨h,trivial⟩⟩
noncomputable abbrev oL{x:Option (List V×Mu)}{c:List V}{mu:Mu}(h:x=some (c,mu)):Ob T F:=⟨.l c mu,[x=some (c,mu)],⟨h,trivial⟩⟩
noncomputable abbrev oS{x:Option (Fl×au×Mu)}{f:Fl}{l:au}{m:Mu}(h:x=some (f,l,m)):Ob T F:=⟨.s f l m,[x=some (f,l,m)],⟨h,trivial⟩⟩
noncomputable abbrev oM{x:Option Mu}{m:Mu}(h:x=some m):Ob T F:=⟨.m m,[x=some m],⟨h,trivial⟩⟩
noncomputable abbrev oZ{x:Option (au×Mu)}{l:au}{m:Mu}(h:x=some (l,m)):Ob T F:=⟨.z l m,[x=some (l,m)],⟨h,trivial⟩⟩
end
noncomputable def zT(T:ba)(hint:Nat->Nat->Bool)(F:bM)(a:Addr)(e:cy)(vs:List V)(mu:Mu):D (V×Mu):=match e with
 | .fn ps ds names body _ keep=>(D.up (uw ps ds vs)).bind λvs'=>(dB T F hint names 60 body (eE ps vs' []) mu).bind λx=>match keep with
  |none=>D.pure (DC x.1,x.2.2)
  |some k=>D.q pV (cX mu.length (some k) (DC x.1) x.2.2)
 | .cls fI _ keep=>(D.q pV (F (.ref fI) (.ref mu.length::vs) (mu++[.obj a []]))).bind λx=>match x.1 with
  | .none=>(match keep with
   |none=>D.pure (.ref mu.length,x.2)
   |some k=>D.q pV (cX mu.length (some k) (.ref mu.length) x.2))
  |_=>D.none
theorem vJ{T:ba}{hint:Nat->Nat->Bool}{F:bM}{a:Addr}{e:cy}{vs:List V}{mu:Mu}:Sd (zT T hint F a e vs mu) ((xT T hint F a e vs mu).bind λp=>cX mu.length e.keep p.1 p.2):=by
 cases e with
 |fn ps ds names body fr keep=>
  show Sd _ (((uw ps ds vs).bind λvs'=>(g6 T F hint names 60 body (eE ps vs' []) mu).map λx=>(DC x.1,x.2.2)).bind λp=>cX mu.length keep p.1 p.2)
  rw[Option.bind_assoc]
  refine(Sd.up _).bind λvs'=> ?_
  rw[Option.bind_map]
  refine((tw 60).2 _ _ _ _).bind λx=> ?_
  cases keep with
  |none=>exact Sd.pure _
  |some k=>exact Sd.q _ _
 |cls fI fr keep=>
  show Sd _ (((F (.ref fI) (.ref mu.length::vs) (mu++[.obj a []])).bind λx=>match x.1 with
   | .none=>some (V.ref mu.length,x.2)
   |_=>none).bind λp=>cX mu.length keep p.1 p.2)
  rw[Option.bind_assoc]
  refine(Sd.q _ _).bind λx=> ?_
  obtain⟨u,mu'⟩:=x
  cases u with
  |none=>
   cases keep with
   |none=>exact Sd.pure _
   |some k=>exact Sd.q _ _
  |_=>exact Sd.none
section
variable{T:ba}{hint:Nat->Nat->Bool}{tab:Addr->Option cy}{r:Nat}{a:Addr}{e:cy}{vs:List V}{mu mu':Mu}{v:V}
theorem vK(ht:tab a=some e):g7 T hint tab (r+1) (.ref a) vs mu=(match e.fr with
  | .dir=>(xT T hint (g7 T hint tab r) a e vs mu).bind λp=>cX mu.length e.keep p.1 p.2
  | .zero=>if ab 0 vs=true then((xT T hint (g7 T hint tab r) a e vs []).bind λp=>cX 0 e.keep p.1 p.2).bind (Lu mu) else none
  | .one=>(tf vs).bind λq=>(oh mu q.1).bind λl=>if ab 0 q.2=true/\ab 0 l=true then((xT T hint (g7 T hint tab r) a e (.ref 0::q.2) [.lst l]).bind λp=>cX 1 e.keep p.1 p.2).bind (J2 mu q.1) else none):=by
 show((tab a).bind _)=_
 rw[ht];rfl
theorem aa(ht:tab a=some e)(hf:e.fr= .dir)(obs:List (Ob T (g7 T hint tab r)))(h:zT T hint (g7 T hint tab r) a e vs mu (obs.map Ob.an)=some ((v,mu'),[],mR obs)):g7 T hint tab (r+1) (.ref a) vs mu=some (v,mu'):=by
 rw[vK ht,hf]
 exact vJ _ _ _ _ h (eB obs)
theorem aK(ht:tab a=some e)(hf:e.fr= .zero)(hb:ab 0 vs=true)(obs:List (Ob T (g7 T hint tab r)))(h:zT T hint (g7 T hint tab r) a e vs [] (obs.map Ob.an)=some ((v,[]),[],mR obs)):g7 T hint tab (r+1) (.ref a) vs mu=some (v,mu):=by
 rw[vK ht,hf]
 dsimp only
 rw[if_pos hb]
 have:=vJ _ _ _ _ h (eB obs)
 rw[show([]:Mu).length=0 from rfl] at this
 rw[this]
 rfl
theorem gD{ws l l':List V}{i:Nat}(ht:tab a=some e)(hf:e.fr= .one)(hi:mu[i]? =some (.lst l))(hb:ab 0 ws=true)(hl:ab 0 l=true)(hl':ab 0 l'=true)(hv:aG 0 v=true)(obs:List (Ob T (g7 T hint tab r)))
  (h:zT T hint (g7 T hint tab r) a e (.ref 0::ws) [.lst l] (obs.map Ob.an)=some ((v,[.lst l']),[],mR obs)):g7 T hint tab (r+1) (.ref a) (.ref i::ws) mu=some (v,mu.set i (.lst l')):=by
 rw[vK ht,hf]
 show((oh mu i).bind λl=>if ab 0 ws=true/\ab 0 l=true then((xT T hint (g7 T hint tab r) a e (.ref 0::ws) [.lst l]).bind λp=>cX 1 e.keep p.1 p.2).bind (J2 mu i) else none)=_
 rw[show oh mu i=some l by unfold oh;rw[hi]]
 show(if ab 0 ws=true/\ab 0 l=true then((xT T hint (g7 T hint tab r) a e (.ref 0::ws) [.lst l]).bind λp=>cX 1 e.keep p.1 p.2).bind (J2 mu i) else none)=_
 rw[if_pos ⟨hb,hl⟩]
 have:=vJ _ _ _ _ h (eB obs)
 rw[show([MO.lst l]:Mu).length=1 from rfl] at this
 rw[this]
 show(if ab 0 l'=true/\aG 0 v=true then some (v,mu.set i (.lst l')) else none)=_
 exact if_pos ⟨hl',hv⟩
end
end
section
theorem zU(a b:Int):b9 [] .Eq (.int a) (.int b)=tY (.int a) (.int b):=by kernel_rfl
theorem zV(a b:Int):b9 [] .NotEq (.int a) (.int b)=(tY (.int a) (.int b)).map (!·):=by kernel_rfl
theorem tx{a b:Int}(h:a<=b):b9 [] .LtE (.int a) (.int b)=some true:=congrArg some (decide_eq_true h)
theorem xW{a b:Int}(h:¬a<=b):b9 [] .LtE (.int a) (.int b)=some false:=congrArg some (decide_eq_false h)
theorem mT{a b:Int}(h:a<b):b9 [] .Lt (.int a) (.int b)=some true:=congrArg some (decide_eq_true h)
theorem mU{a b:Int}(h:¬a<b):b9 [] .Lt (.int a) (.int b)=some false:=congrArg some (decide_eq_false h)
theorem jl{a b:Int}(h:a>b):b9 [] .Gt (.int a) (.int b)=some true:=congrArg some (decide_eq_true h)
theorem fJ{a b:Int}(h:¬a>b):b9 [] .Gt (.int a) (.int b)=some false:=congrArg some (decide_eq_false h)
theorem Kn{a b:Int}(h:a>=b):b9 [] .GtE (.int a) (.int b)=some true:=congrArg some (decide_eq_true h)
theorem Ko{a b:Int}(h:¬a>=b):b9 [] .GtE (.int a) (.int b)=some false:=congrArg some (decide_eq_false h)
theorem ow(a b:Int):tY (.int a) (.int b)=some (a==b):=by
 have e:PyData.eqv (.int a) (.int b)=(a==b):=by unfold PyData.eqv;rfl
 unfold tY
 show(if aaF (.int a)=true/\aaF (.int b)=true then some (PyData.eqv (.int a) (.int b)) else none)=_
 rw[e]
 exact if_pos ⟨rfl,rfl⟩
theorem dl{a b:Int}(h:a=b):b9 [] .Eq (.int a) (.int b)=some true:=by
 rw[zU,ow,beq_iff_eq.mpr h]
theorem cC{a b:Int}(h:¬a=b):b9 [] .Eq (.int a) (.int b)=some false:=by
 rw[zU,ow,beq_eq_false_iff_ne.mpr h]
theorem zW{a b:Int}(h:¬a=b):b9 [] .NotEq (.int a) (.int b)=some true:=by
 rw[zV,ow,beq_eq_false_iff_ne.mpr h];rfl
theorem uG{a b:Int}(h:a=b):b9 [] .NotEq (.int a) (.int b)=some false:=by
 rw[zV,ow,beq_iff_eq.mpr h];rfl
theorem dU{a b:Int}(h:a.natAbs<2^63\/b.natAbs<2^63):oO .Mult (.int a) (.int b)=some (.int (a*b)):=if_pos h
theorem qb{a b:Int}(h:b≠0):oO .FloorDiv (.int a) (.int b)=some (.int (a.fdiv b)):=if_neg h
theorem tz{a b:Int}(h:b≠0):oO .Mod (.int a) (.int b)=some (.int (a.fmod b)):=if_neg h
noncomputable def Dm(v:Int):Prop:= -1073741823<=v/\v<=1073741823
structure Gl where
 w:Int
 s:Int
 so:Int
 k:Int
 ko:Int
noncomputable def Gl.v(g:Gl):V:= .obj dR [(aaQ "width",.int g.w),(aaQ "stretch",.int g.s),(aaQ "stretch_order",.int g.so),(aaQ "shrink",.int g.k),(aaQ "shrink_order",.int g.ko)]
structure Bx where
 kind:Int
 w:Int
 h:Int
 d:Int
 shift:Int
 sign:Int
 order:Int
 up:Int
 down:Int
inductive Nd where
 |kern (w:Int)
 |skip (g:Gl) (sort:Int)
 |rule (w h d:Option Int)
 |box (b:Bx) (items:List V)
noncomputable def oi:Option Int->V
 |none=> .none
 |some i=> .int i
noncomputable def eU(b:Bx)(items:V):List (Str×V):=[(aaQ "kind",.int b.kind),(aaQ "width",.int b.w),(aaQ "height",.int b.h),(aaQ "depth",.int b.d),(aaQ "items",items),(aaQ "shift",.int b.shift),(aaQ "sign",.int b.sign),(aaQ "order",.int b.order),(aaQ "ratio",.tup [.int b.up,.int b.down])]
noncomputable def Nd.v:Nd->V
 | .kern w=> .obj iD [(aaQ "width",.int w),(aaQ "sort",.int 1)]
 | .skip g s=> .obj gR [(aaQ "glue",g.v),(aaQ "sort",.int s),(aaQ "leader",.none)]
 | .rule a b c=> .obj eG [(aaQ "width",oi a),(aaQ "height",oi b),(aaQ "depth",oi c)]
 | .box b l=> .obj ay (eU b (.lst l))
structure Q4 where
 a:Int
 b:Int
 c:Int
 d:Int
noncomputable def Q4.l(q:Q4):List V:=[.int q.a,.int q.b,.int q.c,.int q.d]
structure Tt where
 nat:Int
 st:Q4
 sk:Q4
noncomputable def vL(n:Int)(a b:V):List (Str×V):=[(aaQ "natural",.int n),(aaQ "stretch",a),(aaQ "shrink",b)]
noncomputable def Tt.v(t:Tt):V:= .obj aU (vL t.nat (.lst t.st.l) (.lst t.sk.l))
variable{r:Nat}{mu:Mu}
theorem bf{v lo hi:Int}(h1:lo<=v)(h2:v<=hi):RF (r+1) (.ref fG) [.int v,.int lo,.int hi] mu=some (.bool true,mu):=
 aa lT rfl [oA,oA,oB (tx h1),oB (tx h2)] (by kernel_rfl)
theorem vM{v lo hi:Int}(h1:lo<=v)(h2:¬v<=hi):RF (r+1) (.ref fG) [.int v,.int lo,.int hi] mu=some (.bool false,mu):=
 aa lT rfl [oA,oA,oB (tx h1),oB (xW h2)] (by kernel_rfl)
theorem uH{v:Int}:RF (r+1) (.ref fQ) [.int v] mu=some (.int v,mu):=aa n6 rfl [oA,oA] (by kernel_rfl)
theorem ao{v:Int}(h:Dm v):RF (r+2) (.ref cK) [.int v] mu=some (.int v,mu):=
 aa n7 rfl [oP λm=>uH (v:=v),oB (tx h.1),oB (tx h.2)] (by kernel_rfl)
noncomputable def eq(n b:Int):Int:=if n<0 then -((b-2*n).fdiv (2*b)) else(2*n+b).fdiv (2*b)
theorem Cn{n b:Int}(hb:0<b):RF (r+1) (.ref kq) [.int n,.int b] mu=some (.int (eq n b),mu):=by
 unfold eq
 by_cases hn:n<0
 ·rw[if_pos hn]
  exact aa nR rfl [oB (xW (ad 9064224204034 [] [_] hb:¬b<=0)),oB (mT hn),oW (dU (a:=2) (b:=n) (.inl (by decide))),oW (dU (a:=2) (b:=b) (.inl (by decide))),oW (qb (a:=b-2*n) (b:=2*b) (ad 73428683672724034 [] [_] hb))] (by kernel_rfl)
 ·rw[if_neg hn]
  exact aa nR rfl [oB (xW (ad 9064224204034 [] [_] hb:¬b<=0)),oB (mU hn),oW (dU (a:=2) (b:=n) (.inl (by decide))),oW (dU (a:=2) (b:=b) (.inl (by decide))),oW (qb (a:=2*n+b) (b:=2*b) (ad 73428683672724034 [] [_] hb))] (by kernel_rfl)
noncomputable def j3(e t:Int):Int:=if e<=7230584 then(e*297).fdiv t else if t>=1663497 then e.fdiv (t.fdiv 297) else e
noncomputable def qc(e t:Int):Int:=if e=0 then 0 else if t<=0 then 10000 else if j3 e t>1290 then 10000 else(j3 e t*j3 e t*j3 e t+131072).fdiv 262144
theorem Co{e t:Int}(he:0<=e)(hs:e<7230584)(ht:t<7230584):RF (r+1) (.ref iL) [.int e,.int t] mu=some (.int (qc e t),mu):=by
 unfold qc
 by_cases h0:e=0
 ·rw[if_pos h0]
  exact aa im rfl [oB (mU (by exact ad 9064289910155 [] [_] h0:¬e<0)),oB (dl h0)] (by kernel_rfl)
 ·rw[if_neg h0]
  by_cases h1:t<=0
  ·rw[if_pos h1]
   exact aa im rfl [oB (mU (by exact ad 9064289814033 [] [_] he:¬e<0)),oB (cC h0),oB (tx h1)] (by kernel_rfl)
  ·rw[if_neg h1]
   have hr:j3 e t=(e*297).fdiv t:=if_pos (by exact ad 207002020954 [] [_] hs)
   rw[hr]
   have hd:0<=(e*297).fdiv t:=by rw[Int.fdiv_eq_ediv_of_nonneg _ (by exact ad 2757797563778 [] [_] h1)];exact Int.ediv_nonneg (by exact ad 3446407812399033 [] [_] he) (by exact ad 2757797563778 [] [_] h1)
   by_cases h2:(e*297).fdiv t>1290
   ·rw[if_pos h2]
    exact aa im rfl [oB (mU (by exact ad 9064289814033 [] [_] he:¬e<0)),oB (cC h0),oB (xW h1),oB (tx (by exact ad 207002020954 [] [_] hs:e<=7230584)),oW (dU (a:=e) (b:=297) (.inr (by decide))),oW (qb (a:=e*297) (b:=t) (by exact ad 815791996813778 [] [_] h1)),oB (jl h2)] (by kernel_rfl)
   ·rw[if_neg h2]
    exact aa im rfl [oB (mU (by exact ad 9064289814033 [] [_] he:¬e<0)),oB (cC h0),oB (xW h1),oB (tx (by exact ad 207002020954 [] [_] hs:e<=7230584)),oW (dU (a:=e) (b:=297) (.inr (by decide))),oW (qb (a:=e*297) (b:=t) (by exact ad 815791996813778 [] [_] h1)),oB (fJ h2),oW (dU (a:=(e*297).fdiv t) (b:=(e*297).fdiv t) (.inl (by exact dX 2210989802984480744912108571581560345684345018721814033 [_] [_] hd h2 (na _)))),oW (dU (a:=(e*297).fdiv t*(e*297).fdiv t) (b:=(e*297).fdiv t) (.inr (by exact dX 2210989802984480744912108571581560345684345018721814033 [_] [_] hd h2 (na _)))),oA] (by kernel_rfl)
end
section
variable{r:Nat}{mu:Mu}
noncomputable def lZ(g:Gl):Prop:=0<=g.so/\g.so<=3/\0<=g.ko/\g.ko<=3
noncomputable def er:Nd->Prop
 | .box b l=>(b.kind=2\/b.kind=3)/\ab 0 l=true
 | .rule .. =>False
 | .skip g _=>lZ g
 | .kern _=>True
noncomputable def zX:Nd->Int
 | .kern w=>w
 | .skip g _=>g.w
 | .box b _=>b.w
 | .rule .. =>0
noncomputable def Cp:Nd->Int
 | .box b _=>b.h
 |_=>0
noncomputable def xX:Nd->Int
 | .box b _=>b.d
 |_=>0
noncomputable def J4:Nd->Int
 | .box b _=>b.h-b.shift
 |_=>0
noncomputable def J5:Nd->Int
 | .box b _=>b.d+b.shift
 |_=>0
noncomputable def J6:Nd->Int
 | .box b _=>b.w+b.shift
 |_=>0
theorem mc{x:Nd}(h:er x):RF (r+1) (.ref i5) [x.v] mu=some (.int (zX x),mu):=by
 cases x with
 |kern w=>exact aa gA rfl [oA,oA,oA,oA,oA] (by kernel_rfl)
 |skip g s=>exact aa gA rfl [oA,oA,oA,oA,oA,oA,oA,oA,oA] (by kernel_rfl)
 |rule=>exact h.elim
 |box b l=>
  obtain⟨kind,w,hh,d,sh,si,o,u,dn⟩:=b
  rcases h.1 with h|h
  ·cases h;exact aa gA rfl [oA,oA,oA] (by kernel_rfl)
  ·cases h;exact aa gA rfl [oA,oA,oA,oA] (by kernel_rfl)
theorem fK{x:Nd}(h:er x):RF (r+1) (.ref hZ) [x.v] mu=some (.int (Cp x),mu):=by
 cases x with
 |kern w=>exact aa fV rfl [oA,oA,oA,oA,oA,oA,oA,oA] (by kernel_rfl)
 |skip g s=>exact aa fV rfl [oA,oA,oA,oA,oA,oA,oA,oA,oA] (by kernel_rfl)
 |rule=>exact h.elim
 |box b l=>
  obtain⟨kind,w,hh,d,sh,si,o,u,dn⟩:=b
  rcases h.1 with h|h
  ·cases h;exact aa fV rfl [oA,oA,oA] (by kernel_rfl)
  ·cases h;exact aa fV rfl [oA,oA,oA,oA] (by kernel_rfl)
theorem gT{x:Nd}(h:er x):RF (r+1) (.ref i6) [x.v] mu=some (.int (xX x),mu):=by
 cases x with
 |kern w=>exact aa gB rfl [oA,oA,oA,oA,oA,oA,oA,oA] (by kernel_rfl)
 |skip g s=>exact aa gB rfl [oA,oA,oA,oA,oA,oA,oA,oA,oA] (by kernel_rfl)
 |rule=>exact h.elim
 |box b l=>
  obtain⟨kind,w,hh,d,sh,si,o,u,dn⟩:=b
  rcases h.1 with h|h
  ·cases h;exact aa gB rfl [oA,oA,oA] (by kernel_rfl)
  ·cases h;exact aa gB rfl [oA,oA,oA,oA] (by kernel_rfl)
theorem ip{x:Nd}(h:er x):RF (r+2) (.ref fT) [x.v] mu=some (.int (J4 x),mu):=by
 cases x with
 |kern w=>exact aa eA rfl [oA,oA,oP λm=>fK h] (by kernel_rfl)
 |skip g s=>exact aa eA rfl [oA,oA,oP λm=>fK h] (by kernel_rfl)
 |rule=>exact h.elim
 |box b l=>
  obtain⟨kind,w,hh,d,sh,si,o,u,dn⟩:=b
  rcases h.1 with h|h
  ·cases h;exact aa eA rfl [oA] (by kernel_rfl)
  ·cases h;exact aa eA rfl [oA,oA] (by kernel_rfl)
theorem jm{x:Nd}(h:er x):RF (r+2) (.ref gz) [x.v] mu=some (.int (J5 x),mu):=by
 cases x with
 |kern w=>exact aa fg rfl [oA,oA,oP λm=>gT h] (by kernel_rfl)
 |skip g s=>exact aa fg rfl [oA,oA,oP λm=>gT h] (by kernel_rfl)
 |rule=>exact h.elim
 |box b l=>
  obtain⟨kind,w,hh,d,sh,si,o,u,dn⟩:=b
  rcases h.1 with h|h
  ·cases h;exact aa fg rfl [oA] (by kernel_rfl)
  ·cases h;exact aa fg rfl [oA,oA] (by kernel_rfl)
theorem tA{x:Nd}(h:er x):RF (r+1) (.ref lH) [x.v] mu=some (.int (J6 x),mu):=by
 cases x with
 |kern w=>exact aa ji rfl [oA,oA,oA,oA] (by kernel_rfl)
 |skip g s=>exact aa ji rfl [oA,oA,oA,oA] (by kernel_rfl)
 |rule=>exact h.elim
 |box b l=>
  obtain⟨kind,w,hh,d,sh,si,o,u,dn⟩:=b
  rcases h.1 with h|h
  ·cases h;exact aa ji rfl [oA] (by kernel_rfl)
  ·cases h;exact aa ji rfl [oA,oA] (by kernel_rfl)
noncomputable def zY(w s so k ko:Int):Gl:=⟨w,s,if s=0 then 0 else so,k,if k=0 then 0 else ko⟩
theorem zZ{w s so k ko:Int}(hw:Dm w)(hs:Dm s)(hk:Dm k)(h1:0<=so)(h2:so<=3)(h3:0<=ko)(h4:ko<=3):RF (r+4) (.ref dR) [.int w,.int s,.int so,.int k,.int ko] mu=some ((zY w s so k ko).v,mu):=by
 have init:RF (r+3) (.ref ga) [.ref 0,.int w,.int s,.int so,.int k,.int ko] [.obj dR []]=some (.none,[.obj dR [(aaQ "width",.int w),(aaQ "stretch",.int s),(aaQ "stretch_order",.int (if s=0 then 0 else so)),(aaQ "shrink",.int k),(aaQ "shrink_order",.int (if k=0 then 0 else ko))]]):=by
  by_cases c1:s=0<;>by_cases c2:k=0
  ·rw[if_pos c1,if_pos c2]
   exact aa eg rfl [oP λm=>bf h1 h2,oP λm=>bf h3 h4,oP λm=>ao hw,oP λm=>ao hs,oB (uG c1),oP λm=>ao hk,oB (uG c2)] (by kernel_rfl)
  ·rw[if_pos c1,if_neg c2]
   exact aa eg rfl [oP λm=>bf h1 h2,oP λm=>bf h3 h4,oP λm=>ao hw,oP λm=>ao hs,oB (uG c1),oP λm=>ao hk,oB (zW c2)] (by kernel_rfl)
  ·rw[if_neg c1,if_pos c2]
   exact aa eg rfl [oP λm=>bf h1 h2,oP λm=>bf h3 h4,oP λm=>ao hw,oP λm=>ao hs,oB (zW c1),oP λm=>ao hk,oB (uG c2)] (by kernel_rfl)
  ·rw[if_neg c1,if_neg c2]
   exact aa eg rfl [oP λm=>bf h1 h2,oP λm=>bf h3 h4,oP λm=>ao hw,oP λm=>ao hs,oB (zW c1),oP λm=>ao hk,oB (zW c2)] (by kernel_rfl)
 exact aK uE rfl rfl [oV init,oA] (by kernel_rfl)
end
section
noncomputable def ag:Nat->List Stmt->Stmt
 |_,[]=> .Pass ⟨0,0,0,0⟩
 |0,s::_=>s
 |n+1,_::r=>ag n r
set_option backward.match.sparseCases false in
noncomputable def cG:Stmt->Expr
 | .For t _ _ _ _=>t
 |_=> .Constant .none 0 ⟨0,0,0,0⟩
noncomputable def a6:Stmt->List Stmt
 | .For _ _ b _ _=>b
 |_=>[]
set_option backward.match.sparseCases false in
noncomputable def ru:Stmt->List Stmt
 | .If _ a _ _=>a
 |_=>[]
noncomputable def F4:Stmt->List Stmt
 | .If _ _ b _=>b
 |_=>[]
section
variable{T:ba}{F:bM}{hint:Nat->Nat->Bool}{nm:ae}{n:Nat}
noncomputable def Kp(T:ba)(F:bM)(hint:Nat->Nat->Bool)(nm:ae)(n:Nat)(t:Expr)(body:List Stmt)(v:V)(loc:au)(mu:Mu):D (Fl×au×Mu):=
 (Cm T F hint nm n t v loc mu).bind λx=>dB T F hint nm n body x.1 x.2
theorem bx{t:Expr}{body:List Stmt}{v:V}{loc loc':au}{mu mu':Mu}{fl:Fl}(obs:List (Ob T F))(h:Kp T F hint nm n t body v loc mu (obs.map Ob.an)=some ((fl,loc',mu'),[],mR obs)):cu T F hint nm n t body v loc mu=some (fl,loc',mu'):=
 Sd.bind ((DG n).1 _ _ _ _ _) (λx=>(tw n).2 _ _ _ _) _ _ _ _ h (eB obs)
theorem iP{f:V->au->Mu->Option (Fl×au×Mu)}{v:V}{r:List V}{loc loc1 loc2:au}{mu mu1:Mu}(h:f v loc mu=some (.next,loc1,mu1))(e:dx loc loc1=loc2):jN f (v::r) loc mu=jN f r loc2 mu1:=by
 subst e;rw[jN,h]
theorem qd{f:V->au->Mu->Option (Fl×au×Mu)}{v x:V}{r:List V}{loc loc1:au}{mu mu1:Mu}(h:f v loc mu=some (.ret x,loc1,mu1)):jN f (v::r) loc mu=some (.ret x,loc1,mu1):=by
 rw[jN,h]
theorem bi{α σ:Type}{f:V->au->Mu->Option (Fl×au×Mu)}(enc:α->V)(step:σ->α->σ)(L:σ->au)(M:σ->Mu)(I:σ->List α->Prop)
  (h:∀s v r,I s (v::r)->I (step s v) r/\∃loc1,f (enc v) (L s) (M s)=some (.next,loc1,M (step s v))/\dx (L s) loc1=L (step s v)):
  ∀(xs:List α)(s:σ),I s xs->jN f (xs.map enc) (L s) (M s)=some (.next,L (xs.foldl step s),M (xs.foldl step s)):=by
 intro L0
 induction L0 with
 |nil=>
  intro s _
  exact rfl
 |cons x xs ih=>
  intro s i
  obtain⟨i',loc1,h1,h2⟩:=h s x xs i
  rw[aaX,iP h1 h2,abm]
  exact ih _ i'
theorem mV{mu:Mu}{i:Nat}{l:List V}(h:mu[i]? =some (.lst l)):oh mu i=some l:=by unfold oh;rw[h]
theorem cL{F:bM}{i:Nat}{l:List V}{v:V}{mu mu':Mu}(h:mu[i]? =some (.lst l))(hl:l.length<=1000)(e:mu.set i (.lst (l++[v]))=mu'):dJ F (.ref i) [v] mu (.app i)=some (.none,mu'):=by
 show((oh mu i).bind λl=>if l.length<=1000 then some (V.none,mu.set i (.lst (l++[v]))) else none)=_
 rw[mV h,<-e]
 exact if_pos hl
end
variable{r:Nat}{mu:Mu}
theorem z8{w:Int}(h:Dm w):RF (r+4) (.ref iD) [.int w,.int 1] mu=some ((Nd.kern w).v,mu):=by
 have init:RF (r+3) (.ref hX) [.ref 0,.int w,.int 1] [.obj iD []]=some (.none,[.obj iD [(aaQ "width",.int w),(aaQ "sort",.int 1)]]):=
  aa ri rfl [oP λm=>bf (v:=1) (lo:=0) (hi:=3) (by decide) (by decide),oP λm=>ao h] (by kernel_rfl)
 exact aK zM rfl rfl [oV init,oA] (by kernel_rfl)
theorem iQ{g:Gl}{s:Int}(hs:s=0\/s=109):RF (r+4) (.ref gR) [g.v,.int s] mu=some ((Nd.skip g s).v,mu):=by
 have init:RF (r+3) (.ref hY) [.ref 0,g.v,.int s] [.obj gR []]=some (.none,[.obj gR [(aaQ "glue",g.v),(aaQ "sort",.int s),(aaQ "leader",.none)]]):=by
  rcases hs with rfl|rfl
  ·exact aa kU rfl [oP λm=>bf (v:=0) (lo:=0) (hi:=5) (by decide) (by decide),oA,oA,oA,oA] (by kernel_rfl)
  ·exact aa kU rfl [oP λm=>vM (v:=109) (lo:=0) (hi:=5) (by decide) (by decide),oP λm=>bf (v:=109) (lo:=100) (hi:=199) (by decide) (by decide),oA,oA,oA,oA,oA] (by kernel_rfl)
 exact aK zN rfl rfl [oV init,oA] (by kernel_rfl)
theorem qe{mu mu':Mu}{i:Nat}{k w h d:Int}{items:V}(hk:2<=k)(hk':k<=3)(hw:Dm w)(hh:Dm h)(hd:Dm d)
  (e:zT TT HT (g7 TT HT dh (r+2)) gO lh [.ref i,.int k,.int w,.int h,.int d,items] mu [.p (.bool true),.p (.int w),.p (.int h),.p (.int d)]=some ((.none,mu'),[],[∀m,fE TT (RF (r+2)) (.ref fG) [.int k,.int 2,.int 3] m=some (.bool true,m),∀m,fE TT (RF (r+2)) (.ref cK) [.int w] m=some (.int w,m),∀m,fE TT (RF (r+2)) (.ref cK) [.int h] m=some (.int h,m),∀m,fE TT (RF (r+2)) (.ref cK) [.int d] m=some (.int d,m)])):
  RF (r+3) (.ref gO) [.ref i,.int k,.int w,.int h,.int d,items] mu=some (.none,mu'):=
 aa tj rfl [oP λm=>bf hk hk',oP λm=>ao hw,oP λm=>ao hh,oP λm=>ao hd] e
noncomputable def nV(k w h d:Int):Bx:=⟨k,w,h,d,0,0,0,0,1⟩
theorem xY{k w h d:Int}{items:V}(hk:2<=k)(hk':k<=3)(hw:Dm w)(hh:Dm h)(hd:Dm d):RF (r+4) (.ref ay) [.int k,.int w,.int h,.int d,items] []=some (.ref 0,[.obj ay (eU (nV k w h d) items)]):=
 aa tu rfl [oF (mu':=[.obj ay (eU (nV k w h d) items)]) (qe (r:=r) (mu:=[.obj ay []]) (i:=0) (items:=items) hk hk' hw hh hd (by kernel_rfl))] (by kernel_rfl)
theorem Fe{m0:MO}{k w h d:Int}{items:V}(hk:2<=k)(hk':k<=3)(hw:Dm w)(hh:Dm h)(hd:Dm d):RF (r+4) (.ref ay) [.int k,.int w,.int h,.int d,items] [m0]=some (.ref 1,[m0,.obj ay (eU (nV k w h d) items)]):=
 aa tu rfl [oF (mu':=[m0,.obj ay (eU (nV k w h d) items)]) (qe (r:=r) (mu:=[m0,.obj ay []]) (i:=1) (items:=items) hk hk' hw hh hd (by kernel_rfl))] (by kernel_rfl)
theorem Cq{m0 m1:MO}{k w h d:Int}{items:V}(hk:2<=k)(hk':k<=3)(hw:Dm w)(hh:Dm h)(hd:Dm d):RF (r+4) (.ref ay) [.int k,.int w,.int h,.int d,items] [m0,m1]=some (.ref 2,[m0,m1,.obj ay (eU (nV k w h d) items)]):=
 aa tu rfl [oF (mu':=[m0,m1,.obj ay (eU (nV k w h d) items)]) (qe (r:=r) (mu:=[m0,m1,.obj ay []]) (i:=2) (items:=items) hk hk' hw hh hd (by kernel_rfl))] (by kernel_rfl)
end
section
variable{r:Nat}{mu:Mu}
noncomputable def F5:Option Int->Prop
 |none=>True
 |some i=>Dm i
theorem uI{a b c:Option Int}(ha:F5 a)(hb:F5 b)(hc:F5 c):RF (r+4) (.ref eG) [oi a,oi b,oi c] mu=some ((Nd.rule a b c).v,mu):=by
 have init:RF (r+3) (.ref hV) [.ref 0,oi a,oi b,oi c] [.obj eG []]=some (.none,[.obj eG [(aaQ "width",oi a),(aaQ "height",oi b),(aaQ "depth",oi c)]]):=by
  have t1:∀x:Option Int,F5 x->∃loc1,cu TT (RF (r+2)) HT (bn cS) 58 (cG (ag 0 (aD cS))) (a6 (ag 0 (aD cS))) (oi x) [(aaQ "self",.ref 0),(aaQ "width",oi a),(aaQ "height",oi b),(aaQ "depth",oi c)] [.obj eG []]=some (.next,loc1,[.obj eG []])/\dx [(aaQ "self",.ref 0),(aaQ "width",oi a),(aaQ "height",oi b),(aaQ "depth",oi c)] loc1=[(aaQ "self",.ref 0),(aaQ "width",oi a),(aaQ "height",oi b),(aaQ "depth",oi c)]:=by
   intro x hx
   refine⟨[(aaQ "self",.ref 0),(aaQ "width",oi a),(aaQ "height",oi b),(aaQ "depth",oi c),(aaQ "size",oi x)],?_,by kernel_rfl⟩
   cases x with
   |none=>exact bx [oA] (by kernel_rfl)
   |some i=>exact bx [oA,oP λm=>ao (v:=i) hx] (by kernel_rfl)
  have hf:=bi (α:=Option Int) (σ:=Unit) (f:=cu TT (RF (r+2)) HT (bn cS) 58 (cG (ag 0 (aD cS))) (a6 (ag 0 (aD cS)))) oi (λq0 q0=>()) (λq0=>[(aaQ "self",.ref 0),(aaQ "width",oi a),(aaQ "height",oi b),(aaQ "depth",oi c)]) (λq0=>[.obj eG []]) (λq0 l=>∀x∈l,F5 x)
   (λs v l i=>⟨λx hx=>i x (.tail _ hx),t1 v (i v (.head _))⟩) [a,b,c] () (by intro x hx;simp at hx;rcases hx with rfl|rfl|rfl<;>assumption)
  exact aa rh rfl [oA,oS hf] (by kernel_rfl)
 refine aK zL rfl ?_ [oV init,oV (x:=cX 0 (some 0) (.ref 0) [.obj eG [(aaQ "width",oi a),(aaQ "height",oi b),(aaQ "depth",oi c)]]) (c:=(Nd.rule a b c).v) (mu:=[]) ?_] (by kernel_rfl)
 ·cases a<;>cases b<;>cases c<;>rfl
 ·cases a<;>cases b<;>cases c<;>kernel_rfl
structure Ce where
 w:Int
 h:Int
 d:Int
 items:List Nd
 spans:Int
 tt:Tt
 vert:Bool
noncomputable def xZ(c:Ce)(t:V):List (Str×V):=[(aaQ "width",.int c.w),(aaQ "height",.int c.h),(aaQ "depth",.int c.d),(aaQ "items",.lst (c.items.map Nd.v)),(aaQ "spans",.int c.spans),(aaQ "totals",t),(aaQ "is_vertical",.bool c.vert)]
noncomputable def Ce.v(c:Ce):V:= .obj bH (xZ c c.tt.v)
theorem Ff{c:Ce}(hw:Dm c.w)(hh:Dm c.h)(hd:Dm c.d)(h1:1<=c.spans)(h2:c.spans<=2147483647)(hv:c.vert=false):RF (r+4) (.ref bH) [.int c.w,.int c.h,.int c.d,.lst (c.items.map Nd.v),.int c.spans,c.tt.v] []=some (.ref 0,[.obj bH (xZ c c.tt.v)]):=by
 obtain⟨w,h,d,items,spans,tt,vert⟩:=c
 cases hv
 have init:RF (r+3) (.ref eZ) [.ref 0,.int w,.int h,.int d,.lst (items.map Nd.v),.int spans,tt.v] [.obj bH []]=some (.none,[.obj bH (xZ ⟨w,h,d,items,spans,tt,false⟩ tt.v)]):=
  aa jZ rfl [oP λm=>bf h1 h2,oP λm=>ao hw,oP λm=>ao hh,oP λm=>ao hd] (by kernel_rfl)
 exact aa sq rfl [oF init] (by kernel_rfl)
theorem Fg{m0:MO}{c:Ce}(hw:Dm c.w)(hh:Dm c.h)(hd:Dm c.d)(h1:1<=c.spans)(h2:c.spans<=2147483647)(hv:c.vert=true):RF (r+4) (.ref bH) [.int c.w,.int c.h,.int c.d,.lst (c.items.map Nd.v),.int c.spans,.ref 0,.bool true] [m0]=some (.ref 1,[m0,.obj bH (xZ c (.ref 0))]):=by
 obtain⟨w,h,d,items,spans,tt,vert⟩:=c
 cases hv
 have init:RF (r+3) (.ref eZ) [.ref 1,.int w,.int h,.int d,.lst (items.map Nd.v),.int spans,.ref 0,.bool true] [m0,.obj bH []]=some (.none,[m0,.obj bH (xZ ⟨w,h,d,items,spans,tt,true⟩ (.ref 0))]):=
  aa jZ rfl [oP λm=>bf h1 h2,oP λm=>ao hw,oP λm=>ao hh,oP λm=>ao hd] (by kernel_rfl)
 exact aa sq rfl [oF init] (by kernel_rfl)
noncomputable def q0:Q4:=⟨0,0,0,0⟩
noncomputable def Q4.at(q:Q4)(i:Int):Int:=if i=0 then q.a else if i=1 then q.b else if i=2 then q.c else q.d
noncomputable def Q4.add(q:Q4)(i x:Int):Q4:=if i=0 then {q with a:=q.a+x} else if i=1 then {q with b:=q.b+x} else if i=2 then {q with c:=q.c+x} else {q with d:=q.d+x}
theorem Fh{i:Int}(h0:0<=i)(h3:i<=3):i=0\/i=1\/i=2\/i=3:=av 28030955395233238030557861952248179979033 [] [_] h0 h3
theorem me{q:Q4}{i:Int}(h0:0<=i)(h3:i<=3):eW q.l i=some (.int (q.at i)):=by
 rcases Fh h0 h3 with rfl|rfl|rfl|rfl<;>rfl
theorem qf:RF (r+2) (.ref aU) [] []=some (.ref 0,[.obj aU (vL 0 (.ref 1) (.ref 2)),.lst q0.l,.lst q0.l]):=
 aa vG rfl [oF (F:=RF (r+1)) (c:= .none) (vs:=[.ref 0]) (mu:=[.obj aU []]) (mu':=[.obj aU (vL 0 (.ref 1) (.ref 2)),.lst q0.l,.lst q0.l]) (aa n8 rfl [] (by kernel_rfl))] (by kernel_rfl)
noncomputable def Tt.add(t:Tt)(g:Gl):Tt:=⟨t.nat+g.w,t.st.add g.so g.s,t.sk.add g.ko g.k⟩
noncomputable def Tt.mus(t:Tt):Mu:=[.obj aU (vL t.nat (.ref 1) (.ref 2)),.lst t.st.l,.lst t.sk.l]
theorem Fi{q:Q4}{i x:Int}(h0:0<=i)(h3:i<=3){m:MO}{rest:Mu}:iG (m:: .lst q.l::rest) (.ref 1) (.int i) (.int (q.at i+x))=some (m:: .lst (q.add i x).l::rest):=by
 rcases Fh h0 h3 with rfl|rfl|rfl|rfl<;>rfl
theorem Cr{q:Q4}{i x:Int}(h0:0<=i)(h3:i<=3){m m':MO}{rest:Mu}:iG (m::m':: .lst q.l::rest) (.ref 2) (.int i) (.int (q.at i+x))=some (m::m':: .lst (q.add i x).l::rest):=by
 rcases Fh h0 h3 with rfl|rfl|rfl|rfl<;>rfl
theorem qg{t:Tt}{g:Gl}(h1:0<=g.so)(h2:g.so<=3)(h3:0<=g.ko)(h4:g.ko<=3):RF (r+1) (.ref gy) [.ref 0,g.v] t.mus=some (.none,(t.add g).mus):=
 aa p9 rfl [oW (x:=bP [.obj aU (vL (t.nat+g.w) (.ref 1) (.ref 2)),.lst t.st.l,.lst t.sk.l] (.ref 1) g.so) (me h1 h2),oM (Fi (q:=t.st) (x:=g.s) h1 h2 (m:= .obj aU (vL (t.nat+g.w) (.ref 1) (.ref 2))) (rest:=[.lst t.sk.l])),
  oW (x:=bP [.obj aU (vL (t.nat+g.w) (.ref 1) (.ref 2)),.lst (t.st.add g.so g.s).l,.lst t.sk.l] (.ref 2) g.ko) (me h3 h4),oM (Cr (q:=t.sk) (x:=g.k) h3 h4 (m:= .obj aU (vL (t.nat+g.w) (.ref 1) (.ref 2))) (m':= .lst (t.st.add g.so g.s).l) (rest:=[]))] (by kernel_rfl)
theorem cH{n x:Int}{A B:V}{rest:Mu}:RF (r+1) (.ref eY) [.ref 0,.int x] (.obj aU (vL n A B)::rest)=some (.none,.obj aU (vL (n+x) A B)::rest):=
 aa mN rfl [] (by kernel_rfl)
noncomputable def Q4.top(q:Q4):Int:=if q.d≠0 then 3 else if q.c≠0 then 2 else if q.b≠0 then 1 else 0
theorem sr{q:Q4}:RF (r+1) (.ref hU) [.lst q.l] mu=some (.int q.top,mu):=by
 have t_ret:∀(i:Int),0<=i->i<=3->q.at i≠0->cu TT (RF r) HT (bn bQ) 58 (cG (ag 0 (aD bQ))) (a6 (ag 0 (aD bQ))) (.int i) [(aaQ "sums",.lst q.l)] mu=some (.ret (.int i),[(aaQ "sums",.lst q.l),(aaQ "order",.int i)],mu):=λi h0 h3 hne=>
  bx [oW (x:=bP mu (.lst q.l) i) (me h0 h3),oB (zW hne)] (by kernel_rfl)
 have t_next:∀(i:Int),0<=i->i<=3->q.at i=0->cu TT (RF r) HT (bn bQ) 58 (cG (ag 0 (aD bQ))) (a6 (ag 0 (aD bQ))) (.int i) [(aaQ "sums",.lst q.l)] mu=some (.next,[(aaQ "sums",.lst q.l),(aaQ "order",.int i)],mu):=λi h0 h3 he=>
  bx [oW (x:=bP mu (.lst q.l) i) (me h0 h3),oB (uG he)] (by kernel_rfl)
 have key:∃fl loc1,jN (cu TT (RF r) HT (bn bQ) 58 (cG (ag 0 (aD bQ))) (a6 (ag 0 (aD bQ)))) [.int 3,.int 2,.int 1] [(aaQ "sums",.lst q.l)] mu=some (fl,loc1,mu)/\((fl= .next/\loc1=[(aaQ "sums",.lst q.l)]/\q.top=0)\/fl= .ret (.int q.top)):=by
  unfold Q4.top
  by_cases h3:q.d=0
  ·rw[iP (t_next 3 (by decide) (by decide) h3) (by kernel_rfl),if_neg (by simp[h3])]
   by_cases h2:q.c=0
   ·rw[iP (t_next 2 (by decide) (by decide) h2) (by kernel_rfl),if_neg (by simp[h2])]
    by_cases h1:q.b=0
    ·rw[iP (t_next 1 (by decide) (by decide) h1) (by kernel_rfl),if_neg (by simp[h1])]
     exact⟨_,_,rfl,.inl ⟨rfl,rfl,rfl⟩⟩
    ·rw[qd (t_ret 1 (by decide) (by decide) h1),if_pos h1]
     exact⟨_,_,rfl,.inr rfl⟩
   ·rw[qd (t_ret 2 (by decide) (by decide) h2),if_pos h2]
    exact⟨_,_,rfl,.inr rfl⟩
  ·rw[qd (t_ret 3 (by decide) (by decide) h3),if_pos h3]
   exact⟨_,_,rfl,.inr rfl⟩
 obtain⟨fl,loc1,h,⟨rfl,rfl,e⟩|rfl⟩:=key
 ·rw[e];exact aa kT rfl [oA,oS h] (by kernel_rfl)
 ·exact aa kT rfl [oA,oS h] (by kernel_rfl)
theorem di(q:Q4):0<=q.top/\q.top<=3:=by unfold Q4.top;split<;>(try split)<;>(try split)<;>lia
theorem iq{t:Tt}:RF (r+2) (.ref cF) [t.v] mu=some (.int t.st.top,mu):=aa jh rfl [oP λm=>sr (q:=t.st)] (by kernel_rfl)
theorem fL{t:Tt}:RF (r+2) (.ref cP) [t.v] mu=some (.int t.sk.top,mu):=aa jF rfl [oP λm=>sr (q:=t.sk)] (by kernel_rfl)
end
section
variable{r:Nat}{mu:Mu}
noncomputable def mf(u d:Int):Int×Int:=if d>0 then(u,d) else(-u,-d)
theorem mh{u d:Int}:RF (r+1) (.ref i7) [.int u,.int d] mu=some (.tup [.int (mf u d).1,.int (mf u d).2],mu):=by
 unfold mf
 by_cases h:d>0
 ·rw[if_pos h];exact aa lU rfl [oB (jl h)] (by kernel_rfl)
 ·rw[if_neg h];exact aa lU rfl [oB (fJ h)] (by kernel_rfl)
structure SG where
 sign:Int
 order:Int
 up:Int
 down:Int
 r0:Int
 r1:Int
noncomputable def SG.v(g:SG):V:= .tup [.int g.sign,.int g.order,.tup [.int g.up,.int g.down],.tup [.int g.r0,.int g.r1]]
noncomputable def Fj(t:Tt)(e:Int):Int:=if e>0 then t.st.top else t.sk.top
noncomputable def z9(t:Tt)(e:Int):Int:=if e>0 then t.st.at (Fj t e) else t.sk.at (Fj t e)
noncomputable def uJ(t:Tt)(e:Int):Int×Int:=if Fj t e=0 then(if e>0 then(1,qc e.natAbs (z9 t e)) else if z9 t e< -e then(3,-e-z9 t e) else(2,qc e.natAbs (z9 t e))) else(0,0)
noncomputable def dH(t:Tt)(e:Int):SG:=
 if e=0 then⟨0,0,0,1,0,0⟩ else if z9 t e=0 then⟨0,0,0,1,(uJ t e).1,(uJ t e).2⟩ else if(uJ t e).1=3 then⟨2,Fj t e,1,1,(uJ t e).1,(uJ t e).2⟩ else⟨if e>0 then 1 else 2,Fj t e,(mf e.natAbs (z9 t e)).1,(mf e.natAbs (z9 t e)).2,(uJ t e).1,(uJ t e).2⟩
theorem et{q:Q4}{i:Int}{mu:Mu}(h:0<=i/\i<=3):bP mu (.lst q.l) i=some (.int (q.at i)):=me h.1 h.2
theorem qh{t:Tt}{e:Int}(he:e.natAbs<7000000)(hs:∀i,t.st.at i<7230584)(hk:∀i,t.sk.at i<7230584):RF (r+3) (.ref gP) [t.v,.int e] mu=some ((dH t e).v,mu):=by
 have bd:∀x,x<7230584->∀m,RF (r+2) (.ref iL) [.int e.natAbs,.int x] m=some (.int (qc e.natAbs x),m):=λx hx m=>Co (r:=r+1) (dk 1491933 [_] []) (ad 18612510561181 [_] [] he) hx
 by_cases h0:e=0
 ·rw[show dH t e=⟨0,0,0,1,0,0⟩ from if_pos h0]
  exact aa bI rfl [oB (dl h0)] (by kernel_rfl)
 by_cases hp:e>0
 ·have eO:Fj t e=t.st.top:=if_pos hp
  have eT:z9 t e=t.st.at t.st.top:=by rw[z9,if_pos hp,eO]
  by_cases ho:t.st.top=0
  ·have eR:uJ t e=(1,qc e.natAbs (t.st.at t.st.top)):=by rw[uJ,eO,if_pos ho,if_pos hp,eT]
   by_cases ht:t.st.at t.st.top=0
   ·rw[show dH t e=⟨0,0,0,1,1,qc e.natAbs (t.st.at t.st.top)⟩ by rw[dH,if_neg h0,eT,if_pos ht,eR]]
    exact aa bI rfl [oB (cC h0),oB (jl hp),zS λm=>iq (t:=t),oB (jl hp),oW (et (q:=t.st) (mu:=[]) (di t.st)),oB (dl ho),oB (jl hp),oA,oP (bd _ (hs t.st.top)),oB (dl ho),oB (mU (ad 9064289814034 [] [_] hp:¬e<0)),oB (dl ht)] (by kernel_rfl)
   ·rw[show dH t e=⟨1,t.st.top,(mf e.natAbs (t.st.at t.st.top)).1,(mf e.natAbs (t.st.at t.st.top)).2,1,qc e.natAbs (t.st.at t.st.top)⟩ by rw[dH,if_neg h0,eT,if_neg ht,eR,if_neg (λh=>absurd h (by dsimp only;decide)),if_pos hp,eO]]
    exact aa bI rfl [oB (cC h0),oB (jl hp),zS λm=>iq (t:=t),oB (jl hp),oW (et (q:=t.st) (mu:=[]) (di t.st)),oB (dl ho),oB (jl hp),oA,oP (bd _ (hs t.st.top)),oB (dl ho),oB (mU (ad 9064289814034 [] [_] hp:¬e<0)),oB (cC ht),oA,oA,oB (jl hp),oA,oP λm=>mh (u:=e.natAbs) (d:=t.st.at t.st.top)] (by kernel_rfl)
  ·have eR:uJ t e=(0,0):=by rw[uJ,eO,if_neg ho]
   by_cases ht:t.st.at t.st.top=0
   ·rw[show dH t e=⟨0,0,0,1,0,0⟩ by rw[dH,if_neg h0,eT,if_pos ht,eR]]
    exact aa bI rfl [oB (cC h0),oB (jl hp),zS λm=>iq (t:=t),oB (jl hp),oW (et (q:=t.st) (mu:=[]) (di t.st)),oB (cC ho),oB (cC ho),oB (dl ht)] (by kernel_rfl)
   ·rw[show dH t e=⟨1,t.st.top,(mf e.natAbs (t.st.at t.st.top)).1,(mf e.natAbs (t.st.at t.st.top)).2,0,0⟩ by rw[dH,if_neg h0,eT,if_neg ht,eR,if_neg (λh=>absurd h (by dsimp only;decide)),if_pos hp,eO]]
    exact aa bI rfl [oB (cC h0),oB (jl hp),zS λm=>iq (t:=t),oB (jl hp),oW (et (q:=t.st) (mu:=[]) (di t.st)),oB (cC ho),oB (cC ho),oB (cC ht),oA,oA,oB (jl hp),oA,oP λm=>mh (u:=e.natAbs) (d:=t.st.at t.st.top)] (by kernel_rfl)
 ·have eO:Fj t e=t.sk.top:=if_neg hp
  have eT:z9 t e=t.sk.at t.sk.top:=by rw[z9,if_neg hp,eO]
  have hn:e<0:=av 594707917510503913958 [] [_] h0 hp
  by_cases ho:t.sk.top=0
  ·by_cases hl:t.sk.at t.sk.top< -e
   ·have eR:uJ t e=(3,-e-t.sk.at t.sk.top):=by rw[uJ,eO,if_pos ho,if_neg hp,eT,if_pos hl]
    by_cases ht:t.sk.at t.sk.top=0
    ·rw[show dH t e=⟨0,0,0,1,3,-e-t.sk.at t.sk.top⟩ by rw[dH,if_neg h0,eT,if_pos ht,eR]]
     exact aa bI rfl [oB (cC h0),oB (fJ hp),zS λm=>fL (t:=t),oB (fJ hp),oW (et (q:=t.sk) (mu:=[]) (di t.sk)),oB (dl ho),oB (fJ hp),oA,oP (bd _ (hk t.sk.top)),oB (dl ho),oB (mT hn),oB (mT hl),oB (dl ht)] (by kernel_rfl)
    ·rw[show dH t e=⟨2,t.sk.top,1,1,3,-e-t.sk.at t.sk.top⟩ by rw[dH,if_neg h0,eT,if_neg ht,eR,if_pos rfl,eO]]
     exact aa bI rfl [oB (cC h0),oB (fJ hp),zS λm=>fL (t:=t),oB (fJ hp),oW (et (q:=t.sk) (mu:=[]) (di t.sk)),oB (dl ho),oB (fJ hp),oA,oP (bd _ (hk t.sk.top)),oB (dl ho),oB (mT hn),oB (mT hl),oB (cC ht),oA,oA] (by kernel_rfl)
   ·have eR:uJ t e=(2,qc e.natAbs (t.sk.at t.sk.top)):=by rw[uJ,eO,if_pos ho,if_neg hp,eT,if_neg hl]
    by_cases ht:t.sk.at t.sk.top=0
    ·rw[show dH t e=⟨0,0,0,1,2,qc e.natAbs (t.sk.at t.sk.top)⟩ by rw[dH,if_neg h0,eT,if_pos ht,eR]]
     exact aa bI rfl [oB (cC h0),oB (fJ hp),zS λm=>fL (t:=t),oB (fJ hp),oW (et (q:=t.sk) (mu:=[]) (di t.sk)),oB (dl ho),oB (fJ hp),oA,oP (bd _ (hk t.sk.top)),oB (dl ho),oB (mT hn),oB (mU hl),oB (dl ht)] (by kernel_rfl)
    ·rw[show dH t e=⟨2,t.sk.top,(mf e.natAbs (t.sk.at t.sk.top)).1,(mf e.natAbs (t.sk.at t.sk.top)).2,2,qc e.natAbs (t.sk.at t.sk.top)⟩ by rw[dH,if_neg h0,eT,if_neg ht,eR,if_neg (λh=>absurd h (by dsimp only;decide)),if_neg hp,eO]]
     exact aa bI rfl [oB (cC h0),oB (fJ hp),zS λm=>fL (t:=t),oB (fJ hp),oW (et (q:=t.sk) (mu:=[]) (di t.sk)),oB (dl ho),oB (fJ hp),oA,oP (bd _ (hk t.sk.top)),oB (dl ho),oB (mT hn),oB (mU hl),oB (cC ht),oA,oA,oB (fJ hp),oA,oP λm=>mh (u:=e.natAbs) (d:=t.sk.at t.sk.top)] (by kernel_rfl)
  ·have eR:uJ t e=(0,0):=by rw[uJ,eO,if_neg ho]
   by_cases ht:t.sk.at t.sk.top=0
   ·rw[show dH t e=⟨0,0,0,1,0,0⟩ by rw[dH,if_neg h0,eT,if_pos ht,eR]]
    exact aa bI rfl [oB (cC h0),oB (fJ hp),zS λm=>fL (t:=t),oB (fJ hp),oW (et (q:=t.sk) (mu:=[]) (di t.sk)),oB (cC ho),oB (cC ho),oB (dl ht)] (by kernel_rfl)
   ·rw[show dH t e=⟨2,t.sk.top,(mf e.natAbs (t.sk.at t.sk.top)).1,(mf e.natAbs (t.sk.at t.sk.top)).2,0,0⟩ by rw[dH,if_neg h0,eT,if_neg ht,eR,if_neg (λh=>absurd h (by dsimp only;decide)),if_neg hp,eO]]
    exact aa bI rfl [oB (cC h0),oB (fJ hp),zS λm=>fL (t:=t),oB (fJ hp),oW (et (q:=t.sk) (mu:=[]) (di t.sk)),oB (cC ho),oB (cC ho),oB (cC ht),oA,oA,oB (fJ hp),oA,oP λm=>mh (u:=e.natAbs) (d:=t.sk.at t.sk.top)] (by kernel_rfl)
noncomputable def iR(b:Bx)(g:Gl):Int:=if b.sign=1/\g.so=b.order then g.s else if b.sign=2/\g.ko=b.order then -g.k else 0
theorem Kq{b:Bx}{items:V}{g:Gl}:RF (r+1) (.ref th) [.obj ay (eU b items),g.v] mu=some (.int (iR b g),mu):=by
 unfold iR
 by_cases h1:b.sign=1
 ·by_cases h2:g.so=b.order
  ·rw[if_pos ⟨h1,h2⟩];exact aa j0 rfl [oB (dl h1),oB (dl h2)] (by kernel_rfl)
  ·rw[if_neg (λh=>h2 h.2),if_neg (λh=>by exact av 316548616821286070255 [] [_,_,_] h1 h)];exact aa j0 rfl [oB (dl h1),oB (cC h2),oB (cC (by exact ad 10127237528255 [] [_] h1:¬b.sign=2))] (by kernel_rfl)
 ·rw[if_neg (λh=>h1 h.1)]
  by_cases h3:b.sign=2
  ·by_cases h4:g.ko=b.order
   ·rw[if_pos ⟨h3,h4⟩];exact aa j0 rfl [oB (cC h1),oB (dl h3),oB (dl h4)] (by kernel_rfl)
   ·rw[if_neg (λh=>h4 h.2)];exact aa j0 rfl [oB (cC h1),oB (dl h3),oB (cC h4)] (by kernel_rfl)
  ·rw[if_neg (λh=>h3 h.1)];exact aa j0 rfl [oB (cC h1),oB (cC h3)] (by kernel_rfl)
theorem Aa{b:Bx}{items:V}{x:Int}(hu:b.up.natAbs<2^63)(hd:0<b.down):RF (r+2) (.ref gQ) [.obj ay (eU b items),.int x] mu=some (.int (eq (b.up*x) b.down),mu):=
 aa tm rfl [oA,oW (dU (a:=b.up) (b:=x) (.inl hu)),oA,oP λm=>Cn (n:=b.up*x) hd] (by kernel_rfl)
noncomputable def tB(k:Int)(x:Nd):Int:=if k=2 then zX x else match x with
 | .kern w=>w
 |x=>Cp x+xX x
theorem mW{b:Bx}{items:V}{x:Nd}(hb:b.kind=2\/b.kind=3)(h:er x):RF (r+2) (.ref ia) [.obj ay (eU b items),x.v] mu=some (.int (tB b.kind x),mu):=by
 obtain⟨kind,w,hh,d,sh,si,o,u,dn⟩:=b
 rcases hb with hb|hb
 ·cases hb
  exact aa el rfl [oA,oP λm=>mc h] (by kernel_rfl)
 ·cases hb
  cases x with
  |kern w=>exact aa el rfl [oA,oA] (by kernel_rfl)
  |skip g s=>exact aa el rfl [oA,oA,oP λm=>fK h,oP λm=>gT h] (by kernel_rfl)
  |rule=>exact h.elim
  |box b l=>
   obtain⟨kind,w,hh,d,sh,si,o,u,dn⟩:=b
   obtain⟨h,hl⟩:=h
   rcases h with h|h<;>cases h
   ·exact aa el rfl [oA,oA,oP λm=>fK (x:= .box ⟨2,w,hh,d,sh,si,o,u,dn⟩ l) ⟨.inl rfl,hl⟩,oP λm=>gT (x:= .box ⟨2,w,hh,d,sh,si,o,u,dn⟩ l) ⟨.inl rfl,hl⟩] (by kernel_rfl)
   ·exact aa el rfl [oA,oA,oP λm=>fK (x:= .box ⟨3,w,hh,d,sh,si,o,u,dn⟩ l) ⟨.inr rfl,hl⟩,oP λm=>gT (x:= .box ⟨3,w,hh,d,sh,si,o,u,dn⟩ l) ⟨.inr rfl,hl⟩] (by kernel_rfl)
noncomputable def gU(own mode amount:Int):Int:=if mode=0 then amount else own+amount
theorem sw{own mode amount:Int}(hm:mode=0\/mode=1)(ha:Dm amount):RF (r+3) (.ref ib) [.int own,.int mode,.int amount] mu=some (.int (gU own mode amount),mu):=by
 rcases hm with rfl|rfl
 ·exact aa kW rfl [oA,oP λm=>ao ha,oA] (by kernel_rfl)
 ·exact aa kW rfl [oA,oA,oP λm=>ao ha,oA] (by kernel_rfl)
end
section
variable{r:Nat}{mu:Mu}
mutual
theorem fo{j:Nat}{u:V}:∀{v:V},aG 0 v=true->jH j u v=v
 | .none,_=>rfl
 | .bool b,_=>rfl
 | .int i,_=>rfl
 | .top v,_=>rfl
 | .tup l,b=>by show V.tup _=_;rw[eM b]
 | .lst l,b=>by show V.lst _=_;rw[eM b]
 | .arg l,b=>by show V.arg _=_;rw[eM b]
 | .obj C fs,b=>by show V.obj C _=_;rw[sx b]
 | .ref i,b=>by simp[aG] at b
theorem eM{j:Nat}{u:V}:∀{l:List V},ab 0 l=true->b8 j u l=l
 |[],_=>rfl
 |v::l,b=>by
  simp only[ab,aan] at b
  simp only[b8,fo b.1,eM b.2]
theorem sx{j:Nat}{u:V}:∀{l:List (Str×V)},dQ 0 l=true->qV j u l=l
 |[],_=>rfl
 |(x,v)::l,b=>by
  simp only[dQ,aan] at b
  simp only[qV,fo b.1,sx b.2]
end
theorem lj:∀{n:Nat}{a b:List V},ab n a=true->ab n b=true->ab n (a++b)=true
 |_,[],_,_,h=>h
 |n,v::a,b,h,k=>by
  simp only[ab,aan] at h
  rw[aa6]
  simp only[ab,h.1,lj h.2 k,abn]
theorem aQ{α:Type}{n:Nat}{f:α->V}:∀{l:List α},(∀x∈l,aG n (f x)=true)->ab n (l.map f)=true:=by
 intro L0
 induction L0 with
 |nil=>
  intro _
  exact rfl
 |cons x l ih=>
  intro h
  rw[aaX]
  simp only[ab,h x (.head _),ih λy hy=>h y (.tail _ hy),abn]
theorem Ab{x:Nd}(h:er x):aG 0 x.v=true:=by
 cases x with
 |kern w=>rfl
 |skip g s=>rfl
 |rule=>exact h.elim
 |box b l=>
  show dQ 0 (eU b (.lst l))=true
  simp only[eU,dQ,aG,ab,h.2,Bool.and_true,abn]
theorem bJ{l:List Nd}(h:∀x∈l,er x):ab 0 (l.map Nd.v)=true:=aQ λx hx=>Ab (h x hx)
noncomputable def mx(a b:Int):Int:=if b>a then b else a
structure NL where
 t:Tt
 a:Int
 b:Int
noncomputable def Tt.wid(t:Tt)(x:Int):Tt:={t with nat:=t.nat+x}
noncomputable def t0:Tt:=⟨0,q0,q0⟩
set_option backward.match.sparseCases false in
noncomputable def gi(s:NL)(x:Nd):NL:=⟨match x with
 | .skip g _=>s.t.add g
 |x=>s.t.wid (zX x),mx s.a (J4 x),mx s.b (J5 x)⟩
noncomputable def az(l:List Nd):NL:=l.foldl gi ⟨t0,0,0⟩
theorem ml{l:List Nd}(hl:∀x∈l,er x)(hn:l.length<=1000):RF (r+4) (.ref fa) [.lst (l.map Nd.v)] mu=some (.tup [(az l).t.v,.int (az l).a,.int (az l).b],mu):=by
 have hf:=bi (f:=cu TT (RF (r+3)) HT (bn dz) 56 (cG (ag 2 (aD dz))) (a6 (ag 2 (aD dz)))) Nd.v gi
  (λs=>[(aaQ "items",.lst (l.map Nd.v)),(aaQ "totals",.ref 0),(aaQ "height",.int s.a),(aaQ "depth",.int s.b)]) (λs=>s.t.mus) (λq0 l=>∀x∈l,er x)
  (λs x rest i=>⟨λy hy=>i y (.tail _ hy),by
   have hx:=i x (.head _)
   refine⟨[(aaQ "items",.lst (l.map Nd.v)),(aaQ "totals",.ref 0),(aaQ "height",.int (gi s x).a),(aaQ "depth",.int (gi s x).b),(aaQ "node",x.v)],?_,by kernel_rfl⟩
   cases x with
   |kern w=>exact bx [oA,oP λm=>mc hx,oN (cH (n:=s.t.nat) (x:=w) (A:= .ref 1) (B:= .ref 2) (rest:=[.lst s.t.st.l,.lst s.t.sk.l])),oP λm=>ip hx,oA,oP λm=>jm hx,oA] (by kernel_rfl)
   |skip g so=>exact bx [oA,oN (qg (t:=s.t) hx.1 hx.2.1 hx.2.2.1 hx.2.2.2),oP λm=>ip (x:= .skip g so) hx,oA,oP λm=>jm (x:= .skip g so) hx,oA] (by kernel_rfl)
   |rule=>exact hx.elim
   |box b it=>
    obtain⟨kind,w,hh,d,sh,si,o,u,dn⟩:=b
    obtain⟨hk,hl⟩:=hx
    rcases hk with hk|hk<;>cases hk
    ·exact bx [oA,oP λm=>mc (x:= .box ⟨2,w,hh,d,sh,si,o,u,dn⟩ it) ⟨.inl rfl,hl⟩,oN (cH (n:=s.t.nat) (x:=w) (A:= .ref 1) (B:= .ref 2) (rest:=[.lst s.t.st.l,.lst s.t.sk.l])),oP λm=>ip (x:= .box ⟨2,w,hh,d,sh,si,o,u,dn⟩ it) ⟨.inl rfl,hl⟩,oA,oP λm=>jm (x:= .box ⟨2,w,hh,d,sh,si,o,u,dn⟩ it) ⟨.inl rfl,hl⟩,oA] (by kernel_rfl)
    ·exact bx [oA,oP λm=>mc (x:= .box ⟨3,w,hh,d,sh,si,o,u,dn⟩ it) ⟨.inr rfl,hl⟩,oN (cH (n:=s.t.nat) (x:=w) (A:= .ref 1) (B:= .ref 2) (rest:=[.lst s.t.st.l,.lst s.t.sk.l])),oP λm=>ip (x:= .box ⟨3,w,hh,d,sh,si,o,u,dn⟩ it) ⟨.inr rfl,hl⟩,oA,oP λm=>jm (x:= .box ⟨3,w,hh,d,sh,si,o,u,dn⟩ it) ⟨.inr rfl,hl⟩,oA] (by kernel_rfl)⟩) l ⟨t0,0,0⟩ hl
 refine aK mO rfl ?_ [oC qf,oG (c:=(l.map Nd.v).length<=1000) (by rw[aaq];exact hn),oS hf,oA] (by kernel_rfl)
 show(ab 0 (l.map Nd.v)&&true)=true
 rw[bJ hl];rfl
end
section
variable{r:Nat}{mu:Mu}
theorem mm{l:List Nd}(hl:∀x∈l,er x)(hn:l.length<=1000):RF (r+1) (.ref fb) [.lst (l.map Nd.v)] mu=some (.none,mu):=by
 have hf:=bi (σ:=Unit) (f:=cu TT (RF r) HT (bn dD) 58 (cG (ag 0 (aD dD))) (a6 (ag 0 (aD dD)))) Nd.v (λs q0=>s)
  (λs=>[(aaQ "items",.lst (l.map Nd.v))]) (λs=>mu) (λq0 l=>∀x∈l,er x)
  (λs x rest i=>⟨λy hy=>i y (.tail _ hy),by
   have hx:=i x (.head _)
   refine⟨[(aaQ "items",.lst (l.map Nd.v)),(aaQ "node",x.v)],?_,by kernel_rfl⟩
   cases x with
   |kern w=>exact bx [oA,oA,oA,oA] (by kernel_rfl)
   |skip g so=>exact bx [oA,oA,oA,oA] (by kernel_rfl)
   |rule=>exact hx.elim
   |box b it=>
    obtain⟨kind,w,hh,d,sh,si,o,u,dn⟩:=b
    obtain⟨hk,hl⟩:=hx
    rcases hk with hk|hk<;>cases hk
    ·exact bx [oA,oA,oA,oA] (by kernel_rfl)
    ·exact bx [oA,oA,oA,oA] (by kernel_rfl)⟩) l () hl
 exact aa mP rfl [oG (c:=(l.map Nd.v).length<=1000) (by rw[aaq];exact hn),oS hf] (by kernel_rfl)
noncomputable def dp(s:NL)(x:Nd):NL:=match x with
 | .skip g _=>⟨(s.t.wid s.b).add g,mx s.a (J6 x),0⟩
 | .kern w=>⟨s.t.wid (s.b+w),mx s.a (J6 x),0⟩
 |x=>⟨s.t.wid (s.b+Cp x),mx s.a (J6 x),xX x⟩
noncomputable def ar(l:List Nd):NL:=l.foldl dp ⟨t0,0,0⟩
theorem j4{l:List Nd}(hl:∀x∈l,er x)(hn:l.length<=1000):RF (r+4) (.ref dM) [.lst (l.map Nd.v)] []=some (.tup [.ref 0,.int (ar l).a,.int (ar l).b],[.obj aU (vL (ar l).t.nat (.lst (ar l).t.st.l) (.lst (ar l).t.sk.l))]):=by
 have hf:=bi (f:=cu TT (RF (r+3)) HT (bn cQ) 55 (cG (ag 3 (aD cQ))) (a6 (ag 3 (aD cQ)))) Nd.v dp
  (λs=>[(aaQ "items",.lst (l.map Nd.v)),(aaQ "totals",.ref 0),(aaQ "width",.int s.a),(aaQ "depth",.int s.b)]) (λs=>s.t.mus) (λq0 l=>∀x∈l,er x)
  (λs x rest i=>⟨λy hy=>i y (.tail _ hy),by
   have hx:=i x (.head _)
   refine⟨[(aaQ "items",.lst (l.map Nd.v)),(aaQ "totals",.ref 0),(aaQ "width",.int (dp s x).a),(aaQ "depth",.int (dp s x).b),(aaQ "node",x.v)],?_,by kernel_rfl⟩
   cases x with
   |kern w=>exact bx [oP λm=>tA hx,oA,oA,oA,oN (cH (n:=s.t.nat) (x:=s.b+w) (A:= .ref 1) (B:= .ref 2) (rest:=[.lst s.t.st.l,.lst s.t.sk.l]))] (by kernel_rfl)
   |skip g so=>exact bx [oP λm=>tA (x:= .skip g so) hx,oA,oA,oN (cH (n:=s.t.nat) (x:=s.b) (A:= .ref 1) (B:= .ref 2) (rest:=[.lst s.t.st.l,.lst s.t.sk.l])),oN (qg (t:=s.t.wid s.b) hx.1 hx.2.1 hx.2.2.1 hx.2.2.2)] (by kernel_rfl)
   |rule=>exact hx.elim
   |box b it=>
    obtain⟨kind,w,hh,d,sh,si,o,u,dn⟩:=b
    obtain⟨hk,hl⟩:=hx
    rcases hk with hk|hk<;>cases hk
    ·exact bx [oP λm=>tA (x:= .box ⟨2,w,hh,d,sh,si,o,u,dn⟩ it) ⟨.inl rfl,hl⟩,oA,oA,oA,oA,oP λm=>fK (x:= .box ⟨2,w,hh,d,sh,si,o,u,dn⟩ it) ⟨.inl rfl,hl⟩,oN (cH (n:=s.t.nat) (x:=s.b+hh) (A:= .ref 1) (B:= .ref 2) (rest:=[.lst s.t.st.l,.lst s.t.sk.l])),oP λm=>gT (x:= .box ⟨2,w,hh,d,sh,si,o,u,dn⟩ it) ⟨.inl rfl,hl⟩] (by kernel_rfl)
    ·exact bx [oP λm=>tA (x:= .box ⟨3,w,hh,d,sh,si,o,u,dn⟩ it) ⟨.inr rfl,hl⟩,oA,oA,oA,oA,oA,oP λm=>fK (x:= .box ⟨3,w,hh,d,sh,si,o,u,dn⟩ it) ⟨.inr rfl,hl⟩,oN (cH (n:=s.t.nat) (x:=s.b+hh) (A:= .ref 1) (B:= .ref 2) (rest:=[.lst s.t.st.l,.lst s.t.sk.l])),oP λm=>gT (x:= .box ⟨3,w,hh,d,sh,si,o,u,dn⟩ it) ⟨.inr rfl,hl⟩] (by kernel_rfl)⟩) l ⟨t0,0,0⟩ hl
 exact aa li rfl [oP λm=>mm hl hn,oC qf,oG (c:=(l.map Nd.v).length<=1000) (by rw[aaq];exact hn),oS hf,oA] (by kernel_rfl)
structure PL where
 f:Int
 x:Int
 l:List Int
noncomputable def cZ:Nd->Option Gl
 | .skip g _=>some g
 |_=>none
noncomputable def bt(b:Bx)(s:PL)(n:Nd):PL:=
 let f:=s.f+(match cZ n with|some g=>g.w|none=>tB b.kind n)
 let x:=s.x+(match cZ n with|some g=>iR b g|none=>0)
 ⟨f,x,s.l++[f+eq (b.up*x) b.down]⟩
noncomputable def gE(b:Bx)(l:List Nd):List Int:=(l.foldl (bt b) ⟨0,0,[0]⟩).l
theorem jn(n:Nat):∀l:List Int,ab n (l.map V.int)=true:=by
 intro L0
 induction L0 with
 |nil=>
  exact rfl
 |cons x l ih=>
  rw[aaX];simp only[ab,aG,ih,abn]
theorem aZ{n k:Nat}{v v':V}{mu mu2 mu':Mu}{su:List (Nat×V)}(e:dc ((aaa (mu.length-(n+k))).map λi=>n+k+i) mu=(su,mu2))(hv:iW su v=v')(hm:mu2.take (n+k)=mu')(h1:n+k<=mu2.length)(h2:aG (n+k) v'=true)(h3:mu'.all (og (n+k))=true):cX n (some k) v mu=some (v',mu'):=by
 simp only[cX,e,hv,hm]
 rw[if_pos ⟨h1,h2,h3⟩]
theorem qi{l:List V}(h:ab 0 l=true):cX 0 (some 0) (.ref 0) [.lst l]=some (.lst l,[]):=
 aZ (su:=[(0,.lst l)]) (mu2:=[.dead]) (by rfl) (by rfl) rfl (by decide) h rfl
theorem Fk{b:Bx}{l:List Nd}(hb:b.kind=2\/b.kind=3)(hu:b.up.natAbs<2^63)(hd:0<b.down)(hl:∀x∈l,er x)(hn:l.length<=900):RF (r+3) (.ref lI) [.obj ay (eU b (.lst (l.map Nd.v)))] mu=some (.lst ((gE b l).map V.int),mu):=by
 have hf:=bi (f:=cu TT (RF (r+2)) HT (bn jX) 55 (cG (ag 3 (aD jX))) (a6 (ag 3 (aD jX)))) Nd.v (bt b)
  (λs=>[(aaQ "box",.obj ay (eU b (.lst (l.map Nd.v)))),(aaQ "found",.ref 0),(aaQ "fixed",.int s.f),(aaQ "flexed",.int s.x)]) (λs=>[.lst (s.l.map V.int)]) (λs l=>s.l.length+l.length<=1000/\∀x∈l,er x)
  (λs x rest i=>⟨⟨by have:=i.1;simp only[bt,aap,aaf,aae] at this⊢;exact ad 3919179781492315082206149346200 [_,_] [] this,λy hy=>i.2 y (.tail _ hy)⟩,by
   have hx:=i.2 x (.head _)
   have hs:(s.l.map V.int).length<=1000:=by have:=i.1;rw[aaq];exact ad 909828240793200 [_,_] [] this
   have ap:dJ (RF (r+2)) (.ref 0) [.int ((bt b s x).f+eq (b.up*(bt b s x).x) b.down)] [.lst (s.l.map V.int)] (.app 0)=some (.none,[.lst ((bt b s x).l.map V.int)]):=
    cL rfl hs (by simp only[bt,abk];rfl)
   refine⟨[(aaQ "box",.obj ay (eU b (.lst (l.map Nd.v)))),(aaQ "found",.ref 0),(aaQ "fixed",.int (bt b s x).f),(aaQ "flexed",.int (bt b s x).x),(aaQ "node",x.v)],?_,by kernel_rfl⟩
   have sp:∀m,RF (r+2) (.ref gQ) [.obj ay (eU b (.lst (l.map Nd.v))),.int (bt b s x).x] m=some (.int (eq (b.up*(bt b s x).x) b.down),m):=λm=>Aa hu hd
   cases x with
   |kern w=>
    have e:(bt b s (.kern w)).x=s.x:=by show s.x+0=_;exact dk 340483505 [] [_]
    rw[e] at sp ap⊢
    exact bx [oA,oP λm=>mW (items:= .lst (l.map Nd.v)) hb hx,oP sp,oV ap] (by kernel_rfl)
   |skip g so=>exact bx [oA,oP λm=>Kq (b:=b) (items:= .lst (l.map Nd.v)) (g:=g),oP sp,oV ap] (by kernel_rfl)
   |rule=>exact hx.elim
   |box c it=>
    have e:(bt b s (.box c it)).x=s.x:=by show s.x+0=_;exact dk 340483505 [] [_]
    rw[e] at sp ap⊢
    obtain⟨kind,w,hh,d,sh,si,o,u,dn⟩:=c
    obtain⟨hk,hl⟩:=hx
    rcases hk with hk|hk<;>cases hk
    ·exact bx [oA,oP λm=>mW (items:= .lst (l.map Nd.v)) (x:= .box ⟨2,w,hh,d,sh,si,o,u,dn⟩ it) hb ⟨.inl rfl,hl⟩,oP sp,oV ap] (by kernel_rfl)
    ·exact bx [oA,oP λm=>mW (items:= .lst (l.map Nd.v)) (x:= .box ⟨3,w,hh,d,sh,si,o,u,dn⟩ it) hb ⟨.inr rfl,hl⟩,oP sp,oV ap] (by kernel_rfl)⟩) l ⟨0,0,[0]⟩ ⟨by simp;exact ad 909915565637880 [_] [] hn,hl⟩
 have hbl:ab 0 [.obj ay (eU b (.lst (l.map Nd.v)))]=true:=by
  simp only[eU,ab,dQ,aG,bJ hl,abn]
 have hg:(l.map Nd.v).length<=1000:=by rw[aaq];exact ad 112324457880 [_] [] hn
 have hp:cX 0 (some 0) (.ref 0) [.lst ((gE b l).map V.int)]=some (.lst ((gE b l).map V.int),[]):=qi (jn 0 _)
 obtain⟨kind,w,hh,d,sh,si,o,u,dn⟩:=b
 rcases hb with hb|hb<;>cases hb
 ·exact aK qa rfl hbl [oA,oG hg,oS hf,oV hp] (by kernel_rfl)
 ·exact aK qa rfl hbl [oA,oP λm=>mm hl (ad 112324457880 [_] [] hn),oG hg,oS hf,oV hp] (by kernel_rfl)
end
section
variable{r:Nat}{mu:Mu}
noncomputable def Fm(b:Bx)(g:SG):Bx:={b with sign:=g.sign,order:=g.order,up:=g.up,down:=g.down}
noncomputable def SG.rep(g:SG):V:= .tup [.int g.r0,.int g.r1]
theorem Ac{x:V}{l:List V}:b9 [] .NotEq (.lst (x::l)) (.lst [])=some true:=by kernel_rfl
theorem Ad{b:Bx}{t:Tt}{e:Int}{x:V}{l:List V}(he:e.natAbs<7000000)(hs:∀i,t.st.at i<7230584)(hk:∀i,t.sk.at i<7230584):RF (r+4) (.ref iM) [.ref 0,t.v,.int e] [.obj ay (eU b (.lst (x::l)))]=some ((dH t e).rep,[.obj ay (eU (Fm b (dH t e)) (.lst (x::l)))]):=
 aa nS rfl [oP λm=>qh he hs hk,oB (Ac (x:=x) (l:=l))] (by kernel_rfl)
theorem Ae{m0:MO}{b:Bx}{t:Tt}{e:Int}{x:V}{l:List V}(he:e.natAbs<7000000)(hs:∀i,t.st.at i<7230584)(hk:∀i,t.sk.at i<7230584):RF (r+4) (.ref iM) [.ref 1,t.v,.int e] [m0,.obj ay (eU b (.lst (x::l)))]=some ((dH t e).rep,[m0,.obj ay (eU (Fm b (dH t e)) (.lst (x::l)))]):=
 aa nS rfl [oP λm=>qh he hs hk,oB (Ac (x:=x) (l:=l))] (by kernel_rfl)
theorem gf{b:Bx}{l:List V}(h:ab 0 l=true):aG 0 (.obj ay (eU b (.lst l)))=true:=by
 simp only[eU,dQ,aG,ab,h,abn]
theorem Af{b:Bx}{l:List V}{x y:Int}(h:ab 0 l=true):cX 0 (some 0) (.tup [.ref 0,.tup [.int x,.int y]]) [.obj ay (eU b (.lst l))]=some (.tup [.obj ay (eU b (.lst l)),.tup [.int x,.int y]],[]):=
 aZ (su:=[(0,.obj ay (eU b (.lst l)))]) (mu2:=[.dead]) (by rfl) (by rfl) rfl (by decide) (by show(aG 0 (.obj ay (eU b (.lst l)))&&true)=true;rw[gf h];rfl) rfl
theorem x5{b:Bx}{l:List V}{x y:Int}(h:ab 0 l=true):cX 0 (some 0) (.tup [.ref 1,.tup [.int x,.int y]]) [.dead,.obj ay (eU b (.lst l))]=some (.tup [.obj ay (eU b (.lst l)),.tup [.int x,.int y]],[]):=
 aZ (su:=[(1,.obj ay (eU b (.lst l)))]) (mu2:=[.dead,.dead]) (by rfl) (by rfl) rfl (by decide) (by show(aG 0 (.obj ay (eU b (.lst l)))&&true)=true;rw[gf h];rfl) rfl
noncomputable def Fn(l:List Nd)(mode amount:Int):Bx×SG:=
 let n:=az l
 let w:=gU n.t.nat mode amount
 (Fm (nV 2 w n.a n.b) (dH n.t (w-n.t.nat)),dH n.t (w-n.t.nat))
structure wW(t:Tt)(w:Int):Prop where
 dw:Dm w
 e:(w-t.nat).natAbs<7000000
 s:∀i,t.st.at i<7230584
 k:∀i,t.sk.at i<7230584
theorem GF{y:Nd}{ys:List Nd}{mode amount:Int}(hl:∀x∈y::ys,er x)(hn:(y::ys).length<=900)(hm:mode=0\/mode=1)(ha:Dm amount)(hS:wW (az (y::ys)).t (gU (az (y::ys)).t.nat mode amount))(h1:Dm (az (y::ys)).a)(h2:Dm (az (y::ys)).b):
  RF (r+5) (.ref ot) [.lst ((y::ys).map Nd.v),.int mode,.int amount] mu=some (.tup [(Nd.box (Fn (y::ys) mode amount).1 ((y::ys).map Nd.v)).v,(Fn (y::ys) mode amount).2.rep],mu):=by
 have hb:ab 0 [.lst ((y::ys).map Nd.v),.int mode,.int amount]=true:=by
  simp only[ab,aG,bJ hl,abn]
 have h3:=Af (b:=(Fn (y::ys) mode amount).1) (x:=(Fn (y::ys) mode amount).2.r0) (y:=(Fn (y::ys) mode amount).2.r1) (bJ hl)
 exact aK xU rfl hb [oA,oP λm=>ml hl (ad 112324457880 [_] [] hn),oP λm=>sw (own:=(az (y::ys)).t.nat) hm ha,oC (xY (k:=2) (items:= .lst ((y::ys).map Nd.v)) (by decide) (by decide) hS.dw h1 h2),oA,oC (Ad (b:=nV 2 (gU (az (y::ys)).t.nat mode amount) (az (y::ys)).a (az (y::ys)).b) (x:=y.v) (l:=ys.map Nd.v) hS.e hS.s hS.k),oV h3] (by kernel_rfl)
noncomputable def Fo(l:List Nd)(mode amount:Int):Bx×SG:=
 let n:=ar l
 let w:=gU n.t.nat mode amount
 (Fm (nV 3 n.a w n.b) (dH n.t (w-n.t.nat)),dH n.t (w-n.t.nat))
theorem wX{s:Stmt}{loc:au}{mu:Mu}{su:List (Nat×V)}{mu2:Mu}(h:HT s.pos.line 1000=true)(e:dc (aaa mu.length) mu=(su,mu2)):fz HT s loc mu=(loc.map (λq=>(q.1,iW su q.2)),mu2):=by
 unfold fz;rw[if_pos h,e]
theorem GG{y:Nd}{ys:List Nd}{mode amount:Int}(hl:∀x∈y::ys,er x)(hn:(y::ys).length<=900)(hm:mode=0\/mode=1)(ha:Dm amount)(hS:wW (ar (y::ys)).t (gU (ar (y::ys)).t.nat mode amount))(h1:Dm (ar (y::ys)).a)(h2:Dm (ar (y::ys)).b):
  RF (r+5) (.ref ou) [.lst ((y::ys).map Nd.v),.int mode,.int amount] mu=some (.tup [(Nd.box (Fo (y::ys) mode amount).1 ((y::ys).map Nd.v)).v,(Fo (y::ys) mode amount).2.rep],mu):=by
 have hb:ab 0 [.lst ((y::ys).map Nd.v),.int mode,.int amount]=true:=by
  simp only[ab,aG,bJ hl,abn]
 have h3:=x5 (b:=(Fo (y::ys) mode amount).1) (x:=(Fo (y::ys) mode amount).2.r0) (y:=(Fo (y::ys) mode amount).2.r1) (bJ hl)
 have h4:some (fz HT (ag 3 (aD ti)) [(aaQ "items",.lst ((y::ys).map Nd.v)),(aaQ "mode",.int mode),(aaQ "amount",.int amount),(aaQ "most_depth",.int 1073741823),(aaQ "totals",.ref 0),(aaQ "width",.int (ar (y::ys)).a),(aaQ "depth",.int (ar (y::ys)).b)] [.obj aU (vL (ar (y::ys)).t.nat (.lst (ar (y::ys)).t.st.l) (.lst (ar (y::ys)).t.sk.l))])=
   some ([(aaQ "items",.lst ((y::ys).map Nd.v)),(aaQ "mode",.int mode),(aaQ "amount",.int amount),(aaQ "most_depth",.int 1073741823),(aaQ "totals",(ar (y::ys)).t.v),(aaQ "width",.int (ar (y::ys)).a),(aaQ "depth",.int (ar (y::ys)).b)],[.dead]):=by
  rw[wX (su:=[(0,(ar (y::ys)).t.v)]) (mu2:=[.dead]) (by kernel_rfl) (by rfl)]
  have e:∀u,jH 0 u (.lst ((y::ys).map Nd.v))= .lst ((y::ys).map Nd.v):=λu=>fo (bJ hl)
  simp only[aaX,abo,iW] at e⊢
  rw[e]
  rfl
 exact aK xV rfl hb [oP λm=>ao (v:=1073741823) ⟨by decide,by decide⟩,oC (j4 hl (ad 112324457880 [_] [] hn)),oB (fJ (a:=(ar (y::ys)).b) (b:=1073741823) (by have:=h2.2;exact ad 2799191066853 [] [_] this)),oZ h4,oP λm=>sw (own:=(ar (y::ys)).t.nat) hm ha,oC (Fe (k:=3) (m0:= .dead) (items:= .lst ((y::ys).map Nd.v)) (by decide) (by decide) h1 hS.dw h2),oC (Ae (m0:= .dead) (b:=nV 3 (ar (y::ys)).a (gU (ar (y::ys)).t.nat mode amount) (ar (y::ys)).b) (x:=y.v) (l:=ys.map Nd.v) hS.e hS.s hS.k),oV h3] (by kernel_rfl)
end
section
set_option backward.match.sparseCases false in
noncomputable def Fp:Stmt->Expr
 | .Assign _ e _=>e
 | .Return (some e) _=>e
 | .Expr e _=>e
 |_=> .Constant .none 0 ⟨0,0,0,0⟩
set_option backward.match.sparseCases false in
noncomputable def cE:Expr->Expr
 | .ListComp e _ _ _=>e
 |e=>e
noncomputable def cT:Expr->Expr
 | .ListComp _ (⟨t,_,_,_⟩::_) _ _=>t
 |e=>e
noncomputable def cI:Expr->List Expr
 | .ListComp _ (⟨_,_,i,_⟩::_) _ _=>i
 |e=>[]
noncomputable def cN:Expr->ae
 | .ListComp _ _ s _=>s.names
 |e=>[]
set_option backward.match.sparseCases false in
noncomputable def fq:Nat->Expr->List Expr
 |0,_=>[]
 |n+1,e=>match e with
  | .ListComp .. =>[e]
  | .BinOp l _ r _=>fq n l++fq n r
  | .Call _ as _ _=>as.flatMap (fq n)
  | .Tuple as _ _=>as.flatMap (fq n)
  | .List as _=>as.flatMap (fq n)
  | .IfExp t a b _=>fq n t++fq n a++fq n b
  | .BoolOp _ as _=>as.flatMap (fq n)
  | .Compare l _ as _=>fq n l++as.flatMap (fq n)
  | .Subscript o i _=>fq n o++fq n i
  |_=>[]
noncomputable def vN:Nat->List Expr->Expr
 |_,[]=> .Constant .none 0 ⟨0,0,0,0⟩
 |0,s::_=>s
 |n+1,_::r=>vN n r
noncomputable def aN(k:Nat)(s:Stmt):Expr:=vN k (fq 9 (Fp s))
section
variable{T:ba}{F:bM}{hint:Nat->Nat->Bool}{nm names:ae}{loc:au}{n:Nat}{t elt:Expr}{v:V}{mu mu':Mu}
theorem cM{x:V}(obs:List (Ob T F))(h:((D.up (cv names t v (f8 names loc))).bind λloc'=>(dE T F hint (bE nm names) loc' (n+1) elt mu).bind λx=>D.pure ([x.1],x.2)) (obs.map Ob.an)=some (([x],mu'),[],mR obs)):dG T F hint nm loc (n+1) t [] elt names v mu=some ([x],mu'):=by
 have S:=vI (T:=T) (F:=F) (hint:=hint)
 have key:Sd ((D.up (cv names t v (f8 names loc))).bind λloc'=>(dE T F hint (bE nm names) loc' (n+1) elt mu).bind λx=>D.pure ([x.1],x.2)) (dG T F hint nm loc (n+1) t [] elt names v mu):=by
  unfold dG
  refine Sd.bind (Sd.up _) λloc'=> ?_
  rw[show vh T F hint (bE nm names) loc' (n+1) [] mu=some (true,mu) from rfl]
  exact Sd.map ((S (n+1)).e _ _ _ _)
 exact key _ _ _ _ h (eB obs)
theorem gj{e:Expr}{x:List V}(obs:List (Ob T F))(h:((D.up (cv names t v (f8 names loc))).bind λloc'=>(dT T F hint (bE nm names) loc' n e mu).bind λb=>if b.1=true then(dE T F hint (bE nm names) loc' (n+1) elt b.2).bind λx=>D.pure ([x.1],x.2) else D.pure ([],b.2)) (obs.map Ob.an)=some ((x,mu'),[],mR obs)):dG T F hint nm loc (n+1) t [e] elt names v mu=some (x,mu'):=by
 have S:=vI (T:=T) (F:=F) (hint:=hint)
 have key:Sd ((D.up (cv names t v (f8 names loc))).bind λloc'=>(dT T F hint (bE nm names) loc' n e mu).bind λb=>if b.1=true then(dE T F hint (bE nm names) loc' (n+1) elt b.2).bind λx=>D.pure ([x.1],x.2) else D.pure ([],b.2)) (dG T F hint nm loc (n+1) t [e] elt names v mu):=by
  unfold dG
  refine Sd.bind (Sd.up _) λloc'=> ?_
  rw[show vh T F hint (bE nm names) loc' (n+1) [e] mu=oY T F hint (bE nm names) loc' n e mu from rfl]
  refine Sd.bind ((S n).t _ _ _ _) λ⟨b,m⟩=> ?_
  exact Sd.ite (Sd.map ((S (n+1)).e _ _ _ _)) (Sd.pure _)
 exact key _ _ _ _ h (eB obs)
theorem eN{α:Type}{f:V->Mu->Option (List V×Mu)}{enc:α->V}{g:α->List V}{mu:Mu}:∀{xs:List α},(∀x∈xs,f (enc x) mu=some (g x,mu))->aW f (xs.map enc) mu=some (xs.flatMap g,mu):=by
 intro L0
 induction L0 with
 |nil=>
  intro _
  exact rfl
 |cons x xs ih=>
  intro h
  rw[aaX,aW,h x (.head _)]
  show(match aW f (xs.map enc) mu with|some (b,mu'')=>some (g x++b,mu'')|none=>none)=_
  rw[ih λy hy=>h y (.tail _ hy)]
  rw[abg]
theorem Ag{α β:Type}{g:α->β}:∀l:List α,(l.flatMap λx=>[g x])=l.map g:=by
 intro L0
 induction L0 with
 |nil=>
  exact rfl
 |cons x l ih=>
  rw[abg,ih];rfl
theorem bg{α:Type}{f:V->Mu->Option (List V×Mu)}{enc:α->V}{g:α->V}{mu:Mu}{xs:List α}(h:∀x∈xs,f (enc x) mu=some ([g x],mu)):aW f (xs.map enc) mu=some (xs.map g,mu):=by
 rw[eN (g:=λx=>[g x]) h,Ag]
theorem wY{v:Value}{vs:List V}{m:Mu}{x:V}(h:aL T m v vs=some x):fE T F v vs m=some (x,m):=by
 unfold fE;rw[h]
noncomputable abbrev oQ{v:Value}{vs:List V}{c:V}(h:∀m,aL T m v vs=some c):Ob T F:=⟨.p c,[∀m,fE T F v vs m=some (c,m)],⟨λm=>wY (h m),trivial⟩⟩
end
theorem fX{T:ba}{l:List V}(h:l.length<=1000)(m:Mu):aL T m (.builtin "len") [.lst l]=some (.int l.length):=by
 show(if l.length<=1000 then some (l.length:Int) else none).map V.int=_
 rw[if_pos h];rfl
variable{r:Nat}{mu:Mu}
theorem j5{n:Nat}{sk:List Gl}(h1:1<=n)(h2:n<=900)(hs:sk.length=n+1):RF (r+2) (.ref fU) [.int n,.lst (sk.map Gl.v)] mu=some (.none,mu):=by
 have hf:=bi (σ:=Unit) (f:=cu TT (RF (r+1)) HT (bn ef) 57 (cG (ag 1 (aD ef))) (a6 (ag 1 (aD ef)))) Gl.v (λs q0=>s)
  (λs=>[(aaQ "columns",.int n),(aaQ "skips",.lst (sk.map Gl.v))]) (λs=>mu) (λq0 l=>True)
  (λs x rest i=>⟨trivial,[(aaQ "columns",.int n),(aaQ "skips",.lst (sk.map Gl.v)),(aaQ "skip",x.v)],bx [oA] (by kernel_rfl),by kernel_rfl⟩) sk () trivial
 have hl:(sk.map Gl.v).length<=1000:=by rw[aaq];exact av 663264596207805815970 [_,_] [] h2 hs
 exact aa oa rfl [oP λm=>bf (v:=n) (lo:=1) (hi:=2147483647) (ad 1087684784550 [_] [] h1) (ad 37212944564880 [_] [] h2),oQ λm=>fX hl m,oB (uG (a:=(sk.map Gl.v).length) (b:=n+1) (by rw[aaq];exact ad 56592060608001654837182 [_,_] [] hs)),oG hl,oS hf] (by kernel_rfl)
noncomputable def lk(p:Int×Ce):V:= .tup [.int p.1,p.2.v]
noncomputable def jo(s:List (Int×Ce)×Int)(x:Ce):List (Int×Ce)×Int:=(s.1++[(s.2,x)],s.2+x.spans)
noncomputable def bN:Int->List Ce->List (Int×Ce)
 |_,[]=>[]
 |c,x::r=>(c,x)::bN (c+x.spans) r
noncomputable def mX:Int->List Ce->Int
 |c,[]=>c
 |c,x::r=>mX (c+x.spans) r
theorem Ah:∀(l:List Ce)(a:List (Int×Ce))(c:Int),l.foldl jo (a,c)=(a++bN c l,mX c l):=by
 intro L0
 induction L0 with
 |nil=>
  intro a c
  simp[bN,mX]
 |cons x l ih=>
  intro a c
  rw[abm,jo,ih,bN,mX];simp
theorem qj{c:Ce}(h:∀x∈c.items,er x):aG 0 c.v=true:=by
 have e:aG 0 c.v=dQ 0 (xZ c c.tt.v):=by rw[Ce.v,aG]
 rw[e]
 simp only[xZ,dQ,aG,bJ h,Tt.v,vL,Q4.l,ab,abn]
noncomputable def vO(c:Ce):Prop:=(∀x∈c.items,er x)/\1<=c.spans
theorem kv{l:List Ce}(h:∀c∈l,vO c):ab 0 (l.map Ce.v)=true:=aQ λc hc=>qj (h c hc).1
theorem mY:∀{l:List Ce}{c:Int}{p:Int×Ce},p∈bN c l->p.2∈l:=by
 intro L0
 induction L0 with
 |nil=>
  intro c p h
  simp[bN] at h
 |cons x l ih=>
  intro c p h
  rw[bN,aai] at h
  rcases h with rfl|h
  ·exact .head _
  ·exact .tail _ (ih h)
theorem sy{l:List (Int×Ce)}(h:∀p∈l,vO p.2):ab 0 (l.map lk)=true:=aQ λp hp=>by
 simp only[lk,aG,ab,qj (h p hp).1,abn]
theorem mq{l:List Ce}{n:Nat}(hl:∀c∈l,vO c)(hn:l.length<=900)(he:mX 0 l<=n):RF (r+1) (.ref ff) [.lst (l.map Ce.v),.int n] mu=some (.lst ((bN 0 l).map lk),mu):=by
 have hf:=bi (f:=cu TT (RF r) HT (bn dF) 57 (cG (ag 1 (aD dF))) (a6 (ag 1 (aD dF)))) Ce.v jo
  (λs=>[(aaQ "row",.lst (l.map Ce.v)),(aaQ "columns",.int n),(aaQ "found",.ref 0),(aaQ "column",.int s.2)]) (λs=>[.lst (s.1.map lk)]) (λs l=>s.1.length+l.length<=1000)
  (λs x rest i=>⟨by simp only[jo,aap,aaf,aae] at i⊢;exact ad 3919179781492315082206149346200 [_,_] [] i,by
   have ap:dJ (RF r) (.ref 0) [.tup [.int s.2,x.v]] [.lst (s.1.map lk)] (.app 0)=some (.none,[.lst ((jo s x).1.map lk)]):=
    cL rfl (by rw[aaq];exact ad 909828240793200 [_,_] [] i) (by simp only[jo,abk];rfl)
   exact⟨[(aaQ "row",.lst (l.map Ce.v)),(aaQ "columns",.int n),(aaQ "found",.ref 0),(aaQ "column",.int (jo s x).2),(aaQ "cell",x.v)],bx [oA,oV ap] (by kernel_rfl),by kernel_rfl⟩⟩) l ([],0) (by simp;exact ad 112324457880 [_] [] hn)
 rw[Ah] at hf
 have hp:cX 0 (some 0) (.ref 0) [.lst ((bN 0 l).map lk)]=some (.lst ((bN 0 l).map lk),[]):=qi (sy λp hp=>hl _ (mY hp))
 exact aK mQ rfl (by simp only[ab,aG,kv hl,abn]) [oG (c:=(l.map Ce.v).length<=1000) (by rw[aaq];exact ad 112324457880 [_] [] hn),oS hf,oB (fJ (a:=mX 0 l) (b:=n) (ad 21621169789970853 [_] [_] he)),oV hp] (by kernel_rfl)
end
section
variable{r:Nat}{mu:Mu}
noncomputable def dW(c:Ce):Int:=if c.vert=true then c.h else c.w
theorem j6{c:Ce}:RF (r+1) (.ref lJ) [c.v] mu=some (.int (dW c),mu):=by
 obtain⟨w,h,d,items,spans,tt,vert⟩:=c
 cases vert
 ·exact aa sn rfl [] (by kernel_rfl)
 ·exact aa sn rfl [] (by kernel_rfl)
inductive Rw where
 |cells (l:List Ce)
 |nd (x:Nd)
noncomputable def Rw.v:Rw->V
 | .cells l=> .lst (l.map Ce.v)
 | .nd x=>x.v
noncomputable def vP(p:Int×Int):V:= .tup [.int p.1,.int p.2]
noncomputable abbrev EL:=List (List (Int×Int))
noncomputable def x6(l:List (Int×Int)):V:= .lst (l.map vP)
noncomputable def kE(l:List (Int×Int)):MO:= .lst (l.map vP)
noncomputable def bw(E:EL)(p:Int×Ce):EL:=E.set (p.1+p.2.spans-1).toNat (E.getD (p.1+p.2.spans-1).toNat []++[(p.1,dW p.2)])
noncomputable def tC(n:Nat):List V:=(aaa n).map V.ref
noncomputable abbrev wZ(rows:List Rw)(n:Nat)(sk:List Gl):au:=[(aaQ "rows",.lst (rows.map Rw.v)),(aaQ "columns",.int n),(aaQ "skips",.lst (sk.map Gl.v)),(aaQ "ending",.lst (tC n))]
theorem Cs{α:Type}{P:List α->Nat->Prop}(a0:∀a,P [a] 0)(b0:∀a b,P [a,b] 0)(b1:∀a b,P [a,b] 1)(c0:∀a b c,P [a,b,c] 0)(c1:∀a b c,P [a,b,c] 1)(c2:∀a b c,P [a,b,c] 2)
  (d0:∀a b c d,P [a,b,c,d] 0) (d1:∀a b c d,P [a,b,c,d] 1) (d2:∀a b c d,P [a,b,c,d] 2) (d3:∀a b c d,P [a,b,c,d] 3) {E:List α} {k:Nat} (h:E.length<=4) (hk:k<E.length):P E k:=by
 have no:∀{m n:Nat}{Q:Prop},m+n<m->Q:=λh=>absurd h (Nat.not_lt.mpr (Nat.le_add_right _ _))
 cases E with
 |nil=>exact absurd hk (aad _)
 |cons a E=>cases E with
  |nil=>obtain rfl:k=0:=Nat.lt_one_iff.mp hk;exact a0 a
  |cons b E=>cases E with
   |nil=>exact match k,hk with
    |0,_=>b0 a b
    |1,_=>b1 a b
    |k+2,h=>no (m:=2) (n:=k) (Nat.add_comm 2 k▸h)
   |cons c E=>cases E with
    |nil=>exact match k,hk with
     |0,_=>c0 a b c
     |1,_=>c1 a b c
     |2,_=>c2 a b c
     |k+3,h=>no (m:=3) (n:=k) (Nat.add_comm 3 k▸h)
    |cons d E=>cases E with
     |nil=>exact match k,hk with
      |0,_=>d0 a b c d
      |1,_=>d1 a b c d
      |2,_=>d2 a b c d
      |3,_=>d3 a b c d
      |k+4,h=>no (m:=4) (n:=k) (Nat.add_comm 4 k▸h)
     |cons e E=>exact absurd h (by simp only[aaf];exact dk 461819892629481725880000008 [_] [])
theorem Ai{rows:List Rw}{n:Nat}{sk:List Gl}{row:V}{E:EL}{p:Int×Ce}(hn:E.length=n)(h4:n<=4)(h1:1<=p.1+p.2.spans)(h2:p.1+p.2.spans<=n)(hE:∀l∈E,l.length<=900):
  ∃loc1,cu TT (RF (r+1)) HT (bn aF) 52 (cG (ag 0 (ru (ag 0 (a6 (ag 2 (aD aF))))))) (a6 (ag 0 (ru (ag 0 (a6 (ag 2 (aD aF))))))) (lk p) (wZ rows n sk++[(aaQ "row",row)]) (E.map kE)=some (.next,loc1,(bw E p).map kE)/\dx (wZ rows n sk++[(aaQ "row",row)]) loc1=wZ rows n sk++[(aaQ "row",row)]:=by
 refine⟨wZ rows n sk++[(aaQ "row",row),(aaQ "first",.int p.1),(aaQ "cell",p.2.v)],?_,by kernel_rfl⟩
 have key:∀(k:Nat)(l:List (Int×Int)),E[k]? =some l->p.1+p.2.spans-1=k->(bw E p).map kE=(E.map kE).set k (.lst (l.map vP++[.tup [.int p.1,.int (dW p.2)]])):=by
  intro k l hl hk
  rw[bw,hk,show(k:Int).toNat=k from rfl,aaY,hl,List.map_set]
  simp only[kE,abp,abk,aaX,abo,vP]
 have app:∀(k:Nat)(l:List (Int×Int)),E[k]? =some l->p.1+p.2.spans-1=k->dJ (RF (r+1)) (.ref k) [.tup [.int p.1,.int (dW p.2)]] (E.map kE) (.app k)=some (.none,(bw E p).map kE):=by
  intro k l hl hk
  refine cL (l:=l.map vP) (by rw[aaE,hl];rfl) (by rw[aaq];have:=hE l (abj hl);exact ad 112324457880 [_] [] this) (key k l hl hk).symm
 have item:∀k:Nat,k<n->p.1+p.2.spans-1=k->bP [] (.lst (tC n)) (p.1+p.2.spans-1)=some (.ref k):=by
  intro k hk e
  rw[e]
  show eW (tC n) k=_
  unfold eW
  rw[if_pos (by exact dX 287322312752909878439506118686802946000008232833070 [_,_] [_,_] h4 h2 e),show(k:Int).toNat=k from rfl,tC,aaE,List.getElem?_range hk];rfl
 subst hn
 obtain⟨k,hk⟩:∃k:Nat,p.1+p.2.spans-1=k:=⟨(p.1+p.2.spans-1).toNat,by exact av 3025166319994305836932881909040755587242222888345234921121467105157134147606623 [_] [_,_] h1 (tn _)⟩
 have hkl:k<E.length:=by exact av 56004727632721788117209876554503 [_,_] [_,_] h2 hk
 have hit:=item k hkl hk
 obtain⟨l,hl⟩:∃l,E[k]? =some l:=⟨E[k],aaD hkl⟩
 have hap:=app k l hl hk
 generalize (bw E p).map kE=Z at hap
 exact Cs (P:=λE k=>bP [] (.lst (tC E.length)) (p.1+p.2.spans-1)=some (.ref k)->dJ (RF (r+1)) (.ref k) [.tup [.int p.1,.int (dW p.2)]] (E.map kE) (.app k)=some (.none,Z)->
   cu TT (RF (r+1)) HT (bn aF) 52 (cG (ag 0 (ru (ag 0 (a6 (ag 2 (aD aF))))))) (a6 (ag 0 (ru (ag 0 (a6 (ag 2 (aD aF))))))) (lk p) (wZ rows E.length sk++[(aaQ "row",row)]) (E.map kE)=some (.next,wZ rows E.length sk++[(aaQ "row",row),(aaQ "first",.int p.1),(aaQ "cell",p.2.v)],Z))
  (λa hit hap=>bx [oW hit,oP λm=>j6 (c:=p.2),oV hap] (by kernel_rfl)) (λa b hit hap=>bx [oW hit,oP λm=>j6 (c:=p.2),oV hap] (by kernel_rfl)) (λa b hit hap=>bx [oW hit,oP λm=>j6 (c:=p.2),oV hap] (by kernel_rfl))
  (λa b c hit hap=>bx [oW hit,oP λm=>j6 (c:=p.2),oV hap] (by kernel_rfl)) (λa b c hit hap=>bx [oW hit,oP λm=>j6 (c:=p.2),oV hap] (by kernel_rfl)) (λa b c hit hap=>bx [oW hit,oP λm=>j6 (c:=p.2),oV hap] (by kernel_rfl))
  (λa b c d hit hap=>bx [oW hit,oP λm=>j6 (c:=p.2),oV hap] (by kernel_rfl)) (λa b c d hit hap=>bx [oW hit,oP λm=>j6 (c:=p.2),oV hap] (by kernel_rfl)) (λa b c d hit hap=>bx [oW hit,oP λm=>j6 (c:=p.2),oV hap] (by kernel_rfl)) (λa b c d hit hap=>bx [oW hit,oP λm=>j6 (c:=p.2),oV hap] (by kernel_rfl)) h4 hkl hit hap
end
section
variable{r:Nat}{mu:Mu}
theorem uK:∀{l:List Ce}{c:Int}{p:Int×Ce},(∀x∈l,1<=x.spans)->p∈bN c l->c<=p.1/\p.1+p.2.spans<=mX c l:=by
 intro L0
 induction L0 with
 |nil=>
  intro c p hl h
  simp[bN] at h
 |cons x l ih=>
  intro c p hl h
  rw[bN,aai] at h
  rw[mX]
  have h1:=hl x (.head _)
  rcases h with rfl|h
  ·refine⟨Int.le_refl _,?_⟩
   have:∀(l:List Ce)(c:Int),(∀x∈l,1<=x.spans)->c<=mX c l:=by
    intro l
    induction l with
    |nil=>intro c _;exact Int.le_refl _
    |cons y l ih=>intro c hy;rw[mX];have:=ih (c+y.spans) (λz hz=>hy z (.tail _ hz));have:=hy y (.head _);lia
   exact this l _ λz hz=>hl z (.tail _ hz)
  ·have:=ih (λz hz=>hl z (.tail _ hz)) h
   exact⟨av 112217761075510858950364836262323 [] [_,_,_,_,_] h1 this,this.2⟩
theorem fM:∀(l:List Ce)(c:Int),(bN c l).length=l.length:=by
 intro L0
 induction L0 with
 |nil=>
  intro _
  exact rfl
 |cons x l ih=>
  intro c
  rw[bN,aaf,aaf,ih]
noncomputable def mZ(E:EL):Rw->EL
 | .cells l=>(bN 0 l).foldl bw E
 | .nd _=>E
noncomputable def kY(n:Nat):Rw->Prop
 | .cells l=>(∀c∈l,vO c)/\mX 0 l<=n
 | .nd _=>True
noncomputable def rz:Rw->Nat
 | .cells l=>l.length
 | .nd _=>0
theorem ir(E:EL)(p:Int×Ce):(bw E p).length=E.length:=by rw[bw,List.length_set]
theorem qk{E:EL}{p:Int×Ce}{k:Nat}(h:∀l∈E,l.length+(k+1)<=900)(hk:k+1<=900):∀l∈bw E p,l.length+k<=900:=by
 intro l hl
 rw[bw] at hl
 rcases List.mem_or_eq_of_mem_set hl with h1|h1
 ·have:=h l h1;exact ad 53453179717431267346200 [_,_] [] this
 ·subst h1
  rw[aap,aax,aaY]
  cases e:E[(p.1+p.2.spans-1).toNat]? with
  |none=>simp;exact ad 6595475103676321200 [_] [] hk
  |some l'=>have:=h l' (abj e);simp only[abp];exact ad 433011620750483643267346200 [_,_] [] this
theorem Aj{n:Nat}:∀(ps:List (Int×Ce))(E:EL)(k:Nat),E.length=n->(∀l∈E,l.length+(ps.length+k)<=900)->ps.length+k<=900->(ps.foldl bw E).length=n/\∀l∈ps.foldl bw E,l.length+k<=900:=by
 intro L0
 induction L0 with
 |nil=>
  intro E k h1 h2 _
  exact⟨h1,λl hl=>by have:=h2 l hl;simp at this;exact ad 6599157989797573200 [_,_] [] this⟩
 |cons p ps ih=>
  intro E k h1 h2 h3
  rw[abm]
  rw[aaf] at h2 h3
  exact ih _ k (by rw[ir];exact h1) (qk (k:=ps.length+k) (λl hl=>by have:=h2 l hl;exact ad 28629992345333334819600533789716200 [_,_,_] [] this) (ad 436363117916724773197308000 [_,_] [] h3)) (ad 53453179717361197308000 [_,_] [] h3)
theorem Ak{rows:List Rw}{n:Nat}{sk:List Gl}{row:Rw}{E:EL}{k:Nat}(hn:E.length=n)(h4:n<=4)(hr:kY n row)(hE:∀l∈E,l.length+(rz row+k)<=900)(hk:rz row+k<=900):
  ∃loc1,cu TT (RF (r+1)) HT (bn aF) 56 (cG (ag 2 (aD aF))) (a6 (ag 2 (aD aF))) row.v (wZ rows n sk) (E.map kE)=some (.next,loc1,(mZ E row).map kE)/\dx (wZ rows n sk) loc1=wZ rows n sk:=by
 refine⟨wZ rows n sk++[(aaQ "row",row.v)],?_,by kernel_rfl⟩
 cases row with
 |nd x=>
  cases x with
  |kern w=>exact bx [oA] (by kernel_rfl)
  |skip g s=>exact bx [oA] (by kernel_rfl)
  |rule a b c=>exact bx [oA] (by kernel_rfl)
  |box b l=>exact bx [oA] (by kernel_rfl)
 |cells l=>
  simp only[rz] at hE hk
  have hf:=bi (f:=cu TT (RF (r+1)) HT (bn aF) 52 (cG (ag 0 (ru (ag 0 (a6 (ag 2 (aD aF))))))) (a6 (ag 0 (ru (ag 0 (a6 (ag 2 (aD aF)))))))) lk bw (λq0=>wZ rows n sk++[(aaQ "row",(Rw.cells l).v)]) (λE=>E.map kE)
   (λE ps=>E.length=n/\(∀p∈ps,1<=p.1+p.2.spans/\p.1+p.2.spans<=n)/\(∀l∈E,l.length+ps.length<=900)/\ps.length<=900)
   (λE p ps i=>⟨⟨by rw[ir];exact i.1,λq hq=>i.2.1 q (.tail _ hq),qk (λl hl=>by have:=i.2.2.1 l hl;rw[aaf] at this;exact this) (by have:=i.2.2.2;rw[aaf] at this;exact this),by have:=i.2.2.2;rw[aaf] at this;exact ad 814168738321200 [_] [] this⟩,
    Ai i.1 h4 (i.2.1 p (.head _)).1 (i.2.1 p (.head _)).2 λl hl=>by have:=i.2.2.1 l hl;exact ad 814168729573200 [_,_] [] this⟩) (bN 0 l) E
   ⟨hn,λp hp=>by have:=uK (λx hx=>(hr.1 x hx).2) hp;have:=hr.2;have:=(hr.1 _ (mY hp)).2;lia,λl' hl'=>by rw[fM];have:=hE l' hl';exact ad 53453179717366313446200 [_,_,_] [] this,by rw[fM];exact ad 814168729573200 [_,_] [] hk⟩
  exact bx [oA,oP λm=>mq (n:=n) hr.1 (ad 814168729573200 [_,_] [] hk) hr.2,oG (c:=((bN 0 l).map lk).length<=1000) (by rw[aaq,fM];exact ad 909828109573200 [_,_] [] hk),oS hf] (by kernel_rfl)
noncomputable def ce(n:Nat)(rows:List Rw):EL:=rows.foldl mZ (abq n [])
noncomputable def cells(rows:List Rw):Nat:=(rows.map rz).sum
theorem m4{n:Nat}:∀(rows:List Rw)(E:EL)(k:Nat),E.length=n->(∀l∈E,l.length+(cells rows+k)<=900)->cells rows+k<=900->(rows.foldl mZ E).length=n/\∀l∈rows.foldl mZ E,l.length+k<=900:=by
 intro L0
 induction L0 with
 |nil=>
  intro E k h1 h2 _
  exact⟨h1,λl hl=>by have:=h2 l hl;simp[cells] at this;exact ad 6599157989797573200 [_,_] [] this⟩
 |cons row rows ih=>
  intro E k h1 h2 h3
  rw[abm]
  simp only[cells,aaX,abr] at h2 h3
  have:(mZ E row).length=n/\∀l∈mZ E row,l.length+(cells rows+k)<=900:=by
   cases row with
   |nd x=>exact⟨h1,λl hl=>by have:=h2 l hl;simp only[rz,cells] at this⊢;exact ad 3509376224842152564221451616200 [_,_,_] [] this⟩
   |cells l=>exact Aj (bN 0 l) E (cells rows+k) h1 (λl' hl'=>by rw[fM];have:=h2 l' hl';simp only[rz] at this;simp only[cells];exact ad 28444683539666389081212517628716200 [_,_,_,_] [] this) (by rw[fM];simp only[rz] at h3;simp only[cells];exact ad 433256324054586736314888000 [_,_,_] [] h3)
  exact ih _ k this.1 this.2 (by simp only[cells];exact ad 53453179717360345836000 [_,_,_] [] h3)
theorem x7{f:V->Mu->Option (List V×Mu)}(hf:∀v mu,f v mu=some ([.ref mu.length],mu++[.lst []])):∀(xs:List V)(mu:Mu),aW f xs mu=some ((aaa xs.length).map (λi=>V.ref (mu.length+i)),mu++abq xs.length (.lst [])):=by
 intro L0
 induction L0 with
 |nil=>
  intro mu
  simp[aW]
 |cons x xs ih=>
  intro mu
  rw[aW,hf]
  show(match aW f xs (mu++[.lst []]) with|some (b,mu'')=>some ([V.ref mu.length]++b,mu'')|none=>none)=_
  rw[ih]
  simp only[aap,aax,aaf,List.range_succ_eq_map,aaX,aba,aa7,List.replicate_succ,List.singleton_append,Option.some.injEq,Prod.mk.injEq,List.cons.injEq,Nat.add_zero,true_and,and_true]
  apply aa9
  intro i _
  show V.ref (mu.length+1+i)=V.ref (mu.length+(i+1))
  rw[Nat.add_assoc,Nat.add_comm 1 i]
end
section
variable{r:Nat}{mu:Mu}
theorem iu{l:List V}{k:Nat}{v:V}(h:l[k]? =some v)(hk:k<=1000):eW l k=some v:=by
 unfold eW
 rw[if_pos ⟨by omega,by
              have:(k:Int)<=1000:=by omega
              have:(1000:Int)<2^62:=by decide
              omega⟩]
 exact h
theorem ql{l:List V}{i:Int}{k:Nat}{v:V}(e:i=k)(h:l[k]? =some v)(hk:k<=1000):eW l i=some v:=by subst e;exact iu h hk
theorem vQ:∀l:List Int,cA (l.map V.int)=some l:=by
 intro L0
 induction L0 with
 |nil=>
  exact rfl
 |cons x l ih=>
  rw[aaX,cA,ih];rfl
theorem tD{T:ba}{a:Int}{l:List Int}(m:Mu):aL T m (.builtin "max") [.lst ((a::l).map V.int)]=some (.int (ci a l)):=by
 have e:aL T m (.builtin "max") [.lst ((a::l).map V.int)]=((cA ((a::l).map V.int)).bind λns=>match ns with
  |a::r=>some (ci a r)
  |[]=>none).map .int:=by kernel_rfl
 rw[e,vQ];rfl
noncomputable def kZ(b:List Int)(c:Nat)(l:List (Int×Int)):List Int:=l.map λp=>p.2-(b.getD c 0-b.getD p.1.toNat 0)
noncomputable def fY:List Int->Option Int
 |[]=>none
 |a::r=>some (ci a r)
noncomputable def dj:Gl:=⟨0,0,0,0,0⟩
noncomputable def DH(sk:List Gl)(c:Nat):Option Int->Int
 |none=>0
 |some w=>w+(sk.getD (c+1) dj).w
noncomputable def bj(E:EL)(sk:List Gl)(s:List Int×List (Option Int))(c:Nat):List Int×List (Option Int):=
 (s.1++[s.1.getD c 0+DH sk c (fY (kZ s.1 c (E.getD c [])))],s.2++[fY (kZ s.1 c (E.getD c []))])
noncomputable abbrev Fq(rows:List Rw)(n:Nat)(sk:List Gl)(E:EL):au:=[(aaQ "rows",.lst (rows.map Rw.v)),(aaQ "columns",.int n),(aaQ "skips",.lst (sk.map Gl.v)),(aaQ "ending",.lst (E.map x6)),(aaQ "begins",.ref n),(aaQ "found",.ref (n+1))]
noncomputable abbrev wM(n:Nat)(b:List Int)(f:List (Option Int)):Mu:=abq n .dead++[.lst (b.map V.int),.lst (f.map oi)]
theorem ox{α:Type}{n:Nat}{x a b:α}:(abq n x++[a,b])[n]? =some a:=by
 rw[abt (by simp)];simp
theorem uL{α:Type}{n:Nat}{x a b:α}:(abq n x++[a,b])[n+1]? =some b:=by
 rw[abt (by simp)];simp
theorem bk{α:Type}{l:List α}{k:Nat}{d:α}(h:k<l.length):l[k]? =some (l.getD k d):=by
 rw[aaY,aaD h];rfl
theorem tE{b:List Int}{k:Nat}(h:k<b.length):(b.map V.int)[k]? =some (.int (b.getD k 0)):=by
 rw[aaE,bk (d:=0) h];rfl
theorem sA{mu:Mu}{i:Nat}{l:List V}{k:Int}{v:V}(h:mu[i]? =some (.lst l))(e:eW l k=some v):bP mu (.ref i) k=some v:=by
 show((oh mu i).bind λl=>eW l k)=_
 rw[mV h];exact e
theorem Al{l:List V}{c:Bool}(h:l.isEmpty=c):b9 [] .NotEq (.lst l) (.lst [])=some (!c):=by
 have e:b9 [] .NotEq (.lst l) (.lst [])=some (!l.isEmpty):=by kernel_rfl
 rw[e,h]
theorem w0{α:Type}{n:Nat}{x a b c:α}:(abq n x++[a,b]).set n c=abq n x++[c,b]:=by
 rw[List.set_append,if_neg (by simp)];simp
theorem uM{α:Type}{n:Nat}{x a b c:α}:(abq n x++[a,b]).set (n+1) c=abq n x++[a,c]:=by
 rw[List.set_append,if_neg (by simp)];simp
theorem Am{rows:List Rw}{n:Nat}{sk:List Gl}{E:EL}{b:List Int}{f:List (Option Int)}{c:Nat}(hE:E.length=n)(h4:n=1\/n=2\/n=3\/n=4)(hs:sk.length=n+1)(hc:c<n)(hb:b.length=c+1)(hf:f.length=c)(hl:∀l∈E,l.length<=900)
  (hp:∀p∈E.getD c [],0<=p.1/\p.1<=c) (hd:∀w,fY (kZ b c (E.getD c []))=some w->Dm w):
  ∃loc1,cu TT (RF (r+2)) HT (bn aF) 53 (cG (ag 5 (aD aF))) (a6 (ag 5 (aD aF))) (.int c) (Fq rows n sk E) (wM n b f)=some (.next,loc1,wM n (bj E sk (b,f) c).1 (bj E sk (b,f) c).2)/\dx (Fq rows n sk E) loc1=Fq rows n sk E:=by
 have hit:bP [] (.lst (E.map x6)) c=some (x6 (E.getD c [])):=iu (by rw[aaE,bk (d:=[]) (by exact av 13010230872581672 [_,_,_] [] hE hc)];rfl) (by exact av 23126586447023684482902550122594343029487 [_,_] [] h4 hc)
 have hlen:((E.getD c []).map vP).length<=1000:=by
  rw[aaq]
  have:=hl (E.getD c []) (abj (bk (d:=[]) (by exact av 13010230872581672 [_,_,_] [] hE hc:c<E.length)))
  exact ad 112324457880 [_] [] this
 have hbeg:∀k:Nat,k<=c->bP (wM n b f) (.ref n) (k:Int)=some (.int (b.getD k 0)):=λk hk=>sA ox (iu (tE (by exact av 105382870062729066272 [_,_,_] [] hb hk)) (by exact dX 16859282735471719805617778439370122594343029487 [_,_,_] [] h4 hc hk))
 have hcmp:aW (dG TT (RF (r+2)) HT (bn aF) (Fq rows n sk E++[(aaQ "column",.int c)]) 49 (cT (aN 0 (ag 0 (a6 (ag 5 (aD aF)))))) [] (cE (aN 0 (ag 0 (a6 (ag 5 (aD aF)))))) (cN (aN 0 (ag 0 (a6 (ag 5 (aD aF))))))) ((E.getD c []).map vP) (wM n b f)=some ((kZ b c (E.getD c [])).map V.int,wM n b f):=by
  rw[kZ,aba]
  refine bg (g:=V.int∘λ(p:Int×Int)=>p.2-(b.getD c 0-b.getD p.1.toNat 0)) λp hp'=> ?_
  have h1:=hp p hp'
  have e1:=hbeg c (aaS c)
  have e2:bP (wM n b f) (.ref n) p.1=some (.int (b.getD p.1.toNat 0)):=by
   have:=hbeg p.1.toNat (by exact av 1952694954570198611141428366984111590923613259112976 [_,_] [_] h1 (tn _))
   rw[show((p.1.toNat:Nat):Int)=p.1 by exact av 292070028572817051147523771051984111590923613259112976 [_,_] [_] h1 (tn _)] at this
   exact this
  exact cM (n:=48) [oW e1,oW e2] (by kernel_rfl)
 have hfl:(f.map oi).length<=1000:=by rw[aaq];exact dX 16859282735771909076211776681370122594343029487 [_,_,_] [] h4 hc hf
 have hbl:(b.map V.int).length<=1000:=by rw[aaq];exact dX 136560298700944343254954918522281370122594343029487 [_,_,_] [] h4 hc hb
 have hbc:=hbeg c (aaS c)
 have hsk:bP [] (.lst (sk.map Gl.v)) ((c:Int)+1)=some (sk.getD (c+1) dj).v:=by
  refine ql (k:=c+1) (by exact dk 64665765682070405 [_] []) ?_ (by exact av 188750187789991093081204422550122594343029487 [_,_] [] h4 hc)
  rw[aaE,bk (d:=dj) (by exact av 894429939041580633966272 [_,_,_] [] hs hc)];rfl
 have hbc':∀f':List (Option Int),bP (wM n b f') (.ref n) c=some (.int (b.getD c 0)):=λf'=>sA ox (iu (tE (by exact ad 144558842508272 [_,_] [] hb)) (by exact av 23126586447023684482902550122594343029487 [_,_] [] h4 hc))
 cases hw:kZ b c (E.getD c []) with
 |nil=>
  have a1:dJ (RF (r+2)) (.ref (n+1)) [.none] (wM n b f) (.app (n+1))=some (.none,wM n b (f++[none])):=cL uL hfl (by rw[uM];simp only[wM,abk,aaX,abo,oi])
  have a2:dJ (RF (r+2)) (.ref n) [.int (b.getD c 0+0)] (wM n b (f++[none])) (.app n)=some (.none,wM n (b++[b.getD c 0+0]) (f++[none])):=cL ox hbl (by rw[w0];simp only[wM,abk,aaX,abo])
  rw[hw] at hcmp
  have hne:b9 [] .NotEq (.lst (([]:List Int).map V.int)) (.lst [])=some false:=Al rfl
  have e:=hbc' (f++[none])
  rw[show bj E sk (b,f) c=(b++[b.getD c 0+0],f++[none]) by simp only[bj,hw,fY,DH]]
  refine⟨Fq rows n sk E++[(aaQ "column",.int c),(aaQ "wants",.lst []),(aaQ "width",.none)],?_,by kernel_rfl⟩
  clear hd hw hbeg hbc' hp hl hb hf hE
  rcases h4 with rfl|rfl|rfl|rfl<;>exact bx [oW hit,oG hlen,oL hcmp,oB hne,oV a1,oW e,oA,oV a2] (by kernel_rfl)
 |cons a l=>
  have hdw:=hd (ci a l) (by rw[hw];rfl)
  have a1:dJ (RF (r+2)) (.ref (n+1)) [.int (ci a l)] (wM n b f) (.app (n+1))=some (.none,wM n b (f++[some (ci a l)])):=cL uL hfl (by rw[uM];simp only[wM,abk,aaX,abo,oi])
  have a2:dJ (RF (r+2)) (.ref n) [.int (b.getD c 0+(ci a l+(sk.getD (c+1) dj).w))] (wM n b (f++[some (ci a l)])) (.app n)=some (.none,wM n (b++[b.getD c 0+(ci a l+(sk.getD (c+1) dj).w)]) (f++[some (ci a l)])):=cL ox hbl (by rw[w0];simp only[wM,abk,aaX,abo])
  rw[hw] at hcmp
  have hne:b9 [] .NotEq (.lst ((a::l).map V.int)) (.lst [])=some true:=Al rfl
  have e:=hbc' (f++[some (ci a l)])
  rw[show bj E sk (b,f) c=(b++[b.getD c 0+(ci a l+(sk.getD (c+1) dj).w)],f++[some (ci a l)]) by simp only[bj,hw,fY,DH]]
  refine⟨Fq rows n sk E++[(aaQ "column",.int c),(aaQ "wants",.lst ((a::l).map V.int)),(aaQ "width",.int (ci a l))],?_,by kernel_rfl⟩
  clear hd hw hbeg hbc' hp hl hb hf hE
  rcases h4 with rfl|rfl|rfl|rfl<;>exact bx [oW hit,oG hlen,oL hcmp,oB hne,oQ λm=>tD (a:=a) (l:=l) m,oP λm=>ao hdw,oV a1,oW e,oA,oW hsk,oV a2] (by kernel_rfl)
end
section
variable{r:Nat}{mu:Mu}
theorem iS:∀(su:List (Nat×V)){v:V},aG 0 v=true->iW su v=v:=by
 intro L0
 induction L0 with
 |nil=>
  intro _ _
  exact rfl
 |cons e0 su ih=>
  obtain⟨j,u⟩:=e0
  intro v h
  rw[iW,fo h,ih h]
theorem An{j:Nat}{u:V}:∀{L:List (List V)},(∀l∈L,ab 0 l=true)->(L.map MO.lst).map (fB j u)=L.map MO.lst:=by
 intro L0
 induction L0 with
 |nil=>
  intro _
  exact rfl
 |cons l L ih=>
  intro h
  rw[aaX,aaX,ih λx hx=>h x (.tail _ hx),fB,eM (h l (.head _))]
theorem Ao{j:Nat}{u:V}(k:Nat):(abq k MO.dead).map (fB j u)=abq k MO.dead:=by
 rw[List.map_replicate];rfl
theorem sB:∀(L:List (List V))(k:Nat),(∀l∈L,ab 0 l=true)->dc (abu k L.length) (abq k .dead++L.map MO.lst)=((abu k L.length).zip (L.map V.lst),abq (k+L.length) .dead):=by
 intro L0
 induction L0 with
 |nil=>
  intro k _
  simp[dc]
 |cons l L ih=>
  intro k h
  rw[aaf,abv,dc]
  have e0:(abq k MO.dead++(l::L).map MO.lst)[k]? =some (.lst l):=by
   rw[abt (by simp)];simp
  have e1:((abq k MO.dead++(l::L).map MO.lst).set k .dead).map (fB k (.lst l))=abq (k+1) MO.dead++L.map MO.lst:=by
   rw[List.set_append,if_neg (by simp),List.length_replicate,Nat.sub_self,aaX,List.set_cons_zero,abk,Ao,aaX,An λx hx=>h x (.tail _ hx),List.replicate_succ']
   simp[fB]
  rw[e0]
  simp only[Option.bind_some,MO.val]
  rw[e1,ih (k+1) λx hx=>h x (.tail _ hx)]
  simp only[aaX,aaW,Prod.mk.injEq,true_and]
  congr 1
  exact dk 524180017295080308002 [_,_] []
theorem vR:∀(js:List Nat)(js':List Nat)(mu:Mu),(∀j∈js,mu[j]? =some .dead)->dc (js++js') mu=dc js' mu:=by
 intro L0
 induction L0 with
 |nil=>
  intro _ _ _
  exact rfl
 |cons j js ih=>
  intro js' mu h
  rw[aa6,dc,h j (.head _)]
  exact ih js' mu λi hi=>h i (.tail _ hi)
theorem uN:∀(L:List (List V))(k i:Nat),(∀l∈L,ab 0 l=true)->k<=i->iW ((abu k L.length).zip (L.map V.lst)) (.ref i)=match L[i-k]? with
  |some l=> .lst l
  |none=> .ref i:=by
 intro L0
 induction L0 with
 |nil=>
  intro k i _ _
  simp[iW]
 |cons l L ih=>
  intro k i h hi
  rw[aaf,abv,aaX,aaW,iW,jH]
  by_cases e:i=k
  ·rw[if_pos e,e,Nat.sub_self]
   exact iS _ (h l (.head _))
  ·rw[if_neg e,ih (k+1) i (λx hx=>h x (.tail _ hx)) (by exact av 9938110384908733776480 [_,_] [] hi e),show i-k=(i-(k+1))+1 by exact tX 69730591432828653316172536160837323099897825438289228906232983955975861730302055034854757535855592860 [_,_,_,_] [] hi e (su _ _) (su _ _)]
   rfl
theorem sC(l:List (Int×Int)):ab 0 (l.map vP)=true:=aQ λp q0=>rfl
theorem qm{n:Nat}{rows:List Rw}(h:∀x∈rows,kY n x)(h':∀x,Rw.nd x∈rows->aG 0 x.v=true):ab 0 (rows.map Rw.v)=true:=aQ λx hx=>by
 cases x with
 |nd x=>exact h' x hx
 |cells l=>exact kv (h _ hx).1
theorem eP(l:List Gl):ab 0 (l.map Gl.v)=true:=aQ λp q0=>rfl
theorem ft(l:List (Option Int)):ab 0 (l.map oi)=true:=aQ λp q0=>by cases p<;>rfl
theorem Ap(su:List (Nat×V)):∀l:List V,iW su (.lst l)= .lst (l.map (iW su)):=by
 induction su with
 |nil=>intro l;simp only[iW];rw[List.map_id''];intro x;rfl
 |cons p su ih=>
  obtain⟨j,u⟩:=p
  intro l
  rw[iW,jH,ih]
  congr 1
  induction l with
  |nil=>rfl
  |cons x l ih2=>rw[b8,aaX,aaX,ih2];rfl
theorem bY(n:Nat):aM 0 (n:Int)=(aaa n).map λk:Nat=>V.int (k:Int):=by
 unfold aM
 rw[show((n:Int)-0).toNat=n by exact ad 175756903871086300946213652431054709867162959250627847 [_,_] [] (tn _)]
 apply aa9
 intro k _
 rw[aab]
noncomputable def yA(E:EL):Prop:=∀(c:Nat)(p:Int×Int),p∈E.getD c []->0<=p.1/\p.1<=c
theorem Aq{E:EL}{p:Int×Ce}(h:yA E)(h0:0<=p.1)(h1:1<=p.2.spans):yA (bw E p):=by
 intro c q hq
 rw[bw,aaY] at hq
 by_cases e:(p.1+p.2.spans-1).toNat=c
 ·subst e
  by_cases hl:(p.1+p.2.spans-1).toNat<E.length
  ·rw[aaA hl,abp,aaj] at hq
   rcases hq with hq|hq
   ·exact h _ q hq
   ·rw[aah] at hq
    subst hq
    dsimp only
    exact dX 272050920100377399394979205273323626683981144361071142900932039464142074139609033 [_] [_,_] h0 h1 (tn _)
  ·rw[aas (by rw[List.length_set];exact ad 1606134282398 [_,_] [] hl)] at hq
   simp at hq
 ·rw[aaB e] at hq
  exact h c q (by rw[aaY];exact hq)
theorem Ct{E:EL}{row:Rw}{n:Nat}(h:yA E)(hr:kY n row):yA (mZ E row):=by
 cases row with
 |nd x=>exact h
 |cells l=>
  have:∀(ps:List (Int×Ce))(E:EL),yA E->(∀p∈ps,0<=p.1/\1<=p.2.spans)->yA (ps.foldl bw E):=by
   intro ps
   induction ps with
   |nil=>intro E h _;exact h
   |cons p ps ih=>intro E h hp;exact ih _ (Aq h (hp p (.head _)).1 (hp p (.head _)).2) λq hq=>hp q (.tail _ hq)
  exact this _ _ h λp hp=>⟨(uK (λx hx=>(hr.1 x hx).2) hp).1,(hr.1 _ (mY hp)).2⟩
theorem uO{n:Nat}{rows:List Rw}(h:∀x∈rows,kY n x):yA (ce n rows):=by
 have:∀(rows:List Rw)(E:EL),yA E->(∀x∈rows,kY n x)->yA (rows.foldl mZ E):=by
  intro rows
  induction rows with
  |nil=>intro E h _;exact h
  |cons x rows ih=>intro E h hr;exact ih _ (Ct h (hr x (.head _))) λy hy=>hr y (.tail _ hy)
 refine this rows _ (λc p hp=> ?_) h
 rw[aaY] at hp
 cases e:(abq n ([]:List (Int×Int)))[c]? with
 |none=>rw[e] at hp;simp at hp
 |some l=>
  rw[e] at hp
  have:=abj e
  rw[List.mem_replicate] at this
  rw[this.2] at hp;simp at hp
noncomputable def eD(n:Nat)(sk:List Gl)(rows:List Rw):List (Option Int):=((aaa n).foldl (bj (ce n rows) sk) ([0],[])).2
theorem Ar(E:EL)(sk:List Gl):∀(l:List Nat)(s:List Int×List (Option Int))(x:Option Int),x∈s.2->x∈(l.foldl (bj E sk) s).2:=by
 intro L0
 induction L0 with
 |nil=>
  intro s x h
  exact h
 |cons c l ih=>
  intro s x h
  rw[abm]
  exact ih _ x (by rw[bj];exact List.mem_append_left _ h)
theorem Fr{n:Nat}{sk:List Gl}{rows:List Rw}(h4:n=1\/n=2\/n=3\/n=4)(hs:sk.length=n+1)(hr:∀x∈rows,kY n x)(hr':∀x,Rw.nd x∈rows->aG 0 x.v=true)(hc:cells rows<=900)(hl:rows.length<=900)(hd:∀w,some w∈eD n sk rows->Dm w):
  RF (r+3) (.ref jS) [.lst (rows.map Rw.v),.int n,.lst (sk.map Gl.v)] mu=some (.lst ((eD n sk rows).map oi),mu):=by
 have hcmp:aW (dG TT (RF (r+2)) HT (bn aF) [(aaQ "rows",.lst (rows.map Rw.v)),(aaQ "columns",.int n),(aaQ "skips",.lst (sk.map Gl.v))] 55 (cT (aN 0 (ag 1 (aD aF)))) [] (cE (aN 0 (ag 1 (aD aF)))) (cN (aN 0 (ag 1 (aD aF))))) (aM 0 n) []=some (tC n,(abq n ([]:List (Int×Int))).map kE):=by
  rw[x7 (λv mu=>cM (n:=54) [] (by kernel_rfl)),bY]
  simp only[aaq,abw,aa3,Option.some.injEq,Prod.mk.injEq,tC,List.map_replicate]
  refine⟨?_,rfl⟩
  apply aa9
  intro k _
  show V.ref (0+k)=_
  rw[Nat.zero_add]
 have hE:=m4 (n:=n) rows (abq n []) 0 (by simp) (λl hl'=>by rw[List.mem_replicate] at hl';rw[hl'.2];simp;exact ad 100514657880 [_] [] hc) (by exact ad 820556713937880 [_] [] hc)
 have hrow:=bi (f:=cu TT (RF (r+2)) HT (bn aF) 56 (cG (ag 2 (aD aF))) (a6 (ag 2 (aD aF)))) Rw.v mZ (λq0=>wZ rows n sk) (λE=>E.map kE)
  (λE rs=>E.length=n/\(∀x∈rs,kY n x)/\(∀l∈E,l.length+cells rs<=900)/\cells rs<=900)
  (λE x rs i=>by
   have h3:=i.2.2.1
   have h4':=i.2.2.2
   simp only[cells,aaX,abr] at h3 h4'
   refine⟨⟨?_,λy hy=>i.2.1 y (.tail _ hy),?_,by simp only[cells];exact ad 814168728852300 [_,_] [] h4'⟩,Ak (r:=r+1) (k:=(rs.map rz).sum) i.1 (by exact ad 30056028692868288249988052902021387 [_] [] h4) (i.2.1 x (.head _)) h3 h4'⟩
   ·have:=m4 (n:=n) [x] E 0 i.1 (λl hl'=>by have:=h3 l hl';simp[cells];exact ad 53453179717366313446200 [_,_,_] [] this) (by simp[cells];exact ad 814168729573200 [_,_] [] h4')
    exact this.1
   ·have:=m4 (n:=n) [x] E (rs.map rz).sum i.1 (λl hl'=>by have:=h3 l hl';simp[cells];exact ad 433256324054586736313446200 [_,_,_] [] this) (by simp[cells];exact ad 6599157989797573200 [_,_] [] h4')
    exact this.2) rows (abq n []) ⟨by simp,hr,λl hl'=>by rw[List.mem_replicate] at hl';rw[hl'.2];simp;exact ad 100514657880 [_] [] hc,by exact ad 100514657880 [_] [] hc⟩
 have hz:some (fz HT (ag 3 (aD aF)) (wZ rows n sk) ((ce n rows).map kE))=some ([(aaQ "rows",.lst (rows.map Rw.v)),(aaQ "columns",.int n),(aaQ "skips",.lst (sk.map Gl.v)),(aaQ "ending",.lst ((ce n rows).map x6))],abq n .dead):=by
  have hfr:=sB ((ce n rows).map λl=>l.map vP) 0 (λl hl'=>by obtain⟨a,_,rfl⟩:=aak.mp hl';exact sC a)
  have hEl:(ce n rows).length=n:=hE.1
  rw[aaq,hEl,List.replicate_zero,aa3,aba,<-List.range_eq_range',Nat.zero_add] at hfr
  rw[wX (su:=(aaa n).zip ((ce n rows).map (λl=>l.map vP) |>.map V.lst)) (mu2:=abq n .dead) (by kernel_rfl) (by rw[aaq,hEl];exact hfr)]
  have e3:iW ((aaa n).zip ((ce n rows).map (λl=>l.map vP) |>.map V.lst)) (.lst (tC n))= .lst ((ce n rows).map x6):=by
   rw[Ap]
   congr 1
   apply List.ext_getElem?
   intro k
   simp only[tC,aba,aaE]
   by_cases hk:k<n
   ·rw[List.getElem?_range hk,aaD (by rw[hEl];exact hk)]
    simp only[Option.map_some,Function.comp]
    have:=uN ((ce n rows).map λl=>l.map vP) 0 k (λl hl'=>by obtain⟨a,_,rfl⟩:=aak.mp hl';exact sC a) (aaT _)
    rw[aaq,hEl,<-List.range_eq_range',Nat.sub_zero,aaE,aaD (by rw[hEl];exact hk)] at this
    rw[aba] at this
    simp only[Option.map_some] at this
    rw[x6,<-this]
   ·rw[aas (by simp;exact ad 1606134282398 [_,_] [] hk),aas (by rw[hEl];exact ad 1606134282398 [_,_] [] hk)]
    rfl
  have e1:=iS ((aaa n).zip ((ce n rows).map (λl=>l.map vP) |>.map V.lst)) (v:= .lst (rows.map Rw.v)) (qm hr hr')
  have e2:=iS ((aaa n).zip ((ce n rows).map (λl=>l.map vP) |>.map V.lst)) (v:= .lst (sk.map Gl.v)) (eP sk)
  have e4:=iS ((aaa n).zip ((ce n rows).map (λl=>l.map vP) |>.map V.lst)) (v:= .int n) rfl
  simp only[aba] at e1 e2 e3 e4⊢
  simp only[wZ,aaX,abo,e1,e2,e3,e4]
 have hcol:=bi (α:=Nat) (f:=cu TT (RF (r+2)) HT (bn aF) 53 (cG (ag 5 (aD aF))) (a6 (ag 5 (aD aF)))) (λk:Nat=>V.int (k:Int)) (bj (ce n rows) sk) (λq0=>Fq rows n sk (ce n rows)) (λs=>wM n s.1 s.2)
  (λs rest=>∃c,rest=abu c (n-c)/\c<=n/\s.1.length=c+1/\s.2.length=c/\∀w,some w∈(rest.foldl (bj (ce n rows) sk) s).2->Dm w)
  (λs x rest i=>by
   obtain⟨c,h1,h2,h3,h5,h6⟩:=i
   have hcn:c<n:=by
    rcases Nat.lt_or_ge c n with h|h
    ·exact h
    ·rw[show n-c=0 by exact av 138089385239900328494940518615602226432795670 [_,_,_] [] h (su _ _)] at h1;simp at h1
   rw[show n-c=(n-(c+1))+1 by exact dX 1062804319963856932116636734656871255904554571533138681698414631244869101208688538863812803861 [_,_,_,_] [] hcn (su _ _) (su _ _),abv,List.cons.injEq] at h1
   obtain⟨rfl,rfl⟩:=h1
   obtain⟨b,f⟩:=s
   refine⟨⟨x+1,rfl,hcn,by rw[bj,aap];simp at h3⊢;exact ad 5824222426978137182 [_,_] [] h3,by rw[bj,aap];simp at h5⊢;exact ad 17847402482 [_,_] [] h5,h6⟩,?_⟩
   refine Am (r:=r) hE.1 h4 hs hcn h3 h5 (λl hl'=>by have:=hE.2 l hl';exact ad 814168737592200 [_] [] this) (λp hp=>uO hr x p hp) λw hw=>h6 w ?_
   rw[abm]
   exact Ar _ _ _ _ _ (by rw[bj,<-hw];exact List.mem_append_right _ (.head _))) (aaa n) ([0],[]) ⟨0,by rw[Nat.sub_zero,List.range_eq_range'],aaT _,rfl,rfl,hd⟩
 rw[<-bY] at hcol
 have hpost:cX 0 (some 0) (.ref (n+1)) (wM n ((aaa n).foldl (bj (ce n rows) sk) ([0],[])).1 (eD n sk rows))=some (.lst ((eD n sk rows).map oi),[]):=by
  have hfr:=sB [((aaa n).foldl (bj (ce n rows) sk) ([0],[])).1.map V.int,(eD n sk rows).map oi] n (λl hl'=>by
   simp only[aai,abh,or_false] at hl'
   rcases hl' with rfl|rfl
   ·exact jn 0 _
   ·exact ft _)
  have hjs:(aaa ((wM n ((aaa n).foldl (bj (ce n rows) sk) ([0],[])).1 (eD n sk rows)).length-(0+0))).map (λi=>0+0+i)=aaa n++abu n 2:=by
   rw[aa9 (g:=id) (λk q0=>by simp),List.map_id]
   simp only[wM,aap,List.length_replicate,aaf,aae]
   rw[show n+(0+1+1)-(0+0)=n+2 by exact ad 139938373440152390150828431889275533318133368967877651387375939400140147300168212657140547 [_,_] [] (su _ _),abx,abx,aa7]
   rfl
  have hsub:=uN [((aaa n).foldl (bj (ce n rows) sk) ([0],[])).1.map V.int,(eD n sk rows).map oi] n (n+1) (λl hl'=>by
   simp only[aai,abh,or_false] at hl'
   rcases hl' with rfl|rfl
   ·exact jn 0 _
   ·exact ft _) (by exact dk 985608180 [_] [])
  rw[show n+1-n=1 by exact ad 107846141716794162870119922864486779457265711887547 [_,_] [] (su _ _)] at hsub
  have hdead:∀j∈aaa n,(wM n ((aaa n).foldl (bj (ce n rows) sk) ([0],[])).1 (eD n sk rows))[j]? =some .dead:=λj hj=>by
   rw[aar] at hj
   rw[wM,aat (by simp;exact hj),List.getElem?_replicate,if_pos hj]
  have h5:=vR (aaa n) (abu n 2) _ hdead
  rw[<-hjs] at h5
  exact aZ (h5.trans hfr) hsub rfl (by simp) (ft _) rfl
 have hb:ab 0 [.lst (rows.map Rw.v),.int n,.lst (sk.map Gl.v)]=true:=by
  simp only[ab,aG,qm hr hr',eP,abn]
 have g1:(-1000:Int)<=n/\(n:Int)<=1000:=by exact ad 1756674056897054758716052140943053988052902021387 [_] [] h4
 have g2:(aM 0 (n:Int)).length<=1000:=by rw[bY];simp;exact ad 5372445937113827371302576 [_] [] g1
 have g3:(rows.map Rw.v).length<=1000:=by rw[aaq];exact ad 112324457880 [_] [] hl
 have ck:=λm=>j5 (r:=r) (mu:=m) (n:=n) (sk:=sk) (by exact ad 3613430597952517179988052902021387 [_] [] h4) (by exact ad 28388310522901631349988052902021387 [_] [] h4) hs
 clear hd hr hr' hE
 rcases h4 with rfl|rfl|rfl|rfl<;>exact aK vF rfl hb [oP ck,oG g1,oG g2,oL hcmp,oG g3,oS hrow,oZ hz,oG g1,oG g2,oS hcol,oV hpost] (by kernel_rfl)
end
section
variable{r:Nat}{mu:Mu}
theorem As:Dm 0:=⟨by decide,by decide⟩
theorem GH:RF (r+4) (.ref dR) [] mu=some (dj.v,mu):=by
 have init:RF (r+3) (.ref ga) [.ref 0] [.obj dR []]=some (.none,[.obj dR [(aaQ "width",.int 0),(aaQ "stretch",.int 0),(aaQ "stretch_order",.int 0),(aaQ "shrink",.int 0),(aaQ "shrink_order",.int 0)]]):=
  aa eg rfl [oP λm=>bf (v:=0) (lo:=0) (hi:=3) (by decide) (by decide),oP λm=>bf (v:=0) (lo:=0) (hi:=3) (by decide) (by decide),oP λm=>ao (v:=0) As,oP λm=>ao (v:=0) As,oA,oP λm=>ao (v:=0) As,oA] (by kernel_rfl)
 exact aK uE rfl rfl [oV init,oA] (by kernel_rfl)
noncomputable def la(w:Option Int)(v:Bool):Nd:= .box (if v=true then nV 3 0 (w.getD 0) 0 else nV 2 (w.getD 0) 0 0) []
theorem mr{b:Bx}{l:List V}(h:ab 0 l=true):cX 0 (some 0) (.ref 0) [.obj ay (eU b (.lst l))]=some (.obj ay (eU b (.lst l)),[]):=
 aZ (su:=[(0,.obj ay (eU b (.lst l)))]) (mu2:=[.dead]) (by rfl) (by rfl) rfl (by decide) (gf h) rfl
theorem sD{w:Option Int}{v:Bool}(h:Dm (w.getD 0)):RF (r+5) (.ref ic) [oi w,.bool v] mu=some ((la w v).v,mu):=by
 cases w with
 |none=>
      cases v
      ·exact aK fW rfl rfl [oA,oC (xY (k:=2) (items:= .lst []) (by decide) (by decide) h As As),oV (mr (b:=nV 2 0 0 0) (l:=[]) rfl)] (by kernel_rfl)
      ·exact aK fW rfl rfl [oA,oC (xY (k:=3) (items:= .lst []) (by decide) (by decide) As h As),oV (mr (b:=nV 3 0 0 0) (l:=[]) rfl)] (by kernel_rfl)
 |some x=>
       cases v
       ·exact aK fW rfl rfl [oA,oC (xY (k:=2) (items:= .lst []) (by decide) (by decide) h As As),oV (mr (b:=nV 2 x 0 0) (l:=[]) rfl)] (by kernel_rfl)
       ·exact aK fW rfl rfl [oA,oC (xY (k:=3) (items:= .lst []) (by decide) (by decide) As h As),oV (mr (b:=nV 3 0 x 0) (l:=[]) rfl)] (by kernel_rfl)
noncomputable def nW(sz:List (Option Int))(sk:List Gl)(c:Nat):Gl:=match sz.getD c none with
 |none=>dj
 |some _=>sk.getD (c+1) dj
theorem jp{sz:List (Option Int)}{c:Nat}(h:c<sz.length)(h2:sz.length<=900):bP [] (.lst (sz.map oi)) c=some (oi (sz.getD c none)):=iu (by rw[aaE,bk (d:=none) h];rfl) (av 81884529860154481 [_,_] [] h h2)
theorem oy{sk:List Gl}{c:Nat}{i:Int}(e:i=c)(h:c<sk.length)(h2:sk.length<=900):bP [] (.lst (sk.map Gl.v)) i=some (sk.getD c dj).v:=ql e (by rw[aaE,bk (d:=dj) h];rfl) (av 81884529860154481 [_,_] [] h h2)
theorem qo{sz:List (Option Int)}{sk:List Gl}{c:Nat}(hs:sk.length=sz.length+1)(hc:c<sz.length)(hl:sz.length<=800):RF (r+5) (.ref i8) [.lst (sz.map oi),.lst (sk.map Gl.v),.int c] mu=some ((Nd.skip (nW sz sk c) 109).v,mu):=by
 have h1:=jp hc (ad 100514876580 [_] [] hl)
 have h2:=oy (sk:=sk) (c:=c+1) (i:=(c:Int)+1) (dk 64665765682070405 [_] []) (av 894429939041580633966272 [_,_,_] [] hs hc) (av 593530295249669337182 [_,_] [] hs hl)
 unfold nW
 cases e:sz.getD c none with
 |none=>
  rw[e] at h1
  exact aa lV rfl [oW h1,oA,oP λm=>GH,oP λm=>iQ (g:=dj) (s:=109) (.inr rfl)] (by kernel_rfl)
 |some x=>
  rw[e] at h1
  exact aa lV rfl [oW h1,oA,oW h2,oP λm=>iQ (g:=sk.getD (c+1) dj) (s:=109) (.inr rfl)] (by kernel_rfl)
noncomputable def bT(sz:List (Option Int))(sk:List Gl)(v:Bool)(c:Nat):List Nd:=[la (sz.getD c none) v,.skip (nW sz sk c) 109]
noncomputable def aq(sz:List (Option Int))(sk:List Gl)(v:Bool):List Nd:= .skip (sk.getD 0 dj) 109::(aaa sz.length).flatMap (bT sz sk v)
theorem gV{α β:Type}(f:α->List β):∀(l:List α)(a:List β),l.foldl (λs x=>s++f x) a=a++l.flatMap f:=by
 intro L0
 induction L0 with
 |nil=>
  intro a
  simp
 |cons x l ih=>
  intro a
  rw[abm,ih,abg,aa7]
theorem kx(sz:List (Option Int))(sk:List Gl)(v:Bool):(aq sz sk v).length=2*sz.length+1:=by
 have:∀l:List Nat,(l.flatMap (bT sz sk v)).length=2*l.length:=by
  intro l
  induction l with
  |nil=>rfl
  |cons x l ih=>rw[abg,aap,ih,aaf];show 2+_=_;exact dk 523793266947341418602 [_] []
 rw[aq,aaf,this,abw]
theorem At(w:Option Int)(v:Bool):er (la w v):=by
 cases v
 ·exact⟨.inl rfl,rfl⟩
 ·exact⟨.inr rfl,rfl⟩
theorem ll:lZ dj:=⟨by decide,by decide,by decide,by decide⟩
theorem vS{sz:List (Option Int)}{sk:List Gl}{c:Nat}(h:∀g∈sk,lZ g):lZ (nW sz sk c):=by
 unfold nW
 split
 ·exact ll
 ·rw[aaY]
  cases e:sk[c+1]? with
  |none=>exact ll
  |some g=>exact h g (abj e)
theorem qp{sz:List (Option Int)}{sk:List Gl}{v:Bool}(h:∀g∈sk,lZ g):∀x∈aq sz sk v,er x:=by
 intro x hx
 rw[aq,aai] at hx
 rcases hx with rfl|hx
 ·show lZ (sk.getD 0 dj)
  rw[aaY]
  cases e:sk[0]? with
  |none=>exact ll
  |some g=>exact h g (abj e)
 ·obtain⟨c,_,hx⟩:=aam.mp hx
  simp only[bT,aai,abh,or_false] at hx
  rcases hx with rfl|rfl
  ·exact At _ _
  ·exact vS h
noncomputable def da(sz:List (Option Int))(sk:List Gl)(mode amount:Int)(v:Bool):Bx×SG:=if v=true then Fo (aq sz sk v) mode amount else Fn (aq sz sk v) mode amount
structure oz(sz:List (Option Int))(sk:List Gl)(mode amount:Int)(v:Bool):Prop where
 n1:1<=sz.length
 n2:sz.length<=400
 ns:sk.length=sz.length+1
 sd:∀c,Dm ((sz.getD c none).getD 0)
 gl:∀g∈sk,lZ g
 md:mode=0\/mode=1
 am:Dm amount
 h:v=false->wW (az (aq sz sk v)).t (gU (az (aq sz sk v)).t.nat mode amount)/\Dm (az (aq sz sk v)).a/\Dm (az (aq sz sk v)).b
 v:v=true->wW (ar (aq sz sk v)).t (gU (ar (aq sz sk v)).t.nat mode amount)/\Dm (ar (aq sz sk v)).a/\Dm (ar (aq sz sk v)).b
theorem x8{sz:List (Option Int)}{sk:List Gl}{mode amount:Int}{v:Bool}(P:oz sz sk mode amount v):
  RF (r+6) (.ref ie) [.lst (sz.map oi),.lst (sk.map Gl.v),.int mode,.int amount,.bool v] mu=some (.tup [(Nd.box (da sz sk mode amount v).1 ((aq sz sk v).map Nd.v)).v,(da sz sk mode amount v).2.rep],mu):=by
 have n1:=P.n1
 have n2:=P.n2
 have ns:=P.ns
 have hlen:(sz.map oi).length<=1000:=by rw[aaq];exact ad 112324514580 [_] [] n2
 have hL:∀m:Mu,aL TT m (.builtin "len") [.lst (sz.map oi)]=some (.int sz.length):=λm=>by rw[fX hlen m,aaq]
 have h0:=oy (sk:=sk) (c:=0) (i:=0) rfl (ad 103106445237182 [_,_] [] ns) (av 593528908187805872670 [_,_] [] n2 ns)
 have hf:=bi (α:=Nat) (f:=cu TT (RF (r+5)) HT (bn eL) 56 (cG (ag 2 (aD eL))) (a6 (ag 2 (aD eL)))) (λk:Nat=>V.int (k:Int)) (λ(l:List Nd) c=>l++bT sz sk v c)
  (λq0=>[(aaQ "sizes",.lst (sz.map oi)),(aaQ "skips",.lst (sk.map Gl.v)),(aaQ "mode",.int mode),(aaQ "amount",.int amount),(aaQ "is_vertical",.bool v),(aaQ "items",.ref 0)]) (λl=>[.lst (l.map Nd.v)])
  (λl rest=>l.length+2*rest.length<=900/\∀c∈rest,c<sz.length)
  (λl c rest i=>⟨⟨by have:=i.1;simp only[bT,aap,aaf,aae] at this⊢;exact ad 1863986426539498215168474882860466423505200 [_,_] [] this,λd hd=>i.2 d (.tail _ hd)⟩,by
   have hc:=i.2 c (.head _)
   have hl:l.length+2<=900:=by have:=i.1;rw[aaf] at this;exact ad 436642339685446266423505200 [_,_] [] this
   have h1:=jp (sz:=sz) hc (ad 100514714580 [_] [] n2)
   have a1:dJ (RF (r+5)) (.ref 0) [(la (sz.getD c none) v).v] [.lst (l.map Nd.v)] (.app 0)=some (.none,[.lst ((l++[la (sz.getD c none) v]).map Nd.v)]):=cL rfl (by rw[aaq];exact ad 909828119050200 [_] [] hl) (by rw[abk];rfl)
   have a2:dJ (RF (r+5)) (.ref 0) [(Nd.skip (nW sz sk c) 109).v] [.lst ((l++[la (sz.getD c none) v]).map Nd.v)] (.app 0)=some (.none,[.lst ((l++bT sz sk v c).map Nd.v)]):=cL rfl (by rw[aaq,aap];simp;exact ad 1627273469050200 [_] [] hl) (by simp only[abk,bT,aa7];rfl)
   exact⟨[(aaQ "sizes",.lst (sz.map oi)),(aaQ "skips",.lst (sk.map Gl.v)),(aaQ "mode",.int mode),(aaQ "amount",.int amount),(aaQ "is_vertical",.bool v),(aaQ "items",.ref 0),(aaQ "column",.int c)],
    bx [oW h1,oP λm=>sD (v:=v) (P.sd c),oV a1,oP λm=>qo ns hc (ad 259947014580 [_] [] n2),oV a2] (by kernel_rfl),by kernel_rfl⟩⟩) (aaa sz.length) [.skip (sk.getD 0 dj) 109] ⟨by simp;exact ad 6595523552254694580 [_] [] n2,λc hc=>aar.mp hc⟩
 rw[gV,<-bY] at hf
 have hb:ab 0 [.lst (sz.map oi),.lst (sk.map Gl.v),.int mode,.int amount,.bool v]=true:=by
  simp only[ab,aG,ft,eP,abn]
 have nb:=bJ (qp (v:=v) (sz:=sz) P.gl)
 have hz:some (fz HT (ag 3 (aD eL)) [(aaQ "sizes",.lst (sz.map oi)),(aaQ "skips",.lst (sk.map Gl.v)),(aaQ "mode",.int mode),(aaQ "amount",.int amount),(aaQ "is_vertical",.bool v),(aaQ "items",.ref 0)] [.lst ((aq sz sk v).map Nd.v)])=
   some ([(aaQ "sizes",.lst (sz.map oi)),(aaQ "skips",.lst (sk.map Gl.v)),(aaQ "mode",.int mode),(aaQ "amount",.int amount),(aaQ "is_vertical",.bool v),(aaQ "items",.lst ((aq sz sk v).map Nd.v))],[.dead]):=by
  rw[wX (su:=[(0,.lst ((aq sz sk v).map Nd.v))]) (mu2:=[.dead]) (by kernel_rfl) (by rfl)]
  have e1:=fo (j:=0) (u:= .lst ((aq sz sk v).map Nd.v)) (v:= .lst (sz.map oi)) (ft sz)
  have e2:=fo (j:=0) (u:= .lst ((aq sz sk v).map Nd.v)) (v:= .lst (sk.map Gl.v)) (eP sk)
  simp only[aaX,abo,iW,e1,e2]
  rfl
 have hp:cX 0 (some 0) (.tup [(Nd.box (da sz sk mode amount v).1 ((aq sz sk v).map Nd.v)).v,(da sz sk mode amount v).2.rep]) [.dead]=some (.tup [(Nd.box (da sz sk mode amount v).1 ((aq sz sk v).map Nd.v)).v,(da sz sk mode amount v).2.rep],[]):=
  aZ (su:=[]) (mu2:=[.dead]) (by rfl) rfl rfl (by decide) (by show(aG 0 (Nd.v _)&&(aG 0 (SG.rep _)&&true))=true;rw[show aG 0 (Nd.box (da sz sk mode amount v).1 ((aq sz sk v).map Nd.v)).v=true from gf nb];rfl) rfl
 have g1:(-1000:Int)<=sz.length/\(sz.length:Int)<=1000:=ad 6219866656953679578098580 [_] [] n2
 have g2:(aM 0 (sz.length:Int)).length<=1000:=by rw[bY];simp;exact ad 112324514580 [_] [] n2
 have hnl:=kx sz sk v
 have hok:=qp (v:=v) (sz:=sz) P.gl
 cases v with
 |false=>
  have H:=P.h rfl
  exact aK kX rfl hb [oQ hL,oP λm=>j5 n1 (ad 100514714580 [_] [] n2) ns,oW h0,oP λm=>iQ (g:=sk.getD 0 dj) (s:=109) (.inr rfl),oQ hL,oG g1,oG g2,oS hf,oZ hz,oP λm=>GF (y:= .skip (sk.getD 0 dj) 109) (ys:=(aaa sz.length).flatMap (bT sz sk false)) hok (by have:=hnl;rw[aq] at this;exact av 4807584157085957913872670 [_,_] [] n2 this) P.md P.am H.1 H.2.1 H.2.2,oV hp] (by kernel_rfl)
 |true=>
  have H:=P.v rfl
  exact aK kX rfl hb [oQ hL,oP λm=>j5 n1 (ad 100514714580 [_] [] n2) ns,oW h0,oP λm=>iQ (g:=sk.getD 0 dj) (s:=109) (.inr rfl),oQ hL,oG g1,oG g2,oS hf,oZ hz,oP λm=>GG (y:= .skip (sk.getD 0 dj) 109) (ys:=(aaa sz.length).flatMap (bT sz sk true)) hok (by have:=hnl;rw[aq] at this;exact av 4807584157085957913872670 [_,_] [] n2 this) P.md P.am H.1 H.2.1 H.2.2,oV hp] (by kernel_rfl)
end
section
variable{r:Nat}{mu:Mu}
noncomputable def a9(b:Bx)(v:Bool)(ps:List (Int×Ce)):Bx:=if v=true then⟨3,ci 0 (ps.map λp=>p.2.w),b.h,b.d,0,b.sign,b.order,b.up,b.down⟩ else⟨2,b.w,ci 0 (ps.map λp=>p.2.h),ci 0 (ps.map λp=>p.2.d),0,b.sign,b.order,b.up,b.down⟩
theorem jq{a b:List V}(h:a.length+b.length<=1000):oO .Add (.lst a) (.lst b)=some (.lst (a++b)):=if_pos ⟨rfl,h⟩
theorem Cu{ps:List (Int×Ce)}{b:Bx}{it:V}{v:Bool}(hn:ps.length<=900)(h1:v=true->Dm (ci 0 (ps.map λp=>p.2.w))/\Dm b.h/\Dm b.d)(h2:v=false->Dm b.w/\Dm (ci 0 (ps.map λp=>p.2.h))/\Dm (ci 0 (ps.map λp=>p.2.d))):
  RF (r+5) (.ref kr) [.lst (ps.map lk),.obj ay (eU b it),.bool v] []=some (.ref 1,[.lst [],.obj ay (eU (a9 b v ps) (.ref 0))]):=by
 have hl:(ps.map lk).length<=1000:=by rw[aaq];exact ad 112324457880 [_] [] hn
 have ha:∀l:List Int,l.length=ps.length->([V.int 0]).length+(l.map V.int).length<=1000:=λl h=>by rw[aaq,h];simp;exact ad 909915565637880 [_] [] hn
 cases v with
 |true=>
  have hc:aW (dG TT (RF (r+4)) HT (bn bW) [(aaQ "cells",.lst (ps.map lk)),(aaQ "model",.obj ay (eU b it)),(aaQ "is_vertical",.bool true)] 48 (cT (aN 0 (ag 0 (ru (ag 0 (aD bW)))))) [] (cE (aN 0 (ag 0 (ru (ag 0 (aD bW)))))) (cN (aN 0 (ag 0 (ru (ag 0 (aD bW))))))) (ps.map lk) []=some ((ps.map λp=>p.2.w).map V.int,[]):=by
   rw[aba]
   exact bg (g:=V.int∘λ(p:Int×Ce)=>p.2.w) λp hp=>cM (n:=47) [] (by kernel_rfl)
  have H:=h1 rfl
  exact aa nT rfl [oG hl,oL hc,oW (jq (ha (ps.map λp=>p.2.w) (aaq _))),oQ λm=>tD (a:=0) (l:=ps.map λp=>p.2.w) m,oC (Fe (k:=3) (m0:= .lst []) (items:= .ref 0) (by decide) (by decide) H.1 H.2.1 H.2.2)] (by kernel_rfl)
 |false=>
  have hc:aW (dG TT (RF (r+4)) HT (bn bW) [(aaQ "cells",.lst (ps.map lk)),(aaQ "model",.obj ay (eU b it)),(aaQ "is_vertical",.bool false)] 51 (cT (aN 0 (ag 0 (F4 (ag 0 (aD bW)))))) [] (cE (aN 0 (ag 0 (F4 (ag 0 (aD bW)))))) (cN (aN 0 (ag 0 (F4 (ag 0 (aD bW))))))) (ps.map lk) []=some ((ps.map λp=>p.2.h).map V.int,[]):=by
   rw[aba]
   exact bg (g:=V.int∘λ(p:Int×Ce)=>p.2.h) λp hp=>cM (n:=50) [] (by kernel_rfl)
  have hc2:aW (dG TT (RF (r+4)) HT (bn bW) [(aaQ "cells",.lst (ps.map lk)),(aaQ "model",.obj ay (eU b it)),(aaQ "is_vertical",.bool false),(aaQ "height",.int (ci 0 (ps.map λp=>p.2.h)))] 50 (cT (aN 0 (ag 1 (F4 (ag 0 (aD bW)))))) [] (cE (aN 0 (ag 1 (F4 (ag 0 (aD bW)))))) (cN (aN 0 (ag 1 (F4 (ag 0 (aD bW))))))) (ps.map lk) []=some ((ps.map λp=>p.2.d).map V.int,[]):=by
   rw[aba]
   exact bg (g:=V.int∘λ(p:Int×Ce)=>p.2.d) λp hp=>cM (n:=49) [] (by kernel_rfl)
  have H:=h2 rfl
  exact aa nT rfl [oG hl,oL hc,oW (jq (ha (ps.map λp=>p.2.h) (aaq _))),oQ λm=>tD (a:=0) (l:=ps.map λp=>p.2.h) m,oG hl,oL hc2,oW (jq (ha (ps.map λp=>p.2.d) (aaq _))),oQ λm=>tD (a:=0) (l:=ps.map λp=>p.2.d) m,oC (Fe (k:=2) (m0:= .lst []) (items:= .ref 0) (by decide) (by decide) H.1 H.2.1 H.2.2)] (by kernel_rfl)
noncomputable def cq(c:Ce)(w:Option Int)(size:Int)(rb:Bx):Bx:=Fm (if c.vert=true then nV 3 rb.w (w.getD 0) c.d else nV 2 (w.getD 0) rb.h rb.d) (dH c.tt (size-dW c))
theorem Au{c:Ce}{w:Option Int}{size:Int}{rb:Bx}{items:List V}(hi:ab 0 items=true)(hc:∀x∈c.items,er x)(hd:Dm (w.getD 0))(h1:c.vert=true->Dm rb.w/\Dm c.d)(h2:c.vert=false->Dm rb.h/\Dm rb.d)(he:(size-dW c).natAbs<7000000)(hs:∀i,c.tt.st.at i<7230584)(hk:∀i,c.tt.sk.at i<7230584):
  RF (r+5) (.ref i9) [c.v,oi w,.int size,.ref 1] [.lst items,.obj ay (eU rb (.ref 0))]=some ((Nd.box (cq c w size rb) (c.items.map Nd.v)).v,[.lst items,.obj ay (eU rb (.ref 0))]):=by
 have hp:∀b:Bx,cX 2 (some 0) (.ref 2) [.lst items,.obj ay (eU rb (.ref 0)),.obj ay (eU b (.lst (c.items.map Nd.v)))]=some ((Nd.box b (c.items.map Nd.v)).v,[.lst items,.obj ay (eU rb (.ref 0))]):=by
  intro b
  refine aZ (su:=[(2,.obj ay (eU b (.lst (c.items.map Nd.v))))]) (mu2:=[.lst items,.obj ay (eU rb (.ref 0)),.dead]) ?_ (by rfl) rfl (by simp) (ph (m:=0) (by decide) (gf (bJ hc))) ?_
  ·show([(2,V.obj ay (eU b (.lst (c.items.map Nd.v))))],[fB 2 _ (.lst items),fB 2 _ (.obj ay (eU rb (.ref 0))),fB 2 _ .dead])=_
   rw[fB,eM hi]
   rfl
  ·show(ab 2 items&&_)=true
   rw[fF (m:=0) (by decide) hi]
   rfl
 obtain⟨cw,ch,cd,cit,spans,tt,vert⟩:=c
 have al:∀m,RF (r+4) (.ref lJ) [Ce.v ⟨cw,ch,cd,cit,spans,tt,vert⟩] m=some (.int (dW ⟨cw,ch,cd,cit,spans,tt,vert⟩),m):=λm=>j6 (r:=r+3)
 have sg:∀m,RF (r+4) (.ref gP) [tt.v,.int (size-dW ⟨cw,ch,cd,cit,spans,tt,vert⟩)] m=some ((dH tt (size-dW ⟨cw,ch,cd,cit,spans,tt,vert⟩)).v,m):=λm=>qh (r:=r+1) he hs hk
 cases w with
 |none=>
  cases vert with
  |true=>exact aa gC rfl [oA,oC (Cq (k:=3) (m0:= .lst items) (m1:= .obj ay (eU rb (.ref 0))) (items:= .lst (cit.map Nd.v)) (by decide) (by decide) (h1 rfl).1 hd (h1 rfl).2),oP al,oP sg,oV (hp (cq ⟨cw,ch,cd,cit,spans,tt,true⟩ none size rb))] (by kernel_rfl)
  |false=>exact aa gC rfl [oA,oC (Cq (k:=2) (m0:= .lst items) (m1:= .obj ay (eU rb (.ref 0))) (items:= .lst (cit.map Nd.v)) (by decide) (by decide) hd (h2 rfl).1 (h2 rfl).2),oP al,oP sg,oV (hp (cq ⟨cw,ch,cd,cit,spans,tt,false⟩ none size rb))] (by kernel_rfl)
 |some x=>
  cases vert with
  |true=>exact aa gC rfl [oA,oC (Cq (k:=3) (m0:= .lst items) (m1:= .obj ay (eU rb (.ref 0))) (items:= .lst (cit.map Nd.v)) (by decide) (by decide) (h1 rfl).1 hd (h1 rfl).2),oP al,oP sg,oV (hp (cq ⟨cw,ch,cd,cit,spans,tt,true⟩ (some x) size rb))] (by kernel_rfl)
  |false=>exact aa gC rfl [oA,oC (Cq (k:=2) (m0:= .lst items) (m1:= .obj ay (eU rb (.ref 0))) (items:= .lst (cit.map Nd.v)) (by decide) (by decide) hd (h2 rfl).1 (h2 rfl).2),oP al,oP sg,oV (hp (cq ⟨cw,ch,cd,cit,spans,tt,false⟩ (some x) size rb))] (by kernel_rfl)
noncomputable def uP(b:Bx)(x y z:Option Int):Nd:= .rule (some (x.getD b.w)) (some (y.getD b.h)) (some (z.getD b.d))
theorem Av{b:Bx}{it:V}{x y z:Option Int}(hx:Dm (x.getD b.w))(hy:Dm (y.getD b.h))(hz:Dm (z.getD b.d)):RF (r+5) (.ref ja) [(Nd.rule x y z).v,.obj ay (eU b it)] mu=some ((uP b x y z).v,mu):=by
 have c:=λm=>uI (r:=r) (mu:=m) (a:=some (x.getD b.w)) (b:=some (y.getD b.h)) (c:=some (z.getD b.d)) hx hy hz
 cases x<;>cases y<;>cases z<;>exact aa tp rfl [oA,oA,oA,oP c] (by kernel_rfl)
end
section
variable{r:Nat}{mu:Mu}
theorem jr(i j:Nat){a b:Int}(ha:a=i)(hb:b=j):aM a b=(abu i (j-i)).map λk:Nat=>V.int (k:Int):=by
 subst ha;subst hb
 unfold aM
 rw[show((j:Int)-i).toNat=j-i by exact av 213679365014340260991213327701304334843278589474222937302173767311272466027342158113721627847 [_,_,_,_] [] (tn _) (su _ _),List.range'_eq_map_range,aba]
 apply aa9
 intro k _
 show V.int ((i:Int)+k)=V.int ((i+k:Nat):Int)
 rw[Int.natCast_add]
noncomputable abbrev DI(ps:List (Int×Ce))(sz:List (Option Int))(sk:List Gl)(b:Bx)(it:V)(ed:List Int)(v:Bool):au:=[(aaQ "cells",.lst (ps.map lk)),(aaQ "sizes",.lst (sz.map oi)),(aaQ "skips",.lst (sk.map Gl.v)),(aaQ "model",.obj ay (eU b it)),(aaQ "edges",.lst (ed.map V.int)),(aaQ "is_vertical",.bool v),(aaQ "row",.ref 1)]
noncomputable abbrev BJ(l:List Nd)(rb:Bx):Mu:=[.lst (l.map Nd.v),.obj ay (eU rb (.ref 0))]
theorem qq{F:bM}{l:List Nd}{x:Nd}{rb:Bx}(h:l.length<=1000):dJ F (.ref 0) [x.v] (BJ l rb) (.app 0)=some (.none,BJ (l++[x]) rb):=cL rfl (by rw[aaq];exact h) (by simp only[BJ,abk,aaX,abo,List.set_cons_zero])
theorem vT{L:au}{ps:List (Int×Ce)}{sz:List (Option Int)}{sk:List Gl}{b:Bx}{it:V}{ed:List Int}{v:Bool}{x1 x2 x3:V}{l:List Nd}{rb:Bx}{c:Nat}(hs:sk.length=sz.length+1)(hc:c<sz.length)(h4:sz.length<=400)(hd:∀c,Dm ((sz.getD c none).getD 0))(hl:l.length+2<=900)(hL:L=DI ps sz sk b it ed v++[(aaQ "column",x1),(aaQ "cell",x2),(aaQ "last",x3)]):
  ∃loc1,cu TT (RF (r+5)) HT (bn bX) 51 (cG (ag 3 (a6 (ag 2 (aD bX))))) (a6 (ag 3 (a6 (ag 2 (aD bX))))) (.int c) L (BJ l rb)=some (.next,loc1,BJ (l++bT sz sk v c) rb)/\dx L loc1=L:=by
 subst hL
 refine⟨DI ps sz sk b it ed v++[(aaQ "column",x1),(aaQ "cell",x2),(aaQ "last",x3),(aaQ "other",.int c)],?_,by kernel_rfl⟩
 have h1:=jp (sz:=sz) hc (ad 100514714580 [_] [] h4)
 have a1:=qq (F:=RF (r+5)) (x:=la (sz.getD c none) v) (rb:=rb) (ad 909828119050200 [_] [] hl:l.length<=1000)
 have a2:=qq (F:=RF (r+5)) (x:= .skip (nW sz sk c) 109) (rb:=rb) (l:=l++[la (sz.getD c none) v]) (by simp;exact ad 1627273469050200 [_] [] hl)
 rw[aa7] at a2
 exact bx [oW h1,oP λm=>sD (v:=v) (hd c),oV a1,oP λm=>qo hs hc (ad 259947014580 [_] [] h4),oV a2] (by kernel_rfl)
noncomputable def gW(sz:List (Option Int))(sk:List Gl)(v:Bool)(rb:Bx)(ed:List Int)(p:Int×Ce):List Nd:=
 .box (cq p.2 (sz.getD p.1.toNat none) (ed.getD (2*(p.1+p.2.spans-1).toNat+2) 0-ed.getD (2*p.1.toNat+1) 0) rb) (p.2.items.map Nd.v):: .skip (nW sz sk p.1.toNat) 109::(abu (p.1.toNat+1) ((p.1+p.2.spans-1).toNat-p.1.toNat)).flatMap (bT sz sk v)
structure oD(sz:List (Option Int))(v:Bool)(rb:Bx)(ed:List Int)(p:Int×Ce):Prop where
 ok:vO p.2
 p0:0<=p.1
 p1:p.1+p.2.spans<=sz.length
 vt:p.2.vert=v
 e:(ed.getD (2*(p.1+p.2.spans-1).toNat+2) 0-ed.getD (2*p.1.toNat+1) 0-dW p.2).natAbs<7000000
 s:∀i,p.2.tt.st.at i<7230584
 k:∀i,p.2.tt.sk.at i<7230584
 d:v=true->Dm p.2.d
structure vU(sz:List (Option Int))(sk:List Gl)(v:Bool)(rb:Bx)(ed:List Int)(ps:List (Int×Ce)):Prop where
 cells:∀p∈ps,oD sz v rb ed p
 n:ps.length<=60
 n1:1<=sz.length
 n4:sz.length<=4
 ns:sk.length=sz.length+1
 ne:ed.length=2*sz.length+2
 sd:∀c,Dm ((sz.getD c none).getD 0)
 gl:∀g∈sk,lZ g
 w:v=true->Dm rb.w
 h:v=false->Dm rb.h/\Dm rb.d
theorem uQ(sz:List (Option Int))(sk:List Gl)(v:Bool):∀l:List Nat,(l.flatMap (bT sz sk v)).length=2*l.length:=by
 intro L0
 induction L0 with
 |nil=>
  exact rfl
 |cons x l ih=>
  rw[abg,aap,ih,aaf];show 2+_=_;exact dk 523793266947341418602 [_] []
theorem Cv{sz:List (Option Int)}{sk:List Gl}{v:Bool}(h:∀g∈sk,lZ g){l:List Nat}:∀x∈l.flatMap (bT sz sk v),er x:=λx hx=>by
 obtain⟨c,_,hx⟩:=aam.mp hx
 simp only[bT,aai,abh,or_false] at hx
 rcases hx with rfl|rfl
 ·exact At _ _
 ·exact vS h
theorem m5{sz:List (Option Int)}{sk:List Gl}{v:Bool}{rb:Bx}{ed:List Int}{p:Int×Ce}(h:∀g∈sk,lZ g)(hp:vO p.2):∀x∈gW sz sk v rb ed p,er x:=λx hx=>by
 rw[gW,aai,aai] at hx
 rcases hx with rfl|rfl|hx
 ·refine⟨?_,bJ hp.1⟩
  unfold cq Fm
  cases p.2.vert
  ·exact .inl rfl
  ·exact .inr rfl
 ·exact vS h
 ·exact Cv h x hx
theorem w4{ed:List Int}{k:Nat}{i:Int}(e:i=k)(h:k<ed.length)(h2:ed.length<=900):bP [] (.lst (ed.map V.int)) i=some (.int (ed.getD k 0)):=ql e (tE h) (av 81884529860154481 [_,_] [] h h2)
theorem x9{ps:List (Int×Ce)}{sz:List (Option Int)}{sk:List Gl}{b:Bx}{it:V}{ed:List Int}{v:Bool}{l:List Nd}{rb:Bx}{p:Int×Ce}(n1:1<=sz.length)(n4:sz.length<=4)(ns:sk.length=sz.length+1)(ne:ed.length=2*sz.length+2)(sd:∀c,Dm ((sz.getD c none).getD 0))
  (C:oD sz v rb ed p) (hw:v=true->Dm rb.w) (hh:v=false->Dm rb.h/\Dm rb.d) (hl:l.length+12<=900) (hok:∀x∈l,er x):
  ∃loc1,cu TT (RF (r+5)) HT (bn bX) 56 (cG (ag 2 (aD bX))) (a6 (ag 2 (aD bX))) (lk p) (DI ps sz sk b it ed v) (BJ l rb)=some (.next,loc1,BJ (l++gW sz sk v rb ed p) rb)/\dx (DI ps sz sk b it ed v) loc1=DI ps sz sk b it ed v:=by
 obtain⟨q,c⟩:=p
 have p0:=C.p0
 have p1:=C.p1
 have sp:=C.ok.2
 dsimp only at p0 p1 sp
 obtain⟨k,rfl⟩:∃k:Nat,q=k:=⟨q.toNat,by exact av 20139242480214588775767145039202037560505033 [_] [_] p0 (tn _)⟩
 obtain⟨e,he⟩:∃e:Nat,(k:Int)+c.spans-1=e:=⟨((k:Int)+c.spans-1).toNat,by exact av 36476345411959189379079071606621282044209123035897272153248755333229739358300505123 [_,_] [_] sp (tn _)⟩
 have i1:=jp (sz:=sz) (c:=k) (by exact av 853600868929200353829123 [_,_] [_] sp p1) (by exact ad 100514665980 [_] [] n4)
 have m1:=dU (a:=2) (b:=(k:Int)+c.spans-1) (.inl (by decide))
 have i2:=w4 (ed:=ed) (k:=2*e+2) (i:=2*((k:Int)+c.spans-1)+2) (by exact ad 115117167913749935660586573141285554568175656636095 [_,_] [_] he) (by exact dX 1496900874843166305003890914522496013022427442522796089272 [_,_,_,_] [_] ne p1 he) (by exact av 4807584544506446913824070 [_,_] [] n4 ne)
 have m2:=dU (a:=2) (b:=(k:Int)) (.inl (by decide))
 have i3:=w4 (ed:=ed) (k:=2*k+1) (i:=2*(k:Int)+1) (by exact dk 4243277532262345784107205 [_] []) (by exact dX 2806835374976549380277682967947274589596089272 [_,_,_] [_] ne sp p1) (by exact av 4807584544506446913824070 [_,_] [] n4 ne)
 have hC:=C.e
 simp only[he,show((e:Nat):Int).toNat=e from rfl,show((k:Nat):Int).toNat=k from rfl] at hC
 have sc:=Au (r:=r) (c:=c) (w:=sz.getD k none) (size:=ed.getD (2*e+2) 0-ed.getD (2*k+1) 0) (rb:=rb) (items:=l.map Nd.v) (bJ hok) C.ok.1 (sd k) (λhv=>by have:=C.vt;dsimp only at this;rw[hv] at this;exact⟨hw this.symm,C.d this.symm⟩) (λhv=>by have:=C.vt;dsimp only at this;rw[hv] at this;exact hh this.symm) hC C.s C.k
 have a1:=qq (F:=RF (r+5)) (x:= .box (cq c (sz.getD k none) (ed.getD (2*e+2) 0-ed.getD (2*k+1) 0) rb) (c.items.map Nd.v)) (rb:=rb) (by exact ad 909828136546200 [_] [] hl:l.length<=1000)
 have a2:=qq (F:=RF (r+5)) (x:= .skip (nW sz sk k) 109) (rb:=rb) (l:=l++[.box (cq c (sz.getD k none) (ed.getD (2*e+2) 0-ed.getD (2*k+1) 0) rb) (c.items.map Nd.v)]) (by simp;exact ad 1627273486546200 [_] [] hl)
 have g1: -1000<=(k:Int)+1/\(k:Int)+1<=1000/\-1000<=(k:Int)+c.spans-1+1/\(k:Int)+c.spans-1+1<=1000:=by exact dX 12713921993905294265513788705137286382716782029837881174765267542802467616717455319607941430813070 [_,_] [_] n4 sp p1
 have rg:=jr (k+1) (e+1) (a:=(k:Int)+1) (b:=(k:Int)+c.spans-1+1) (by exact dk 64665765682070405 [_] []) (by exact ad 1644932767342448480861677006538275656636095 [_,_] [_] he)
 have g2:(aM ((k:Int)+1) ((k:Int)+c.spans-1+1)).length<=1000:=by rw[rg];simp;exact dX 2845990339150922997740084557858782360794933160 [_,_,_] [_] n4 p1 he
 have hf:=bi (α:=Nat) (f:=cu TT (RF (r+5)) HT (bn bX) 51 (cG (ag 3 (a6 (ag 2 (aD bX))))) (a6 (ag 3 (a6 (ag 2 (aD bX)))))) (λk:Nat=>V.int (k:Int)) (λ(l:List Nd) c=>l++bT sz sk v c)
  (λq0=>DI ps sz sk b it ed v++[(aaQ "column",.int k),(aaQ "cell",c.v),(aaQ "last",.int ((k:Int)+c.spans-1))]) (λl=>BJ l rb) (λl rest=>l.length+2*rest.length<=900/\∀c∈rest,c<sz.length)
  (λl c rest i=>⟨⟨by have:=i.1;simp only[bT,aap,aaf,aae] at this⊢;exact ad 1863986426539498215168474882860466423505200 [_,_] [] this,λd hd=>i.2 d (.tail _ hd)⟩,vT ns (i.2 c (.head _)) (by exact ad 141848965980 [_] [] n4) sd (by have:=i.1;rw[aaf] at this;exact ad 436642339685446266423505200 [_,_] [] this) rfl⟩)
  (abu (k+1) (e+1-(k+1))) (l++[.box (cq c (sz.getD k none) (ed.getD (2*e+2) 0-ed.getD (2*k+1) 0) rb) (c.items.map Nd.v)]++[.skip (nW sz sk k) 109]) ⟨by simp;exact yv 9755128850697916787070210844001285367862234169719860720630874193707015018772018469893930479946160 [_,_,_,_,_] [_] n4 hl p1 he (su _ _),λx hx=>by rw[aby] at hx;exact tX 5431220990568098738084824268713144779422723002433671854512572748394335919234331203936873860222582314370790078823598403 [_,_,_,_,_] [_] p1 he hx (su _ _)⟩
 rw[<-rg,gV] at hf
 have hN:l++gW sz sk v rb ed ((k:Int),c)=l++[.box (cq c (sz.getD k none) (ed.getD (2*e+2) 0-ed.getD (2*k+1) 0) rb) (c.items.map Nd.v)]++[.skip (nW sz sk k) 109]++(abu (k+1) (e+1-(k+1))).flatMap (bT sz sk v):=by
  simp only[gW,he,show((e:Nat):Int).toNat=e from rfl,show((k:Nat):Int).toNat=k from rfl,aa7,List.singleton_append]
  simp only[show e+1-(k+1)=e-k by exact av 19231142851278784001790630598691874843346400030986056391375308579973440854278548869796785940547 [_,_,_,_] [] (su _ _) (su _ _),aa6,aa3]
 rw[hN]
 refine⟨DI ps sz sk b it ed v++[(aaQ "column",.int k),(aaQ "cell",c.v),(aaQ "last",.int ((k:Int)+c.spans-1))],?_,by kernel_rfl⟩
 exact bx [oW i1,oW m1,oW i2,oW m2,oW i3,oC sc,oV a1,oP λm=>qo ns (by exact av 853600868929200353829123 [_,_] [_] sp p1:k<sz.length) (by exact ad 259946965980 [_] [] n4),oV a2,oG g1,oG g2,oS hf] (by kernel_rfl)
noncomputable def qr(sz:List (Option Int))(sk:List Gl)(v:Bool)(rb:Bx)(ed:List Int)(ps:List (Int×Ce)):List Nd:= .skip (sk.getD 0 dj) 109::ps.flatMap (gW sz sk v rb ed)
theorem Cw{ps:List (Int×Ce)}{sz:List (Option Int)}{sk:List Gl}{b:Bx}{it:List V}{ed:List Int}{v:Bool}(R:vU sz sk v (a9 b v ps) ed ps)(hit:ab 0 it=true)(h1:v=true->Dm (ci 0 (ps.map λp=>p.2.w))/\Dm b.h/\Dm b.d)(h2:v=false->Dm b.w/\Dm (ci 0 (ps.map λp=>p.2.h))/\Dm (ci 0 (ps.map λp=>p.2.d))):
  RF (r+6) (.ref kt) [.lst (ps.map lk),.lst (sz.map oi),.lst (sk.map Gl.v),.obj ay (eU b (.lst it)),.lst (ed.map V.int),.bool v] mu=some ((Nd.box (a9 b v ps) ((qr sz sk v (a9 b v ps) ed ps).map Nd.v)).v,mu):=by
 have n1:=R.n1
 have n4:=R.n4
 have ns:=R.ns
 have nn:=R.n
 have h0:=oy (sk:=sk) (c:=0) (i:=0) rfl (ad 103106445237182 [_,_] [] ns) (av 593528908187805824070 [_,_] [] n4 ns)
 have a0:=qq (F:=RF (r+5)) (x:= .skip (sk.getD 0 dj) 109) (rb:=a9 b v ps) (l:=[]) (by simp)
 have g0:lZ (sk.getD 0 dj):=by
  rw[aaY]
  cases e:sk[0]? with
  |none=>exact ll
  |some g=>exact R.gl g (abj e)
 have hf:=bi (f:=cu TT (RF (r+5)) HT (bn bX) 56 (cG (ag 2 (aD bX))) (a6 (ag 2 (aD bX)))) lk (λ(l:List Nd) p=>l++gW sz sk v (a9 b v ps) ed p)
  (λ_=>DI ps sz sk b (.lst it) ed v) (λl=>BJ l (a9 b v ps)) (λl rest=>l.length+12*rest.length<=900/\(∀x∈l,er x)/\∀p∈rest,oD sz v (a9 b v ps) ed p)
  (λl p rest i=>by
   have C:=i.2.2 p (.head _)
   have c1:=C.p0
   have c2:=C.p1
   have c3:=C.ok.2
   refine⟨⟨?_,?_,λq hq=>i.2.2 q (.tail _ hq)⟩,x9 n1 n4 ns R.ne R.sd C R.w R.h (by have:=i.1;rw[aaf] at this;exact ad 443420648560990267998145200 [_,_] [] this) i.2.1⟩
   ·have:=i.1
    rw[aaf] at this
    rw[aap,gW,aaf,aaf,uQ,abz]
    exact yv 51095414587128915833274387005329209686076983873410355381556363336492240637252430624954196813221968465283256744370754442965563427567546147720697432833250 [_,_,_,_,_,_] [_,_] n4 c2 this (su _ _) (tn _)
   ·intro x hx
    rcases aaj.mp hx with hx|hx
    ·exact i.2.1 x hx
    ·exact m5 R.gl C.ok x hx) ps [.skip (sk.getD 0 dj) 109] ⟨by simp;exact ad 6596671464814686480 [_] [] nn,λx hx=>by simp only[aai,abh,or_false] at hx;subst hx;exact g0,R.cells⟩
 rw[gV] at hf
 have hrl:∀x∈qr sz sk v (a9 b v ps) ed ps,er x:=by
  intro x hx
  rw[qr,aai] at hx
  rcases hx with rfl|hx
  ·exact g0
  ·obtain⟨p,hp,hx⟩:=aam.mp hx
   exact m5 R.gl (R.cells p hp).ok x hx
 have nb:=bJ hrl
 have hpost:cX 0 (some 0) (.ref 1) (BJ (qr sz sk v (a9 b v ps) ed ps) (a9 b v ps))=some ((Nd.box (a9 b v ps) ((qr sz sk v (a9 b v ps) ed ps).map Nd.v)).v,[]):=
  aZ (su:=[(0,.lst ((qr sz sk v (a9 b v ps) ed ps).map Nd.v)),(1,.obj ay (eU (a9 b v ps) (.lst ((qr sz sk v (a9 b v ps) ed ps).map Nd.v))))]) (mu2:=[.dead,.dead]) (by rfl) (by rfl) rfl (by simp) (gf nb) rfl
 have hb:ab 0 [.lst (ps.map lk),.lst (sz.map oi),.lst (sk.map Gl.v),.obj ay (eU b (.lst it)),.lst (ed.map V.int),.bool v]=true:=by
  have e1:=gf (b:=b) hit
  have e2:=sy (l:=ps) λp hp=>(R.cells p hp).ok
  simp only[ab,e1]
  simp only[aG,e2,ft,eP,jn,abn]
 exact aK uD rfl hb [oC (Cu (r:=r) (it:= .lst it) (ad 100514706480 [_] [] nn) h1 h2),oW h0,oP λm=>iQ (g:=sk.getD 0 dj) (s:=109) (.inr rfl),oV a0,oG (c:=(ps.map lk).length<=1000) (by rw[aaq];exact ad 112324506480 [_] [] nn),oS hf,oV hpost] (by kernel_rfl)
end
section
variable{r:Nat}{mu:Mu}
noncomputable def mt(sz:List (Option Int))(sk:List Gl)(v:Bool)(b:Bx)(ed:List Int):Rw->Nd
 | .cells l=> .box (a9 b v (bN 0 l)) ((qr sz sk v (a9 b v (bN 0 l)) ed (bN 0 l)).map Nd.v)
 | .nd (.rule x y z)=>uP b x y z
 | .nd x=>x
structure j7(sz:List (Option Int))(sk:List Gl)(v:Bool)(b:Bx)(ed:List Int)(l:List Ce):Prop where
 row:vU sz sk v (a9 b v (bN 0 l)) ed (bN 0 l)
 ok:kY sz.length (.cells l)
 fv:v=true->Dm (ci 0 ((bN 0 l).map λp=>p.2.w))/\Dm b.h/\Dm b.d
 fh:v=false->Dm b.w/\Dm (ci 0 ((bN 0 l).map λp=>p.2.h))/\Dm (ci 0 ((bN 0 l).map λp=>p.2.d))
noncomputable def uR(sz:List (Option Int))(sk:List Gl)(v:Bool)(b:Bx)(ed:List Int):Rw->Prop
 | .cells l=>j7 sz sk v b ed l
 | .nd (.rule x y z)=>Dm (x.getD b.w)/\Dm (y.getD b.h)/\Dm (z.getD b.d)
 | .nd (.kern _)=>True
 |_=>False
theorem ya{sz:List (Option Int)}{sk:List Gl}{v:Bool}{b:Bx}{ed:List Int}{x:Rw}(h:uR sz sk v b ed x):aG 0 (mt sz sk v b ed x).v=true:=by
 cases x with
 |cells l=>
  refine gf (bJ λy hy=> ?_)
  have R:vU sz sk v (a9 b v (bN 0 l)) ed (bN 0 l):=(show j7 sz sk v b ed l from h).row
  rw[qr,aai] at hy
  rcases hy with rfl|hy
  ·show lZ (sk.getD 0 dj)
   rw[aaY]
   cases e:sk[0]? with
   |none=>exact ll
   |some g=>exact R.gl g (abj e)
  ·obtain⟨p,hp,hy⟩:=aam.mp hy
   exact m5 R.gl (R.cells p hp).ok y hy
 |nd x=>
  cases x with
  |rule=>rfl
  |kern=>rfl
  |skip=>exact h.elim
  |box=>exact h.elim
theorem Cx{a b:Bool}(h:a=b):b9 [] .NotEq (.bool a) (.bool b)=some false:=by
 subst h
 have e:b9 [] .NotEq (.bool a) (.bool a)=some (a !=a):=by kernel_rfl
 rw[e,bne_self_eq_false]
noncomputable abbrev DJ(rows:List Rw)(sz:List (Option Int))(sk:List Gl)(mode amount:Int)(v:Bool)(b:Bx)(it:List V)(rep:V)(ed:List Int):au:=[(aaQ "rows",.lst (rows.map Rw.v)),(aaQ "sizes",.lst (sz.map oi)),(aaQ "skips",.lst (sk.map Gl.v)),(aaQ "mode",.int mode),(aaQ "amount",.int amount),(aaQ "is_vertical",.bool v),(aaQ "model",.obj ay (eU b (.lst it))),(aaQ "report",rep),(aaQ "edges",.lst (ed.map V.int)),(aaQ "found",.ref 0)]
theorem Aw{rows:List Rw}{sz:List (Option Int)}{sk:List Gl}{mode amount:Int}{v:Bool}{b:Bx}{it:List V}{rep:V}{ed:List Int}{l:List Nd}{x:Rw}(hx:uR sz sk v b ed x)(hit:ab 0 it=true)(hl:l.length<=900):
  ∃loc1,cu TT (RF (r+6)) HT (bn cm) 55 (cG (ag 3 (aD cm))) (a6 (ag 3 (aD cm))) x.v (DJ rows sz sk mode amount v b it rep ed) [.lst (l.map Nd.v)]=some (.next,loc1,[.lst ((l++[mt sz sk v b ed x]).map Nd.v)])/\dx (DJ rows sz sk mode amount v b it rep ed) loc1=DJ rows sz sk mode amount v b it rep ed:=by
 have ap:∀y:Nd,dJ (RF (r+6)) (.ref 0) [y.v] [.lst (l.map Nd.v)] (.app 0)=some (.none,[.lst ((l++[y]).map Nd.v)]):=λy=>cL rfl (by rw[aaq];exact ad 112324457880 [_] [] hl) (by rw[abk];rfl)
 cases x with
 |cells cs=>
  have C:j7 sz sk v b ed cs:=hx
  have hn:=C.row.n
  rw[fM] at hn
  have n4:=C.row.n4
  refine⟨DJ rows sz sk mode amount v b it rep ed++[(aaQ "row",.lst (cs.map Ce.v)),(aaQ "cells",.lst ((bN 0 cs).map lk))],?_,by kernel_rfl⟩
  have hf:=bi (σ:=Unit) (f:=cu TT (RF (r+6)) HT (bn cm) 50 (cG (ag 1 (ru (ag 0 (a6 (ag 3 (aD cm))))))) (a6 (ag 1 (ru (ag 0 (a6 (ag 3 (aD cm)))))))) lk (λs q0=>s)
   (λq0=>DJ rows sz sk mode amount v b it rep ed++[(aaQ "row",.lst (cs.map Ce.v)),(aaQ "cells",.lst ((bN 0 cs).map lk))]) (λq0=>[.lst (l.map Nd.v)]) (λq0 ps=>∀p∈ps,p.2.vert=v)
   (λs p ps i=>⟨λq hq=>i q (.tail _ hq),DJ rows sz sk mode amount v b it rep ed++[(aaQ "row",.lst (cs.map Ce.v)),(aaQ "cells",.lst ((bN 0 cs).map lk)),(aaQ "column",.int p.1),(aaQ "cell",p.2.v)],bx [oB (Cx (i p (.head _)))] (by kernel_rfl),by kernel_rfl⟩) (bN 0 cs) () (λp hp=>(C.row.cells p hp).vt)
  have hlen:(sz.map oi).length<=1000:=by rw[aaq];exact ad 112324465980 [_] [] n4
  have hL:∀m:Mu,aL TT m (.builtin "len") [.lst (sz.map oi)]=some (.int sz.length):=λm=>by rw[fX hlen m,aaq]
  exact bx [oA,oQ hL,oP λm=>mq (n:=sz.length) C.ok.1 (ad 100514706480 [_] [] hn) C.ok.2,oG (c:=((bN 0 cs).map lk).length<=1000) (by rw[aaq,fM];exact ad 112324506480 [_] [] hn),oS hf,oP λm=>Cw C.row hit C.fv C.fh,oV (ap (mt sz sk v b ed (.cells cs)))] (by kernel_rfl)
 |nd y=>
  refine⟨DJ rows sz sk mode amount v b it rep ed++[(aaQ "row",y.v)],?_,by kernel_rfl⟩
  cases y with
  |rule x1 y1 z1=>exact bx [oA,oA,oP λm=>Av (it:= .lst it) hx.1 hx.2.1 hx.2.2,oV (ap (uP b x1 y1 z1))] (by kernel_rfl)
  |kern w=>exact bx [oA,oA,oV (ap (.kern w))] (by kernel_rfl)
  |skip=>exact hx.elim
  |box=>exact hx.elim
noncomputable def aH(sz:List (Option Int))(sk:List Gl)(mode amount:Int)(v:Bool):Bx:=(da sz sk mode amount v).1
noncomputable def bu(sz:List (Option Int))(sk:List Gl)(mode amount:Int)(v:Bool):List Int:=gE (aH sz sk mode amount v) (aq sz sk v)
theorem vV(sz:List (Option Int))(sk:List Gl)(mode amount:Int)(v:Bool):(aH sz sk mode amount v).kind=2\/(aH sz sk mode amount v).kind=3:=by
 unfold aH da
 cases v
 ·exact .inl rfl
 ·exact .inr rfl
theorem Ax{rows:List Rw}{sz:List (Option Int)}{sk:List Gl}{mode amount:Int}{v:Bool}(P:oz sz sk mode amount v)(hu:(aH sz sk mode amount v).up.natAbs<2^63)(hd:0<(aH sz sk mode amount v).down)(hn:rows.length<=60)(hr:∀x∈rows,uR sz sk v (aH sz sk mode amount v) (bu sz sk mode amount v) x):
  RF (r+7) (.ref jb) [.lst (rows.map Rw.v),.lst (sz.map oi),.lst (sk.map Gl.v),.int mode,.int amount,.bool v] mu=some (.tup [.lst ((rows.map (mt sz sk v (aH sz sk mode amount v) (bu sz sk mode amount v))).map Nd.v),(da sz sk mode amount v).2.rep],mu):=by
 have n2:=P.n2
 have hok:=qp (v:=v) (sz:=sz) P.gl
 have hf:=bi (f:=cu TT (RF (r+6)) HT (bn cm) 55 (cG (ag 3 (aD cm))) (a6 (ag 3 (aD cm)))) Rw.v (λ(l:List Nd) x=>l++[mt sz sk v (aH sz sk mode amount v) (bu sz sk mode amount v) x])
  (λq0=>DJ rows sz sk mode amount v (aH sz sk mode amount v) ((aq sz sk v).map Nd.v) (da sz sk mode amount v).2.rep (bu sz sk mode amount v)) (λl=>[.lst (l.map Nd.v)]) (λl rest=>l.length+rest.length<=900/\∀x∈rest,uR sz sk v (aH sz sk mode amount v) (bu sz sk mode amount v) x)
  (λl x rest i=>⟨⟨by have:=i.1;rw[aaf] at this;simp;exact ad 433011620750483643267346200 [_,_] [] this,λy hy=>i.2 y (.tail _ hy)⟩,Aw (i.2 x (.head _)) (bJ hok) (by have:=i.1;rw[aaf] at this;exact ad 6594766780467346200 [_,_] [] this)⟩) rows [] ⟨by simp;exact ad 100514706480 [_] [] hn,hr⟩
 rw[gV,Ag,aa3] at hf
 have hrb:ab 0 (rows.map Rw.v)=true:=aQ λx hx=>by
  have:=hr x hx
  cases x with
  |cells l=>exact kv ((show j7 sz sk v _ _ l from this).ok.1)
  |nd y=>cases y with
   |rule a b c=>cases a<;>cases b<;>cases c<;>rfl
   |kern=>rfl
   |skip=>exact this.elim
   |box=>exact this.elim
 have hb:ab 0 [.lst (rows.map Rw.v),.lst (sz.map oi),.lst (sk.map Gl.v),.int mode,.int amount,.bool v]=true:=by
  simp only[ab,aG,hrb,ft,eP,abn]
 have ob:ab 0 ((rows.map (mt sz sk v (aH sz sk mode amount v) (bu sz sk mode amount v))).map Nd.v)=true:=by
  rw[aba]
  exact aQ λx hx=>ya (hr x hx)
 have hp:cX 0 (some 0) (.tup [.ref 0,(da sz sk mode amount v).2.rep]) [.lst ((rows.map (mt sz sk v (aH sz sk mode amount v) (bu sz sk mode amount v))).map Nd.v)]=some (.tup [.lst ((rows.map (mt sz sk v (aH sz sk mode amount v) (bu sz sk mode amount v))).map Nd.v),(da sz sk mode amount v).2.rep],[]):=
  aZ (su:=[(0,.lst ((rows.map (mt sz sk v (aH sz sk mode amount v) (bu sz sk mode amount v))).map Nd.v))]) (mu2:=[.dead]) (by rfl) (by rfl) rfl (by simp) (by show(ab 0 _&&true)=true;rw[ob];rfl) rfl
 exact aK tq rfl hb [oP λm=>x8 P,oP λm=>Fk (r:=r+3) (b:=aH sz sk mode amount v) (l:=aq sz sk v) (vV sz sk mode amount v) hu hd hok (by rw[kx];exact ad 6650822562841094580 [_] [] n2),oG (c:=(rows.map Rw.v).length<=1000) (by rw[aaq];exact ad 112324506480 [_] [] hn),oS hf,oV hp] (by kernel_rfl)
end
section
variable{r:Nat}{mu:Mu}
noncomputable def Lv(g:Gl):V:= .tup [.int g.w,.int g.s,.int g.so,.int g.k,.int g.ko]
noncomputable def od:Option Int->V
 |none=> .tup []
 |some x=> .tup [.int x]
noncomputable def qu:Nd->List V->V
 | .kern w,_=> .tup [.int 5,.int w,.int 1]
 | .skip g s,_=> .tup [.int 6,Lv g,.int s,.tup []]
 | .rule a b c,_=> .tup [.int 4,od a,od b,od c]
 | .box b _,jH=> .tup [.int b.kind,.int b.w,.int b.h,.int b.d,.int b.shift,.int b.sign,.int b.order,.tup [.int b.up,.int b.down],.tup jH]
theorem gg{d:Int}(h:d<=60):RF (r+1) (.ref fR) [.int d] mu=some (.none,mu):=aa n9 rfl [oB (fJ (a:=d) (b:=60) (ad 2811000883053 [] [_] h))] (by kernel_rfl)
theorem GI{g:Gl}:RF (r+1) (.ref gx) [g.v] mu=some (Lv g,mu):=aa p8 rfl [] (by kernel_rfl)
theorem j8{T:ba}{l:List V}(h:l.length<=1000)(m:Mu):aL T m (.type "tuple") [.lst l]=some (.tup l):=by
 have e:aL T m (.type "tuple") [.lst l]=if l.length<=1000 then some (.tup l) else none:=by kernel_rfl
 rw[e,if_pos h]
theorem Ay{w d:Int}(h:d<=60):RF (r+2) (.ref be) [(Nd.kern w).v,.int d] mu=some (qu (.kern w) [],mu):=
 aa eh rfl [oP λm=>gg h,oA,oA,oA,oA,oA,oA] (by kernel_rfl)
theorem Az{g:Gl}{s d:Int}(h:d<=60):RF (r+2) (.ref be) [(Nd.skip g s).v,.int d] mu=some (qu (.skip g s) [],mu):=
 aa eh rfl [oP λm=>gg h,oA,oA,oA,oA,oA,oA,oA,zS λm=>GI (g:=g),oA] (by kernel_rfl)
theorem AA{a b c:Option Int}{d:Int}(h:d<=60):RF (r+2) (.ref be) [(Nd.rule a b c).v,.int d] mu=some (qu (.rule a b c) [],mu):=by
 have hc:aW (dG TT (RF (r+1)) HT (bn eK) [(aaQ "node",(Nd.rule a b c).v),(aaQ "depth",.int d),(aaQ "kind",.int 4)] 46 (cT (aN 0 (ag 0 (ru (ag 5 (aD eK)))))) [] (cE (aN 0 (ag 0 (ru (ag 5 (aD eK)))))) (cN (aN 0 (ag 0 (ru (ag 5 (aD eK))))))) ([a,b,c].map oi) mu=some ([a,b,c].map od,mu):=
  bg (g:=od) λx hx=>by cases x<;>exact cM (n:=45) [oA] (by kernel_rfl)
 exact aa eh rfl [oP λm=>gg h,oA,oA,oA,oA,oA,oA,oL hc,oQ λm=>j8 (l:=[od a,od b,od c]) (by simp) m,oA] (by kernel_rfl)
theorem tF{b:Bx}{l jH:List V}{d:Int}(hb:b.kind=2\/b.kind=3)(h:d<=60)(hs:∀m,RF (r+2) (.ref bz) [.lst l,.int (d+1)] m=some (.tup jH,m)):RF (r+3) (.ref be) [(Nd.box b l).v,.int d] mu=some (qu (.box b l) jH,mu):=by
 obtain⟨kind,w,hh,dd,sh,si,o,u,dn⟩:=b
 rcases hb with hb|hb<;>cases hb
 ·exact aa eh rfl [oP λm=>gg h,oA,oA,oA,oA,oP hs,oA] (by kernel_rfl)
 ·exact aa eh rfl [oP λm=>gg h,oA,oA,oA,oA,oA,oP hs,oA] (by kernel_rfl)
theorem qv{α:Type}{xs:List α}{enc g:α->V}{d:Int}(hn:xs.length<=900)(h:∀x∈xs,∀m,RF r (.ref be) [enc x,.int d] m=some (g x,m)):RF (r+1) (.ref bz) [.lst (xs.map enc),.int d] mu=some (.tup (xs.map g),mu):=by
 have hc:aW (dG TT (RF r) HT (bn aY) [(aaQ "items",.lst (xs.map enc)),(aaQ "depth",.int d)] 54 (cT (aN 0 (ag 0 (aD aY)))) [] (cE (aN 0 (ag 0 (aD aY)))) (cN (aN 0 (ag 0 (aD aY))))) (xs.map enc) mu=some (xs.map g,mu):=
  bg λx hx=>cM (n:=53) [oP (h x hx)] (by kernel_rfl)
 exact aa gS rfl [oG (c:=(xs.map enc).length<=1000) (by rw[aaq];exact ad 112324457880 [_] [] hn),oL hc,oQ λm=>j8 (l:=xs.map g) (by rw[aaq];exact ad 112324457880 [_] [] hn) m] (by kernel_rfl)
theorem yb{α:Type}{xs:List α}{enc g:α->V}(hn:xs.length<=900)(h:∀x∈xs,∀m,RF r (.ref be) [enc x,.int 0] m=some (g x,m)):RF (r+1) (.ref bz) [.lst (xs.map enc)] mu=some (.tup (xs.map g),mu):=by
 have hc:aW (dG TT (RF r) HT (bn aY) [(aaQ "items",.lst (xs.map enc)),(aaQ "depth",.int 0)] 54 (cT (aN 0 (ag 0 (aD aY)))) [] (cE (aN 0 (ag 0 (aD aY)))) (cN (aN 0 (ag 0 (aD aY))))) (xs.map enc) mu=some (xs.map g,mu):=
  bg λx hx=>cM (n:=53) [oP (h x hx)] (by kernel_rfl)
 exact aa gS rfl [oG (c:=(xs.map enc).length<=1000) (by rw[aaq];exact ad 112324457880 [_] [] hn),oL hc,oQ λm=>j8 (l:=xs.map g) (by rw[aaq];exact ad 112324457880 [_] [] hn) m] (by kernel_rfl)
end
section
variable{r:Nat}{mu:Mu}
noncomputable def dt(s:Int×Int):List V:=[.int s.1,.int s.2]
noncomputable abbrev gF(s:Int×Int):Mu:=[.lst (dt s)]
theorem w5{x n:Int}(h:0<n):0<=x.fmod n/\x.fmod n<n:=⟨Int.fmod_nonneg_of_pos x h,Int.fmod_lt_of_pos x h⟩
theorem w6{d:Int}{s:Int×Int}:cX 1 (some 0) (.int d) [.lst (dt s)]=some (.int d,[.lst (dt s)]):=aZ (su:=[]) (mu2:=[.lst (dt s)]) (by rfl) rfl rfl (by simp) rfl rfl
theorem nX(rest:Mu){n:Int}(hn:0<n)(s:Int×Int):∃(d:Int)(s':Int×Int),RF (r+1) (.ref cj) [.ref 0,.int n] (.lst (dt s)::rest)=some (.int d,.lst (dt s')::rest)/\0<=d/\d<n:=by
 obtain⟨a,b⟩:=s
 by_cases ha:a>0
 ·refine⟨a.fmod n,(a.fdiv n,b),?_,w5 hn⟩
  exact gD (mu:= .lst (dt (a,b))::rest) (i:=0) (ws:=[.int n]) (l:=dt (a,b)) (l':=dt (a.fdiv n,b)) lW rfl rfl rfl rfl rfl rfl [oA,oB (jl ha),oA,oW (tz (a:=a) (b:=n) (ad 9064355424034 [] [_] hn)),oA,oW (qb (a:=a) (b:=n) (ad 9064355424034 [] [_] hn)),oA,oV (w6 (d:=a.fmod n) (s:=(a.fdiv n,b)))] (by kernel_rfl)
 ·refine⟨(((b*48271+11).fmod 2147483647).fdiv 16).fmod n,(a,(b*48271+11).fmod 2147483647),?_,w5 hn⟩
  exact gD (mu:= .lst (dt (a,b))::rest) (i:=0) (ws:=[.int n]) (l:=dt (a,b)) (l':=dt (a,(b*48271+11).fmod 2147483647)) lW rfl rfl rfl rfl rfl rfl [oA,oB (fJ ha),oA,oW (dU (a:=b) (b:=48271) (.inr (by decide))),oA,oA,oA,oA,oW (tz (a:=((b*48271+11).fmod 2147483647).fdiv 16) (b:=n) (ad 9064355424034 [] [_] hn)),oV (w6 (d:=(((b*48271+11).fmod 2147483647).fdiv 16).fmod n) (s:=(a,(b*48271+11).fmod 2147483647)))] (by kernel_rfl)
theorem ah{n:Int}(hn:0<n)(s:Int×Int):∃(d:Int)(s':Int×Int),RF (r+1) (.ref cj) [.ref 0,.int n] (gF s)=some (.int d,gF s')/\0<=d/\d<n:=nX [] hn s
structure rA(g:Gl):Prop where
 ok:lZ g
 w1: -3<=g.w
 w2:g.w<=26
 s1: -8<=g.s
 s2:g.s<=41
 k1: -4<=g.k
 k2:g.k<=15
theorem uS{a b c d e f:Int}{i:Int}(h0:0<=i)(h1:i<6):∃x,bP [] (.lst [.int a,.int b,.int c,.int d,.int e,.int f]) i=some (.int x)/\(x=a\/x=b\/x=c\/x=d\/x=e\/x=f):=by
 have:i=0\/i=1\/i=2\/i=3\/i=4\/i=5:=av 157298420296080531279747950654483163999861952460757108033 [] [_] h0 h1
 rcases this with rfl|rfl|rfl|rfl|rfl|rfl
 ·exact⟨a,rfl,.inl rfl⟩
 ·exact⟨b,rfl,.inr (.inl rfl)⟩
 ·exact⟨c,rfl,.inr (.inr (.inl rfl))⟩
 ·exact⟨d,rfl,.inr (.inr (.inr (.inl rfl)))⟩
 ·exact⟨e,rfl,.inr (.inr (.inr (.inr (.inl rfl))))⟩
 ·exact⟨f,rfl,.inr (.inr (.inr (.inr (.inr rfl))))⟩
theorem Cy{g:Gl}{s:Int×Int}:cX 1 (some 0) g.v [.lst (dt s)]=some (g.v,[.lst (dt s)]):=aZ (su:=[]) (mu2:=[.lst (dt s)]) (by rfl) rfl rfl (by simp) rfl rfl
theorem flow(s:Int×Int):∃(g:Gl)(s':Int×Int),RF (r+5) (.ref jc) [.ref 0] (gF s)=some (g.v,gF s')/\rA g:=by
 obtain⟨d1,s1,t1,a1,b1⟩:=ah (r:=r+3) (n:=30) (by decide) s
 obtain⟨d2,s2,t2,a2,b2⟩:=ah (r:=r+3) (n:=50) (by decide) s1
 obtain⟨d3,s3,t3,a3,b3⟩:=ah (r:=r+3) (n:=20) (by decide) s2
 obtain⟨d4,s4,t4,a4,b4⟩:=ah (r:=r+3) (n:=6) (by decide) s3
 obtain⟨d5,s5,t5,a5,b5⟩:=ah (r:=r+3) (n:=6) (by decide) s4
 obtain⟨x,i1,hx⟩:=uS (a:=0) (b:=0) (c:=0) (d:=1) (e:=2) (f:=3) a4 b4
 obtain⟨y,i2,hy⟩:=uS (a:=0) (b:=0) (c:=0) (d:=0) (e:=1) (f:=3) a5 b5
 have x0:0<=x/\x<=3:=ad 10859641187357186931152135207795517918681812923291631203957 [] [_] hx
 have y0:0<=y/\y<=3:=ad 10859641187357186931138626690412896865697163923291631203957 [] [_] hy
 refine⟨zY (d1-3) (d2-8) x (d3-4) y,s5,?_,⟨?_,?_,?_,?_,?_,?_,?_⟩⟩
 ·exact gD (mu:=gF s) (i:=0) (ws:=[]) (l:=dt s) (l':=dt s5) tr rfl rfl rfl rfl rfl rfl [oC t1,oC t2,oC t3,oC t4,oW i1,oC t5,oW i2,oP λm=>zZ (w:=d1-3) (s:=d2-8) (so:=x) (k:=d3-4) (ko:=y) ⟨ad 99247280107659033 [] [_] a1,ad 1160165295637654 [] [_] b1⟩ ⟨ad 146598673207659033 [] [_] a2,ad 1166011146661954 [] [_] b2⟩ ⟨ad 90637935907659033 [] [_] a3,ad 1159102413759154 [] [_] b3⟩ x0.1 x0.2 y0.1 y0.2,oV (Cy (g:=zY (d1-3) (d2-8) x (d3-4) y) (s:=s5))] (by kernel_rfl)
 ·unfold zY lZ
  dsimp only
  refine⟨?_,?_,?_,?_⟩<;>split<;>lia
 all_goals (unfold zY;dsimp only;lia)
inductive Pt where
 |kern (w:Int)
 |flow (g:Gl)
 |box (w h d s:Int)
noncomputable def Pt.v:Pt->V
 | .kern w=> .tup [.int 5,.int w]
 | .flow g=> .tup [.int 6,g.v]
 | .box w h d s=> .tup [.int 2,.int w,.int h,.int d,.int s]
noncomputable def yc:Pt->Prop
 | .kern w=> -6<=w/\w<=53
 | .flow g=>rA g
 | .box w h d s=>0<=w/\w<=49/\0<=h/\h<=11/\0<=d/\d<=5/\-2<=s/\s<=3
noncomputable def DK:Pt->Prop
 | .kern w=> -5000<=w/\w<=5000
 |p=>yc p
theorem yc.c{p:Pt}(h:yc p):DK p:=by
 cases p with
 |kern w=>exact⟨by have:=h.1;exact ad 254578154653173 [] [_] this,by have:=h.2;exact ad 171572888253 [] [_] this⟩
 |flow g=>exact h
 |box w h' d s=>exact h
theorem tG{p:Pt}{s:Int×Int}:cX 1 (some 0) p.v [.lst (dt s)]=some (p.v,[.lst (dt s)]):=by
 cases p<;>exact aZ (su:=[]) (mu2:=[.lst (dt s)]) (by rfl) rfl rfl (by simp) rfl rfl
theorem yd{a b c d:Int}{i:Int}(h0:0<=i)(h1:i<4):∃x,bP [] (.lst [.int a,.int b,.int c,.int d]) i=some (.int x)/\(x=a\/x=b\/x=c\/x=d):=by
 have:i=0\/i=1\/i=2\/i=3:=av 28030955395233238030557861952236370908033 [] [_] h0 h1
 rcases this with rfl|rfl|rfl|rfl
 ·exact⟨a,rfl,.inl rfl⟩
 ·exact⟨b,rfl,.inr (.inl rfl)⟩
 ·exact⟨c,rfl,.inr (.inr (.inl rfl))⟩
 ·exact⟨d,rfl,.inr (.inr (.inr rfl))⟩
theorem GJ(rest:Mu)(s:Int×Int):∃(p:Pt)(s':Int×Int),RF (r+6) (.ref jd) [.ref 0] (.lst (dt s)::rest)=some (p.v,.lst (dt s')::rest)/\yc p:=by
 obtain⟨d1,s1,t1,a1,b1⟩:=ah (r:=r+4) (n:=4) (by decide) s
 by_cases h0:d1=0
 ·obtain⟨d2,s2,t2,a2,b2⟩:=ah (r:=r+4) (n:=60) (by decide) s1
  refine⟨.kern (d2-6),s2,?_,by constructor<;>lia⟩
  exact gD (mu:= .lst (dt s)::rest) (i:=0) (ws:=[]) (l:=dt s) (l':=dt s2) jj rfl rfl rfl rfl rfl rfl [oC t1,oB (dl h0),oC t2,oV (tG (p:= .kern (d2-6)) (s:=s2))] (by kernel_rfl)
 ·by_cases h1:d1=1
  ·obtain⟨g,s2,t2,hg⟩:=flow (r:=r) s1
   refine⟨.flow g,s2,?_,hg⟩
   exact gD (mu:= .lst (dt s)::rest) (i:=0) (ws:=[]) (l:=dt s) (l':=dt s2) jj rfl rfl rfl rfl rfl rfl [oC t1,oB (cC h0),oB (dl h1),oC t2,oV (tG (p:= .flow g) (s:=s2))] (by kernel_rfl)
  ·obtain⟨d2,s2,t2,a2,b2⟩:=ah (r:=r+4) (n:=50) (by decide) s1
   obtain⟨d3,s3,t3,a3,b3⟩:=ah (r:=r+4) (n:=12) (by decide) s2
   obtain⟨d4,s4,t4,a4,b4⟩:=ah (r:=r+4) (n:=6) (by decide) s3
   obtain⟨d5,s5,t5,a5,b5⟩:=ah (r:=r+4) (n:=4) (by decide) s4
   obtain⟨x,i1,hx⟩:=yd (a:=0) (b:=0) (c:=3) (d:= -2) a5 b5
   refine⟨.box d2 d3 d4 x,s5,?_,by refine⟨?_,?_,?_,?_,?_,?_,?_,?_⟩<;>lia⟩
   exact gD (mu:= .lst (dt s)::rest) (i:=0) (ws:=[]) (l:=dt s) (l':=dt s5) jj rfl rfl rfl rfl rfl rfl [oC t1,oB (cC h0),oB (cC h1),oC t2,oC t3,oC t4,oC t5,oW i1,oV (tG (p:= .box d2 d3 d4 x) (s:=s5))] (by kernel_rfl)
noncomputable def Pt.nd:Pt->Nd
 | .kern w=> .kern w
 | .flow g=> .skip g 0
 | .box w h d s=> .box {nV 2 w h d with shift:=s} []
theorem DL{p:Pt}(h:DK p):er p.nd:=by
 cases p with
 |kern=>trivial
 |flow g=>exact rA.ok h
 |box=>exact⟨.inl rfl,rfl⟩
theorem Fs{p:Pt}(h:DK p):RF (r+5) (.ref je) [p.v] mu=some (p.nd.v,mu):=by
 cases p with
 |kern w=>exact aK jk rfl rfl [oA,oA,oA,oP λm=>z8 (w:=w) ⟨by have:=h.1;exact ad 251920949410173 [] [_] this,by have:=h.2;exact ad 142048072353 [] [_] this⟩,oA] (by kernel_rfl)
 |flow g=>exact aK jk rfl rfl [oA,oA,oA,oA,oA,oP λm=>iQ (g:=g) (s:=0) (.inl rfl),oA] (by kernel_rfl)
 |box w hh d s=>
  obtain⟨h1,h2,h3,h4,h5,h6,h7,h8⟩:=(show yc (.box w hh d s) from h)
  exact aK jk rfl rfl [oA,oA,oA,oA,oA,oA,oA,oC (xY (k:=2) (w:=w) (h:=hh) (d:=d) (items:= .lst []) (by decide) (by decide) ⟨ad 2799121659033 [] [_] h1,ad 142048323453 [] [_] h2⟩ ⟨ad 2799121659033 [] [_] h3,ad 142048331553 [] [_] h4⟩ ⟨ad 2799121659033 [] [_] h5,ad 142048080453 [] [_] h6⟩),oA,oV (mr (b:={nV 2 w hh d with shift:=s}) (l:=[]) rfl)] (by kernel_rfl)
end
section
variable{r:Nat}{mu:Mu}
structure QB(k:Int)(q:Q4):Prop where
 a: -k<=q.a/\q.a<=k
 b: -k<=q.b/\q.b<=k
 c: -k<=q.c/\q.c<=k
 d: -k<=q.d/\q.d<=k
theorem QB.add{k m i x:Int}{q:Q4}(h:QB k q)(hx: -m<=x/\x<=m):QB (k+m) (q.add i x):=by
 obtain⟨a,b,c,d⟩:=h
 have hm:0<=m:=ad 180938524734508029576 [] [_,_] hx
 unfold Q4.add
 split
 ·constructor<;>dsimp only<;>lia
 ·split
  ·constructor<;>dsimp only<;>lia
  ·split
   ·constructor<;>dsimp only<;>lia
   ·constructor<;>dsimp only<;>lia
theorem QB.mono{k m:Int}{q:Q4}(h:QB k q)(hm:k<=m):QB m q:=by
 obtain⟨a,b,c,d⟩:=h
 constructor<;>lia
theorem QB.at{k:Int}{q:Q4}(h:QB k q)(i:Int): -k<=q.at i/\q.at i<=k:=by
 obtain⟨a,b,c,d⟩:=h
 unfold Q4.at
 split
 ·exact a
 ·split
  ·exact b
  ·split
   ·exact c
   ·exact d
structure SB(k:Int)(s:NL):Prop where
 nat: -k<=s.t.nat/\s.t.nat<=k
 a:0<=s.a/\s.a<=k
 b:0<=s.b/\s.b<=k
 st:QB k s.t.st
 sk:QB k s.t.sk
noncomputable def DM(m:Int):Nd->Prop
 | .kern w=> -m<=w/\w<=m
 | .skip g _=>(-m<=g.w/\g.w<=m)/\(-m<=g.s/\g.s<=m)/\(-m<=g.k/\g.k<=m)
 | .box b _=>(-m<=b.w/\b.w<=m)/\(-m<=b.h/\b.h<=m)/\(0<=b.d/\b.d<=m)/\(-m<=b.shift/\b.shift<=m)
 | .rule .. =>False
theorem mv{a b k:Int}(h:0<=a/\a<=k)(hb:b<=k):0<=mx a b/\mx a b<=k:=by unfold mx;split<;>omega
theorem GK{k m:Int}{s:NL}{x:Nd}(h:SB k s)(hx:DM m x):SB (k+2*m) (gi s x):=by
 obtain⟨h1,h2,h3,h4,h5⟩:=h
 cases x with
 |kern w=>
  have hm:0<=m:=by have:=hx.1;have:=hx.2;lia
  exact⟨by show _<=s.t.nat+w/\s.t.nat+w<=_;have:=hx.1;have:=hx.2;lia,mv (b:=0) (av 8767337844313783058222980143316141112976 [] [_,_,_] h2 hm) (av 10358806081153140212928976014639576 [] [_,_,_] h1 hm),mv (b:=0) (av 8767337844313783058222980143316141112976 [] [_,_,_] h3 hm) (av 10358806081153140212928976014639576 [] [_,_,_] h1 hm),h4.mono (ad 2406410020815287133 [] [_,_] hm),h5.mono (ad 2406410020815287133 [] [_,_] hm)⟩
 |skip g so=>
  obtain⟨e1,e2,e3⟩:=hx
  exact⟨by show _<=s.t.nat+g.w/\s.t.nat+g.w<=_;exact av 1554801220483348675367330543576704140999357556597821592147816314639576 [] [_,_,_,_] h1 e1,mv (b:=0) (av 51770253236888457580500646686688870523949811112976 [] [_,_,_,_] h2 e1) (av 61167714028601157055055249962147816314639576 [] [_,_,_,_] h1 e1),mv (b:=0) (av 51770253236888457580500646686688870523949811112976 [] [_,_,_,_] h3 e1) (av 61167714028601157055055249962147816314639576 [] [_,_,_,_] h1 e1),(h4.add (i:=g.so) e2).mono (ad 115097845311694187840182705368576 [] [_,_,_] e1),(h5.add (i:=g.ko) e3).mono (ad 115097845311694187840182705368576 [] [_,_,_] e1)⟩
 |rule=>exact hx.elim
 |box b l=>
  obtain⟨e1,e2,e3,e4⟩:=hx
  exact⟨by show _<=s.t.nat+b.w/\s.t.nat+b.w<=_;exact av 1554801220483348675367330543576704140999357556597821592147816314639576 [] [_,_,_,_] h1 e1,mv (b:=b.h-b.shift) (av 51770253236888457580500646686688870523949811112976 [] [_,_,_,_] h2 e1) (dX 2819524016643404588905968040065943563120709482004423338709317576 [] [_,_,_,_,_] h1 e2 e4),mv (b:=b.d+b.shift) (av 51770253236888457580500646686688870523949811112976 [] [_,_,_,_] h3 e1) (dX 31328044629371082332512123572667287340341530290274778709317576 [] [_,_,_,_,_] h1 e3 e4),h4.mono (ad 14209610531912183677705368576 [] [_,_,_] e1),h5.mono (ad 14209610531912183677705368576 [] [_,_,_] e1)⟩
theorem AB{m:Int}:∀{l:List Nd}{s:NL}{k:Int},SB k s->(∀x∈l,DM m x)->SB (k+2*m*l.length) (l.foldl gi s):=by
 intro L0
 induction L0 with
 |nil=>
  intro s k h _
  simpa using h
 |cons x l ih=>
  intro s k h hl
  rw[abm]
  have:=ih (GK h (hl x (.head _))) λy hy=>hl y (.tail _ hy)
  rw[aaf,Int.natCast_add,Int.mul_add]
  rw[show k+(2*m*(l.length:Int)+2*m*((1:Nat):Int))=k+2*m+2*m*l.length by rw[show((1:Nat):Int)=1 from rfl,Int.mul_one];exact dk 13909378692704255767412500505 [] [_,_,_]]
  exact this
theorem GL{k m:Int}{s:NL}{x:Nd}(h:SB k s)(hb:s.b<=m)(hx:DM m x):SB (k+2*m) (dp s x)/\(dp s x).b<=m:=by
 obtain⟨h1,h2,h3,h4,h5⟩:=h
 cases x with
 |kern w=>
  have hm:0<=m:=by have:=hx.1;have:=hx.2;exact av 1465602825190563900545043 [] [_,_,_] hb h3
  exact⟨⟨by show _<=s.t.nat+(s.b+w)/\s.t.nat+(s.b+w)<=_;have:=hx.1;have:=hx.2;lia,mv (b:=0) (dX 419339051218796506402036707963115732797936301359561423 [] [_,_,_,_] hb h2 h3) (av 115097845346145571899789441553233 [] [_,_,_] hb h3),by show 0<=(0:Int)/\(0:Int)<=_;exact av 7551569633160918820500449736219441553233 [] [_,_,_] hb h3,h4.mono (av 115097845308488300368989441553233 [] [_,_,_] hb h3),h5.mono (av 115097845308488300368989441553233 [] [_,_,_] hb h3)⟩,hm⟩
 |skip g so=>
  obtain⟨e1,e2,e3⟩:=hx
  exact⟨⟨by show _<=s.t.nat+s.b+g.w/\s.t.nat+s.b+g.w<=_;exact tX 3556886483069900814196742509280797024325988109946064150906990175184408605396860821353372250953323 [] [_,_,_,_,_] hb h1 h3 e1,mv (b:=0) (dX 419339051218796506402036707963115732797936301359561423 [] [_,_,_,_] hb h2 h3) (av 115097845346145571899789441553233 [] [_,_,_] hb h3),by show 0<=(0:Int)/\(0:Int)<=_;exact av 7551569633160918820500449736219441553233 [] [_,_,_] hb h3,(h4.add (i:=g.so) e2).mono (av 932292547024722921118059489441553233 [] [_,_,_] hb h3),(h5.add (i:=g.ko) e3).mono (av 932292547024722921118059489441553233 [] [_,_,_] hb h3)⟩,by show(0:Int)<=m;exact av 1465602825190563900545043 [] [_,_,_] hb h3⟩
 |rule=>exact hx.elim
 |box b l=>
  obtain⟨e1,e2,e3,e4⟩:=hx
  exact⟨⟨by show _<=s.t.nat+(s.b+b.h)/\s.t.nat+(s.b+b.h)<=_;exact tX 3556886483069817937786089729575005735391073628870964537058597475184408605396860821353372250953323 [] [_,_,_,_,_] hb h1 h3 e2,mv (b:=b.w+b.shift) (dX 419339051218796506402036707963115732797936301359561423 [] [_,_,_,_] hb h2 h3) (dX 2819524016643397409926091121540055860630709482004423338709317576 [] [_,_,_,_,_] h1 e1 e4),by show 0<=b.d/\b.d<=_;exact av 575225035965427306450006338018315490293527999976 [] [_,_,_,_] h3 e3,h4.mono (av 115097845308488300368989441553233 [] [_,_,_] hb h3),h5.mono (av 115097845308488300368989441553233 [] [_,_,_] hb h3)⟩,e3.2⟩
theorem AC{m:Int}:∀{l:List Nd}{s:NL}{k:Int},SB k s->s.b<=m->(∀x∈l,DM m x)->SB (k+2*m*l.length) (l.foldl dp s)/\(l.foldl dp s).b<=m:=by
 intro L0
 induction L0 with
 |nil=>
  intro s k h hb _
  exact⟨by simpa using h,hb⟩
 |cons x l ih=>
  intro s k h hb hl
  rw[abm]
  have h1:=GL h hb (hl x (.head _))
  have:=ih h1.1 h1.2 λy hy=>hl y (.tail _ hy)
  rw[aaf,Int.natCast_add,Int.mul_add]
  rw[show k+(2*m*(l.length:Int)+2*m*((1:Nat):Int))=k+2*m+2*m*l.length by rw[show((1:Nat):Int)=1 from rfl,Int.mul_one];exact dk 13909378692704255767412500505 [] [_,_,_]]
  exact this
theorem J7:SB 0 ⟨t0,0,0⟩:=⟨by constructor<;>decide,by constructor<;>decide,by constructor<;>decide,by constructor<;>constructor<;>decide,by constructor<;>constructor<;>decide⟩
theorem GM{p:Pt}(h:yc p):DM 60 p.nd:=by
 cases p with
 |kern w=>exact⟨by have:=h.1;exact ad 252983831653173 [] [_] this,by have:=h.2;exact ad 153858188253 [] [_] this⟩
 |flow g=>obtain⟨_,_,_,_,_,_,_⟩:=h;exact⟨av 59607617561193721257277161573 [] [_] w1 w2,av 59607617561193729760333250673 [] [_] s1 s2,av 59607617561193735074743145373 [] [_] k1 k2⟩
 |box w hh d s=>obtain⟨h1,h2,h3,h4,h5,h6,h7,h8⟩:=h;exact⟨by show _<=w/\w<=_;exact av 662306861791041512640279033 [] [_] h1 h2,by show _<=hh/\hh<=_;exact av 662306861791041518545179033 [] [_] h3 h4,by show _<=d/\d<=_;exact av 7358965092271255893279033 [] [_] h5 h6,by show _<=s/\s<=_;exact av 59607617561193716474308129173 [] [_] h7 h8⟩
noncomputable def bB(v:Bool)(spans:Int)(ps:List Pt):Ce:=
 if v=true then⟨(ar (ps.map Pt.nd)).a,(ar (ps.map Pt.nd)).t.nat+(ar (ps.map Pt.nd)).b,0,ps.map Pt.nd,spans,(ar (ps.map Pt.nd)).t.wid (ar (ps.map Pt.nd)).b,true⟩
 else⟨(az (ps.map Pt.nd)).t.nat,(az (ps.map Pt.nd)).a,(az (ps.map Pt.nd)).b,ps.map Pt.nd,spans,(az (ps.map Pt.nd)).t,false⟩
theorem Ft{p:Pt}(h:DK p):DM 5000 p.nd:=by
 cases p with
 |kern w=>exact⟨by have:=h.1;exact ad 254578154410173 [] [_] this,by have:=h.2;exact ad 171572572353 [] [_] this⟩
 |flow g=>obtain⟨_,_,_,_,_,_,_⟩:=(show rA g from h);exact⟨av 66470655402285553287277161573 [] [_] w1 w2,av 66470655402285561790333250673 [] [_] s1 s2,av 66470655402285567104743145373 [] [_] k1 k2⟩
 |box w hh d s=>obtain⟨h1,h2,h3,h4,h5,h6,h7,h8⟩:=(show yc (.box w hh d s) from h);exact⟨by show _<=w/\w<=_;exact av 738562837803172979640279033 [] [_] h1 h2,by show _<=hh/\hh<=_;exact av 738562837803172985545179033 [] [_] h3 h4,by show _<=d/\d<=_;exact av 8206253701714255893279033 [] [_] h5 h6,by show _<=s/\s<=_;exact av 66470655402285548504308129173 [] [_] h7 h8⟩
structure GN(k:Int)(c:Ce):Prop where
 w: -k<=c.w/\c.w<=k
 h: -k<=c.h/\c.h<=k
 d:0<=c.d/\c.d<=k
 st:QB k c.tt.st
 sk:QB k c.tt.sk
theorem vW{m:Int}{n:Nat}(h0:0<=m)(h:n<=2):2*m*n<=4*m:=by
 have:n=0\/n=1\/n=2:=ad 407270191618976532150252780 [_] [] h
 rcases this with rfl|rfl|rfl<;>simp<;>lia
theorem uT{m:Int}{v:Bool}{spans:Int}{ps:List Pt}(h0:0<=m)(hl:∀x∈ps.map Pt.nd,DM m x)(hn:ps.length<=2):GN (5*m) (bB v spans ps):=by
 have h1:=AB J7 hl
 have h2:=AC J7 h0 hl
 have hb2:=h2.2
 have h2:=h2.1
 rw[aaq] at h1 h2
 have hk:=vW h0 hn
 generalize 2*m*(ps.length:Int)=k at h1 h2 hk
 obtain⟨a1,a2,a3,a4,a5⟩:=h1
 obtain⟨b1,b2,b3,b4,b5⟩:=h2
 change _<=(az _).t.nat/\(az _).t.nat<=_ at a1
 change _<=(az _).a/\(az _).a<=_ at a2
 change _<=(az _).b/\(az _).b<=_ at a3
 change QB _ (az _).t.st at a4
 change QB _ (az _).t.sk at a5
 change _<=(ar _).t.nat/\(ar _).t.nat<=_ at b1
 change _<=(ar _).a/\(ar _).a<=_ at b2
 change _<=(ar _).b/\(ar _).b<=_ at b3
 change QB _ (ar _).t.st at b4
 change QB _ (ar _).t.sk at b5
 change (ar _).b<=_ at hb2
 unfold bB
 split
 ·exact⟨by dsimp only;exact av 38289724686400481737878760948426452775294425775833 [] [_,_,_] hk b2,by dsimp only;exact tX 517237540981761222333174680592647002800321674768717131345226823642243186993912165775923 [] [_,_,_,_] hk b1 b3 hb2,by dsimp only;exact ad 16737413297827851546033 [] [_] h0,by exact b4.mono (av 14489216363844626836841087133 [] [_,_] h0 hk),by exact b5.mono (av 14489216363844626836841087133 [] [_,_] h0 hk)⟩
 ·exact⟨by dsimp only;exact av 27913209296385951186913616731402883729909149902165775833 [] [_,_,_] hk a1,by dsimp only;exact av 38289724686400481737878760948426452775294425775833 [] [_,_,_] hk a2,by dsimp only;exact av 62371323339577881539633953020626612391385833 [] [_,_,_] hk a3,by exact a4.mono (av 14489216363844626836841087133 [] [_,_] h0 hk),by exact a5.mono (av 14489216363844626836841087133 [] [_,_] h0 hk)⟩
theorem Cz{v:Bool}{spans:Int}{ps:List Pt}(hp:∀p∈ps,yc p)(hn:ps.length<=2):GN 300 (bB v spans ps):=
 uT (m:=60) (by decide) (λx hx=>by obtain⟨p,h,rfl⟩:=aak.mp hx;exact GM (hp p h)) hn
theorem uU{v:Bool}{spans:Int}{ps:List Pt}(hp:∀p∈ps,DK p)(hn:ps.length<=2):GN 25000 (bB v spans ps):=
 uT (m:=5000) (by decide) (λx hx=>by obtain⟨p,h,rfl⟩:=aak.mp hx;exact Ft (hp p h)) hn
theorem w7{v:Bool}{spans:Int}{ps:List Pt}(hp:∀p∈ps,DK p)(h1:1<=spans):vO (bB v spans ps):=by
 have hl:∀x∈ps.map Pt.nd,er x:=λx hx=>by obtain⟨p,h,rfl⟩:=aak.mp hx;exact DL (hp p h)
 unfold bB
 split
 ·exact⟨hl,h1⟩
 ·exact⟨hl,h1⟩
theorem cell{v:Bool}{spans:Int}{ps:List Pt}(hp:∀p∈ps,DK p)(hn:ps.length<=2)(h1:1<=spans)(h2:spans<=2147483647):RF (r+6) (.ref jf) [.lst (ps.map Pt.v),.int spans,.bool v] mu=some ((bB v spans ps).v,mu):=by
 have hc:∀L:au,L=[(aaQ "parts",.lst (ps.map Pt.v)),(aaQ "spans",.int spans),(aaQ "upright",.bool v)]->aW (dG TT (RF (r+5)) HT (bn fH) L 56 (cT (aN 0 (ag 0 (aD fH)))) [] (cE (aN 0 (ag 0 (aD fH)))) (cN (aN 0 (ag 0 (aD fH))))) (ps.map Pt.v) []=some ((ps.map Pt.nd).map Nd.v,[]):=by
  rintro L rfl
  rw[aba]
  exact bg (g:=Nd.v∘Pt.nd) λp h=>cM (n:=55) [oP λm=>Fs (hp p h)] (by kernel_rfl)
 have hl:∀x∈ps.map Pt.nd,er x:=λx hx=>by obtain⟨p,h,rfl⟩:=aak.mp hx;exact DL (hp p h)
 have hnn:(ps.map Pt.nd).length<=1000:=by rw[aaq];exact ad 112324449780 [_] [] hn
 have hg:(ps.map Pt.v).length<=1000:=by rw[aaq];exact ad 112324449780 [_] [] hn
 have hb:ab 0 [.lst (ps.map Pt.v),.int spans,.bool v]=true:=by
  have:ab 0 (ps.map Pt.v)=true:=aQ λp q0=>by cases p<;>rfl
  simp only[ab,aG,this,abn]
 have B:=uU (v:=v) (spans:=spans) hp hn
 have hok:=qj (c:=bB v spans ps) (by unfold bB;split<;>exact hl)
 cases v with
 |false=>
  have JI:cX 0 (some 0) (.ref 0) [.obj bH (xZ (bB false spans ps) (bB false spans ps).tt.v)]=some ((bB false spans ps).v,[]):=
   aZ (su:=[(0,(bB false spans ps).v)]) (mu2:=[.dead]) (by rfl) (by rfl) rfl (by simp) hok rfl
  exact aK lX rfl hb [oG hg,oL (hc _ rfl),oP λm=>ml hl hnn,oC (Ff (r:=r+1) (c:=bB false spans ps) ⟨by have:=B.w;exact ad 16528534578129888186576 [] [_] this,by have:=B.w;exact ad 838779614607888186576 [] [_] this⟩ ⟨by have:=B.h;exact ad 16528534578129888186576 [] [_] this,by have:=B.h;exact ad 838779614607888186576 [] [_] this⟩ ⟨by have:=B.d;exact ad 183650384201443112976 [] [_] this,by have:=B.d;exact ad 9319773495643112976 [] [_] this⟩ h1 h2 rfl),oV JI] (by kernel_rfl)
 |true=>
  have e0:∀u,jH 0 u (.lst ((ps.map Pt.nd).map Nd.v))= .lst ((ps.map Pt.nd).map Nd.v):=λu=>fo (bJ hl)
  have JI:cX 0 (some 0) (.ref 1) [.obj aU (vL (bB true spans ps).tt.nat (.lst (bB true spans ps).tt.st.l) (.lst (bB true spans ps).tt.sk.l)),.obj bH (xZ (bB true spans ps) (.ref 0))]=some ((bB true spans ps).v,[]):=by
   refine aZ (su:=[(0,(bB true spans ps).tt.v),(1,(bB true spans ps).v)]) (mu2:=[.dead,.dead]) ?_ (by rfl) rfl (by simp) hok rfl
   have e1:qV 0 (bB true spans ps).tt.v (xZ (bB true spans ps) (.ref 0))=xZ (bB true spans ps) (bB true spans ps).tt.v:=by
    have:=e0 (bB true spans ps).tt.v
    unfold xZ
    simp only[qV]
    rw[show jH 0 (bB true spans ps).tt.v (.lst ((bB true spans ps).items.map Nd.v))= .lst ((bB true spans ps).items.map Nd.v) from this]
    rfl
   show((0,(bB true spans ps).tt.v)::(1,V.obj bH (qV 0 (bB true spans ps).tt.v (xZ (bB true spans ps) (.ref 0))))::[],_)=_
   rw[e1]
   rfl
  exact aK lX rfl hb [oG hg,oL (hc _ rfl),oC (j4 (r:=r+1) hl hnn),oN (cH (r:=r+4) (n:=(ar (ps.map Pt.nd)).t.nat) (x:=(ar (ps.map Pt.nd)).b) (A:= .lst (ar (ps.map Pt.nd)).t.st.l) (B:= .lst (ar (ps.map Pt.nd)).t.sk.l) (rest:=[])),oC (Fg (r:=r+1) (m0:= .obj aU (vL (bB true spans ps).tt.nat (.lst (bB true spans ps).tt.st.l) (.lst (bB true spans ps).tt.sk.l))) (c:=bB true spans ps) ⟨by have:=B.w;exact ad 16528534578129888186576 [] [_] this,by have:=B.w;exact ad 838779614607888186576 [] [_] this⟩ ⟨by have:=B.h;exact ad 16528534578129888186576 [] [_] this,by have:=B.h;exact ad 838779614607888186576 [] [_] this⟩ ⟨by have:=B.d;exact ad 183650384201443112976 [] [_] this,by have:=B.d;exact ad 9319773495643112976 [] [_] this⟩ h1 h2 rfl),oV JI] (by kernel_rfl)
end
section
variable{r:Nat}{mu:Mu}
structure PC where
 f:Nat
 l:Nat
 ps:List Pt
noncomputable def PC.v(p:PC):V:= .tup [.int p.f,.int p.l,.lst (p.ps.map Pt.v)]
theorem AD(p:Pt):aG 0 p.v=true:=by cases p<;>rfl
theorem AE(p:PC):aG 0 p.v=true:=by
 simp only[PC.v,aG,ab,aQ λx (_:x∈p.ps)=>AD x,abn]
theorem fN(l:List PC):ab 0 (l.map PC.v)=true:=aQ λp q0=>AE p
noncomputable def cO{α:Type}:Nat->List α->List (Nat×α)
 |_,[]=>[]
 |k,x::l=>(k,x)::cO (k+1) l
noncomputable def GO{α:Type}(enc:α->V)(p:Nat×α):V:= .tup [.int p.1,enc p.2]
theorem gH{α:Type}(enc:α->V):∀(l:List α)(k:Nat),fD k (l.map enc)=(cO k l).map (GO enc):=by
 intro L0
 induction L0 with
 |nil=>
  intro _
  exact rfl
 |cons x l ih=>
  intro k
  rw[aaX,fD,cO,aaX,ih];rfl
theorem eQ{α:Type}:∀(l:List α)(k:Nat),(cO k l).length=l.length:=by
 intro L0
 induction L0 with
 |nil=>
  intro _
  exact rfl
 |cons x l ih=>
  intro k
  rw[cO,aaf,aaf,ih]
noncomputable def m6(s:List PC×Nat)(p:Nat×Option Int):List PC×Nat:=match p.2 with
 |none=>s
 |some w=>(s.1++[⟨s.2,p.1,[.kern w]⟩],p.1+1)
noncomputable def bR(sz:List (Option Int)):List PC:=((cO 0 sz).foldl m6 ([],0)).1
theorem GP{sz:List (Option Int)}(hn:sz.length<=400):RF (r+1) (.ref ig) [.lst (sz.map oi)] mu=some (.lst ((bR sz).map PC.v),mu):=by
 have hf:=bi (f:=cu TT (RF r) HT (bn gd) 57 (cG (ag 1 (aD gd))) (a6 (ag 1 (aD gd)))) (GO oi) m6
  (λs=>[(aaQ "sizes",.lst (sz.map oi)),(aaQ "row",.ref 0),(aaQ "first",.int s.2)]) (λs=>[.lst (s.1.map PC.v)]) (λs l=>s.1.length+l.length<=900)
  (λs p rest i=>by
   rw[aaf] at i
   obtain⟨k,o⟩:=p
   cases o with
   |none=>exact⟨by show s.1.length+rest.length<=900;exact ad 53453179717431267346200 [_,_] [] i,[(aaQ "sizes",.lst (sz.map oi)),(aaQ "row",.ref 0),(aaQ "first",.int s.2),(aaQ "column",.int k),(aaQ "size",.none)],bx [oA] (by kernel_rfl),by kernel_rfl⟩
   |some w=>
    have ap:dJ (RF r) (.ref 0) [.tup [.int s.2,.int k,.lst [.tup [.int 5,.int w]]]] [.lst (s.1.map PC.v)] (.app 0)=some (.none,[.lst ((m6 s (k,some w)).1.map PC.v)]):=cL rfl (by rw[aaq];exact ad 7369607758467346200 [_,_] [] i) (by simp only[m6,abk];rfl)
    exact⟨by show(s.1++[_]).length+rest.length<=900;rw[aap];simp;exact ad 433011620750483643267346200 [_,_] [] i,[(aaQ "sizes",.lst (sz.map oi)),(aaQ "row",.ref 0),(aaQ "first",.int ((k:Int)+1)),(aaQ "column",.int k),(aaQ "size",.int w)],bx [oA,oV ap] (by kernel_rfl),by kernel_rfl⟩) (cO 0 sz) ([],0) (by rw[eQ];simp;exact ad 100514714580 [_] [] hn)
 rw[<-gH] at hf
 have hg:(fD 0 (sz.map oi)).length<=1000:=by rw[gH,aaq,eQ];exact ad 112324514580 [_] [] hn
 exact aK rm rfl (by simp only[ab,aG,ft,abn]) [oG hg,oS hf,oV (qi (fN (bR sz)))] (by kernel_rfl)
set_option backward.match.sparseCases false in
noncomputable def Mh:Stmt->Expr
 | .While t _ _ _=>t
 |_=> .Constant .none 0 ⟨0,0,0,0⟩
noncomputable def Lw:Stmt->List Stmt
 | .While _ b _ _=>b
 |_=>[]
theorem sE{T:ba}{F:bM}{hint:Nat->Nat->Bool}{nm:ae}{n:Nat}{loc:au}{t:Expr}{mu mu':Mu}{c:Bool}(obs:List (Ob T F))(h:dT T F hint nm loc n t mu (obs.map Ob.an)=some ((c,mu'),[],mR obs)):oY T F hint nm loc n t mu=some (c,mu'):=(vI n).t _ _ _ _ _ _ _ _ h (eB obs)
theorem bK{T:ba}{F:bM}{hint:Nat->Nat->Bool}{nm:ae}{n:Nat}{loc loc':au}{b:List Stmt}{mu mu':Mu}{fl:Fl}(obs:List (Ob T F))(h:dB T F hint nm n b loc mu (obs.map Ob.an)=some ((fl,loc',mu'),[],mR obs)):g6 T F hint nm n b loc mu=some (fl,loc',mu'):=(tw n).2 _ _ _ _ _ _ _ _ h (eB obs)
theorem Fu{F:bM}{i:Nat}{l:List V}{k:Int}{v:V}{mu mu':Mu}(h:mu[i]? =some (.lst l))(h0:0<=k)(h1:k<1000)(hl:l.length<=1000)(hv:l[k.toNat]? =some v)(e:mu.set i (.lst (l.eraseIdx k.toNat))=mu'):dJ F (.ref i) [.int k] mu (.pop i)=some (v,mu'):=by
 show((oh mu i).bind λl=>if 0<=k/\k<2^62/\l.length<=1000 then(l[k.toNat]?).map λv=>(v,mu.set i (.lst (l.eraseIdx k.toNat))) else none)=_
 rw[mV h]
 show(if 0<=k/\k<2^62/\l.length<=1000 then(l[k.toNat]?).map λv=>(v,mu.set i (.lst (l.eraseIdx k.toNat))) else none)=_
 rw[if_pos ⟨h0,ad 236527144654 [] [_] h1,hl⟩,hv,<-e]
 rfl
noncomputable abbrev Fv(n:Int):au:=[(aaQ "box",.ref 0),(aaQ "many",.int n),(aaQ "rest",.ref 1),(aaQ "found",.ref 2)]
noncomputable abbrev aV(k:Nat):V:= .int k
noncomputable abbrev vX(s:Int×Int)(rest found:List Nat):Mu:=[.lst (dt s),.lst (rest.map aV),.lst (found.map aV)]
theorem AF{mu:Mu}{i:Nat}{l:List V}(h:mu[i]? =some (.lst l)):b9 mu .NotEq (.ref i) (.lst [])=some (!l.isEmpty):=by
 show(((oh mu i).map (·.isEmpty)).map (!·))=_
 rw[mV h];rfl
theorem gX(l:List Nat):ab 0 (l.map aV)=true:=aQ λp q0=>rfl
theorem CA{T:ba}{l:List V}{m:Mu}{i:Nat}(e:m[i]? =some (.lst l))(h:l.length<=1000):aL T m (.builtin "len") [.ref i]=some (.int l.length):=by
 have e0:aL T m (.builtin "len") [.ref i]=(BQ m (.ref i)).map V.int:=by kernel_rfl
 rw[e0]
 show((oh m i).bind λl=>if l.length<=1000 then some (l.length:Int) else none).map V.int=_
 rw[mV e]
 show(if l.length<=1000 then some (l.length:Int) else none).map V.int=_
 rw[if_pos h];rfl
theorem sF{α β:Type}(f:α->β):∀(l:List α)(j:Nat),(l.map f).eraseIdx j=(l.eraseIdx j).map f
 |[],_=>rfl
 |x::l,0=>rfl
 |x::l,j+1=>by rw[aaX,List.eraseIdx_cons_succ,List.eraseIdx_cons_succ,aaX,sF f l]
theorem qw{α:Type}(d:α):∀(l:List α)(j:Nat),j<l.length->l.Perm (l.getD j d::l.eraseIdx j)
 |[],_,h=>absurd h (aad _)
 |x::l,0,_=>List.Perm.refl _
 |x::l,j+1,h=>by
  rw[List.eraseIdx_cons_succ,abA]
  exact((qw d l j (by simpa using h)).cons x).trans (List.Perm.swap _ _ _)
theorem vY{n:Int}:∀(k:Nat)(rest found:List Nat)(s:Int×Int),rest.length<k->rest.length+found.length<=900->∃(s':Int×Int)(found':List Nat),
  jO (λloc mu=>oY TT (RF (r+1)) HT (bn cU) loc 57 (Mh (ag 1 (aD cU))) mu) (λloc mu=>g6 TT (RF (r+1)) HT (bn cU) 57 (Lw (ag 1 (aD cU))) loc mu) k (Fv n) (vX s rest found)=some (.next,Fv n,vX s' [] found')/\(rest++found).Perm found':=by
 intro L0
 induction L0 with
 |zero=>
  intro rest found s h _
  lia
 |succ k ih=>
  intro rest found s h hb
  rw[jO]
  cases rest with
  |nil=>
   rw[sE (mu':=vX s [] found) (c:=false) [oB (AF (mu:=vX s [] found) (i:=1) (l:=[]) rfl)] (by kernel_rfl)]
   exact⟨s,found,rfl,List.Perm.refl _⟩
  |cons x xs=>
   rw[sE (mu':=vX s (x::xs) found) (c:=true) [oB (AF (mu:=vX s (x::xs) found) (i:=1) (l:=(x::xs).map aV) rfl)] (by kernel_rfl)]
   have hl:((x::xs).map aV).length=(x::xs).length:=aaq _
   obtain⟨d,s1,t1,a1,b1⟩:=nX (r:=r) [.lst ((x::xs).map aV),.lst (found.map aV)] (n:=(((x::xs).map aV).length:Nat)) (by rw[hl];simp) s
   rw[hl] at b1
   obtain⟨j,rfl⟩:∃j:Nat,d=j:=⟨d.toNat,av 20139242480214588775767145039202037560505033 [_] [_] a1 (tn _)⟩
   have hj:j<(x::xs).length:=ad 144558056662564 [_,_] [] b1
   have hn:(x::xs).length<=900:=ad 814168729573200 [_,_] [] hb
   have hget:=bk (d:=0) hj
   have p1:dJ (RF (r+1)) (.ref 1) [.int j] (vX s1 (x::xs) found) (.pop 1)=some (aV ((x::xs).getD j 0),vX s1 ((x::xs).eraseIdx j) found):=
    Fu rfl (dk 1491933 [_] []) (av 69109634543163652762564 [_,_] [] b1 hn) (by rw[hl];exact ad 112324457880 [_] [] hn) (by rw[show(j:Int).toNat=j from rfl,aaE,hget];rfl) (by rw[show(j:Int).toNat=j from rfl,sF];rfl)
   have p2:dJ (RF (r+1)) (.ref 2) [aV ((x::xs).getD j 0)] (vX s1 ((x::xs).eraseIdx j) found) (.app 2)=some (.none,vX s1 ((x::xs).eraseIdx j) (found++[(x::xs).getD j 0])):=
    cL rfl (by rw[aaq];exact ad 909828108852300 [_,_] [] hb) (by show _=[MO.lst (dt s1),MO.lst (((x::xs).eraseIdx j).map aV),MO.lst ((found++[(x::xs).getD j 0]).map aV)];rw[abk];rfl)
   have hlen:aL TT (vX s (x::xs) found) (.builtin "len") [.ref 1]=some (.int (((x::xs).map aV).length:Nat)):=CA rfl (by rw[hl];exact ad 112324457880 [_] [] hn)
   have bd:=bK (T:=TT) (F:=RF (r+1)) (hint:=HT) (nm:=bn cU) (n:=57) (loc:=Fv n) (b:=Lw (ag 1 (aD cU))) (mu:=vX s (x::xs) found) (fl:= .next) (loc':=Fv n) (mu':=vX s1 ((x::xs).eraseIdx j) (found++[(x::xs).getD j 0])) [oV (wY (F:=RF (r+1)) hlen),oC t1,oV p1,oV p2] (by kernel_rfl)
   dsimp only
   rw[bd]
   dsimp only
   have hr:dx (Fv n) (Fv n)=Fv n:=by kernel_rfl
   rw[hr]
   have he:((x::xs).eraseIdx j).length+1=(x::xs).length:=by rw[List.length_eraseIdx_of_lt hj];exact av 2046168819037678321078452581862817882485498680078764 [_,_,_] [] b1 (su _ _)
   obtain⟨s2,f2,h2,pm⟩:=ih ((x::xs).eraseIdx j) (found++[(x::xs).getD j 0]) s1 (av 853601303556519676137361 [_,_,_] [] h he) (by rw[aap,aax];exact av 318108662688829880609709807389400 [_,_,_] [] hb he)
   refine⟨s2,f2,h2,List.Perm.trans ?_ pm⟩
   have q1:(x::xs).Perm ((x::xs).getD j 0::(x::xs).eraseIdx j):=qw 0 _ j hj
   refine(q1.append_right found).trans ?_
   rw[aa6]
   exact(List.perm_middle (a:=(x::xs).getD j 0) (l₁:=(x::xs).eraseIdx j) (l₂:=found)).symm.trans ((List.perm_append_comm (l₁:=[(x::xs).getD j 0]) (l₂:=found)).append_left _)
theorem order{n:Nat}(hn:n<=90)(s:Int×Int):∃(o:List Nat)(s':Int×Int),RF (r+2) (.ref ii) [.ref 0,.int n] (gF s)=some (.lst (o.map aV),gF s')/\(aaa n).Perm o:=by
 obtain⟨s',o,h,pm⟩:=vY (r:=r) (n:=n) 100 (aaa n) [] s (by simp;exact ad 283567529880 [_] [] hn) (by simp;exact ad 100514900880 [_] [] hn)
 rw[abb] at pm
 refine⟨o,s',?_,pm⟩
 have g1:(-1000:Int)<=n/\(n:Int)<=1000:=ad 6219866656953679578284880 [_] [] hn
 have hp:cX 1 (some 0) (.ref 2) (vX s' [] o)=some (.lst (o.map aV),gF s'):=
  aZ (su:=[(1,.lst []),(2,.lst (o.map aV))]) (mu2:=[.lst (dt s'),.dead,.dead]) (by
   have e:=eM (j:=1) (u:= .lst []) (gX o)
   show((1,V.lst [])::(2,V.lst (b8 1 (.lst []) (o.map aV)))::[],[fB 2 _ (fB 1 _ (.lst (dt s'))),_,_])=_
   rw[e]
   rfl) (by rfl) rfl (by simp) (fF (m:=0) (by decide) (gX o)) rfl
 rw[show(vX s (aaa n) []:Mu)=[.lst (dt s),.lst (aM 0 n),.lst []] by rw[bY];rfl] at h
 exact gD (mu:=gF s) (i:=0) (ws:=[.int n]) (l:=dt s) (l':=dt s') rn rfl rfl rfl rfl rfl (gX o) [oG g1,oS h,oV hp] (by kernel_rfl)
end
section
variable{r:Nat}{mu:Mu}
noncomputable def bZ(kept:List Nat)(p:PC):PC:=⟨(kept.filter λk=>decide (k<p.f)).length,(kept.filter λk=>decide (k<=p.l)).length-1,p.ps⟩
noncomputable abbrev a7(l:List PC):V:= .lst (l.map PC.v)
noncomputable abbrev DN:Expr:=aN 0 (ag 0 (aD ge))
noncomputable abbrev DO:Expr:=cE DN
noncomputable abbrev DP(k:Nat):Expr:=vN k (fq 9 (cE DO))
noncomputable abbrev GQ:ae:=bE (bn ge) (cN DN)
noncomputable abbrev GR:ae:=bE GQ (cN DO)
noncomputable abbrev Lx(rows:List (List PC))(kept:List Nat):au:=[(aaQ "rows",.lst (rows.map a7)),(aaQ "kept",.lst (kept.map aV))]
noncomputable abbrev Ly(rows:List (List PC))(kept:List Nat)(row:List PC):au:=(cv (cN DN) (cT DN) (a7 row) (f8 (cN DN) (Lx rows kept))).getD []
noncomputable abbrev Lz(rows:List (List PC))(kept:List Nat)(row:List PC)(p:PC):au:=(cv (cN DO) (cT DO) p.v (f8 (cN DO) (Ly rows kept row))).getD []
theorem eS{α:Type}(f:α->V)(q:α->Bool):∀l:List α,(l.flatMap λx=>if q x=true then[f x] else[])=(l.filter q).map f:=by
 intro L0
 induction L0 with
 |nil=>
  exact rfl
 |cons x l ih=>
  rw[abg,ih,List.filter_cons]
  cases q x<;>rfl
theorem Kr{rows:List (List PC)}{kept:List Nat}{row:List PC}{p:PC}:aW (dG TT (RF r) HT GR (Lz rows kept row p) 48 (cT (DP 0)) (cI (DP 0)) (cE (DP 0)) (cN (DP 0))) (kept.map aV) mu=some ((kept.filter λk=>decide (k<p.f)).map aV,mu):=by
 rw[<-eS]
 refine eN λk q0=> ?_
 by_cases h:k<p.f
 ·rw[decide_eq_true h,if_pos rfl]
  exact gj (n:=47) [oB (mT (a:=(k:Int)) (b:=(p.f:Int)) (ad 145626909180481 [_,_] [] h))] (by kernel_rfl)
 ·rw[decide_eq_false h,if_neg (by decide)]
  exact gj (n:=47) [oB (mU (a:=(k:Int)) (b:=(p.f:Int)) (ad 1179577964690683298 [_,_] [] h))] (by kernel_rfl)
theorem Ks{rows:List (List PC)}{kept:List Nat}{row:List PC}{p:PC}:aW (dG TT (RF r) HT GR (Lz rows kept row p) 46 (cT (DP 1)) (cI (DP 1)) (cE (DP 1)) (cN (DP 1))) (kept.map aV) mu=some ((kept.filter λk=>decide (k<=p.l)).map aV,mu):=by
 rw[<-eS]
 refine eN λk q0=> ?_
 by_cases h:k<=p.l
 ·rw[decide_eq_true h,if_pos rfl]
  exact gj (n:=45) [oB (tx (a:=(k:Int)) (b:=(p.l:Int)) (ad 145626908451480 [_,_] [] h))] (by kernel_rfl)
 ·rw[decide_eq_false h,if_neg (by decide)]
  exact gj (n:=45) [oB (xW (a:=(k:Int)) (b:=(p.l:Int)) (ad 1179577958785783208 [_,_] [] h))] (by kernel_rfl)
theorem GS{rows:List (List PC)}{kept:List Nat}{row:List PC}(hk:kept.length<=900)(hl:∀p∈row,p.l∈kept):aW (dG TT (RF r) HT GQ (Ly rows kept row) 54 (cT DO) [] (cE DO) (cN DO)) (row.map PC.v) mu=some ((row.map (bZ kept)).map PC.v,mu):=by
 rw[aba]
 refine bg (g:=PC.v∘bZ kept) λp hp=> ?_
 have h1:=abB (λk=>decide (k<p.f)) kept
 have h2:=abB (λk=>decide (k<=p.l)) kept
 have h3:1<=(kept.filter λk=>decide (k<=p.l)).length:=List.length_pos_of_mem (aal.mpr ⟨hl p hp,decide_eq_true (aaS _)⟩)
 have e1:∀m:Mu,aL TT m (.builtin "len") [.lst ((kept.filter λk=>decide (k<p.f)).map aV)]=some (.int ((kept.filter λk=>decide (k<p.f)).length:Nat)):=λm=>by rw[fX (by rw[aaq];exact av 81884447126057970 [_,_] [] hk h1),aaq]
 have e2:∀m:Mu,aL TT m (.builtin "len") [.lst ((kept.filter λk=>decide (k<=p.l)).map aV)]=some (.int (((kept.filter λk=>decide (k<=p.l)).length-1:Nat)+1)):=λm=>by
  rw[fX (by rw[aaq];exact av 81884447126057970 [_,_] [] hk h2),aaq]
  congr 2
  exact av 11651803426150437411846578690029410096391653593780550 [_,_] [] h3 (su _ _)
 have g:(kept.map aV).length<=1000:=by rw[aaq];exact ad 112324457880 [_] [] hk
 have e3:PC.v (bZ kept p)= .tup [.int ((kept.filter λk=>decide (k<p.f)).length:Nat),.int (((kept.filter λk=>decide (k<=p.l)).length-1:Nat)+1-1),.lst (p.ps.map Pt.v)]:=by
  simp only[PC.v,bZ,Int.add_sub_cancel]
 show _=some ([PC.v (bZ kept p)],mu)
 rw[e3]
 generalize (kept.filter λk=>decide (k<=p.l)).length-1=z at*
 exact cM (n:=53) [oG g,oL (Kr (r:=r) (mu:=mu) (kept:=kept) (rows:=rows) (row:=row) (p:=p)),oQ e1,oG g,oL (Ks (r:=r) (mu:=mu) (kept:=kept) (rows:=rows) (row:=row) (p:=p)),oQ e2] (by kernel_rfl)
theorem GT{rows:List (List PC)}{kept:List Nat}(hk:kept.length<=900)(hn:rows.length<=60)(hr:∀row∈rows,row.length<=60/\∀p∈row,p.l∈kept):RF (r+1) (.ref ij) [.lst (rows.map a7),.lst (kept.map aV)] mu=some (.lst ((rows.map λrow=>row.map (bZ kept)).map a7),mu):=by
 have hc:aW (dG TT (RF r) HT (bn ge) (Lx rows kept) 56 (cT DN) [] (cE DN) (cN DN)) (rows.map a7) []=some ((rows.map λrow=>row.map (bZ kept)).map a7,[]):=by
  rw[aba]
  exact bg (g:=a7∘λrow=>row.map (bZ kept)) λrow h=>cM (n:=55) [oG (c:=(row.map PC.v).length<=1000) (by rw[aaq];have:=(hr row h).1;exact ad 112324506480 [_] [] this),oL (GS (r:=r) (mu:=[]) (rows:=rows) hk (hr row h).2)] (by kernel_rfl)
 have hb:ab 0 [.lst (rows.map a7),.lst (kept.map aV)]=true:=by
  have:ab 0 (rows.map a7)=true:=aQ λrow q0=>fN row
  simp only[ab,aG,this,gX,abn]
 have ob:ab 0 ((rows.map λrow=>row.map (bZ kept)).map a7)=true:=aQ λrow q0=>fN row
 have hp:cX 0 (some 0) (.lst ((rows.map λrow=>row.map (bZ kept)).map a7)) []=some (.lst ((rows.map λrow=>row.map (bZ kept)).map a7),[]):=aZ (su:=[]) (mu2:=[]) (by rfl) rfl rfl (by decide) ob rfl
 exact aK rq rfl hb [oG (c:=(rows.map a7).length<=1000) (by rw[aaq];exact ad 112324506480 [_] [] hn),oL hc,oV hp] (by kernel_rfl)
end
section
variable{r:Nat}{mu:Mu}
noncomputable def aI(kept:List Nat)(p:PC):List Nat:=(abu p.f (p.l+1-p.f)).filter λc=>decide (c∈kept)
theorem qx:∀l:List Nat,cA (l.map aV)=some (l.map λk:Nat=>(k:Int)):=by
 intro L0
 induction L0 with
 |nil=>
  exact rfl
 |cons x l ih=>
  rw[aaX,cA,ih];rfl
theorem AG{kept:List Nat}{c:Nat}{b:Bool}(h:decide (c∈kept)=b):b9 [] .In (.int c) (.lst (kept.map aV))=some b:=by
 have e:b9 [] .In (.int c) (.lst (kept.map aV))=(cA (kept.map aV)).map λns=>ns.contains (c:Int):=by kernel_rfl
 rw[e,qx,<-h]
 show some _=some _
 congr 1
 rw[Bool.eq_iff_iff,abd,decide_eq_true_iff,aak]
 constructor
 ·intro⟨k,hk,e⟩
  have:k=c:=ad 144563961562565 [_,_] [] e
  rw[<-this];exact hk
 ·intro h;exact⟨c,h,rfl⟩
noncomputable def tH(items:List V)(p:PC):List V:=match items.getD (1+2*p.f) .none with
 | .tup l=>l
 |_=>[]
noncomputable def iT(items:List V)(kept:List Nat)(sz:List (Option Int))(v:Bool)(p:PC):V:= .tup ((tH items p).set (if v=true then 2 else 1) (.int ((sz.getD ((aI kept p).headD 0) none).getD 0)))
noncomputable def j9(items:List V)(kept:List Nat)(sz:List (Option Int))(v:Bool)(p:PC)(c:Nat):List V:=
 [if c=(aI kept p).headD 0 then iT items kept sz v p else items.getD (1+2*c) .none,items.getD (2+2*c) .none]
noncomputable def iw(items:List V)(kept:List Nat)(sz:List (Option Int))(v:Bool)(p:PC):List V:=(aI kept p).flatMap (j9 items kept sz v p)
noncomputable abbrev Mi(t:List V)(items:List V):V:= .tup (t++[.tup items])
structure AH(items:List V)(kept:List Nat)(sz:List (Option Int))(p:PC):Prop where
 lead:∃a b c d e f g h i,items[1+2*p.f]? =some (.tup [a,b,c,d,e,f,g,h,i])
 head:∃h0 hs,aI kept p=h0::hs
 col:∀c∈aI kept p,2+2*c<items.length/\c<sz.length
 l:p.l<=100
noncomputable abbrev CB(T:V)(row:List PC)(kept:List Nat)(sz:List (Option Int))(v:Bool)(items:List V):au:=[(aaQ "told",T),(aaQ "row",a7 row),(aaQ "kept",.lst (kept.map aV)),(aaQ "sizes",.lst (sz.map oi)),(aaQ "upright",.bool v),(aaQ "items",.tup items),(aaQ "at",.int (if v=true then 2 else 1)),(aaQ "found",.ref 0)]
theorem jt{items:List V}{k:Nat}{i:Int}(e:i=k)(h:k<items.length)(hl:items.length<=900):bP [] (.tup items) i=some (items.getD k .none):=by
 subst e
 have e:bP [] (.tup items) (k:Int)=if items.length<=1000 then(if 0<=(k:Int) then eW items k else if -(items.length:Int)<=k then items[((k:Int)+items.length).toNat]? else none) else none:=by kernel_rfl
 rw[e,if_pos (by exact ad 112324457880 [_] [] hl),if_pos (by exact dk 1491933 [_] [])]
 exact iu (bk h) (by exact av 81884529860154481 [_,_] [] h hl)
theorem qy{l:List Nat}{k:Nat}{x:Nat}(h:l[k]? =some x)(hl:l.length<=900):bP [] (.lst (l.map aV)) (k:Int)=some (.int x):=iu (by rw[aaE,h];rfl) (by have:=aO h;exact av 81884447126786970 [_,_] [] hl this)
theorem AI{kept:List Nat}{p:PC}{L:au}{T:V}{row:List PC}{sz:List (Option Int)}{v:Bool}{items:List V}(hL:L=CB T row kept sz v items++[(aaQ "first",.int p.f),(aaQ "last",.int p.l),(aaQ "parts",.lst (p.ps.map Pt.v))]):
  aW (dG TT (RF r) HT (bn aE) L 53 (cT (aN 0 (ag 0 (a6 (ag 1 (aD aE)))))) (cI (aN 0 (ag 0 (a6 (ag 1 (aD aE)))))) (cE (aN 0 (ag 0 (a6 (ag 1 (aD aE)))))) (cN (aN 0 (ag 0 (a6 (ag 1 (aD aE))))))) (aM p.f ((p.l:Int)+1)) mu=some ((aI kept p).map aV,mu):=by
 subst hL
 rw[jr (a:=(p.f:Int)) (b:=(p.l:Int)+1) p.f (p.l+1) rfl (dk 64665765682070405 [_] []),aI,<-eS aV]
 refine eN λc q0=> ?_
 by_cases h:c∈kept
 ·rw[decide_eq_true h,if_pos rfl]
  exact gj (n:=52) [oB (AG (decide_eq_true h))] (by kernel_rfl)
 ·rw[decide_eq_false h,if_neg (by decide)]
  exact gj (n:=52) [oB (AG (decide_eq_false h))] (by kernel_rfl)
theorem Fw{kept:List Nat}{p:PC}{L:au}{T:V}{row:List PC}{sz:List (Option Int)}{v:Bool}{items found:List V}{z:V}{c:Nat}(F:AH items kept sz p)(hn:items.length<=900)(hkl:(aI kept p).length<=900)(hc:c∈aI kept p)(hf:found.length+2<=900)
  (hL:L=CB T row kept sz v items++[(aaQ "first",.int p.f),(aaQ "last",.int p.l),(aaQ "parts",.lst (p.ps.map Pt.v)),(aaQ "heads",.lst ((aI kept p).map aV)),(aaQ "size",z),(aaQ "lead",iT items kept sz v p)]):
  ∃loc1,cu TT (RF r) HT (bn aE) 52 (cG (ag 3 (a6 (ag 1 (aD aE))))) (a6 (ag 3 (a6 (ag 1 (aD aE))))) (aV c) L [.lst found]=some (.next,loc1,[.lst (found++j9 items kept sz v p c)])/\dx L loc1=L:=by
 subst hL
 have hcc:=F.col c hc
 obtain⟨h0,hs,hh⟩:=F.head
 have i0:bP [] (.lst ((aI kept p).map aV)) 0=some (.int h0):=qy (k:=0) (by rw[hh];rfl) hkl
 have i1:=jt (items:=items) (k:=1+2*c) (i:=1+2*(c:Int)) (dk 615109447680151509793805 [_] []) (ad 5043511840752920006077236607674096 [_,_,_] [] hcc) hn
 have i2:=jt (items:=items) (k:=2+2*c) (i:=2+2*(c:Int)) (dk 615109835100640509801905 [_] []) (ad 5043511866171578289367236607674096 [_,_,_] [] hcc) hn
 have m1:=dU (a:=2) (b:=(c:Int)) (.inl (by decide))
 have a1:∀x:V,dJ (RF r) (.ref 0) [x] [.lst found] (.app 0)=some (.none,[.lst (found++[x])]):=λx=>cL rfl (ad 909828119050200 [_] [] hf) rfl
 have a2:∀x:V,dJ (RF r) (.ref 0) [items.getD (2+2*c) .none] [.lst (found++[x])] (.app 0)=some (.none,[.lst (found++[x,items.getD (2+2*c) .none])]):=λx=>cL rfl (by simp;exact ad 1627273469050200 [_] [] hf) (by rw[aa7];rfl)
 refine⟨CB T row kept sz v items++[(aaQ "first",.int p.f),(aaQ "last",.int p.l),(aaQ "parts",.lst (p.ps.map Pt.v)),(aaQ "heads",.lst ((aI kept p).map aV)),(aaQ "size",z),(aaQ "lead",iT items kept sz v p),(aaQ "column",.int c)],?_,by kernel_rfl⟩
 have hd:(aI kept p).headD 0=h0:=by rw[hh];rfl
 unfold j9
 by_cases h:c=h0
 ·rw[hd,if_pos h]
  have ee:=dl (a:=(c:Int)) (b:=(h0:Int)) (ad 145626909909482 [_,_] [] h)
  generalize aI kept p=H at*
  exact bx [oW i0,oB ee,oV (a1 (iT items kept sz v p)),oW m1,oW i2,oV (a2 (iT items kept sz v p))] (by kernel_rfl)
 ·rw[hd,if_neg h]
  have ee:=cC (a:=(c:Int)) (b:=(h0:Int)) (ad 1179577970595583388 [_,_] [] h)
  generalize aI kept p=H at*
  exact bx [oW i0,oB ee,oW m1,oW i1,oV (a1 (items.getD (1+2*c) .none)),oW m1,oW i2,oV (a2 (items.getD (1+2*c) .none))] (by kernel_rfl)
theorem CC{kept:List Nat}{p:PC}{T:V}{row:List PC}{sz:List (Option Int)}{v:Bool}{items found:List V}(F:AH items kept sz p)(hn:items.length<=900)(hs:sz.length<=400)(hf:found.length+2*(aI kept p).length<=900):
  ∃loc1,cu TT (RF r) HT (bn aE) 57 (cG (ag 1 (aD aE))) (a6 (ag 1 (aD aE))) p.v (CB T row kept sz v items) [.lst found]=some (.next,loc1,[.lst (found++iw items kept sz v p)])/\dx (CB T row kept sz v items) loc1=CB T row kept sz v items:=by
 obtain⟨h0,LM,hh⟩:=F.head
 have hl:=F.l
 have h0m:h0∈aI kept p:=by rw[hh];exact .head _
 have hc0:=F.col h0 h0m
 have hd:(aI kept p).headD 0=h0:=by rw[hh];rfl
 obtain⟨a,b,c,d,e,f,g,h,i,hlead⟩:=F.lead
 have hlt:=aO hlead
 have il:bP [] (.tup items) (1+2*(p.f:Int))=some (.tup [a,b,c,d,e,f,g,h,i]):=by
  rw[jt (k:=1+2*p.f) (by exact dk 615109447680151509793805 [_] []) hlt hn,aaY,hlead];rfl
 have hlz:∀z:V,iT items kept sz v p= .tup (([a,b,c,d,e,f,g,h,i]:List V).set (if v=true then 2 else 1) (.int ((sz.getD h0 none).getD 0))):=λq0=>by
  unfold iT tH
  rw[aaY,hlead,hd]
  rfl
 have i0:bP [] (.lst ((aI kept p).map aV)) 0=some (.int h0):=qy (k:=0) (by rw[hh];rfl) (by exact ad 6594766704557313300 [_,_] [] hf)
 have i1:=jp (sz:=sz) (c:=h0) hc0.2 (by exact ad 100514714580 [_] [] hs)
 have m1:=dU (a:=2) (b:=(p.f:Int)) (.inl (by decide))
 have g1: -1000<=(p.f:Int)/\(p.f:Int)<=1000/\-1000<=(p.l:Int)+1/\(p.l:Int)+1<=1000:=by
  have:p.f<=p.l:=by
   have:h0∈aI kept p:=h0m
   unfold aI at this
   rw[aal,aby] at this
   lia
  exact av 941099646760713984898890700163687858347726990765309862309070 [_,_] [] hl this
 have g2:(aM (p.f:Int) ((p.l:Int)+1)).length<=1000:=by rw[jr (a:=(p.f:Int)) (b:=(p.l:Int)+1) p.f (p.l+1) rfl (by exact dk 64665765682070405 [_] [])];simp;exact ad 1244058220325188980 [_,_] [] hl
 have g3:((aI kept p).map aV).length<=1000:=by rw[aaq];exact ad 7369607682557313300 [_,_] [] hf
 have hcmp:=AI (r:=r) (mu:=[.lst found]) (kept:=kept) (p:=p) (T:=T) (row:=row) (sz:=sz) (v:=v) (items:=items) rfl
 have hfold:=bi (α:=Nat) (f:=cu TT (RF r) HT (bn aE) 52 (cG (ag 3 (a6 (ag 1 (aD aE))))) (a6 (ag 3 (a6 (ag 1 (aD aE)))))) aV (λ(l:List V) c=>l++j9 items kept sz v p c)
  (λq0=>CB T row kept sz v items++[(aaQ "first",.int p.f),(aaQ "last",.int p.l),(aaQ "parts",.lst (p.ps.map Pt.v)),(aaQ "heads",.lst ((aI kept p).map aV)),(aaQ "size",oi (sz.getD h0 none)),(aaQ "lead",iT items kept sz v p)]) (λl=>[.lst l])
  (λl rest=>l.length+2*rest.length<=900/\∀c∈rest,c∈aI kept p)
  (λl c rest i=>⟨⟨by have:=i.1;simp only[j9,aap,aaf,aae] at this⊢;exact ad 1863986426539498215168474882860466423505200 [_,_] [] this,λd hd=>i.2 d (.tail _ hd)⟩,Fw F hn (by exact ad 6594766704557313300 [_,_] [] hf) (i.2 c (.head _)) (by have:=i.1;rw[aaf] at this;exact ad 436642339685446266423505200 [_,_] [] this) rfl⟩) (aI kept p) found ⟨hf,λc hc=>hc⟩
 rw[gV] at hfold
 refine⟨CB T row kept sz v items++[(aaQ "first",.int p.f),(aaQ "last",.int p.l),(aaQ "parts",.lst (p.ps.map Pt.v)),(aaQ "heads",.lst ((aI kept p).map aV)),(aaQ "size",oi (sz.getD h0 none)),(aaQ "lead",iT items kept sz v p)],?_,by kernel_rfl⟩
 have hz:=hlz .none
 unfold iw
 rw[hz] at hfold⊢
 generalize aI kept p=H at*
 generalize H.flatMap (j9 items kept sz v p)=Z at*
 generalize sz.getD h0 none=sv at*
 cases v<;>(cases sv with
  |none=>exact bx [oG g1,oG g2,oL hcmp,oW i0,oW i1,oW m1,oW il,oA,oA,oA,oA,oA,oA,oA,oG g3,oS hfold] (by kernel_rfl)
  |some w=>exact bx [oG g1,oG g2,oL hcmp,oW i0,oW i1,oW m1,oW il,oA,oA,oA,oA,oA,oA,oA,oG g3,oS hfold] (by kernel_rfl))
theorem GU(l:List (Option Int)):ab 0 (l.map oi)=true:=aQ λx q0=>by cases x<;>rfl
theorem gk:∀{l:List V},ab 0 l=true↔∀x∈l,aG 0 x=true:=by
 intro L0
 induction L0 with
 |nil=>
  exact⟨λ_ x h=>absurd h abh,λ_=>rfl⟩
 |cons a l ih=>
  rw[ab,aan,ih]
  exact⟨λh x hx=>by rcases aai.mp hx with rfl|hx;exact h.1;exact h.2 x hx,λh=>⟨h a (.head _),λx hx=>h x (.tail _ hx)⟩⟩
theorem tI{l:List V}(h:ab 0 l=true)(k:Nat):aG 0 (l.getD k .none)=true:=by
 rw[aaY]
 cases e:l[k]? with
 |none=>rfl
 |some x=>exact gk.mp h x (abj e)
theorem CD{items:List V}(h:ab 0 items=true)(kept:List Nat)(sz:List (Option Int))(v:Bool)(p:PC):aG 0 (iT items kept sz v p)=true:=by
 unfold iT
 refine gk.mpr λx hx=> ?_
 rcases List.mem_or_eq_of_mem_set hx with hx|rfl
 ·have hh:=tI h (1+2*p.f)
  unfold tH at hx
  revert hx hh
  cases items.getD (1+2*p.f) .none<;>intro hx hh<;>first|exact absurd hx (abh)|exact gk.mp hh x hx
 ·rfl
theorem Fx{items:List V}(h:ab 0 items=true)(kept:List Nat)(sz:List (Option Int))(v:Bool)(row:List PC):ab 0 (row.flatMap (iw items kept sz v))=true:=by
 refine gk.mpr λx hx=> ?_
 obtain⟨p,_,hx⟩:=aam.mp hx
 obtain⟨c,_,hx⟩:=aam.mp hx
 simp only[j9,aai,abh,or_false] at hx
 rcases hx with rfl|rfl
 ·split
  ·exact CD h kept sz v p
  ·exact tI h _
 ·exact tI h _
theorem sG(items:List V)(kept:List Nat)(sz:List (Option Int))(v:Bool)(p:PC):(iw items kept sz v p).length=2*(aI kept p).length:=by
 unfold iw
 rw[List.length_flatMap]
 have:(aI kept p).map (λc=>(j9 items kept sz v p c).length)=(aI kept p).map λq0=>2:=by
  apply aa9;intro c _;rfl
 rw[this,List.map_const',List.sum_replicate_nat]
 exact dk 1157437690292 [_] []
theorem AJ{items:List V}{kept:List Nat}{sz:List (Option Int)}{v:Bool}:∀{row:List PC},(∀p∈row,(aI kept p).length<=5)->(row.flatMap (iw items kept sz v)).length<=10*row.length:=by
 intro L0
 induction L0 with
 |nil=>
  intro _
  exact aaS _
 |cons p row ih=>
  intro h
  have h1:=ih λq hq=>h q (.tail _ hq)
  have h2:=h p (.head _)
  have h3:=sG items kept sz v p
  rw[abg,aap,aaf]
  exact dX 1646152858002993519985187458367791321505370 [_,_,_,_] [] h1 h2 h3
theorem sH{l:List V}(h:l.length<=1000):fE TT (RF r) (.type "tuple") [.ref 0] [.lst l]=some (.tup l,[.lst l]):=by
 have e:aL TT [.lst l] (.type "tuple") [.ref 0]=if l.length<=1000 then some (.tup l) else none:=by kernel_rfl
 unfold fE
 rw[e,if_pos h]
theorem Fy{kept:List Nat}{row:List PC}{t:List V}{sz:List (Option Int)}{v:Bool}{items:List V}(ht:∃a b c d e f g h,t=[a,b,c,d,e,f,g,h])(F:∀p∈row,AH items kept sz p)(hn:items.length<=900)(hs:sz.length<=400)(hi:items≠[])(hb:ab 0 [.tup (t++[.tup items])]=true)(hr:row.length<=60)(hl:∀p∈row,(aI kept p).length<=5):
  RF (r+1) (.ref cY) [.tup (t++[.tup items]),a7 row,.lst (kept.map aV),.lst (sz.map oi),.bool v] mu=some (.tup (t++[.tup (items.headD .none::row.flatMap (iw items kept sz v))]),mu):=by
 obtain⟨a,b,c,d,e,f,g,h,rfl⟩:=ht
 obtain⟨i0,is,rfl⟩:=List.exists_cons_of_ne_nil hi
 have h4:ab 0 ([a,b,c,d,e,f,g,h]++[.tup (i0::is)])=true:=gk.mp hb _ (.head _)
 have hb0:ab 0 [.tup ([a,b,c,d,e,f,g,h]++[.tup (i0::is)]),a7 row,.lst (kept.map aV),.lst (sz.map oi),.bool v]=true:=by
  have h1:=fN row
  have h2:=gX kept
  have h3:=GU sz
  exact gk.mpr λx hx=>by
   simp only[aai,abh,or_false] at hx
   rcases hx with rfl|rfl|rfl|rfl|rfl
   ·exact h4
   ·exact h1
   ·exact h2
   ·exact h3
   ·rfl
 have hfold:=bi (α:=PC) (f:=cu TT (RF r) HT (bn aE) 57 (cG (ag 1 (aD aE))) (a6 (ag 1 (aD aE)))) PC.v (λ(l:List V) p=>l++iw (i0::is) kept sz v p)
  (λq0=>CB (Mi [a,b,c,d,e,f,g,h] (i0::is)) row kept sz v (i0::is)) (λl=>[.lst l])
  (λl rest=>l.length+10*rest.length<=900/\∀p∈rest,p∈row)
  (λl p rest i=>⟨⟨by
   have:=i.1
   have h2:=hl p (i.2 p (.head _))
   have h3:=sG (i0::is) kept sz v p
   simp only[aap,aaf,h3] at this⊢
   exact av 167888863609258362216271604646375328979875200 [_,_,_] [] this h2,λd hd=>i.2 d (.tail _ hd)⟩,CC (F p (i.2 p (.head _))) hn hs (by have:=i.1;have h2:=hl p (i.2 p (.head _));rw[aaf] at this;exact av 2556908648255676741439575328979875200 [_,_,_] [] this h2)⟩) row [i0] ⟨by simp;exact ad 6596336656984686480 [_] [] hr,λc hc=>hc⟩
 rw[gV] at hfold
 have hlen:(i0::row.flatMap (iw (i0::is) kept sz v)).length<=1000:=by
  have:=AJ (items:=i0::is) (sz:=sz) (v:=v) hl
  rw[aaf]
  exact av 5413302518401552659306570 [_,_] [] hr this
 have hit:ab 0 (i0::is)=true:=gk.mp h4 (.tup (i0::is)) (by simp)
 have hbo:ab 0 ([a,b,c,d,e,f,g,h]++[.tup (i0::row.flatMap (iw (i0::is) kept sz v))])=true:=by
  refine gk.mpr λx hx=> ?_
  rcases aaj.mp hx with hx|hx
  ·exact gk.mp h4 x (aaj.mpr (.inl hx))
  ·rcases aah.mp hx with rfl
   refine gk.mpr λy hy=> ?_
   rcases aai.mp hy with rfl|hy
   ·exact gk.mp hit _ (.head _)
   ·exact gk.mp (Fx hit kept sz v row) y hy
 generalize row.flatMap (iw (i0::is) kept sz v)=Z at*
 have hp:cX 0 (some 0) (.tup ([a,b,c,d,e,f,g,h]++[.tup (i0::Z)])) [.lst (i0::Z)]=some (.tup ([a,b,c,d,e,f,g,h]++[.tup (i0::Z)]),[]):=by
  have hx:aG 0 (.tup ([a,b,c,d,e,f,g,h]++[.tup (i0::Z)]))=true:=hbo
  exact aZ (su:=[(0,.lst (i0::Z))]) (mu2:=[.dead]) (by rfl) (iS _ hx) rfl (by decide) hx rfl
 have hw0:bP [] (.tup (i0::is)) 0=some i0:=jt (k:=0) rfl (by simp) hn
 have hg:(row.map PC.v).length<=1000:=by rw[aaq];exact ad 112324506480 [_] [] hr
 cases v
 ·exact aK j1 rfl hb0 [oA,oA,oW hw0,oG hg,oS hfold,oA,oA,oV (sH (r:=r) hlen),oA,oV hp] (by kernel_rfl)
 ·exact aK j1 rfl hb0 [oA,oA,oW hw0,oG hg,oS hfold,oA,oA,oV (sH (r:=r) hlen),oA,oV hp] (by kernel_rfl)
end
section
variable{r:Nat}{mu:Mu}
theorem qz{α σ:Type}{f:V->au->Mu->Option (Fl×au×Mu)}(enc:α->V)(L:σ->au)(M:σ->Mu)(I:σ->List α->Prop)
  (h:∀s v r,I s (v::r)->∃s' loc1,f (enc v) (L s) (M s)=some (.next,loc1,M s')/\dx (L s) loc1=L s'/\I s' r):
  ∀(xs:List α)(s:σ),I s xs->∃s',jN f (xs.map enc) (L s) (M s)=some (.next,L s',M s')/\I s' []:=by
 intro L0
 induction L0 with
 |nil=>
  intro s i
  exact⟨s,rfl,i⟩
 |cons x xs ih=>
  intro s i
  obtain⟨s1,loc1,h1,h2,i1⟩:=h s x xs i
  obtain⟨s2,h3,i2⟩:=ih s1 i1
  exact⟨s2,by rw[aaX,iP h1 h2];exact h3,i2⟩
theorem qA{α β:Type}{f:V->Mu->Option (List V×Mu)}(enc:α->V)(en:β->V)(P:α->Prop)(rest:Mu):∀(xs:List β)(s:Int×Int),(∀x∈xs,∀s,∃(a:α)(s':Int×Int),f (en x) (.lst (dt s)::rest)=some ([enc a],.lst (dt s')::rest)/\P a)->
  ∃(as:List α)(s':Int×Int),aW f (xs.map en) (.lst (dt s)::rest)=some (as.map enc,.lst (dt s')::rest)/\as.length=xs.length/\∀a∈as,P a:=by
 intro L0
 induction L0 with
 |nil=>
  intro s _
  exact⟨[],s,rfl,rfl,λ_ h=>absurd h abh⟩
 |cons x xs ih=>
  intro s h
  obtain⟨a,s1,h1,p1⟩:=h x (.head _) s
  obtain⟨as,s2,h2,l2,p2⟩:=ih s1 λy hy=>h y (.tail _ hy)
  refine⟨a::as,s2,?_,by rw[aaf,aaf,l2],λy hy=>by rcases aai.mp hy with rfl|hy;exact p1;exact p2 y hy⟩
  rw[aaX,aW,h1]
  show(match aW f (xs.map en) (.lst (dt s1)::rest) with|some (b,mu'')=>some ([enc a]++b,mu'')|none=>none)=_
  rw[h2]
  rfl
noncomputable def Ch:Nat->List PC->Nat->Prop
 |a,[],b=>a=b
 |a,p::ps,b=>p.f=a/\p.f<=p.l/\Ch (p.l+1) ps b
theorem Ch.add:∀{a b:Nat}{row:List PC}{p:PC},Ch a row b->p.f=b->p.f<=p.l->Ch a (row++[p]) (p.l+1)
 |a,b,[],p,h,e,l=>⟨e.trans h.symm,l,rfl⟩
 |a,b,q::row,p,h,e,l=>⟨h.1,h.2.1,h.2.2.add e l⟩
structure Kt(g:Int)(p:PC):Prop where
 ne:(p.l:Int)≠g
 a1:1<=p.ps.length
 a2:p.ps.length<=2
 bd:∀x∈p.ps,yc x
structure uV(n:Nat)(g:Int)(row:List PC)(c:Int):Prop where
 c0:0<=c
 cn:c<=n
 ch:Ch 0 row c.toNat
 ok:∀p∈row,Kt g p
theorem uV.add{n:Nat}{g:Int}{row:List PC}{c l:Int}{ps:List Pt}(I:uV n g row c)(h1:c<=l)(h2:l<n)(h3:l≠g)(h4:1<=ps.length)(h5:ps.length<=2)(h6:∀x∈ps,yc x):uV n g (row++[⟨c.toNat,l.toNat,ps⟩]) (l+1):=by
 have c0:=I.c0
 refine⟨av 629559109360599998043 [] [_,_] h1 c0,ad 792923258223320854 [_] [_] h2,?_,λp hp=> ?_⟩
 ·have:=I.ch.add (p:=⟨c.toNat,l.toNat,ps⟩) rfl (by show c.toNat<=l.toNat;exact dX 6127763707659291732969500935575605977663560451123830025039202037560512053 [_,_] [_,_] h1 (tn _) (tn _))
  have e:(l+1).toNat=l.toNat+1:=tX 95652388796747126880069902996348774312914941686181206158621136414355851186788990626458169106053 [_,_] [_,_] h1 c0 (tn _) (tn _)
  rw[e];exact this
 ·rcases aaj.mp hp with hp|hp
  ·exact I.ok p hp
  ·rcases aah.mp hp with rfl
   exact⟨by show((l.toNat:Nat):Int)≠g;exact tX 212919047039069079472934856196382259078620691595017643239243 [_] [_,_,_] h1 h3 c0 (tn _),h4,h5,h6⟩
theorem Ch.len:∀{a b:Nat}{row:List PC},Ch a row b->row.length+a<=b
 |a,b,[],h=>by have:a=b:=h;simp;exact ad 17845944482 [_,_] [] this
 |a,b,q::row,h=>by have:=h.2.2.len;have:=h.1;have:=h.2.1;rw[aaf];lia
noncomputable abbrev vZ(n:Nat)(g:Int):au:=[(aaQ "box",.ref 0),(aaQ "columns",.int n),(aaQ "gone",.int g),(aaQ "rows",.ref 1)]
noncomputable abbrev w8(k n:Nat)(g:Int)(t:V)(c:Int):au:=vZ n g++[(aaQ "turn",t),(aaQ "row",.ref (2+k)),(aaQ "column",.int c)]
noncomputable abbrev DQ(rs:List (List PC)):Mu:= .lst ((aaa rs.length).map λi=>V.ref (2+i))::rs.map λrow=>MO.lst (row.map PC.v)
noncomputable abbrev qS(s:Int×Int)(rs:List (List PC)):Mu:= .lst (dt s)::DQ rs
noncomputable abbrev Fz:Stmt:=ag 1 (aD b7)
noncomputable abbrev w9:Stmt:=ag 1 (a6 Fz)
set_option backward.match.sparseCases false in
noncomputable abbrev CE:Expr:=match ag 0 (ru (ag 2 (ru (ag 0 (a6 w9))))) with
 | .Expr e _=>vN 0 (fq 9 e)
 |_=> .Constant .none 0 ⟨0,0,0,0⟩
theorem CF{L:au}{k n:Nat}{g c l:Int}{t x:V}(hL:L=w8 k n g t c++[(aaQ "lap",x),(aaQ "last",.int l)]){d:Int}(h0:0<=d)(rest:Mu)(s:Int×Int):
  ∃(ps:List Pt)(s':Int×Int),aW (dG TT (RF (r+6)) HT (bn b7) L 38 (cT CE) [] (cE CE) (cN CE)) (aM 0 (1+d)) (.lst (dt s)::rest)=some (ps.map Pt.v,.lst (dt s')::rest)/\ps.length=(1+d).toNat/\∀p∈ps,yc p:=by
 subst hL
 obtain⟨m,hm⟩:∃m:Nat,1+d=m:=⟨(1+d).toNat,av 86693582143261751447648235615561412645081185421245410505033 [_] [_] h0 (tn _)⟩
 rw[hm,jr (a:=0) (b:=m) 0 m rfl rfl]
 have:=qA (f:=dG TT (RF (r+6)) HT (bn b7) (w8 k n g t c++[(aaQ "lap",x),(aaQ "last",.int l)]) 38 (cT CE) [] (cE CE) (cN CE)) Pt.v (λk:Nat=>V.int (k:Int)) yc rest (abu 0 (m-0)) s (λy q0 s=>by
  obtain⟨p,s',h,hp⟩:=GJ (r:=r) rest s
  exact⟨p,s',cM (n:=37) [oC h] (by kernel_rfl),hp⟩)
 rw[abz] at this
 exact this
theorem Ku{c l:Int}{ps:List Pt}(h0:0<=c)(h1:0<=l):V.tup [.int c,.int l,.lst (ps.map Pt.v)]=PC.v ⟨c.toNat,l.toNat,ps⟩:=by
 show _=V.tup [.int (c.toNat:Int),.int (l.toNat:Int),_]
 rw[Int.toNat_of_nonneg h0,Int.toNat_of_nonneg h1]
theorem CG{T:ba}{F:bM}{hint:Nat->Nat->Bool}{nm:ae}{b:List Stmt}{loc':au}{mu':Mu}(a:List Stmt)(n:Nat)(loc:au)(mu:Mu)(h:g6 T F hint nm (n+1+a.length) a loc mu=some (.next,loc',mu')):g6 T F hint nm (n+1+a.length) (a++b) loc mu=g6 T F hint nm (n+1) b loc' mu':=by
 induction a generalizing loc mu with
 |nil=>cases h;rfl
 |cons s a ih=>
  refine aT h λq h1 h2=> ?_
  show((BH T F hint nm (n+1+a.length) s (fz hint s loc mu).1 (fz hint s loc mu).2).bind λq=>match q.1 with
   | .next=>g6 T F hint nm (n+1+a.length) (a++b) q.2.1 q.2.2
   | .ret _=>some q)=_
  rw[show BH T F hint nm (n+1+a.length) s (fz hint s loc mu).1 (fz hint s loc mu).2=some q from h1]
  clear h h1
  obtain⟨fl,l1,m1⟩:=q
  cases fl with
  |next=>exact ih l1 m1 h2
  |ret v=>cases h2
theorem CH{T:ba}{F:bM}{hint:Nat->Nat->Bool}{nm:ae}{b:List Stmt}{loc':au}{mu':Mu}{v:V}(a:List Stmt)(n:Nat)(loc:au)(mu:Mu)(h:g6 T F hint nm (n+1+a.length) a loc mu=some (.ret v,loc',mu')):g6 T F hint nm (n+1+a.length) (a++b) loc mu=some (.ret v,loc',mu'):=by
 induction a generalizing loc mu with
 |nil=>cases h
 |cons s a ih=>
  refine aT h λq h1 h2=> ?_
  show((BH T F hint nm (n+1+a.length) s (fz hint s loc mu).1 (fz hint s loc mu).2).bind λq=>match q.1 with
   | .next=>g6 T F hint nm (n+1+a.length) (a++b) q.2.1 q.2.2
   | .ret _=>some q)=_
  rw[show BH T F hint nm (n+1+a.length) s (fz hint s loc mu).1 (fz hint s loc mu).2=some q from h1]
  clear h h1
  obtain⟨fl,l1,m1⟩:=q
  cases fl with
  |next=>exact ih l1 m1 h2
  |ret w=>exact h2
theorem Kv{T:ba}{F:bM}{hint:Nat->Nat->Bool}{nm:ae}{body:List Stmt}{loc loc':au}{mu mu':Mu}{n m k:Nat}(h:g6 T F hint nm n (body.take k) loc mu=some (.next,loc',mu'))(hk:(body.take k).length=k)(hn:n=m+1+k):g6 T F hint nm n body loc mu=g6 T F hint nm (m+1) (body.drop k) loc' mu':=by
 subst hn
 have:=CG (b:=body.drop k) (body.take k) m loc mu (by rw[hk];exact h)
 rw[hk,abl] at this
 exact this
theorem xc{T:ba}{F:bM}{hint:Nat->Nat->Bool}{nm:ae}{body:List Stmt}{loc loc':au}{mu mu':Mu}{v:V}{n m k:Nat}(h:g6 T F hint nm n (body.take k) loc mu=some (.ret v,loc',mu'))(hk:(body.take k).length=k)(hn:n=m+1+k):g6 T F hint nm n body loc mu=some (.ret v,loc',mu'):=by
 subst hn
 have:=CH (b:=body.drop k) (body.take k) m loc mu (by rw[hk];exact h)
 rw[hk,abl] at this
 exact this
theorem GV{α:Type}{l:List α}(h:l.length=1):∃a,l=[a]:=by
 cases l with
 |nil=>exact nomatch h
 |cons a l=>exact⟨a,by rw[List.eq_nil_of_length_eq_zero (aao h)]⟩
theorem FA{α:Type}{l:List α}(h:l.length=2):∃a b,l=[a,b]:=by
 cases l with
 |nil=>exact nomatch h
 |cons a l=>obtain⟨b,e⟩:=GV (aao h);exact⟨a,b,by rw[e]⟩
theorem CI{α:Type}{l:List α}(h:l.length=3):∃a b c,l=[a,b,c]:=by
 cases l with
 |nil=>exact nomatch h
 |cons a l=>obtain⟨b,c,e⟩:=FA (aao h);exact⟨a,b,c,by rw[e]⟩
theorem GW{α:Type}{l:List α}(h:l.length=4):∃a b c d,l=[a,b,c,d]:=by
 cases l with
 |nil=>exact nomatch h
 |cons a l=>obtain⟨b,c,d,e⟩:=CI (aao h);exact⟨a,b,c,d,by rw[e]⟩
theorem GX{α:Type}{rs:List α}(h:rs.length<=3):rs=[]\/(∃a,rs=[a])\/(∃a b,rs=[a,b])\/∃a b c,rs=[a,b,c]:=by
 have:rs.length=0\/rs.length=1\/rs.length=2\/rs.length=3:=ad 33391872239666958238321032150285180 [_] [] h
 exact this.imp List.eq_nil_of_length_eq_zero λh=>h.imp GV λh=>h.imp FA CI
noncomputable abbrev AK(r:Nat)(rs:List (List PC))(n:Nat)(g:Int)(t x:V)(s:Int×Int)(row:List PC)(c:Int):Prop:=
 ∃(s':Int×Int)(row':List PC)(c':Int)(loc1:au),cu TT (RF (r+6)) HT (bn b7) 54 (cG w9) (a6 w9) x (w8 rs.length n g t c) (qS s rs++[.lst (row.map PC.v)])=some (.next,loc1,qS s' rs++[.lst (row'.map PC.v)])/\dx (w8 rs.length n g t c) loc1=w8 rs.length n g t c'/\uV n g row' c'/\row'≠[]
noncomputable abbrev LA:Stmt:=ag 0 (a6 w9)
noncomputable abbrev CJ:Expr:=match LA with
 | .If t _ _ _=>t
 |_=> .Constant .none 0 ⟨0,0,0,0⟩
noncomputable abbrev ye:List Stmt:=ru LA
noncomputable abbrev v0(k n:Nat)(g:Int)(t:V)(c:Int)(x:V):au:=w8 k n g t c++[(aaQ "lap",x)]
noncomputable abbrev tZ(k n:Nat)(g:Int)(t:V)(c:Int)(x:V)(l:Int):au:=w8 k n g t c++[(aaQ "lap",x),(aaQ "last",.int l)]
noncomputable abbrev bD(rs:List (List PC))(s:Int×Int)(row:List PC):Mu:=qS s rs++[.lst (row.map PC.v)]
noncomputable abbrev nY:ae:=bn b7
structure Kw(r:Nat)(rs:List (List PC)):Prop where
 c0:∀{n:Nat}{g:Int}{t x:V}{c:Int}{s:Int×Int}{row:List PC},¬c<(n:Int)->oY TT (RF (r+6)) HT nY (v0 rs.length n g t c x) 52 CJ (bD rs s row)=some (false,bD rs s row)
 c1:∀{n:Nat}{g:Int}{t x:V}{c:Int}{s:Int×Int}{row:List PC},c<(n:Int)->b9 (bD rs s row) .Eq (.ref (2+rs.length)) (.lst [])=some true->oY TT (RF (r+6)) HT nY (v0 rs.length n g t c x) 52 CJ (bD rs s row)=some (true,bD rs s row)
 c2:∀{n:Nat}{g:Int}{t x:V}{c d:Int}{s s1:Int×Int}{row:List PC},c<(n:Int)->b9 (bD rs s row) .Eq (.ref (2+rs.length)) (.lst [])=some false->RF (r+6) (.ref cj) [.ref 0,.int 6] (bD rs s row)=some (.int d,bD rs s1 row)->d>0->
  oY TT (RF (r+6)) HT nY (v0 rs.length n g t c x) 52 CJ (bD rs s row)=some (true,bD rs s1 row)
 c3:∀{n:Nat}{g:Int}{t x:V}{c d:Int}{s s1:Int×Int}{row:List PC},c<(n:Int)->b9 (bD rs s row) .Eq (.ref (2+rs.length)) (.lst [])=some false->RF (r+6) (.ref cj) [.ref 0,.int 6] (bD rs s row)=some (.int d,bD rs s1 row)->¬d>0->
  oY TT (RF (r+6)) HT nY (v0 rs.length n g t c x) 52 CJ (bD rs s row)=some (false,bD rs s1 row)
 d0:∀{n:Nat}{g:Int}{t x:V}{c d e:Int}{s s1 s2:Int×Int}{row:List PC},RF (r+6) (.ref cj) [.ref 0,.int 3] (bD rs s row)=some (.int d,bD rs s1 row)->d=0->RF (r+6) (.ref cj) [.ref 0,.int (n-c)] (bD rs s1 row)=some (.int e,bD rs s2 row)->
  g6 TT (RF (r+6)) HT nY 52 (ye.take 1) (v0 rs.length n g t c x) (bD rs s row)=some (.next,tZ rs.length n g t c x (c+e),bD rs s2 row)
 d1:∀{n:Nat}{g:Int}{t x:V}{c d:Int}{s s1:Int×Int}{row:List PC},RF (r+6) (.ref cj) [.ref 0,.int 3] (bD rs s row)=some (.int d,bD rs s1 row)->¬d=0->
  g6 TT (RF (r+6)) HT nY 52 (ye.take 1) (v0 rs.length n g t c x) (bD rs s row)=some (.next,tZ rs.length n g t c x (c+0),bD rs s1 row)
 e0:∀{n:Nat}{g:Int}{t x:V}{c l:Int}{s:Int×Int}{row:List PC},¬l=g->g6 TT (RF (r+6)) HT nY 51 ((ye.drop 1).take 1) (tZ rs.length n g t c x l) (bD rs s row)=some (.next,tZ rs.length n g t c x l,bD rs s row)
 e1:∀{n:Nat}{g:Int}{t x:V}{c l:Int}{s:Int×Int}{row:List PC},l=g->l+1<(n:Int)->g6 TT (RF (r+6)) HT nY 51 ((ye.drop 1).take 1) (tZ rs.length n g t c x l) (bD rs s row)=some (.next,tZ rs.length n g t c x (l+1),bD rs s row)
 e2:∀{n:Nat}{g:Int}{t x:V}{c l:Int}{s:Int×Int}{row:List PC},l=g->¬l+1<(n:Int)->g6 TT (RF (r+6)) HT nY 51 ((ye.drop 1).take 1) (tZ rs.length n g t c x l) (bD rs s row)=some (.next,tZ rs.length n g t c x (l-1),bD rs s row)
 f0:∀{n:Nat}{g:Int}{t x:V}{c l:Int}{s:Int×Int}{row:List PC},¬l>=c->g6 TT (RF (r+6)) HT nY 50 (ye.drop 2) (tZ rs.length n g t c x l) (bD rs s row)=some (.next,tZ rs.length n g t c x l,bD rs s row)
 f1:∀{n:Nat}{g:Int}{t x:V}{c l d:Int}{s s5 s6:Int×Int}{row row':List PC}{ps:List Pt},l>=c->RF (r+6) (.ref cj) [.ref 0,.int 2] (bD rs s row)=some (.int d,bD rs s5 row)->-1000<=1+d/\1+d<=1000->(aM 0 (1+d)).length<=1000->
  aW (dG TT (RF (r+6)) HT nY (tZ rs.length n g t c x l) 38 (cT CE) [] (cE CE) (cN CE)) (aM 0 (1+d)) (bD rs s5 row)=some (ps.map Pt.v,bD rs s6 row)->dJ (RF (r+6)) (.ref (2+rs.length)) [.tup [.int c,.int l,.lst (ps.map Pt.v)]] (bD rs s6 row) (.app (2+rs.length))=some (.none,bD rs s6 row')->
  g6 TT (RF (r+6)) HT nY 50 (ye.drop 2) (tZ rs.length n g t c x l) (bD rs s row)=some (.next,tZ rs.length n g t (l+1) x l,bD rs s6 row')
theorem Kx(rs:List (List PC))(h:rs.length<=3):Kw r rs:=by
 rcases GX h with rfl|⟨a,rfl⟩|⟨a,b,rfl⟩|⟨a,b,d,rfl⟩<;>exact
  ⟨λh=>sE [oB (mU h)] (by kernel_rfl),λh e=>sE [oB (mT h),oB e] (by kernel_rfl),λh e k b=>sE [oB (mT h),oB e,oC k,oB (jl b)] (by kernel_rfl),λh e k b=>sE [oB (mT h),oB e,oC k,oB (fJ b)] (by kernel_rfl),
   λk h k'=>bK [oC k,oB (dl h),oC k'] (by kernel_rfl),λk h=>bK [oC k,oB (cC h)] (by kernel_rfl),λh=>bK [oB (cC h)] (by kernel_rfl),λh k=>bK [oB (dl h),oB (mT k)] (by kernel_rfl),λh k=>bK [oB (dl h),oB (mU k)] (by kernel_rfl),
   λh=>bK [oB (Ko h)] (by kernel_rfl),λh k g1 g2 m p=>bK [oB (Kn h),oC k,oG g1,oG g2,oL m,oV p] (by kernel_rfl)⟩
theorem qB{rs:List (List PC)}{s:Int×Int}{row:List PC}:(bD rs s row)[2+rs.length]? =some (.lst (row.map PC.v)):=by
 have e:(qS s rs).length=2+rs.length:=by show(DQ rs).length+1=_;rw[aaf,aaq];exact dk 9374708799108002 [_] []
 rw[<-e];exact ls _ _
theorem AL{rs:List (List PC)}{s:Int×Int}{row row':List PC}:(bD rs s row).set (2+rs.length) (.lst (row'.map PC.v))=bD rs s row':=by
 have e:(qS s rs).length=2+rs.length:=by show(DQ rs).length+1=_;rw[aaf,aaq];exact dk 9374708799108002 [_] []
 rw[<-e];exact List.set_append_right _ _ (aaS _) |>.trans (by rw[Nat.sub_self];rfl)
theorem AM{α β:Type}{a:α}{m:Mu}{f:α->Mu->Option β}:dY (some (a,m)) f=f a m:=by unfold dY;rfl
theorem AN{mu:Mu}{i:Nat}{l:List V}(h:mu[i]? =some (.lst l)):b9 mu .Eq (.ref i) (.lst [])=some l.isEmpty:=by
 show(oh mu i).map (·.isEmpty)=_
 rw[mV h];rfl
theorem xe{k n:Nat}{g:Int}{t x:V}{c:Int}{m m1 m2:Mu}{loc:au}{b:Bool}(h:oY TT (RF (r+6)) HT nY (v0 k n g t c x) 52 CJ m=some (b,m1))(hb:g6 TT (RF (r+6)) HT nY 52 (if b then ye else[]) (v0 k n g t c x) m1=some (.next,loc,m2)):
  cu TT (RF (r+6)) HT nY 54 (cG w9) (a6 w9) x (w8 k n g t c) m=some (.next,loc,m2):=by
 have e:cu TT (RF (r+6)) HT nY 54 (cG w9) (a6 w9) x (w8 k n g t c) m=(dY (oY TT (RF (r+6)) HT nY (v0 k n g t c x) 52 CJ m) λb m=>g6 TT (RF (r+6)) HT nY 52 (if b then ye else[]) (v0 k n g t c x) m).bind λq=>match q.1 with
  | .next=>some (.next,q.2.1,q.2.2)
  | .ret _=>some q:=by kernel_rfl
 rw[e,h,AM,hb];rfl
theorem Mj{rs:List (List PC)}(h:rs.length<=3){n:Nat}{g:Int}{t x:V}(n2:2<=n)(n4:n<=4)(s:Int×Int){row:List PC}{c:Int}(I:uV n g row c):AK r rs n g t x s row c:=by
 have K:=Kx (r:=r) rs h
 have c0:=I.c0
 have cn:=I.cn
 have hlen:=I.ch.len
 have stay:∀{s1:Int×Int},oY TT (RF (r+6)) HT nY (v0 rs.length n g t c x) 52 CJ (bD rs s row)=some (false,bD rs s1 row)->row≠[]->AK r rs n g t x s row c:=λ{s1} h hne=>⟨s1,row,c,_,xe h rfl,by kernel_rfl,I,hne⟩
 have fin:∀{s1 s2:Int×Int}{l l':Int},oY TT (RF (r+6)) HT nY (v0 rs.length n g t c x) 52 CJ (bD rs s row)=some (true,bD rs s1 row)->g6 TT (RF (r+6)) HT nY 52 (ye.take 1) (v0 rs.length n g t c x) (bD rs s1 row)=some (.next,tZ rs.length n g t c x l,bD rs s2 row)->
   g6 TT (RF (r+6)) HT nY 51 ((ye.drop 1).take 1) (tZ rs.length n g t c x l) (bD rs s2 row)=some (.next,tZ rs.length n g t c x l',bD rs s2 row)->l'<n->l'≠g->(row=[]->c<=l')->AK r rs n g t x s row c:=λ{s1 s2 l l'} h1 h2 h3 hn hg hr=>by
  have run:∀{loc:au}{m:Mu},g6 TT (RF (r+6)) HT nY 50 (ye.drop 2) (tZ rs.length n g t c x l') (bD rs s2 row)=some (.next,loc,m)->cu TT (RF (r+6)) HT nY 54 (cG w9) (a6 w9) x (w8 rs.length n g t c) (bD rs s row)=some (.next,loc,m):=λh4=>
   xe h1 ((Kv (k:=1) (m:=50) h2 rfl rfl).trans ((Kv (k:=1) (m:=49) h3 rfl rfl).trans h4))
  by_cases hc:l'>=c
  ·obtain⟨d,s5,t5,a5,b5⟩:=nX (r:=r+5) (DQ rs++[.lst (row.map PC.v)]) (n:=2) (by decide) s2
   obtain⟨ps,s6,hcm,hl,hp⟩:=CF (r:=r) (k:=rs.length) (n:=n) (g:=g) (c:=c) (l:=l') (t:=t) (x:=x) rfl a5 (DQ rs++[.lst (row.map PC.v)]) s5
   have ap:dJ (RF (r+6)) (.ref (2+rs.length)) [.tup [.int c,.int l',.lst (ps.map Pt.v)]] (bD rs s6 row) (.app (2+rs.length))=some (.none,bD rs s6 (row++[⟨c.toNat,l'.toNat,ps⟩])):=cL qB (by rw[aaq];exact tX 806374849665026364951061723194629221325763874909336272983070 [_,_,_] [_] n4 cn hlen (tn _)) (by have e:=AL (rs:=rs) (s:=s6) (row:=row) (row':=row++[⟨c.toNat,l'.toNat,ps⟩]);rw[abk,List.map_singleton,<-Ku c0 (by exact av 22338089473397133 [] [_,_] c0 hc)] at e;exact e)
   have g2:(aM 0 (1+d)).length<=1000:=by unfold aM;rw[aaq,abw];exact av 587847264463786249209038051762256206357734399054770946034300617354 [_] [_] b5 (tn _)
   exact⟨s6,_,l'+1,_,run (K.f1 hc t5 ⟨by exact ad 22384425026859033 [] [_] a5,by exact ad 1055016675541354 [] [_] b5⟩ g2 hcm ap),by kernel_rfl,I.add hc hn hg (by exact dX 91848325646662981627504162054698255316266736904245374420033 [_,_] [_] a5 hl (tn _)) (by exact dX 679201374193269712542228142072998255316266736904245374532354 [_,_] [_] b5 hl (tn _)) hp,by simp⟩
  ·exact⟨s2,row,c,_,run (K.f0 hc),by kernel_rfl,I,λe=>hc (hr e)⟩
 have go:∀{s1:Int×Int},oY TT (RF (r+6)) HT nY (v0 rs.length n g t c x) 52 CJ (bD rs s row)=some (true,bD rs s1 row)->c<n->(row=[]->c=0)->AK r rs n g t x s row c:=λ{s1} h1 hc hr=>by
  have mid:∀{s2:Int×Int}{l:Int},g6 TT (RF (r+6)) HT nY 52 (ye.take 1) (v0 rs.length n g t c x) (bD rs s1 row)=some (.next,tZ rs.length n g t c x l,bD rs s2 row)->c<=l->l<n->AK r rs n g t x s row c:=λ{s2 l} h2 hl hn=>by
   by_cases e1:l=g
   ·by_cases e2:l+1<(n:Int)
    ·exact fin h1 h2 (K.e1 e1 e2) e2 (by exact ad 26691624558931055 [] [_,_] e1) λ_=>by exact ad 864123396286053 [] [_,_] hl
    ·exact fin h1 h2 (K.e2 e1 e2) (by exact ad 792923264193830854 [_] [_] hn) (by exact ad 26691630463831055 [] [_,_] e1) λe=>by have:=hr e;exact dX 30130325681332399421495339734289640 [_] [_,_] n2 e2 this
   ·exact fin h1 h2 (K.e0 e1) hn e1 λ_=>hl
  obtain⟨d3,s3,t3,a3,b3⟩:=nX (r:=r+5) (DQ rs++[.lst (row.map PC.v)]) (n:=3) (by decide) s1
  by_cases h3:d3=0
  ·obtain⟨d4,s4,t4,a4,b4⟩:=nX (r:=r+5) (DQ rs++[.lst (row.map PC.v)]) (n:=n-c) (by exact ad 1945903740048230854 [_] [_] hc) s3
   exact mid (K.d0 t3 h3 t4) (by exact ad 289635675287133 [] [_,_] a4) (by exact ad 6418029346289922644644 [_] [_,_] b4)
  ·exact mid (K.d1 t3 h3) (by exact dk 1119015453 [] [_]) (by exact ad 792875428598930854 [_] [_] hc)
 have cz:row=[]->c=0:=λe=>by have:Ch 0 [] c.toNat:=e▸I.ch;have:0=c.toNat:=this;exact dX 1360511774238726070352961733578285381590256840033 [_] [_] c0 this (tn _)
 by_cases hc:c<(n:Int)
 ·cases hr:row.isEmpty with
  |true=>exact go (K.c1 hc (by rw[AN qB,List.isEmpty_map,hr])) hc cz
  |false=>
   have hne:row≠[]:=λe=>by rw[e] at hr;cases hr
   obtain⟨d6,s1,t1,a1,b1⟩:=nX (r:=r+5) (DQ rs++[.lst (row.map PC.v)]) (n:=6) (by decide) s
   have he:b9 (bD rs s row) .Eq (.ref (2+rs.length)) (.lst [])=some false:=by rw[AN qB,List.isEmpty_map,hr]
   by_cases h1:d6>0
   ·exact go (K.c2 hc he t1 h1) hc cz
   ·exact stay (K.c3 hc he t1 h1) hne
 ·exact stay (K.c0 hc) λe=>by have:=cz e;exact dX 28837665719890436789640 [_] [_] n2 hc this
end
section
variable{r:Nat}{mu:Mu}
noncomputable def uW(n:Nat)(g:Int)(row:List PC):Prop:=row≠[]/\∃c,uV n g row c
theorem Ky{rs:List (List PC)}(h:rs.length<=3){n:Nat}{g:Int}{t:V}(n2:2<=n)(n4:n<=4)(s:Int×Int):
  ∃(s':Int×Int)(row:List PC)(c:Int),jN (cu TT (RF (r+6)) HT (bn b7) 54 (cG w9) (a6 w9)) (aM 0 n) (w8 rs.length n g t 0) (qS s rs++[.lst []])=some (.next,w8 rs.length n g t c,qS s' rs++[.lst (row.map PC.v)])/\uV n g row c/\row≠[]:=by
 have:=qz (α:=Nat) (σ:=(Int×Int)×List PC×Int) (f:=cu TT (RF (r+6)) HT (bn b7) 54 (cG w9) (a6 w9)) (λk:Nat=>V.int (k:Int)) (λq=>w8 rs.length n g t q.2.2) (λq=>qS q.1 rs++[.lst (q.2.1.map PC.v)]) (λq l=>uV n g q.2.1 q.2.2/\(l.length<n->q.2.1≠[]))
  (λq v l i=>by
   obtain⟨s',row',c',loc1,h1,h2,h3,h4⟩:=Mj (r:=r) h (x:=V.int (v:Int)) (t:=t) n2 n4 q.1 i.1
   exact⟨(s',row',c'),loc1,h1,h2,h3,λq0=>h4⟩) (aaa n) (s,[],0) ⟨⟨by show(0:Int)<=0;exact dk 139233 [] [],by show(0:Int)<=n;exact dk 1491933 [_] [],rfl,λp hp=>absurd hp abh⟩,λh=>absurd h (by simp)⟩
 obtain⟨⟨s',row,c⟩,h1,h2,h3⟩:=this
 rw[<-bY] at h1
 exact⟨s',row,c,h1,h2,h3 (by simp;exact ad 12729086640 [_] [] n2)⟩
theorem CK{rs:List (List PC)}(h:rs.length<=3){n:Nat}{g:Int}{t:V}(n2:2<=n)(n4:n<=4)(s:Int×Int):
  ∃(s':Int×Int)(row:List PC)(loc1:au),cu TT (RF (r+6)) HT (bn b7) 57 (cG Fz) (a6 Fz) t (vZ n g) (qS s rs)=some (.next,loc1,qS s' (rs++[row]))/\dx (vZ n g) loc1=vZ n g/\uW n g row:=by
 obtain⟨s',row,c,h1,h2,h3⟩:=Ky (r:=r) h (g:=g) (t:=t) n2 n4 s
 have g1:(-1000:Int)<=n/\(n:Int)<=1000:=ad 6219866656953679578049980 [_] [] n4
 have g2:(aM 0 (n:Int)).length<=1000:=by rw[bY];simp;exact ad 112324465980 [_] [] n4
 refine⟨s',row,w8 rs.length n g t c,?_,by kernel_rfl,h3,c,h2⟩
 rcases GX h with rfl|⟨a,rfl⟩|⟨a,b,rfl⟩|⟨a,b,d,rfl⟩
 ·have ap:dJ (RF (r+6)) (.ref 1) [.ref 2] (qS s' []++[.lst (row.map PC.v)]) (.app 1)=some (.none,qS s' [row]):=cL (l:=[]) rfl (by simp) rfl
  exact bx [oG g1,oG g2,oS h1,oV ap] (by kernel_rfl)
 ·have ap:dJ (RF (r+6)) (.ref 1) [.ref 3] (qS s' [a]++[.lst (row.map PC.v)]) (.app 1)=some (.none,qS s' [a,row]):=cL (l:=[.ref 2]) rfl (by simp) rfl
  exact bx [oG g1,oG g2,oS h1,oV ap] (by kernel_rfl)
 ·have ap:dJ (RF (r+6)) (.ref 1) [.ref 4] (qS s' [a,b]++[.lst (row.map PC.v)]) (.app 1)=some (.none,qS s' [a,b,row]):=cL (l:=[.ref 2,.ref 3]) rfl (by simp) rfl
  exact bx [oG g1,oG g2,oS h1,oV ap] (by kernel_rfl)
 ·have ap:dJ (RF (r+6)) (.ref 1) [.ref 5] (qS s' [a,b,d]++[.lst (row.map PC.v)]) (.app 1)=some (.none,qS s' [a,b,d,row]):=cL (l:=[.ref 2,.ref 3,.ref 4]) rfl (by simp) rfl
  exact bx [oG g1,oG g2,oS h1,oV ap] (by kernel_rfl)
theorem uX{n:Nat}{g:Int}(n2:2<=n)(n4:n<=4)(s:Int×Int){m:Nat}(hm:m<=4):
  ∃(s':Int×Int)(rs:List (List PC)),jN (cu TT (RF (r+6)) HT (bn b7) 57 (cG Fz) (a6 Fz)) (aM 0 m) (vZ n g) (qS s [])=some (.next,vZ n g,qS s' rs)/\rs.length=m/\∀row∈rs,uW n g row:=by
 have:=qz (α:=Nat) (σ:=(Int×Int)×List (List PC)) (f:=cu TT (RF (r+6)) HT (bn b7) 57 (cG Fz) (a6 Fz)) (λk:Nat=>V.int (k:Int)) (λq=>vZ n g) (λq=>qS q.1 q.2) (λq l=>q.2.length+l.length=m/\∀row∈q.2,uW n g row)
  (λq v l i=>by
   have i1:=i.1
   rw[aaf] at i1
   obtain⟨s',row',loc1,h1,h2,h3⟩:=CK (r:=r) (av 5654868168564679071404070 [_,_,_] [] hm i1:q.2.length<=3) (t:=V.int (v:Int)) n2 n4 q.1
   refine⟨(s',q.2++[row']),loc1,h1,h2,by rw[aap,aax];exact ad 102569063067802393914346202 [_,_,_] [] i1,λrow hr=> ?_⟩
   rcases aaj.mp hr with hr|hr
   ·exact i.2 row hr
   ·rw[aah] at hr;rw[hr];exact h3) (aaa m) (s,[]) ⟨by simp,λq0 h=>absurd h abh⟩
 obtain⟨⟨s',rs⟩,h1,h2,h3⟩:=this
 rw[<-bY] at h1
 exact⟨s',rs,h1,by simpa using h2,h3⟩
theorem tJ(l:List (List PC)):ab 0 (l.map a7)=true:=aQ λp q0=>fN p
theorem sI{s:Int×Int}{rs:List (List PC)}(h:rs.length=2\/rs.length=3\/rs.length=4):cX 1 (some 0) (.ref 1) (qS s rs)=some (.lst (rs.map a7),[.lst (dt s)]):=by
 have key:∀rs:List (List PC),aG 1 (.lst (rs.map a7))=true:=λrs=>fF (m:=0) (by decide) (tJ rs)
 have hp:∀(j:Nat)(u:V)(row:List PC),b8 j u (row.map PC.v)=row.map PC.v:=λj u row=>eM (fN row)
 have hq:∀(j:Nat)(u:V)(row:List PC),jH j u (.lst (row.map PC.v))= .lst (row.map PC.v):=λj u row=>by rw[jH,hp]
 rcases h with h|h|h
 ·obtain⟨a,b,rfl⟩:∃a b,rs=[a,b]:=FA h
  refine aZ (su:=[(1,.lst [.ref 2,.ref 3]),(2,a7 a),(3,a7 b)]) (mu2:=[.lst (dt s),.dead,.dead,.dead]) ?_ ?_ rfl (by simp) (key _) rfl
  ·show((1,V.lst [.ref 2,.ref 3])::(dc [2,3] [.lst (dt s),.dead,.lst (b8 1 _ (a.map PC.v)),.lst (b8 1 _ (b.map PC.v))]).1,(dc [2,3] [.lst (dt s),.dead,.lst (b8 1 _ (a.map PC.v)),.lst (b8 1 _ (b.map PC.v))]).2)=_
   rw[hp,hp]
   show((1,V.lst [.ref 2,.ref 3])::(2,a7 a)::(dc [3] [.lst (dt s),.dead,.dead,.lst (b8 2 _ (b.map PC.v))]).1,(dc [3] [.lst (dt s),.dead,.dead,.lst (b8 2 _ (b.map PC.v))]).2)=_
   rw[hp]
   rfl
  ·show V.lst [jH 3 _ (.lst (a.map PC.v)),.lst (b.map PC.v)]=_
   rw[hq]
   rfl
 ·obtain⟨a,b,c,rfl⟩:∃a b c,rs=[a,b,c]:=CI h
  refine aZ (su:=[(1,.lst [.ref 2,.ref 3,.ref 4]),(2,a7 a),(3,a7 b),(4,a7 c)]) (mu2:=[.lst (dt s),.dead,.dead,.dead,.dead]) ?_ ?_ rfl (by simp) (key _) rfl
  ·show((1,V.lst [.ref 2,.ref 3,.ref 4])::(dc [2,3,4] [.lst (dt s),.dead,.lst (b8 1 _ (a.map PC.v)),.lst (b8 1 _ (b.map PC.v)),.lst (b8 1 _ (c.map PC.v))]).1,(dc [2,3,4] [.lst (dt s),.dead,.lst (b8 1 _ (a.map PC.v)),.lst (b8 1 _ (b.map PC.v)),.lst (b8 1 _ (c.map PC.v))]).2)=_
   rw[hp,hp,hp]
   show((1,V.lst [.ref 2,.ref 3,.ref 4])::(2,a7 a)::(dc [3,4] [.lst (dt s),.dead,.dead,.lst (b8 2 _ (b.map PC.v)),.lst (b8 2 _ (c.map PC.v))]).1,(dc [3,4] [.lst (dt s),.dead,.dead,.lst (b8 2 _ (b.map PC.v)),.lst (b8 2 _ (c.map PC.v))]).2)=_
   rw[hp,hp]
   show((1,V.lst [.ref 2,.ref 3,.ref 4])::(2,a7 a)::(3,a7 b)::(dc [4] [.lst (dt s),.dead,.dead,.dead,.lst (b8 3 _ (c.map PC.v))]).1,(dc [4] [.lst (dt s),.dead,.dead,.dead,.lst (b8 3 _ (c.map PC.v))]).2)=_
   rw[hp]
   rfl
  ·show V.lst [jH 4 _ (jH 3 _ (.lst (a.map PC.v))),jH 4 _ (.lst (b.map PC.v)),.lst (c.map PC.v)]=_
   rw[hq,hq,hq]
   rfl
 ·obtain⟨a,b,c,d,rfl⟩:∃a b c d,rs=[a,b,c,d]:=GW h
  refine aZ (su:=[(1,.lst [.ref 2,.ref 3,.ref 4,.ref 5]),(2,a7 a),(3,a7 b),(4,a7 c),(5,a7 d)]) (mu2:=[.lst (dt s),.dead,.dead,.dead,.dead,.dead]) ?_ ?_ rfl (by simp) (key _) rfl
  ·show((1,V.lst [.ref 2,.ref 3,.ref 4,.ref 5])::(dc [2,3,4,5] [.lst (dt s),.dead,.lst (b8 1 _ (a.map PC.v)),.lst (b8 1 _ (b.map PC.v)),.lst (b8 1 _ (c.map PC.v)),.lst (b8 1 _ (d.map PC.v))]).1,(dc [2,3,4,5] [.lst (dt s),.dead,.lst (b8 1 _ (a.map PC.v)),.lst (b8 1 _ (b.map PC.v)),.lst (b8 1 _ (c.map PC.v)),.lst (b8 1 _ (d.map PC.v))]).2)=_
   rw[hp,hp,hp,hp]
   show((1,V.lst [.ref 2,.ref 3,.ref 4,.ref 5])::(2,a7 a)::(dc [3,4,5] [.lst (dt s),.dead,.dead,.lst (b8 2 _ (b.map PC.v)),.lst (b8 2 _ (c.map PC.v)),.lst (b8 2 _ (d.map PC.v))]).1,(dc [3,4,5] [.lst (dt s),.dead,.dead,.lst (b8 2 _ (b.map PC.v)),.lst (b8 2 _ (c.map PC.v)),.lst (b8 2 _ (d.map PC.v))]).2)=_
   rw[hp,hp,hp]
   show((1,V.lst [.ref 2,.ref 3,.ref 4,.ref 5])::(2,a7 a)::(3,a7 b)::(dc [4,5] [.lst (dt s),.dead,.dead,.dead,.lst (b8 3 _ (c.map PC.v)),.lst (b8 3 _ (d.map PC.v))]).1,(dc [4,5] [.lst (dt s),.dead,.dead,.dead,.lst (b8 3 _ (c.map PC.v)),.lst (b8 3 _ (d.map PC.v))]).2)=_
   rw[hp,hp]
   show((1,V.lst [.ref 2,.ref 3,.ref 4,.ref 5])::(2,a7 a)::(3,a7 b)::(4,a7 c)::(dc [5] [.lst (dt s),.dead,.dead,.dead,.dead,.lst (b8 4 _ (d.map PC.v))]).1,(dc [5] [.lst (dt s),.dead,.dead,.dead,.dead,.lst (b8 4 _ (d.map PC.v))]).2)=_
   rw[hp]
   rfl
  ·show V.lst [jH 5 _ (jH 4 _ (jH 3 _ (.lst (a.map PC.v)))),jH 5 _ (jH 4 _ (.lst (b.map PC.v))),jH 5 _ (.lst (c.map PC.v)),.lst (d.map PC.v)]=_
   rw[hq,hq,hq,hq,hq,hq]
   rfl
theorem qC{a b c:Int}{i:Int}(h0:0<=i)(h1:i<3):∃x,bP [] (.lst [.int a,.int b,.int c]) i=some (.int x)/\(x=a\/x=b\/x=c):=by
 have:i=0\/i=1\/i=2:=av 353115188902488509752248180708033 [] [_] h0 h1
 rcases this with rfl|rfl|rfl
 ·exact⟨a,rfl,.inl rfl⟩
 ·exact⟨b,rfl,.inr (.inl rfl)⟩
 ·exact⟨c,rfl,.inr (.inr rfl)⟩
theorem AO{n:Nat}{g:Int}(n2:2<=n)(n4:n<=4)(s:Int×Int):∃(s':Int×Int)(rs:List (List PC)),RF (r+7) (.ref jg) [.ref 0,.int n,.int g] (gF s)=some (.lst (rs.map a7),gF s')/\(rs.length=2\/rs.length=3\/rs.length=4)/\∀row∈rs,uW n g row:=by
 by_cases h4:(n:Int)=4
 ·obtain⟨d,s1,t1,a1,b1⟩:=nX (r:=r+5) [.lst []] (n:=2) (by decide) s
  obtain⟨x,i1,hx⟩:=qC (a:=3) (b:=2) (c:=4) a1 (ad 136143820354 [] [_] b1:d<3)
  obtain⟨m,hm,hm4⟩:∃m:Nat,x=m/\m<=4/\(m=2\/m=3\/m=4):=⟨x.toNat,av 86692835219714542316017985346906417350411323443766815577957 [_] [_] hx (tn _),av 8488707667751042039904506813031417350411323443766815577957 [_] [_] hx (tn _),av 36541620381190659453505551628748359300535687814417350411323443766815577957 [_] [_] hx (tn _)⟩
  subst hm
  obtain⟨s',rs,h1,h2,h3⟩:=uX (r:=r) n2 n4 (g:=g) s1 hm4.1
  have g1:(-1000:Int)<=m/\(m:Int)<=1000:=ad 1756674056897054758716052140943053988052904208206 [_] [] hm4
  have g2:(aM 0 (m:Int)).length<=1000:=by rw[bY];simp;exact ad 31723746862834945149988052904208206 [_] [] hm4
  refine⟨s',rs,?_,av 94320309376282521427250700825832461144199122594345216306 [_,_] [] hm4 h2,h3⟩
  exact gD (mu:=gF s) (i:=0) (ws:=[.int n,.int g]) (l:=dt s) (l':=dt s') lY rfl rfl rfl rfl rfl (tJ rs) [oB (dl h4),oC t1,oW i1,oG g1,oG g2,oS h1,oV (sI (s:=s') (rs:=rs) (av 94320309376282521427250700825832461144199122594345216306 [_,_] [] hm4 h2))] (by kernel_rfl)
 ·obtain⟨d,s1,t1,a1,b1⟩:=nX (r:=r+5) [.lst []] (n:=3) (by decide) s
  obtain⟨x,i1,hx⟩:=qC (a:=3) (b:=2) (c:=4) a1 (ad 136143852754 [] [_] b1:d<3)
  obtain⟨m,hm,hm4⟩:∃m:Nat,x=m/\m<=4/\(m=2\/m=3\/m=4):=⟨x.toNat,av 86692835219714542316017985346906417350411323443766815577957 [_] [_] hx (tn _),av 8488707667751042039904506813031417350411323443766815577957 [_] [_] hx (tn _),av 36541620381190659453505551628748359300535687814417350411323443766815577957 [_] [_] hx (tn _)⟩
  subst hm
  obtain⟨s',rs,h1,h2,h3⟩:=uX (r:=r) n2 n4 (g:=g) s1 hm4.1
  have g1:(-1000:Int)<=m/\(m:Int)<=1000:=ad 1756674056897054758716052140943053988052904208206 [_] [] hm4
  have g2:(aM 0 (m:Int)).length<=1000:=by rw[bY];simp;exact ad 31723746862834945149988052904208206 [_] [] hm4
  refine⟨s',rs,?_,av 94320309376282521427250700825832461144199122594345216306 [_,_] [] hm4 h2,h3⟩
  exact gD (mu:=gF s) (i:=0) (ws:=[.int n,.int g]) (l:=dt s) (l':=dt s') lY rfl rfl rfl rfl rfl (tJ rs) [oB (cC h4),oC t1,oW i1,oG g1,oG g2,oS h1,oV (sI (s:=s') (rs:=rs) (av 94320309376282521427250700825832461144199122594345216306 [_,_] [] hm4 h2))] (by kernel_rfl)
end
section
variable{r:Nat}{mu:Mu}
inductive LR where
 |cells (l:List PC)
 |rule (a b c:Option Int)
 |kern (w:Int)
noncomputable def LR.v:LR->V
 | .cells l=>a7 l
 | .rule a b c=> .tup [oi a,oi b,oi c]
 | .kern w=> .tup [.int 5,.int w]
noncomputable def bS(v:Bool)(p:PC):Ce:=bB v ((p.l:Int)-p.f+1) p.ps
noncomputable def LR.rw(v:Bool):LR->Rw
 | .cells l=> .cells (l.map (bS v))
 | .rule a b c=> .nd (.rule a b c)
 | .kern w=> .nd (.kern w)
noncomputable def F6:Option Int->Prop
 |none=>True
 |some x=>0<=x/\x<=10
noncomputable def g8(n:Nat):LR->Prop
 | .cells l=>∃b,Ch 0 l b/\b<=n/\∀p∈l,p.ps.length<=2/\∀x∈p.ps,DK x
 | .rule a b c=>F6 a/\F6 b/\F6 c
 | .kern w=>0<=w/\w<=30
structure v1(n:Nat)(sk:List Gl)(v:Bool)(mode amount:Int)(rows:List LR):Prop where
 n14:n=1\/n=2\/n=3\/n=4
 skn:sk.length=n+1
 gl:∀g∈sk,rA g
 md:mode=0\/mode=1
 a1: -400<=amount
 a2:amount<=400
 len:rows.length<=8
 rok:∀x∈rows,g8 n x
 sz:∀w,some w∈eD n sk (rows.map (LR.rw v))->-2600<=w/\w<=2600
theorem kc(v:Bool)(p:PC):(bS v p).spans=(p.l:Int)-p.f+1:=by
 unfold bS bB;split<;>rfl
theorem tK(v:Bool)(p:PC):(bS v p).vert=v:=by
 unfold bS bB;cases v<;>rfl
theorem ke(v:Bool):∀{a b:Nat}{l:List PC},Ch a l b->bN a (l.map (bS v))=(l.map λp=>((p.f:Int),bS v p))/\mX a (l.map (bS v))=b
 |a,b,[],h=>⟨rfl,by rw[show a=b from h];rfl⟩
 |a,b,p::l,h=>by
  have h1:=h.1
  have h2:=h.2.1
  have e:(a:Int)+(bS v p).spans=((p.l+1:Nat):Int):=by rw[kc];exact ad 25071372764560616540907344605261562 [_,_,_] [] h1
  obtain⟨i1,i2⟩:=ke v h.2.2
  rw[aaX,bN,mX,e,i1,i2,aaX,h1]
  exact⟨rfl,rfl⟩
theorem Ch.bd:∀{a b:Nat}{l:List PC},Ch a l b->a<=b/\∀p∈l,a<=p.f/\p.f<=p.l/\p.l+1<=b
 |a,b,[],h=>⟨by have:a=b:=h;exact ad 17845944482 [_,_] [] this,λp hp=>absurd hp abh⟩
 |a,b,q::l,h=>by
  have h1:=h.1
  have h2:=h.2.1
  obtain⟨i1,i2⟩:=h.2.2.bd
  refine⟨dX 76820944359194755286956562 [_,_,_,_] [] h1 h2 i1,λp hp=> ?_⟩
  rcases aai.mp hp with rfl|hp
  ·exact dX 4579622371715701220292069084452391497216446472 [_,_,_,_] [] h1 h2 i1
  ·have:=i2 p hp;exact dX 159681558481689306216910511476829502996394534966350675503373976742 [_,_,_,_,_,_] [] h1 h2 this
theorem tL{n:Nat}{v:Bool}{x:LR}(h:g8 n x):kY n (x.rw v):=by
 cases x with
 |cells l=>
  obtain⟨b,h1,h2,h3⟩:=h
  refine⟨λc hc=> ?_,?_⟩
  ·obtain⟨p,hp,rfl⟩:=aak.mp hc
   exact w7 (h3 p hp).2 (by have:=h1.bd.2 p hp;exact ad 1973243444952361195498501260792774098960406 [_,_,_] [] this)
  ·have:=(ke v h1).2
   rw[show((0:Nat):Int)=0 from rfl] at this
   rw[this];exact ad 145626908451480 [_,_] [] h2
 |rule=>trivial
 |kern=>trivial
noncomputable def wt(m:Int):Nd->Int
 | .skip .. =>26
 |_=>m
noncomputable def AP:Nd->Int
 | .skip .. =>41
 |_=>0
theorem FB:∀(l:List Nd)(s:NL),(l.foldl gi s).t.nat=s.t.nat+(l.map zX).sum:=by
 intro L0
 induction L0 with
 |nil=>
  intro s
  simp
 |cons x l ih=>
  intro s
  rw[abm,ih,aaX,abr]
  have:(gi s x).t.nat=s.t.nat+zX x:=by cases x<;>rfl
  exact ad 154771630092563281104483455 [] [_,_,_,_] this
noncomputable def FC:Nd->Int
 | .skip g _=>g.w
 |_=>0
theorem FD:∀(l:List Nd)(s:NL),s.b=0->(∀x∈l,xX x=0)->(l.foldl dp s).t.nat=s.t.nat+(l.map (tB 3)).sum+(l.map FC).sum/\(l.foldl dp s).b=0:=by
 intro L0
 induction L0 with
 |nil=>
  intro s h _
  simp[h]
 |cons x l ih=>
  intro s h hl
  have hx:=hl x (.head _)
  have hb:(dp s x).b=0:=by cases x<;>first|rfl|exact hx
  have i:=ih (dp s x) hb λy hy=>hl y (.tail _ hy)
  rw[abm,i.1,i.2,aaX,abr,aaX,abr]
  refine⟨?_,rfl⟩
  cases x with
  |kern w=>
        have:(dp s (.kern w)).t.nat=s.t.nat+(s.b+w):=rfl
        rw[this,h,show tB 3 (.kern w)=w from rfl];simp only[FC];exact dk 1229109746230838421631797629665050005 [] [_,_,_,_]
  |skip g so=>
          have:(dp s (.skip g so)).t.nat=s.t.nat+s.b+g.w:=rfl
          rw[this,h,show tB 3 (.skip g so)=0 from rfl];simp only[FC];exact dk 1210764871525676896188897658861500005 [] [_,_,_,_]
  |rule a b c=>
          have:(dp s (.rule a b c)).t.nat=s.t.nat+(s.b+0):=rfl
          rw[this,h,show tB 3 (.rule a b c)=0 from rfl];simp only[FC];exact dk 1079014930207178906048698595155050005 [] [_,_,_]
  |box b it=>
         have:(dp s (.box b it)).t.nat=s.t.nat+(s.b+b.h):=rfl
         have hd:b.d=0:=hx
         rw[this,h,show tB 3 (.box b it)=b.h+b.d from rfl,hd];simp only[FC];exact dk 9955789149525921772059976197629665050005 [] [_,_,_,_]
theorem AQ{f g:Nd->Int}:∀{l:List Nd},(∀x∈l,-g x<=f x/\f x<=g x)->-(l.map g).sum<=(l.map f).sum/\(l.map f).sum<=(l.map g).sum:=by
 intro L0
 induction L0 with
 |nil=>
  intro _
  simp
 |cons x l ih=>
  intro h
  have h1:=h x (.head _)
  have h2:=ih λy hy=>h y (.tail _ hy)
  rw[aaX,aaX,abr,abr]
  exact av 23103223534873813401308508545608742466943821592147816314639576 [] [_,_,_,_] h1 h2
theorem kz(f:Nd->Int)(A B:Int)(sz:List (Option Int))(sk:List Gl)(v:Bool)(h1:∀g s,f (.skip g s)=A)(h2:∀b l,f (.box b l)=B):((aq sz sk v).map f).sum=A+(A+B)*sz.length:=by
 have:∀l:List Nat,((l.flatMap (bT sz sk v)).map f).sum=(A+B)*l.length:=by
  intro l
  induction l with
  |nil=>simp
  |cons c l ih=>
   rw[abg,abk,List.sum_append,ih,aaf]
   have:((bT sz sk v c).map f).sum=A+B:=by
    simp only[bT,la,aaX,abo,abr,List.sum_nil,h1,h2];exact dk 21810439417000505 [] [_,_]
   rw[this,Int.natCast_add,Int.mul_add];simp;exact dk 211144501354561605005 [] [_,_,_]
 rw[aq,aaX,abr,h1,this,abw]
theorem v2{a d:Int}(hd:0<d):(eq a d).natAbs<=a.natAbs+1:=by
 have key:∀x:Int,0<=x->(2*x+d).fdiv (2*d)<=x+1/\0<=(2*x+d).fdiv (2*d):=λx hx=>by
  rw[Int.fdiv_eq_ediv_of_nonneg _ (by exact ad 249258756399034 [] [_] hd)]
  refine⟨?_,Int.ediv_nonneg (by exact av 1710931013382397695107134 [] [_,_] hd hx) (by exact ad 249258756399034 [] [_] hd)⟩
  have h1:(2*x+d)/(2*d)<x+1+1:=by
   rw[Int.ediv_lt_iff_lt_mul (by exact ad 249258757128034 [] [_] hd)]
   have:(x+1+1)*(2*d)=2*(x*d)+4*d:=by rw[Int.add_mul,Int.add_mul,show x*(2*d)=2*(x*d) by rw[Int.mul_left_comm]];exact dk 61386554833590914403156036132584523274548005 [] [_,_]
   have h2:x*1<=x*d:=Int.mul_le_mul_of_nonneg_left (by exact ad 30707709034 [] [_] hd) hx
   exact dX 6263713159421654396369221552889200792254965134 [] [_,_,_,_] hd this h2
  exact ad 56695136036782189860454 [] [_,_] h1
 unfold eq
 split
 ·rename_i h
  have:=key (-a) (by exact ad 2676037395154 [] [_] h)
  rw[show 2* -a+d=d-2*a by exact dk 16353819560748671197205 [] [_,_]] at this
  exact dX 50833601046875512669668295598811651047006703154741011564020559162818146067039805244536395529781431334270776 [_,_] [_,_] this (na _) (na _)
 ·have:=key a (by lia)
  exact dX 8608714973475505541104556486784137080561347889844121167830145428777164638800043192355349234900776 [_,_] [_,_] this (na _) (na _)
theorem GY{b:Bx}{U E:Nat}{FM XM:Int}(hu:b.up.natAbs<=U)(hd:0<b.down)(hE:FM.toNat+U*XM.toNat+1<=E):∀(l:List Nd)(s:PL)(F X:Int),-F<=s.f/\s.f<=F->-X<=s.x/\s.x<=X->F+(l.map (wt 2600)).sum<=FM->X+(l.map AP).sum<=XM->(∀e∈s.l,e.natAbs<=E)->
  (∀x∈l,-wt 2600 x<=(match cZ x with|some g=>g.w|none=>tB b.kind x)/\(match cZ x with|some g=>g.w|none=>tB b.kind x)<=wt 2600 x)->(∀x∈l,∀g,cZ x=some g->rA g)->∀e∈(l.foldl (bt b) s).l,e.natAbs<=E:=by
 intro L0
 induction L0 with
 |nil=>
  intro s F X _ _ _ _ h _ _
  exact h
 |cons x l ih=>
  intro s F X h1 h2 h3 h4 h5 h6 h7
  rw[aaX,abr] at h3 h4
  have hx:=h6 x (.head _)
  have nn:∀l:List Nd,0<=(l.map (wt 2600)).sum/\0<=(l.map AP).sum:=by
   intro l
   induction l with
   |nil=>simp
   |cons y l ih=>rw[aaX,aaX,abr,abr];cases y<;>simp only[wt,AP]<;>omega
  have nl:=nn l
  have hfx: -AP x<=(match cZ x with|some g=>iR b g|none=>0)/\(match cZ x with|some g=>iR b g|none=>0)<=AP x:=by
   cases x with
   |skip g so=>
    have G:=h7 (.skip g so) (.head _) g rfl
    have:=G.s1;have:=G.s2;have:=G.k1;have:=G.k2
    have e:iR b g=g.s\/iR b g= -g.k\/iR b g=0:=by
     unfold iR
     split
     ·exact .inl rfl
     ·split
      ·exact .inr (.inl rfl)
      ·exact .inr (.inr rfl)
    simp only[cZ,AP]
    omega
   |_=>simp[cZ,AP]
  rw[abm]
  have e1:(bt b s x).f=s.f+(match cZ x with|some g=>g.w|none=>tB b.kind x):=rfl
  have e2:(bt b s x).x=s.x+(match cZ x with|some g=>iR b g|none=>0):=rfl
  have e3:(bt b s x).l=s.l++[(bt b s x).f+eq (b.up*(bt b s x).x) b.down]:=rfl
  have b1: -(F+wt 2600 x)<=(bt b s x).f/\(bt b s x).f<=F+wt 2600 x:=by rw[e1];exact av 23103223534873813401308508545608742466943821592147816314639576 [] [_,_,_,_] h1 hx
  have b2: -(X+AP x)<=(bt b s x).x/\(bt b s x).x<=X+AP x:=by rw[e2];exact av 23103223534873813401308508545608742466943821592147816314639576 [] [_,_,_,_] h2 hfx
  refine ih _ (F+wt 2600 x) (X+AP x) b1 b2 (by exact ad 205345275996820232326000503 [] [_,_,_,_] h3) (by exact ad 205345275996820232326000503 [] [_,_,_,_] h4) ?_ (λy hy=>h6 y (.tail _ hy)) (λy hy=>h7 y (.tail _ hy))
  intro e he
  rw[e3] at he
  rcases aaj.mp he with he|he
  ·exact h5 e he
  ·rw[aah] at he
   subst he
   have r1:=v2 (a:=b.up*(bt b s x).x) hd
   rw[Int.natAbs_mul] at r1
   have r2:b.up.natAbs*(bt b s x).x.natAbs<=U*XM.toNat:=Nat.mul_le_mul hu (by exact yv 43991092347798320665989410985124558304560494213011686274003916523212578001672295947885296793220791927901984639390696000503 [_,_] [_,_,_,_,_,_] h4 nl b2 (na _) (tn _))
   have r3:(bt b s x).f.natAbs<=FM.toNat:=by exact yv 43991092347798320665989410985124558304560494213011686274003916523212578001672295947885296793220842765148815531370696000503 [_,_] [_,_,_,_,_,_] h3 nl b1 (na _) (tn _)
   exact Lq 53482679937348094793315388239098614250184054784809737478399232550766972450644069780083494124555649908421064194883958248186547178450035535561413033681285827466000 [_,_,_,_,_,_,_] [_,_] hE r1 r2 r3 (na _) (na _) (na _)
theorem xf(t:Tt)(e:Int):0<(dH t e).down/\(dH t e).up.natAbs<=e.natAbs+1:=by
 unfold dH
 split
 ·simp
 ·split
  ·simp
  ·split
   ·simp
   ·rename_i h1 h2 h3
    unfold mf
    dsimp only
    split
    ·dsimp only;lia
    ·dsimp only;lia
end
section
variable{r:Nat}{mu:Mu}
theorem xg{x k:Int}(h1: -k<=x)(h2:x<=k)(hk:k<=1073741823):Dm x:=⟨av 183650382081583923873 [] [_,_] h1 hk,av 103553015286496053 [] [_,_] h2 hk⟩
theorem tM{sz:List (Option Int)}(h:∀w,some w∈sz->-2600<=w/\w<=2600)(c:Nat): -2600<=(sz.getD c none).getD 0/\(sz.getD c none).getD 0<=2600:=by
 rw[aaY]
 cases e:sz[c]? with
 |none=>simp
 |some o=>
  cases o with
  |none=>simp
  |some w=>exact h w (abj e)
theorem qD{sk:List Gl}(h:∀g∈sk,rA g)(c:Nat):rA (sk.getD c dj):=by
 rw[aaY]
 cases e:sk[c]? with
 |none=>exact⟨ll,by decide,by decide,by decide,by decide,by decide,by decide⟩
 |some g=>exact h g (abj e)
theorem CL{sz:List (Option Int)}{sk:List Gl}(h:∀g∈sk,rA g)(c:Nat):rA (nW sz sk c):=by
 unfold nW
 split
 ·exact⟨ll,by decide,by decide,by decide,by decide,by decide,by decide⟩
 ·exact qD h _
inductive PN(v:Bool):Nd->Prop
 |skip {g:Gl} {s:Int}:rA g->PN v (.skip g s)
 |box {w:Option Int}: -2600<=w.getD 0->w.getD 0<=2600->PN v (la w v)
theorem my{sz:List (Option Int)}{sk:List Gl}{v:Bool}(h:∀w,some w∈sz->-2600<=w/\w<=2600)(hg:∀g∈sk,rA g):∀x∈aq sz sk v,PN v x:=by
 intro x hx
 rw[aq,aai] at hx
 rcases hx with rfl|hx
 ·exact .skip (qD hg 0)
 ·obtain⟨c,_,hx⟩:=aam.mp hx
  simp only[bT,aai,abh,or_false] at hx
  rcases hx with rfl|rfl
  ·exact .box (tM h c).1 (tM h c).2
  ·exact .skip (CL hg c)
theorem DR{v:Bool}{x:Nd}(h:PN v x):DM 2600 x:=by
 cases h with
 |skip G=>obtain⟨_,_,_,_,_,_,_⟩:=G;exact⟨av 57319938280829777247277161573 [] [_] w1 w2,av 57319938280829785750333250673 [] [_] s1 s2,av 57319938280829791064743145373 [] [_] k1 k2⟩
 |box h1 h2=>
  unfold la
  cases v<;>exact⟨by simp[nV]<;>exact av 57319938280829773527190177773 [] [_] h1 h2,by simp[nV]<;>exact av 57319938280829773527190177773 [] [_] h1 h2,by simp[nV],by simp[nV]⟩
theorem DS{v:Bool}{x:Nd}(h:PN v x)(k:Int)(hk:k=if v=true then 3 else 2): -wt 2600 x<=(match cZ x with|some g=>g.w|none=>tB k x)/\(match cZ x with|some g=>g.w|none=>tB k x)<=wt 2600 x:=by
 subst hk
 cases h with
 |skip G=>obtain⟨_,_,_,_,_,_,_⟩:=G;simp only[cZ,wt];exact av 73333693243377385317277161573 [] [_] w1 w2
 |box h1 h2=>
  unfold la
  cases v<;>simp[cZ,wt,tB,zX,Cp,xX,nV]<;>exact av 57319938280829773527190177773 [] [_] h1 h2
theorem FE{x:Nd}(h:PN false x): -wt 2600 x<=zX x/\zX x<=wt 2600 x:=by
 cases h with
 |skip G=>obtain⟨_,_,_,_,_,_,_⟩:=G;simp only[zX,wt];exact av 73333693243377385317277161573 [] [_] w1 w2
 |box h1 h2=>unfold la;simp[wt,zX,nV];exact av 57319938280829773527190177773 [] [_] h1 h2
theorem CM{v:Bool}{x:Nd}(h:PN v x){g:Gl}(e:cZ x=some g):rA g:=by
 cases h with
 |skip G=>cases e;exact G
 |box h1 h2=>unfold la at e;cases v<;>cases e
theorem GZ{x:Nd}(h:PN true x):xX x=0:=by
 cases h with
 |skip G=>rfl
 |box h1 h2=>unfold la;rfl
structure uY(n:Nat)(sz:List (Option Int))(sk:List Gl)(mode amount:Int):Prop where
 n14:n=1\/n=2\/n=3\/n=4
 skn:sk.length=n+1
 szn:sz.length=n
 gl:∀g∈sk,rA g
 md:mode=0\/mode=1
 a1: -400<=amount
 a2:amount<=400
 sz:∀w,some w∈sz->-2600<=w/\w<=2600
theorem oE{nat mode amount:Int}(hm:mode=0\/mode=1)(a1: -400<=amount)(a2:amount<=400)(h1: -10530<=nat)(h2:nat<=10530): -10930<=gU nat mode amount/\gU nat mode amount<=10930/\(gU nat mode amount-nat).natAbs<=10930:=by
 unfold gU
 rcases hm with rfl|rfl
 ·rw[if_pos rfl];exact yv 129978408327753893680461022005150694228229573744859315542429856046230474499635228410140603226002193973 [_] [_,_] a1 a2 h1 h2 (na _)
 ·rw[if_neg (by decide)];exact yv 36709741636941317292374736511436610704620243711606772615069449822785211103047147321351740298794931872180395736278221907822973 [_] [_,_] a1 a2 h1 h2 (na _)
theorem uZ{n:Nat}{sz:List (Option Int)}{sk:List Gl}{mode amount:Int}(P:uY n sz sk mode amount): -10530<=(az (aq sz sk false)).t.nat/\(az (aq sz sk false)).t.nat<=10530:=by
 have h1:=FB (aq sz sk false) ⟨t0,0,0⟩
 have h2:=AQ (f:=zX) (g:=wt 2600) λx hx=>FE (my (v:=false) P.sz P.gl x hx)
 have h3:=kz (wt 2600) 26 2600 sz sk false (λq0 q0=>rfl) (λq0 q0=>rfl)
 have h4:=P.n14
 have h5:=P.szn
 rw[h5] at h3
 change (az (aq sz sk false)).t.nat=0+_ at h1
 exact tX 332150799953448648459725574771793862193494903086600440094775373694391717350247810905368576 [_] [_,_,_] h2 h3 h4 h1
theorem xh{n:Nat}{sz:List (Option Int)}{sk:List Gl}{mode amount:Int}(P:uY n sz sk mode amount):(-10530<=(ar (aq sz sk true)).t.nat/\(ar (aq sz sk true)).t.nat<=10530)/\(ar (aq sz sk true)).b=0:=by
 have hp:=my (v:=true) P.sz P.gl
 have h1:=FD (aq sz sk true) ⟨t0,0,0⟩ rfl λx hx=>GZ (hp x hx)
 have h2:=AQ (f:=λx=>match cZ x with|some g=>g.w|none=>tB 3 x) (g:=wt 2600) λx hx=>DS (hp x hx) 3 rfl
 have h3:=kz (wt 2600) 26 2600 sz sk true (λq0 q0=>rfl) (λq0 q0=>rfl)
 have h6:∀l:List Nd,(l.map λx=>match cZ x with|some g=>g.w|none=>tB 3 x).sum=(l.map (tB 3)).sum+(l.map FC).sum:=by
  intro l
  induction l with
  |nil=>rfl
  |cons x l ih=>
   simp only[aaX,abr,ih]
   cases x<;>simp only[FC,cZ,show ∀g s,tB 3 (.skip g s)=0 from λq0 q0=>rfl]<;>lia
 rw[h6] at h2
 have h4:=P.n14
 have h5:=P.szn
 rw[h5] at h3
 refine⟨?_,h1.2⟩
 have h1:=h1.1
 change (ar (aq sz sk true)).t.nat=0+_+_ at h1
 exact tX 176518553278060704146140233954009064095807157847920019048122448212268089040575349795260753684936698576 [_] [_,_,_,_] h2 h3 h4 h1
theorem m7{n:Nat}{sz:List (Option Int)}{sk:List Gl}{mode amount:Int}{v:Bool}(P:uY n sz sk mode amount):oz sz sk mode amount v:=by
 have n14:=P.n14
 have szn:=P.szn
 have skn:=P.skn
 have hp:=my (v:=v) P.sz P.gl
 have hlen:((aq sz sk v).length:Int)<=9:=by rw[kx];exact av 403221300014032295762099422701240199122594343029487 [_,_] [] n14 szn
 have hk:(0:Int)+2*2600*(aq sz sk v).length<=46800:=ad 991905963610919179314670563 [_] [] hlen
 have a1:=P.a1
 have a2:=P.a2
 refine⟨av 2634165890130285624867199122594343029487 [_,_] [] n14 szn,av 29205419176758040015497199122594343029487 [_,_] [] n14 szn,av 4245858149267593446710672 [_,_,_] [] szn skn,λc=>xg (tM P.sz c).1 (tM P.sz c).2 (by decide),λg hg=>(P.gl g hg).ok,P.md,xg a1 a2 (by decide),λhv=> ?_,λhv=> ?_⟩
 ·subst hv
  have S:=AB J7 λx hx=>DR (hp x hx)
  generalize (0:Int)+2*2600*(aq sz sk false).length=k at S hk
  obtain⟨_,b1,b2,b3,b4⟩:=S
  change _<=(az _).a/\(az _).a<=_ at b1
  change _<=(az _).b/\(az _).b<=_ at b2
  change QB _ (az _).t.st at b3
  change QB _ (az _).t.sk at b4
  have N:=uZ P
  have G:=oE P.md a1 a2 N.1 N.2
  exact⟨⟨xg G.1 G.2.1 (by decide),ad 114435169957744339833653073576 [_] [_] G,λi=>by have:=(b3.at i).2;exact av 150904833473953443 [] [_,_] hk this,λi=>by have:=(b4.at i).2;exact av 150904833473953443 [] [_,_] hk this⟩,⟨ad 183650372509741112976 [] [_,_] b1,av 6794106355073071359820443 [] [_,_] hk b1⟩,⟨ad 183650372509741112976 [] [_,_] b2,av 6794106355073071359820443 [] [_,_] hk b2⟩⟩
 ·subst hv
  have S:=(AC J7 (by decide:(0:Int)<=2600) λx hx=>DR (hp x hx)).1
  generalize (0:Int)+2*2600*(aq sz sk true).length=k at S hk
  obtain⟨_,b1,b2,b3,b4⟩:=S
  change _<=(ar _).a/\(ar _).a<=_ at b1
  change _<=(ar _).b/\(ar _).b<=_ at b2
  change QB _ (ar _).t.st at b3
  change QB _ (ar _).t.sk at b4
  have N:=(xh P).1
  have G:=oE P.md a1 a2 N.1 N.2
  exact⟨⟨xg G.1 G.2.1 (by decide),ad 114435169957744339833653073576 [_] [_] G,λi=>by have:=(b3.at i).2;exact av 150904833473953443 [] [_,_] hk this,λi=>by have:=(b4.at i).2;exact av 150904833473953443 [] [_,_] hk this⟩,⟨ad 183650372509741112976 [] [_,_] b1,av 6794106355073071359820443 [] [_,_] hk b1⟩,⟨ad 183650372509741112976 [] [_,_] b2,av 6794106355073071359820443 [] [_,_] hk b2⟩⟩
theorem u0{n:Nat}{sz:List (Option Int)}{sk:List Gl}{mode amount:Int}{v:Bool}(P:uY n sz sk mode amount):0<(aH sz sk mode amount v).down/\(aH sz sk mode amount v).up.natAbs<=10931:=by
 cases v
 ·have N:=uZ P
  have G:=oE P.md P.a1 P.a2 N.1 N.2
  have:=xf (az (aq sz sk false)).t (gU (az (aq sz sk false)).t.nat mode amount-(az (aq sz sk false)).t.nat)
  exact⟨this.1,aaK this.2 (ad 966663440630804883478833653073576 [_] [_] G)⟩
 ·have N:=(xh P).1
  have G:=oE P.md P.a1 P.a2 N.1 N.2
  have:=xf (ar (aq sz sk true)).t (gU (ar (aq sz sk true)).t.nat mode amount-(ar (aq sz sk true)).t.nat)
  exact⟨this.1,aaK this.2 (ad 966663440630804883478833653073576 [_] [_] G)⟩
theorem v3{b:Bx}:∀(l:List Nd)(s:PL),(l.foldl (bt b) s).l.length=s.l.length+l.length:=by
 intro L0
 induction L0 with
 |nil=>
  intro s
  exact rfl
 |cons x l ih=>
  intro s
  rw[abm,ih,aaf];show(s.l++[_]).length+_=_;rw[aap,aax];exact dk 524180017295080308002 [_,_] []
theorem yf(sz:List (Option Int))(sk:List Gl)(mode amount:Int)(v:Bool):(bu sz sk mode amount v).length=2*sz.length+2:=by
 rw[bu,gE,v3,kx];show 1+_=_;exact dk 4525707069261051776131502 [_] []
theorem u3{n:Nat}{sz:List (Option Int)}{sk:List Gl}{mode amount:Int}{v:Bool}(P:uY n sz sk mode amount)(k:Nat):((bu sz sk mode amount v).getD k 0).natAbs<=2300000:=by
 have M:=u0 (v:=v) P
 have hp:=my (v:=v) P.sz P.gl
 have n14:=P.n14
 have szn:=P.szn
 have h3:=kz (wt 2600) 26 2600 sz sk v (λq0 q0=>rfl) (λq0 q0=>rfl)
 have h4:=kz AP 41 0 sz sk v (λq0 q0=>rfl) (λq0 q0=>rfl)
 rw[szn] at h3 h4
 have hk:(aH sz sk mode amount v).kind=if v=true then 3 else 2:=by
  unfold aH da;cases v<;>rfl
 have key:=GY (b:=aH sz sk mode amount v) (U:=10931) (E:=2300000) (FM:=10530) (XM:=205) M.2 M.1 (by decide) (aq sz sk v) ⟨0,0,[0]⟩ 0 0 ⟨by decide,by decide⟩ ⟨by decide,by decide⟩ (av 17925644998416417466899708178003937146144524988052902021387 [_] [_] n14 h3) (av 34882108308502821841651534387867805996080524988052902021387 [_] [_] n14 h4) (λe he=>by rw[aah] at he;rw[he];decide)
  (λx hx=>DS (hp x hx) _ hk) (λx hx g e=>CM (hp x hx) e)
 rw[aaY]
 cases e:(bu sz sk mode amount v)[k]? with
 |none=>simp
 |some y=>exact key y (abj e)
end
section
variable{r:Nat}{mu:Mu}
noncomputable def yg:Nd->Prop
 | .box b l=>(b.kind=2\/b.kind=3)/\l=[]
 |_=>True
theorem mz{x:Nd}(h:yg x){d:Int}(hd:d<=50):RF (r+3) (.ref be) [x.v,.int d] mu=some (qu x [],mu):=by
 cases x with
 |kern w=>exact Ay (r:=r+1) (ad 153858001953 [] [_] hd)
 |skip g s=>exact Az (r:=r+1) (ad 153858001953 [] [_] hd)
 |rule a b c=>exact AA (r:=r+1) (ad 153858001953 [] [_] hd)
 |box b l=>
  obtain⟨h1,rfl⟩:=h
  exact tF h1 (ad 153858001953 [] [_] hd) λm=>qv (r:=r+1) (xs:=([]:List Nat)) (enc:=λq0=>V.none) (g:=λq0=>V.none) (by simp) λx hx=>absurd hx abh
noncomputable def jI(x:Nd):V:=qu x []
theorem yh{xs:List (Nd×V)}{l t:List V}{d:Int}(h1:xs.map (λp=>p.1.v)=l)(h2:xs.map (λp=>p.2)=t)(hn:xs.length<=900)(h:∀x∈xs,∀m,RF r (.ref be) [x.1.v,.int d] m=some (x.2,m)):RF (r+1) (.ref bz) [.lst l,.int d] mu=some (.tup t,mu):=by
 subst h1;subst h2
 exact qv (enc:=λp:Nd×V=>p.1.v) (g:=λp=>p.2) hn h
theorem AR{b:Bx}{l:List Nd}(hb:b.kind=2\/b.kind=3)(h:∀x∈l,yg x)(hn:l.length<=900){d:Int}(hd:d<=40):RF (r+5) (.ref be) [(Nd.box b (l.map Nd.v)).v,.int d] mu=some (qu (.box b []) (l.map jI),mu):=
 tF (r:=r+2) hb (ad 153858058653 [] [_] hd) λm=>qv (r:=r+3) (enc:=Nd.v) (g:=jI) hn λx hx m=>mz (h x hx) (ad 2161931515108653 [] [_] hd)
noncomputable def kf(sz:List (Option Int))(sk:List Gl)(v:Bool)(c:Nat):List V:=[jI (la (sz.getD c none) v),jI (.skip (nW sz sk c) 109)]
noncomputable def lb(sz:List (Option Int))(sk:List Gl)(v:Bool)(rb:Bx)(ed:List Int)(p:Int×Ce):List V:=
 qu (.box (cq p.2 (sz.getD p.1.toNat none) (ed.getD (2*(p.1+p.2.spans-1).toNat+2) 0-ed.getD (2*p.1.toNat+1) 0) rb) []) (p.2.items.map jI)::jI (.skip (nW sz sk p.1.toNat) 109)::(abu (p.1.toNat+1) ((p.1+p.2.spans-1).toNat-p.1.toNat)).flatMap (kf sz sk v)
noncomputable def tN(sz:List (Option Int))(sk:List Gl)(v:Bool)(rb:Bx)(ed:List Int)(ps:List (Int×Ce)):List V:=jI (.skip (sk.getD 0 dj) 109)::ps.flatMap (lb sz sk v rb ed)
noncomputable def yi(f:Nd->V)(x:Nd):Nd×V:=(x,f x)
noncomputable def nZ(sz:List (Option Int))(sk:List Gl)(v:Bool)(rb:Bx)(ed:List Int)(p:Int×Ce):List (Nd×V):=
 (.box (cq p.2 (sz.getD p.1.toNat none) (ed.getD (2*(p.1+p.2.spans-1).toNat+2) 0-ed.getD (2*p.1.toNat+1) 0) rb) (p.2.items.map Nd.v),qu (.box (cq p.2 (sz.getD p.1.toNat none) (ed.getD (2*(p.1+p.2.spans-1).toNat+2) 0-ed.getD (2*p.1.toNat+1) 0) rb) []) (p.2.items.map jI))::yi jI (.skip (nW sz sk p.1.toNat) 109)::(abu (p.1.toNat+1) ((p.1+p.2.spans-1).toNat-p.1.toNat)).flatMap λc=>(bT sz sk v c).map (yi jI)
noncomputable def v4(sz:List (Option Int))(sk:List Gl)(v:Bool)(rb:Bx)(ed:List Int)(ps:List (Int×Ce)):List (Nd×V):=yi jI (.skip (sk.getD 0 dj) 109)::ps.flatMap (nZ sz sk v rb ed)
theorem gI{α β γ:Type}(f:α->List β)(g:β->γ)(h:α->List γ):∀{l:List α},(∀x∈l,(f x).map g=h x)->(l.flatMap f).map g=l.flatMap h:=by
 intro L0
 induction L0 with
 |nil=>
  intro _
  exact rfl
 |cons x l ih=>
  intro e
  rw[abg,abg,abk,e x (.head _),ih λy hy=>e y (.tail _ hy)]
theorem AS{sz:List (Option Int)}{sk:List Gl}{v:Bool}{rb:Bx}{ed:List Int}{ps:List (Int×Ce)}:(v4 sz sk v rb ed ps).map (λp=>p.1.v)=(qr sz sk v rb ed ps).map Nd.v:=by
 rw[v4,qr,aaX,aaX,gI (h:=λp=>(gW sz sk v rb ed p).map Nd.v) _ _ λp q0=>by
  rw[nZ,gW,aaX,aaX,aaX,aaX,gI (h:=λc=>(bT sz sk v c).map Nd.v) _ _ λc q0=>by rfl,<-gI (f:=bT sz sk v) (g:=Nd.v) _ λc q0=>rfl]
  rfl,<-gI (f:=gW sz sk v rb ed) (g:=Nd.v) _ λc q0=>rfl]
 rfl
theorem AT{sz:List (Option Int)}{sk:List Gl}{v:Bool}{rb:Bx}{ed:List Int}{ps:List (Int×Ce)}:(v4 sz sk v rb ed ps).map (λp=>p.2)=tN sz sk v rb ed ps:=by
 rw[v4,tN,aaX,gI (h:=lb sz sk v rb ed) _ _ λp q0=>by
  rw[nZ,lb,aaX,aaX,gI (h:=kf sz sk v) _ _ λc q0=>by rfl]
  rfl]
 rfl
theorem AU(w:Option Int)(v:Bool):yg (la w v):=by
 cases v
 ·exact⟨.inl rfl,rfl⟩
 ·exact⟨.inr rfl,rfl⟩
theorem u4(c:Ce)(w:Option Int)(s:Int)(rb:Bx):(cq c w s rb).kind=2\/(cq c w s rb).kind=3:=by
 unfold cq Fm
 cases c.vert
 ·exact .inl rfl
 ·exact .inr rfl
theorem CN{sz:List (Option Int)}{sk:List Gl}{v:Bool}{rb:Bx}{ed:List Int}{ps:List (Int×Ce)}(h:∀p∈ps,(∀x∈p.2.items,yg x)/\p.2.items.length<=900):∀x∈v4 sz sk v rb ed ps,∀m,RF (r+5) (.ref be) [x.1.v,.int 1] m=some (x.2,m):=by
 have leaf:∀{y:Nd},yg y->∀m,RF (r+5) (.ref be) [(yi jI y).1.v,.int 1] m=some ((yi jI y).2,m):=λhy m=>mz (r:=r+2) hy (by decide)
 intro x hx m
 rw[v4,aai] at hx
 rcases hx with rfl|hx
 ·exact leaf (y:= .skip _ _) trivial m
 ·obtain⟨p,hp,hx⟩:=aam.mp hx
  rw[nZ,aai,aai] at hx
  rcases hx with rfl|rfl|hx
  ·exact AR (u4 _ _ _ _) (h p hp).1 (h p hp).2 (by decide)
  ·exact leaf (y:= .skip _ _) trivial m
  ·obtain⟨c,_,hx⟩:=aam.mp hx
   simp only[bT,aaX,abo,aai,abh,or_false] at hx
   rcases hx with rfl|rfl
   ·exact leaf (AU _ _) m
   ·exact leaf (y:= .skip _ _) trivial m
noncomputable def bh(v:Bool)(l:List PC):List (Int×Ce):=l.map λp=>((p.f:Int),bS v p)
noncomputable def oc(sz:List (Option Int))(sk:List Gl)(v:Bool)(b:Bx)(ed:List Int):LR->V
 | .cells l=>qu (.box (a9 b v (bh v l)) []) (tN sz sk v (a9 b v (bh v l)) ed (bh v l))
 | .rule x y z=>jI (uP b x y z)
 | .kern w=>jI (.kern w)
theorem qE{v:Bool}{p:PC}:(bS v p).items=p.ps.map Pt.nd:=by unfold bS bB;split<;>rfl
theorem CO(p:Pt):yg p.nd:=by
 cases p with
 |box=>exact⟨.inl rfl,rfl⟩
 |_=>trivial
theorem v5(sz:List (Option Int))(sk:List Gl)(v:Bool)(rb:Bx)(ed:List Int)(p:Int×Ce):(nZ sz sk v rb ed p).length=2+2*((p.1+p.2.spans-1).toNat-p.1.toNat):=by
 have:∀l:List Nat,(l.flatMap λc=>(bT sz sk v c).map (yi jI)).length=2*l.length:=by
  intro l
  induction l with
  |nil=>rfl
  |cons x l ih=>rw[abg,aap,ih,aaf];show 2+_=_;exact dk 523793266947341418602 [_] []
 rw[nZ,aaf,aaf,this,abz];exact dk 615109835633663825289002 [_] []
theorem AV{sz:List (Option Int)}{sk:List Gl}{v:Bool}{rb:Bx}{ed:List Int}:∀{ps:List (Int×Ce)},(∀p∈ps,p.2.spans<=10/\0<=p.1)->(ps.flatMap (nZ sz sk v rb ed)).length<=30*ps.length:=by
 intro L0
 induction L0 with
 |nil=>
  intro _
  exact aaS _
 |cons p ps ih=>
  intro h
  have h1:=h p (.head _)
  have h2:=ih λq hq=>h q (.tail _ hq)
  rw[abg,aap,v5,aaf]
  exact yv 194084566568883435879857105034695312553462864491104500157988462497743904528146213899750324624191129944901536834504534202101669518353598217224914087692630204784552414776 [_,_,_,_,_] [_,_] h1 h2 (su _ _) (tn _) (tn _)
theorem CP{n:Nat}{sz:List (Option Int)}{sk:List Gl}{v:Bool}{b:Bx}{ed:List Int}{x:LR}(hx:g8 n x)(hn:n<=4):RF (r+7) (.ref be) [(mt sz sk v b ed (x.rw v)).v,.int 0] mu=some (oc sz sk v b ed x,mu):=by
 cases x with
 |rule=>exact mz (r:=r+4) (x:=uP _ _ _ _) trivial (by decide)
 |kern w=>exact mz (r:=r+4) (x:= .kern w) trivial (by decide)
 |cells l=>
  obtain⟨e,h1,h2,h3⟩:=hx
  have pl:=(ke v h1).1
  rw[show((0:Nat):Int)=0 from rfl] at pl
  show RF (r+7) _ [(mt sz sk v b ed (.cells (l.map (bS v)))).v,_] mu=_
  unfold mt oc
  dsimp only
  rw[pl]
  have hb:=h1.bd
  have hl:=h1.len
  refine tF (r:=r+4) (by unfold a9;cases v;exact .inl rfl;exact .inr rfl) (by decide) λm=> ?_
  refine yh (r:=r+5) AS AT ?_ (CN (r:=r) λp hp=> ?_)
  ·have:=AV (sz:=sz) (sk:=sk) (v:=v) (rb:=a9 b v (bh v l)) (ed:=ed) (ps:=bh v l) λp hp=>by
    obtain⟨q,hq,rfl⟩:=aak.mp hp
    have:=hb.2 q hq
    exact⟨by show(bS v q).spans<=10;rw[kc];exact dX 2105042337327541144167880399253968980925617148993796160 [_,_,_,_] [] hn h2 this,by show(0:Int)<=q.f;exact dk 1491933 [_] []⟩
   rw[v4,aaf]
   have hpl:(bh v l).length=l.length:=aaq _
   change (List.flatMap (nZ sz sk v (a9 b v (bh v l)) ed) (bh v l)).length+1<=900
   exact yv 15214929277475574443230707387734938264477286070 [_,_,_,_,_] [] hn h2 hl this hpl
  ·obtain⟨q,hq,rfl⟩:=aak.mp hp
   dsimp only
   rw[qE]
   exact⟨λx hx=>by obtain⟨y,_,rfl⟩:=aak.mp hx;exact CO y,by rw[aaq];have:=(h3 q hq).1;exact ad 100514649780 [_] [] this⟩
end
section
variable{r:Nat}{mu:Mu}
theorem CQ{K:Int}:∀(l:List Int)(a:Int),a<=K->(∀x∈l,x<=K)->a<=ci a l/\ci a l<=K:=by
 intro L0
 induction L0 with
 |nil=>
  intro a h _
  exact⟨Int.le_refl _,h⟩
 |cons b l ih=>
  intro a h hl
  rw[ci]
  have hb:=hl b (.head _)
  split
  ·have:=ih b hb λy hy=>hl y (.tail _ hy);lia
  ·exact ih a h λy hy=>hl y (.tail _ hy)
theorem u5{sz:List (Option Int)}{sk:List Gl}{mode amount:Int}{v:Bool}(P:oz sz sk mode amount v):Dm (aH sz sk mode amount v).w/\Dm (aH sz sk mode amount v).h/\Dm (aH sz sk mode amount v).d:=by
 cases v
 ·obtain⟨h1,h2,h3⟩:=P.h rfl
  exact⟨h1.dw,h2,h3⟩
 ·obtain⟨h1,h2,h3⟩:=P.v rfl
  exact⟨h2,h1.dw,h3⟩
theorem yj{n:Nat}{sz:List (Option Int)}{sk:List Gl}{mode amount:Int}{v:Bool}{l:List PC}(P:uY n sz sk mode amount)(h:g8 n (.cells l)):j7 sz sk v (aH sz sk mode amount v) (bu sz sk mode amount v) (l.map (bS v)):=by
 have hok:=tL (v:=v) h
 obtain⟨e,h1,h2,h3⟩:=h
 have pl:=(ke v h1).1
 rw[show((0:Nat):Int)=0 from rfl] at pl
 have hb:=h1.bd
 have hl:=h1.len
 have n14:=P.n14
 have szn:=P.szn
 have skn:=P.skn
 have hp:=m7 (v:=v) P
 have dm:=u5 hp
 have B:∀p∈l,GN 25000 (bS v p):=λp q=>uU (h3 p q).2 (h3 p q).1
 have mw:∀f:Ce->Int,(∀p∈l,f (bS v p)<=25000)->Dm (ci 0 ((bh v l).map λp=>f p.2)):=λf hf=>by
  have:=CQ (K:=25000) ((bh v l).map λp=>f p.2) 0 (by decide) λx hx=>by
   obtain⟨q,hq,rfl⟩:=aak.mp hx
   obtain⟨p,hp,rfl⟩:=aak.mp hq
   exact hf p hp
  exact⟨by exact ad 183650384201443112976 [] [_] this,by exact ad 9319773495643112976 [] [_] this⟩
 have w1:=mw Ce.w λp q=>(B p q).w.2
 have w2:=mw Ce.h λp q=>(B p q).h.2
 have w3:=mw Ce.d λp q=>(B p q).d.2
 have hC:∀rb:Bx,∀p∈bh v l,oD sz v rb (bu sz sk mode amount v) p:=by
  intro rb p hq0
  obtain⟨q,hq,rfl⟩:=aak.mp hq0
  have bb:=hb.2 q hq
  have B:=B q hq
  refine⟨w7 (h3 q hq).2 (by exact ad 1973243444952361195498501260792774098960406 [_,_,_] [] bb),by show(0:Int)<=q.f;exact dk 1491933 [_] [],?_,tK v q,?_,λi=>by have:=(B.st.at i).2;dsimp only;exact ad 207002693253 [] [_] this,λi=>by have:=(B.sk.at i).2;dsimp only;exact ad 207002693253 [] [_] this,λ_=>⟨by have:=B.d.1;dsimp only;exact ad 2799121659033 [] [_] this,by have:=B.d.2;dsimp only;exact ad 142048064253 [] [_] this⟩⟩
  ·show(q.f:Int)+(bS v q).spans<=_
   rw[kc];exact dX 15438870545352470152128903870629985622200727695005671739347050 [_,_,_,_,_] [] h2 szn bb
  ·have e1:=u3 (v:=v) P (2*((q.f:Int)+(bS v q).spans-1).toNat+2)
   have e2:=u3 (v:=v) P (2*((q.f:Int)).toNat+1)
   have e3: -25000<=dW (bS v q)/\dW (bS v q)<=25000:=by
    unfold dW
    split
    ·exact B.h
    ·exact B.w
   dsimp only
   exact Kc 58079109462976257467810952971133621818193478841674703773655336813518650639034582476952086722349289060742236066915328296946092253734856058863805400003799029162526002374870 [_,_,_] [_,_,_] e1 e2 e3 (na _) (na _) (na _)
 refine⟨?_,by rw[szn];exact hok,λhv=> ?_,λhv=> ?_⟩
 ·rw[pl]
  exact⟨hC _,by show(bh v l).length<=60;unfold bh;rw[aaq];exact dX 165276247754420497295293734435458226261163753832670 [_,_,_] [] h2 hl n14,by exact av 2634165890130285624867199122594343029487 [_,_] [] n14 szn,by exact av 21910819901323882734897199122594343029487 [_,_] [] n14 szn,by exact av 4245858149267593446710672 [_,_,_] [] szn skn,yf _ _ _ _ _,hp.sd,hp.gl,λhv=>by subst hv;exact w1,λhv=>by subst hv;exact⟨w2,w3⟩⟩
 ·rw[pl];exact⟨w1,dm.2⟩
 ·rw[pl];exact⟨dm.1,w2,w3⟩
theorem FF{n:Nat}{sz:List (Option Int)}{sk:List Gl}{mode amount:Int}{v:Bool}{x:LR}(P:uY n sz sk mode amount)(h:g8 n x):uR sz sk v (aH sz sk mode amount v) (bu sz sk mode amount v) (x.rw v):=by
 have dm:=u5 (m7 (v:=v) P)
 have sm:∀{o:Option Int}{k:Int},F6 o->Dm k->Dm (o.getD k):=λ{o k} h1 h2=>by
  cases o with
  |none=>exact h2
  |some x=>exact⟨by have:0<=x:=h1.1;show _<=x;exact ad 2799121659033 [] [_] this,by have:x<=10:=h1.2;show x<=_;exact ad 142048129053 [] [_] this⟩
 cases x with
 |cells l=>exact yj P h
 |rule a b c=>exact⟨sm h.1 dm.1,sm h.2.1 dm.2.1,sm h.2.2 dm.2.2⟩
 |kern w=>trivial
theorem G0{n:Nat}{v:Bool}:∀{rows:List LR},n<=4->(∀x∈rows,g8 n x)->cells (rows.map (LR.rw v))<=4*rows.length:=by
 intro L0
 induction L0 with
 |nil=>
  intro _ _
  exact aaS _
 |cons x rows ih=>
  intro h4 h
  have i:=ih h4 λy hy=>h y (.tail _ hy)
  have hx:rz (x.rw v)<=4:=by
   cases x with
   |cells l=>
    obtain⟨e,h1,h2,h3⟩:=h _ (.head _)
    have:=h1.len
    show(l.map (bS v)).length<=4
    rw[aaq];exact dX 458100853076054248177286070 [_,_,_] [] h4 h2 this
   |_=>exact aaT _
  simp only[cells,aaX,abr,aaf] at i⊢
  exact av 278777050683917436133717577570370 [_,_,_] [] i hx
noncomputable def eu(n:Nat)(sk:List Gl)(v:Bool)(rows:List LR):List (Option Int):=eD n sk (rows.map (LR.rw v))
noncomputable def AW(sz:List (Option Int))(sk:List Gl)(v:Bool)(mode amount:Int)(rows:List LR):List V:=rows.map (oc sz sk v (aH sz sk mode amount v) (bu sz sk mode amount v))
noncomputable def rB(sz:List (Option Int))(sk:List Gl)(v:Bool)(mode amount:Int):V:=(da sz sk mode amount v).2.rep
noncomputable def AX(sz:List (Option Int))(sk:List Gl)(v:Bool)(mode amount:Int)(rows:List LR):V:= .tup [.lst (sz.map oi),.tup (AW sz sk v mode amount rows),rB sz sk v mode amount]
theorem v6(n:Nat)(sk:List Gl)(rows:List Rw):(eD n sk rows).length=n:=by
 have:∀(E:EL)(l:List Nat)(s:List Int×List (Option Int)),(l.foldl (bj E sk) s).2.length=s.2.length+l.length:=by
  intro E l
  induction l with
  |nil=>intro s;rfl
  |cons c l ih=>intro s;rw[abm,ih,bj,aaf,aap];simp;exact dk 524180017295080308002 [_,_] []
 rw[eD,this,abw];simp
theorem v1.szok{n:Nat}{sk:List Gl}{v:Bool}{mode amount:Int}{rows:List LR}(T:v1 n sk v mode amount rows):uY n (eu n sk v rows) sk mode amount:=
 ⟨T.n14,T.skn,v6 _ _ _,T.gl,T.md,T.a1,T.a2,T.sz⟩
noncomputable abbrev DT(rows:List LR)(sk:List Gl)(mode amount:Int)(v:Bool)(x:V):au:=[(aaQ "rows",.lst (rows.map LR.v)),(aaQ "skips",.lst (sk.map Gl.v)),(aaQ "goal",.tup [.int mode,.int amount]),(aaQ "upright",.bool v),(aaQ "nodes",x)]
theorem AY(x:LR):aG 0 x.v=true:=by
 cases x with
 |cells l=>exact fN l
 |rule a b c=>cases a<;>cases b<;>cases c<;>rfl
 |kern w=>rfl
theorem sJ(l:List LR):ab 0 (l.map LR.v)=true:=aQ λx q0=>AY x
theorem AZ{n:Nat}{v:Bool}{x:LR}(h:g8 n x):aG 0 (x.rw v).v=true:=by
 cases x with
 |cells l=>exact kv (tL (v:=v) h).1
 |rule a b c=>cases a<;>cases b<;>cases c<;>rfl
 |kern w=>rfl
theorem CR{n:Nat}{rows:List LR}{sk:List Gl}{mode amount:Int}{v:Bool}{x:LR}{l:List Rw}(hx:g8 n x)(h4:n<=4)(hl:l.length<=900):
  ∃loc1,cu TT (RF (r+8)) HT (bn bA) 57 (cG (ag 1 (aD bA))) (a6 (ag 1 (aD bA))) x.v (DT rows sk mode amount v (.ref 0)) [.lst (l.map Rw.v)]=some (.next,loc1,[.lst ((l++[x.rw v]).map Rw.v)])/\dx (DT rows sk mode amount v (.ref 0)) loc1=DT rows sk mode amount v (.ref 0):=by
 have ap:∀y:Rw,dJ (RF (r+8)) (.ref 0) [y.v] [.lst (l.map Rw.v)] (.app 0)=some (.none,[.lst ((l++[y]).map Rw.v)]):=λy=>cL rfl (by rw[aaq];exact ad 112324457880 [_] [] hl) (by rw[abk];rfl)
 refine⟨DT rows sk mode amount v (.ref 0)++[(aaQ "row",x.v)],?_,by kernel_rfl⟩
 cases x with
 |cells cs=>
  obtain⟨e,h1,h2,h3⟩:=hx
  have hlen:=h1.len
  have hb:=h1.bd.2
  have hc:∀L:au,L=DT rows sk mode amount v (.ref 0)++[(aaQ "row",a7 cs)]->aW (dG TT (RF (r+8)) HT (bn bA) L 49 (cT (aN 0 (ag 0 (ru (ag 0 (a6 (ag 1 (aD bA)))))))) [] (cE (aN 0 (ag 0 (ru (ag 0 (a6 (ag 1 (aD bA)))))))) (cN (aN 0 (ag 0 (ru (ag 0 (a6 (ag 1 (aD bA))))))))) (cs.map PC.v) [.lst (l.map Rw.v)]=some ((cs.map (bS v)).map Ce.v,[.lst (l.map Rw.v)]):=by
   rintro L rfl
   rw[aba]
   refine bg (g:=Ce.v∘bS v) λp hp=> ?_
   have:=hb p hp
   exact cM (n:=48) [oP λm=>cell (r:=r+2) (v:=v) (spans:=(p.l:Int)-p.f+1) (h3 p hp).2 (h3 p hp).1 (ad 1973243444952361195498501260792774098960406 [_,_,_] [] this) (dX 4082133395430903173641146145253968980925617148993796160 [_,_,_,_] [] h4 h2 this)] (by kernel_rfl)
  exact bx [oA,oG (c:=(cs.map PC.v).length<=1000) (by rw[aaq];exact dX 483519511359344248177286070 [_,_,_] [] h4 h2 hlen),oL (hc _ rfl),oV (ap (.cells (cs.map (bS v))))] (by kernel_rfl)
 |rule a b c=>
  have sm:∀{o:Option Int},F6 o->F5 o:=λ{o} h=>by
   cases o with
   |none=>trivial
   |some x=>exact⟨by have:0<=x:=h.1;exact ad 2799121659033 [] [_] this,by have:x<=10:=h.2;exact ad 142048129053 [] [_] this⟩
  exact bx [oA,oA,oA,oA,oA,oA,oP λm=>uI (r:=r+4) (sm hx.1) (sm hx.2.1) (sm hx.2.2),oV (ap (.nd (.rule a b c)))] (by kernel_rfl)
 |kern w=>
  exact bx [oA,oA,oA,oP λm=>Fs (r:=r+3) (p:= .kern w) ⟨by have:=hx.1;exact ad 2828646159033 [] [_] this,by have:=hx.2;exact ad 171572677653 [] [_] this⟩,oV (ap (.nd (.kern w)))] (by kernel_rfl)
end
section
variable{r:Nat}{mu:Mu}
theorem iU(x:Nd):aG 0 (jI x)=true:=by
 cases x with
 |rule a b c=>cases a<;>cases b<;>cases c<;>rfl
 |_=>rfl
theorem yk(sz:List (Option Int))(sk:List Gl)(v:Bool):∀l:List Nat,ab 0 (l.flatMap (kf sz sk v))=true:=by
 intro L0
 induction L0 with
 |nil=>
  exact rfl
 |cons c l ih=>
  rw[abg];exact lj (by simp only[kf,ab,iU,abn]) (ih)
theorem sK(b:Bx){jH:List V}(h:ab 0 jH=true):aG 0 (qu (.box b []) jH)=true:=by
 simp only[qu,aG,ab,h,abn]
theorem v7(sz:List (Option Int))(sk:List Gl)(v:Bool)(rb:Bx)(ed:List Int)(p:Int×Ce):ab 0 (lb sz sk v rb ed p)=true:=by
 simp only[lb,ab,iU,yk,sK _ (aQ λx (_:x∈p.2.items)=>iU x),abn]
theorem yl(sz:List (Option Int))(sk:List Gl)(v:Bool)(rb:Bx)(ed:List Int)(ps:List (Int×Ce)):ab 0 (tN sz sk v rb ed ps)=true:=by
 have:∀ps:List (Int×Ce),ab 0 (ps.flatMap (lb sz sk v rb ed))=true:=by
  intro ps
  induction ps with
  |nil=>rfl
  |cons p ps ih=>rw[abg];exact lj (v7 _ _ _ _ _ _) ih
 simp only[tN,ab,iU,this,abn]
theorem qF(sz:List (Option Int))(sk:List Gl)(v:Bool)(b:Bx)(ed:List Int)(x:LR):aG 0 (oc sz sk v b ed x)=true:=by
 cases x with
 |cells l=>exact sK _ (yl _ _ _ _ _ _)
 |rule a b c=>exact iU _
 |kern w=>rfl
theorem v8(sz:List (Option Int))(sk:List Gl)(v:Bool)(mode amount:Int)(rows:List LR):ab 0 (AW sz sk v mode amount rows)=true:=aQ λx q0=>qF _ _ _ _ _ x
theorem v9(sz:List (Option Int))(sk:List Gl)(v:Bool)(mode amount:Int)(rows:List LR):aG 0 (AX sz sk v mode amount rows)=true:=by
 simp only[AX,aG,ab,v8,ft,rB,SG.rep,abn]
theorem G1{n:Nat}{sk:List Gl}{v:Bool}{mode amount:Int}{rows:List LR}(T:v1 n sk v mode amount rows):RF (r+9) (.ref cf) [.lst (rows.map LR.v),.lst (sk.map Gl.v),.tup [.int mode,.int amount],.bool v] mu=some (AX (eu n sk v rows) sk v mode amount rows,mu):=by
 have n14:=T.n14
 have hlen:=T.len
 have P:=T.szok
 have n4:n<=4:=ad 30056028692868288249988052902021387 [_] [] n14
 have hfold:=bi (α:=LR) (f:=cu TT (RF (r+8)) HT (bn bA) 57 (cG (ag 1 (aD bA))) (a6 (ag 1 (aD bA)))) LR.v (λ(l:List Rw) x=>l++[x.rw v])
  (λq0=>DT rows sk mode amount v (.ref 0)) (λl=>[.lst (l.map Rw.v)]) (λl rest=>l.length+rest.length<=900/\∀x∈rest,g8 n x)
  (λl x rest i=>⟨⟨by have:=i.1;rw[aaf] at this;simp;exact ad 433011620750483643267346200 [_,_] [] this,λy hy=>i.2 y (.tail _ hy)⟩,CR (i.2 x (.head _)) n4 (by have:=i.1;rw[aaf] at this;exact ad 6594766780467346200 [_,_] [] this)⟩) rows [] ⟨by simp;exact ad 100514771280 [_] [] hlen,T.rok⟩
 rw[gV,Ag,aa3] at hfold
 have hrw:∀x∈rows.map (LR.rw v),kY n x:=λx hx=>by obtain⟨y,hy,rfl⟩:=aak.mp hx;exact tL (T.rok y hy)
 have hbl:∀x,Rw.nd x∈rows.map (LR.rw v)->aG 0 x.v=true:=λx hx=>by
  obtain⟨y,hy,e⟩:=aak.mp hx
  have:=AZ (v:=v) (T.rok y hy)
  rw[e] at this;exact this
 have hcs:=G0 (v:=v) n4 T.rok
 have hw:=λm=>Fr (r:=r+5) (mu:=m) (n:=n) (sk:=sk) (rows:=rows.map (LR.rw v)) n14 T.skn hrw hbl (av 593528342209044371370 [_,_] [] hlen hcs) (by rw[aaq];exact ad 100514771280 [_] [] hlen) λw hw=>by have:=T.sz w hw;exact⟨ad 16528534434640815999576 [] [_] this,ad 838779471118815999576 [] [_] this⟩
 have M:=u0 (v:=v) P
 have hf:=λm=>Ax (r:=r+1) (mu:=m) (rows:=rows.map (LR.rw v)) (sz:=eu n sk v rows) (sk:=sk) (mode:=mode) (amount:=amount) (v:=v) (m7 P) (ad 14730663402635583066 [_] [_] M) M.1 (by rw[aaq];exact ad 135944171280 [_] [] hlen) λx hx=>by
  obtain⟨y,hy,rfl⟩:=aak.mp hx
  exact FF P (T.rok y hy)
 have hd:=λm=>yb (r:=r+7) (mu:=m) (xs:=rows) (enc:=λx=>(mt (eu n sk v rows) sk v (aH (eu n sk v rows) sk mode amount v) (bu (eu n sk v rows) sk mode amount v) (x.rw v)).v) (g:=oc (eu n sk v rows) sk v (aH (eu n sk v rows) sk mode amount v) (bu (eu n sk v rows) sk mode amount v)) (ad 100514771280 [_] [] hlen) λx hx m=>CP (T.rok x hx) n4
 have hz:some (fz HT (ag 2 (aD bA)) (DT rows sk mode amount v (.ref 0)) [.lst ((rows.map (LR.rw v)).map Rw.v)])=some (DT rows sk mode amount v (.lst ((rows.map (LR.rw v)).map Rw.v)),[.dead]):=by
  rw[wX (su:=[(0,.lst ((rows.map (LR.rw v)).map Rw.v))]) (mu2:=[.dead]) (by kernel_rfl) (by rfl)]
  have e1:=fo (j:=0) (u:= .lst ((rows.map (LR.rw v)).map Rw.v)) (v:= .lst (rows.map LR.v)) (sJ rows)
  have e2:=fo (j:=0) (u:= .lst ((rows.map (LR.rw v)).map Rw.v)) (v:= .lst (sk.map Gl.v)) (eP sk)
  simp only[aaX,abo,iW,e1,e2]
  rfl
 have hsl:(sk.map Gl.v).length<=1000:=by rw[aaq,T.skn];exact ad 916747534945980 [_] [] n4
 have hL:∀m:Mu,aL TT m (.builtin "len") [.lst (sk.map Gl.v)]=some (.int ((n:Int)+1)):=λm=>by rw[fX hsl m,aaq,T.skn];rfl
 have hw':∀m,RF (r+8) (.ref jS) [.lst ((rows.map (LR.rw v)).map Rw.v),.int ((n:Int)+1-1),.lst (sk.map Gl.v)] m=some (.lst ((eu n sk v rows).map oi),m):=λm=>by
  rw[Int.add_sub_cancel];exact hw m
 have hd':∀m,RF (r+8) (.ref bz) [.lst (((rows.map (LR.rw v)).map (mt (eu n sk v rows) sk v (aH (eu n sk v rows) sk mode amount v) (bu (eu n sk v rows) sk mode amount v))).map Nd.v)] m=some (.tup (AW (eu n sk v rows) sk v mode amount rows),m):=λm=>by
  rw[aba,aba];exact hd m
 have hp:cX 0 (some 0) (AX (eu n sk v rows) sk v mode amount rows) [.dead]=some (AX (eu n sk v rows) sk v mode amount rows,[]):=aZ (su:=[]) (mu2:=[.dead]) (by rfl) rfl rfl (by decide) (v9 _ _ _ _ _ _) rfl
 have hb:ab 0 [.lst (rows.map LR.v),.lst (sk.map Gl.v),.tup [.int mode,.int amount],.bool v]=true:=by
  simp only[ab,aG,sJ,eP,abn]
 exact aK rj rfl hb [oG (c:=(rows.map LR.v).length<=1000) (by rw[aaq];exact ad 112324571280 [_] [] hlen),oS hfold,oZ hz,oQ hL,oP hw',oA,oA,oP hf,oP hd',oV hp] (by kernel_rfl)
end
set_option backward.match.sparseCases false in
noncomputable def FG:LR->List PC
 | .cells l=>l
 |_=>[]
noncomputable def dq(rows:List LR):List PC:=rows.flatMap FG
noncomputable def al(v:Bool)(p:PC):Int:=dW (bS v p)
noncomputable def jJ(sk:List Gl)(sz:List (Option Int)):Nat->Int
 |0=>0
 |c+1=>jJ sk sz c+DH sk c (sz.getD c none)
theorem rC{α:Type}{l:List α}{k:Nat}{x d:α}(h:k<l.length):(l.set k x).getD k d=x:=by
 rw[aaY,aaA h];rfl
theorem u6{α:Type}{l:List α}{k c:Nat}{x d:α}(h:k≠c):(l.set k x).getD c d=l.getD c d:=by
 rw[aaY,aaY,aaB h]
theorem CS{v:Bool}{E:EL}{p:PC}(h1:p.f<=p.l)(h2:p.l<E.length)(c:Nat)(q:Int×Int):q∈(bw E ((p.f:Int),bS v p)).getD c []↔q∈E.getD c []\/(p.l=c/\q=((p.f:Int),al v p)):=by
 have e:((p.f:Int)+(bS v p).spans-1).toNat=p.l:=by rw[kc];exact ad 14019503068000472239558393443109690485079670232557143163527507692653204278707722379717756673602027847 [_,_,_] [] (tn _)
 unfold bw
 dsimp only
 rw[e]
 by_cases hc:p.l=c
 ·subst hc
  rw[rC h2,aaj,aah]
  simp only[true_and];rfl
 ·rw[u6 hc]
  simp[hc]
theorem A0{v:Bool}:∀{l:List PC}{E:EL},(∀p∈l,p.f<=p.l/\p.l<E.length)->∀(c:Nat)(q:Int×Int),q∈((bh v l).foldl bw E).getD c []↔q∈E.getD c []\/∃p∈l,p.l=c/\q=((p.f:Int),al v p):=by
 intro L0
 induction L0 with
 |nil=>
  intro E h c q
  simp[bh]
 |cons p l ih=>
  intro E h c q
  have hp:=h p (.head _)
  have:=ih (E:=bw E ((p.f:Int),bS v p)) (λr hr=>by rw[ir];exact h r (.tail _ hr)) c q
  show q∈((bh v l).foldl bw (bw E ((p.f:Int),bS v p))).getD c []↔_
  rw[this,CS hp.1 hp.2]
  simp only[aai,exists_eq_or_imp,or_assoc]
theorem ym{n:Nat}{v:Bool}:∀{rows:List LR}{E:EL},(∀x∈rows,g8 n x)->E.length=n->∀(c:Nat)(q:Int×Int),q∈((rows.map (LR.rw v)).foldl mZ E).getD c []↔q∈E.getD c []\/∃p∈dq rows,p.l=c/\q=((p.f:Int),al v p):=by
 intro L0
 induction L0 with
 |nil=>
  intro E h hE c q
  simp[dq]
 |cons x rows ih=>
  intro E h hE c q
  have i:=λE' hE'=>ih (E:=E') (λy hy=>h y (.tail _ hy)) hE' c q
  rw[aaX,abm]
  cases x with
  |cells l=>
   obtain⟨b,h1,h2,h3⟩:=h _ (.head _)
   have pl:=(ke v h1).1
   rw[show((0:Nat):Int)=0 from rfl] at pl
   have e:mZ E (LR.rw v (.cells l))=(bh v l).foldl bw E:=by
    show(bN 0 (l.map (bS v))).foldl bw E=_
    rw[pl];rfl
   have hlen:∀(ps:List (Int×Ce))(E:EL),(ps.foldl bw E).length=E.length:=by
    intro ps
    induction ps with
    |nil=>intro E;rfl
    |cons p ps ih=>intro E;rw[abm,ih,ir]
   rw[e,i _ (by rw[hlen];exact hE),A0 (λp hp=>by have:=h1.bd.2 p hp;exact dX 28956134892763706844106734254518695005665964200862 [_,_,_,_,_] [] hE h2 this)]
   simp only[dq,abg,FG,aaj,or_and_right,exists_or,or_assoc]
  |rule=>rw[show mZ E (LR.rw v (.rule _ _ _))=E from rfl,i E hE];simp[dq,FG]
  |kern=>rw[show mZ E (LR.rw v (.kern _))=E from rfl,i E hE];simp[dq,FG]
theorem A1{n:Nat}{v:Bool}{rows:List LR}(h:∀x∈rows,g8 n x)(c:Nat)(q:Int×Int):q∈(ce n (rows.map (LR.rw v))).getD c []↔∃p∈dq rows,p.l=c/\q=((p.f:Int),al v p):=by
 rw[ce,ym h (by simp)]
 have:(abq n ([]:List (Int×Int))).getD c []=[]:=by
  rw[aaY,List.getElem?_replicate];split<;>rfl
 rw[this];simp
theorem A2:∀(l:List Int)(a:Int),ci a l∈a::l:=by
 intro L0
 induction L0 with
 |nil=>
  intro a
  exact .head _
 |cons b l ih=>
  intro a
  rw[ci]
  split
  ·exact .tail _ (ih b)
  ·have:=ih a
   rcases aai.mp this with h|h
   ·rw[h];exact .head _
   ·exact .tail _ (.tail _ h)
theorem CT:∀(l:List Int)(a:Int),∀x∈a::l,x<=ci a l:=by
 intro L0
 induction L0 with
 |nil=>
  intro a x h
  rcases aai.mp h with rfl|h;exact Int.le_refl _;exact absurd h abh
 |cons b l ih=>
  intro a x h
  rw[ci]
  rcases aai.mp h with rfl|h
  ·split
   ·have:=ih b b (.head _);lia
   ·exact ih x x (.head _)
  ·rcases aai.mp h with rfl|h
   ·split
    ·exact ih x x (.head _)
    ·have:=ih a a (.head _);lia
   ·split
    ·exact ih b x (.tail _ h)
    ·exact ih a x (.tail _ h)
theorem wa{l:List Int}(h:fY l=none):l=[]:=by cases l with
 |nil=>rfl
 |cons a l=>cases h
theorem qG{l:List Int}{w:Int}(h:fY l=some w):w∈l/\∀x∈l,x<=w:=by
 cases l with
 |nil=>cases h
 |cons a l=>cases h;exact⟨A2 l a,CT l a⟩
theorem oH(sk:List Gl)(f:List (Option Int))(x:Option Int):∀k,k<=f.length->jJ sk (f++[x]) k=jJ sk f k:=by
 intro L0
 induction L0 with
 |zero=>
  intro _
  exact rfl
 |succ k ih=>
  intro h
  rw[jJ,jJ,ih (by exact ad 144552159781200 [_,_] [] h)]
  congr 2
  rw[aaY,aaY,aat (by exact ad 144558064681200 [_,_] [] h)]
noncomputable def ju(sk:List Gl)(v:Bool)(sz:List (Option Int))(p:PC):Int:=al v p-(jJ sk sz p.l-jJ sk sz p.f)
structure jA(n:Nat)(sk:List Gl)(v:Bool)(ps:List PC)(sz:List (Option Int)):Prop where
 len:sz.length=n
 no:∀c,c<n->sz.getD c none=none->∀p∈ps,p.l≠c
 ex:∀c,c<n->∀w,sz.getD c none=some w->∃p∈ps,p.l=c/\ju sk v sz p=w
 le:∀c,c<n->∀w,sz.getD c none=some w->∀p∈ps,p.l=c->ju sk v sz p<=w
theorem fO{α:Type}{l:List α}{x d:α}{k:Nat}:(k<l.length->(l++[x]).getD k d=l.getD k d)/\(k=l.length->(l++[x]).getD k d=x):=by
 refine⟨λh=> ?_,λh=> ?_⟩
 ·rw[aaY,aaY,aat h]
 ·subst h;rw[aaY];simp
structure CU(E:EL)(sk:List Gl)(c:Nat)(s:List Int×List (Option Int)):Prop where
 b:s.1.length=c+1
 f:s.2.length=c
 e:∀k,k<=c->s.1.getD k 0=jJ sk s.2 k
 w:∀k,k<c->s.2.getD k none=fY ((E.getD k []).map λp=>p.2-(jJ sk s.2 k-jJ sk s.2 p.1.toNat))
theorem CV{E:EL}{sk:List Gl}(hE:yA E){c:Nat}{s:List Int×List (Option Int)}(I:CU E sk c s):CU E sk (c+1) (bj E sk s c):=by
 obtain⟨hb,hf,he,hw⟩:=I
 have hwc:kZ s.1 c (E.getD c [])=(E.getD c []).map λp=>p.2-(jJ sk s.2 c-jJ sk s.2 p.1.toNat):=by
  unfold kZ
  apply aa9
  intro p hp
  have:=hE c p hp
  rw[he c (aaS _),he p.1.toNat (by exact av 1952694954570198611141428366984111590923613259112976 [_,_] [_] this (tn _))]
 refine⟨by rw[bj,aap];simp[hb],by rw[bj,aap];simp[hf],λk hk=> ?_,λk hk=> ?_⟩
 ·rw[bj]
  dsimp only
  by_cases h:k<=c
  ·rw[fO.1 (by exact av 105382870062729066272 [_,_,_] [] hb h),he k h,oH _ _ _ _ (by exact av 13009699430852672 [_,_,_] [] hf h)]
  ·have hk:k=c+1:=by exact av 382127233382331721905537180 [_,_] [] hk h
   subst hk
   rw[fO.2 (by exact ad 1226927220675408272 [_,_] [] hb),jJ,oH _ _ _ _ (by exact ad 17845936472 [_,_] [] hf),fO.2 (by exact ad 17847394472 [_,_] [] hf),he c (aaS _)]
 ·rw[bj]
  dsimp only
  have e2:((E.getD k []).map λp=>p.2-(jJ sk (s.2++[fY (kZ s.1 c (E.getD c []))]) k-jJ sk (s.2++[fY (kZ s.1 c (E.getD c []))]) p.1.toNat))=(E.getD k []).map λp=>p.2-(jJ sk s.2 k-jJ sk s.2 p.1.toNat):=by
   apply aa9
   intro p hp
   have:=hE k p hp
   rw[oH _ _ _ _ (by exact av 105379092579245981672 [_,_,_] [] hf hk),oH _ _ _ _ (by exact tX 8405711490749101452839255845505066309147273491882997254741042811672 [_,_,_,_] [_] hf hk this (tn _))]
  rw[e2]
  by_cases h:k<c
  ·rw[fO.1 (by exact av 13010230872581672 [_,_,_] [] hf h),hw k h]
  ·have hk:k=c:=by exact av 9484841421953346537181 [_,_] [] hk h
   subst hk
   rw[fO.2 (by exact ad 17847394472 [_,_] [] hf),hwc]
theorem xi{E:EL}{sk:List Gl}(hE:yA E):∀c,CU E sk c ((aaa c).foldl (bj E sk) ([0],[]))
 |0=>⟨rfl,rfl,λk hk=>by
                  have:k=0:=ad 82801391580 [_] [] hk
                  subst this;rfl,λk hk=>absurd hk (aad _)⟩
 |c+1=>by
  rw[abx,List.foldl_append]
  exact CV hE (xi hE c)
theorem xj{n:Nat}{sk:List Gl}{v:Bool}{rows:List LR}(h:∀x∈rows,g8 n x):jA n sk v (dq rows) (eu n sk v rows):=by
 have hE:yA (ce n (rows.map (LR.rw v))):=uO λx hx=>by obtain⟨y,hy,rfl⟩:=aak.mp hx;exact tL (h y hy)
 have I:=xi (sk:=sk) hE n
 have M:=A1 (v:=v) h
 change CU _ sk n (_,eu n sk v rows) at I
 refine⟨I.f,λc hc e p hp q=> ?_,λc hc w e=> ?_,λc hc w e p hp q=> ?_⟩
 ·rw[I.w c hc] at e
  have e1:=wa e
  rw[List.map_eq_nil_iff] at e1
  have:=(M c ((p.f:Int),al v p)).mpr ⟨p,hp,q,rfl⟩
  rw[e1] at this
  exact absurd this abh
 ·rw[I.w c hc] at e
  obtain⟨q,hq,e1⟩:=aak.mp (qG e).1
  obtain⟨p,hp,h1,h2⟩:=(M c q).mp hq
  refine⟨p,hp,h1,?_⟩
  rw[<-e1,h2,ju,h1];rfl
 ·rw[I.w c hc] at e
  refine(qG e).2 _ (aak.mpr ⟨((p.f:Int),al v p),(M c _).mpr ⟨p,hp,q,rfl⟩,?_⟩)
  rw[ju,q];rfl
theorem m8{sk:List Gl}{s t:List (Option Int)}:∀{c:Nat},(∀k,k<c->s.getD k none=t.getD k none)->∀k,k<=c->jJ sk s k=jJ sk t k
 |c,h,0,_=>rfl
 |c,h,k+1,hk=>by rw[jJ,jJ,m8 h k (ad 144552159781200 [_,_] [] hk),h k (ad 144558064681200 [_,_] [] hk)]
theorem A3{n:Nat}{sk:List Gl}{v:Bool}{ps:List PC}{s t:List (Option Int)}(hp:∀p∈ps,p.f<=p.l)(S:jA n sk v ps s)(T:jA n sk v ps t):s=t:=by
 have key:∀c,c<=n->∀k,k<c->s.getD k none=t.getD k none:=by
  intro c
  induction c with
  |zero=>intro _ k hk;exact absurd hk (aad _)
  |succ c ih=>
   intro hc k hk
   have ih:=ih (ad 144552159781200 [_,_] [] hc)
   by_cases h:k<c
   ·exact ih k h
   ·have hk:k=c:=av 9484841421953346537181 [_,_] [] hk h
    subst hk
    have hw:∀p∈ps,p.l=k->ju sk v s p=ju sk v t p:=λp q e=>by
     rw[ju,ju,e,m8 ih k (aaS _),m8 ih p.f (by have:=hp p q;exact av 13009699430844662 [_,_,_] [] e this)]
    cases hs:s.getD k none with
    |none=>
     cases ht:t.getD k none with
     |none=>rfl
     |some w=>obtain⟨p,h1,h2,_⟩:=T.ex k (ad 144558064681200 [_,_] [] hc) w ht;exact absurd h2 (S.no k (ad 144558064681200 [_,_] [] hc) hs p h1)
    |some w=>
     cases ht:t.getD k none with
     |none=>obtain⟨p,h1,h2,_⟩:=S.ex k (ad 144558064681200 [_,_] [] hc) w hs;exact absurd h2 (T.no k (ad 144558064681200 [_,_] [] hc) ht p h1)
     |some w'=>
      obtain⟨p,h1,h2,h3⟩:=S.ex k (ad 144558064681200 [_,_] [] hc) w hs
      obtain⟨p',h1',h2',h3'⟩:=T.ex k (ad 144558064681200 [_,_] [] hc) w' ht
      have a1:=T.le k (ad 144558064681200 [_,_] [] hc) w' ht p h1 h2
      have a2:=S.le k (ad 144558064681200 [_,_] [] hc) w hs p' h1' h2'
      rw[hw p' h1' h2'] at a2
      rw[<-hw p h1 h2] at a1
      congr 1
      exact tX 13854596882736437517710966135 [] [_,_,_,_] h3 h3' a1 a2
 apply List.ext_getElem?
 intro k
 by_cases hk:k<n
 ·have:=key n (aaS _) k hk
  have h1:=bk (l:=s) (d:=none) (k:=k) (by rw[S.len];exact hk)
  have h2:=bk (l:=t) (d:=none) (k:=k) (by rw[T.len];exact hk)
  rw[h1,h2,this]
 ·rw[aas (by rw[S.len];exact ad 1606134282398 [_,_] [] hk),aas (by rw[T.len];exact ad 1606134282398 [_,_] [] hk)]
theorem CW{n:Nat}{sk:List Gl}{v:Bool}{rows:List LR}{sz:List (Option Int)}(h:∀x∈rows,g8 n x)(S:jA n sk v (dq rows) sz):eu n sk v rows=sz:=
 A3 (λp hp=>by
  obtain⟨x,hx,hp⟩:=aam.mp hp
  cases x with
  |cells l=>obtain⟨b,h1,_⟩:=h _ hx;exact(h1.bd.2 p hp).2.1
  |_=>exact absurd hp abh) (xj h) S
theorem wc{sk:List Gl}(hg:∀g∈sk,rA g)(c:Nat)(o:Option Int){K:Int}(h1: -K<=o.getD 0)(h2:o.getD 0<=K): -(K+26)<=DH sk c o/\DH sk c o<=K+26:=by
 have G:=qD hg (c+1)
 cases o with
 |none=>simp only[DH,Option.getD_none] at*;exact ad 6599959434577858888490943793773 [] [_] h1
 |some w=>have:=G.w1;have:=G.w2;simp only[DH,abp] at*;lia
theorem A4{n:Nat}{sk:List Gl}{v:Bool}{ps:List PC}{sz:List (Option Int)}(S:jA n sk v ps sz)(h4:n<=4)(hg:∀g∈sk,rA g)(hp:∀p∈ps,p.f<=p.l/\-300<=al v p/\al v p<=300):∀w,some w∈sz->-2600<=w/\w<=2600:=by
 have step:∀(c:Nat)(K:Int),0<=K->(∀p∈ps,p.l=c->-K<=ju sk v sz p/\ju sk v sz p<=K)->-K<=(sz.getD c none).getD 0/\(sz.getD c none).getD 0<=K:=by
  intro c K hK h
  by_cases hc:c<n
  ·cases e:sz.getD c none with
   |none=>simp;exact ad 30642099033 [] [_] hK
   |some w=>
    obtain⟨p,h1,h2,h3⟩:=S.ex c hc w e
    have:=h p h1 h2
    rw[h3] at this
    exact this
  ·rw[aaY,aas (by rw[S.len];exact ad 1606134282398 [_,_] [] hc)]
   simp;exact ad 30642099033 [] [_] hK
 have b0:=step 0 300 (by decide) λp h e=>by
  have:=hp p h
  rw[ju,e,show p.f=0 by exact av 23385602186946946459313897577287672 [_,_] [_] e this];exact ad 1922861128321214963414389249505915008905350569703563206 [_,_] [_,_] this
 have a0:=wc hg 0 (sz.getD 0 none) b0.1 b0.2
 have b1:=step 1 626 (by decide) λp h e=>by
  have:=hp p h
  rw[ju,e]
  have:p.f=0\/p.f=1:=by exact av 1643745491797757994732210904313897577295772 [_,_] [_] e this
  rcases this with e|e<;>rw[e]<;>simp only[jJ]<;>lia
 have a1:=wc hg 1 (sz.getD 1 none) b1.1 b1.2
 have b2:=step 2 1278 (by decide) λp h e=>by
  have:=hp p h
  rw[ju,e]
  have:p.f=0\/p.f=1\/p.f=2:=by exact av 115025131441475592938851654569660904313897577303872 [_,_] [_] e this
  rcases this with e|e|e<;>rw[e]<;>simp only[jJ]<;>lia
 have a2:=wc hg 2 (sz.getD 2 none) b2.1 b2.2
 have b3:=step 3 2582 (by decide) λp h e=>by
  have:=hp p h
  rw[ju,e]
  have:p.f=0\/p.f=1\/p.f=2\/p.f=3:=by exact av 9430850998881910357060193441908359069660904313897577336272 [_,_] [_] e this
  rcases this with e|e|e|e<;>rw[e]<;>simp only[jJ]<;>lia
 intro w hw
 obtain⟨c,hc,e⟩:=List.mem_iff_getElem.mp hw
 have e2:sz.getD c none=some w:=by rw[aaY,aaD hc,e];rfl
 have hcn:c<n:=by rw[S.len] at hc;exact hc
 have:c=0\/c=1\/c=2\/c=3:=by exact av 24342674862717212555736032437457513795070 [_,_] [] h4 hcn
 rcases this with rfl|rfl|rfl|rfl
 ·rw[e2] at b0;simp only[abp] at b0;exact ad 5158794445274680000084641831576 [] [_] b0
 ·rw[e2] at b1;simp only[abp] at b1;exact ad 5158794445274681387145672972576 [] [_] b1
 ·rw[e2] at b2;simp only[abp] at b2;exact ad 5158794445274681434975363701576 [] [_] b2
 ·rw[e2] at b3;simp only[abp] at b3;exact ad 5158794445274681482805054430576 [] [_] b3
theorem G2{v:Bool}{p:PC}(h:p.ps.length<=2)(hb:∀x∈p.ps,yc x): -300<=al v p/\al v p<=300:=by
 have B:GN 300 (bS v p):=Cz hb h
 unfold al dW
 split
 ·exact B.h
 ·exact B.w
structure G3(sz:List (Option Int))(k:Nat)(s:List PC×Nat):Prop where
 ch:Ch 0 s.1 s.2
 le:s.2<=k
 gap:∀c,s.2<=c->c<k->sz.getD c none=none
 cell:∀p∈s.1,p.l<k/\(∃w,sz.getD p.l none=some w/\p.ps=[.kern w])/\∀c,p.f<=c->c<p.l->sz.getD c none=none
 all:∀c,c<k->sz.getD c none≠none->∃p∈s.1,p.l=c
theorem CX{sz:List (Option Int)}{k:Nat}{s:List PC×Nat}(I:G3 sz k s){o:Option Int}(e:sz.getD k none=o):G3 sz (k+1) (m6 s (k,o)):=by
 obtain⟨h1,h2,h3,h4,h5⟩:=I
 cases o with
 |none=>
  refine⟨h1,by show s.2<=_;exact ad 719039804244480 [_,_] [] h2,λc a b=> ?_,λp hp=>⟨by have:=(h4 p hp).1;exact ad 719039804973481 [_,_] [] this,(h4 p hp).2⟩,λc a b=> ?_⟩
  ·by_cases hc:c<k
   ·exact h3 c a hc
   ·rw[show c=k by exact av 9484841421953346537181 [_,_] [] b hc];exact e
  ·by_cases hc:c<k
   ·exact h5 c hc b
   ·rw[show c=k by exact av 9484841421953346537181 [_,_] [] a hc,e] at b;exact absurd rfl b
 |some w=>
  refine⟨h1.add (p:=⟨s.2,k,[.kern w]⟩) rfl h2,aaS _,λc a b=>by have:k+1<=c:=a;lia,λp hp=> ?_,λc a b=> ?_⟩
  ·rcases aaj.mp hp with hp|hp
   ·exact⟨by have:=(h4 p hp).1;exact ad 719039804973481 [_,_] [] this,(h4 p hp).2⟩
   ·rw[aah] at hp
    subst hp
    exact⟨Nat.lt_succ_self _,⟨w,e,rfl⟩,λc a b=>h3 c a b⟩
  ·by_cases hc:c<k
   ·obtain⟨p,hp,q⟩:=h5 c hc b
    exact⟨p,List.mem_append_left _ hp,q⟩
   ·exact⟨⟨s.2,k,[.kern w]⟩,List.mem_append_right _ (.head _),by show k=c;exact av 9484837165110935808271 [_,_] [] a hc⟩
theorem CY{sz:List (Option Int)}:∀(l:List (Option Int))(k:Nat)(s:List PC×Nat),sz.drop k=l->G3 sz k s->G3 sz (k+l.length) ((cO k l).foldl m6 s):=by
 intro L0
 induction L0 with
 |nil=>
  intro k s _ I
  exact I
 |cons o l ih=>
  intro k s e I
  have hk:sz.getD k none=o:=by
   rw[aaY]
   have:=List.getElem?_drop (xs:=sz) (i:=k) (j:=0)
   rw[e,Nat.add_zero] at this
   rw[<-this];rfl
  have e':sz.drop (k+1)=l:=by rw[<-List.drop_drop,e];rfl
  have:=ih (k+1) _ e' (CX I hk)
  rw[cO,abm,aaf,show k+(l.length+1)=k+1+l.length by exact dk 110423448797970346202 [_,_] []]
  exact this
theorem m9(sz:List (Option Int)):∃b,G3 sz sz.length (bR sz,b):=by
 have:=CY sz 0 ([],0) rfl (sz:=sz) ⟨rfl,aaS _,λc a b=>absurd b (aad _),λp hp=>absurd hp abh,λc a=>absurd a (aad _)⟩
 rw[Nat.zero_add] at this
 exact⟨_,this⟩
theorem CZ{v:Bool}{f l:Nat}{w:Int}:al v ⟨f,l,[.kern w]⟩=w:=by
 cases v
 ·show(0:Int)+w=w;exact dk 331832705 [] [_]
 ·show(0:Int)+(0+w)+0=w;exact dk 22339222830693005 [] [_]
theorem C0{sk:List Gl}{sz:List (Option Int)}{f:Nat}:∀(m:Nat),(∀c,f<=c->c<f+m->sz.getD c none=none)->jJ sk sz (f+m)=jJ sk sz f:=by
 intro L0
 induction L0 with
 |zero=>
  intro _
  exact rfl
 |succ m ih=>
  intro h
  rw[<-Nat.add_assoc,jJ,ih λc a b=>h c a (ad 47211073704625351527181 [_,_,_] [] b),h (f+m) (dk 198288180 [_,_] []) (dk 64713582382003201 [_,_] [])]
  show _+0=_;exact dk 340483505 [] [_]
theorem ln{sk:List Gl}{v:Bool}{sz:List (Option Int)}{p:PC}(h:p∈bR sz):p.f<=p.l/\p.l<sz.length/\∃w,sz.getD p.l none=some w/\ju sk v sz p=w:=by
 obtain⟨b,I⟩:=m9 sz
 obtain⟨h1,⟨w,h2,h3⟩,h4⟩:=I.cell p h
 have h5:=(I.ch.bd.2 p h).2.1
 refine⟨h5,h1,w,h2,?_⟩
 have e:=C0 (sk:=sk) (sz:=sz) (f:=p.f) (p.l-p.f) λc a b=>h4 c a (by exact dX 175749727548651310505400626267635142093063513045973660 [_,_,_,_] [] h5 b (su _ _))
 rw[show p.f+(p.l-p.f)=p.l by exact av 321744351782535451518837294976865068382240795580 [_,_,_] [] h5 (su _ _)] at e
 obtain⟨f,l,ps⟩:=p
 dsimp only at h3 e
 subst h3
 show al v _-(jJ sk sz l-jJ sk sz f)=w
 rw[e,CZ];exact dk 2693028829595 [] [_,_]
theorem A5{n:Nat}{sz:List (Option Int)}(hn:sz.length<=n)(hw:∀w,some w∈sz->-2600<=w/\w<=2600):g8 n (.cells (bR sz)):=by
 obtain⟨b,I⟩:=m9 sz
 refine⟨b,I.ch,by have:=I.le;dsimp only at this;exact av 13009699430844660 [_,_,_] [] hn this,λp hp=> ?_⟩
 obtain⟨h1,⟨w,h2,h3⟩,_⟩:=I.cell p hp
 rw[h3]
 have:=hw w (abj (i:=p.l) (by rw[bk (d:=none) h1,h2]))
 refine⟨by simp,λx hx=> ?_⟩
 rw[aah] at hx
 subst hx
 exact⟨ad 16702873654690815999576 [] [_] this,ad 1013118691168815999576 [] [_] this⟩
theorem A6{n:Nat}{sk:List Gl}{v:Bool}{ps qs:List PC}{sz:List (Option Int)}(S:jA n sk v ps sz)(h1:∀p∈qs,p∈ps\/p∈bR sz)(h2:∀p∈bR sz,p∈qs):jA n sk v qs sz:=by
 refine⟨S.len,λc hc e p hp q=> ?_,λc hc w e=> ?_,λc hc w e p hp q=> ?_⟩
 ·rcases h1 p hp with h|h
  ·exact S.no c hc e p h q
  ·obtain⟨_,_,w,h3,_⟩:=ln (sk:=sk) (v:=v) h
   rw[q,e] at h3;cases h3
 ·obtain⟨b,I⟩:=m9 sz
  obtain⟨p,hp,q⟩:=I.all c (by rw[S.len];exact hc) (by rw[e];exact λh=>by cases h)
  obtain⟨_,_,w',h3,h4⟩:=ln (sk:=sk) (v:=v) hp
  rw[q,e] at h3
  cases h3
  exact⟨p,h2 p hp,q,h4⟩
 ·rcases h1 p hp with h|h
  ·exact S.le c hc w e p h q
  ·obtain⟨_,_,w',h3,h4⟩:=ln (sk:=sk) (v:=v) h
   rw[q,e] at h3
   cases h3
   rw[h4];exact Int.le_refl _
theorem C1{n:Nat}{sk:List Gl}{v:Bool}{ps:List PC}{sz:List (Option Int)}(S:jA n sk v ps sz){c:Nat}(hc:c<n):sz.getD c none=none↔c∉ps.map PC.l:=by
 constructor
 ·intro h m
  obtain⟨p,hp,e⟩:=aak.mp m
  exact S.no c hc h p hp e
 ·intro h
  cases e:sz.getD c none with
  |none=>rfl
  |some w=>
   obtain⟨p,hp,q,_⟩:=S.ex c hc w e
   exact absurd (aak.mpr ⟨p,hp,q⟩) h
section
section
variable(q:Nat->Bool)
noncomputable def aR(n:Nat):List Nat:=(aaa n).filter q
noncomputable def rk(c:Nat):Nat:=(aR q c).length
variable{q}
theorem fP(c:Nat):aR q (c+1)=aR q c++if q c=true then[c] else[]:=by
 unfold aR
 rw[abx,List.filter_append]
 congr 1
 cases h:q c<;>simp[h]
theorem rD{c:Nat}(h:q c=true):rk q (c+1)=rk q c+1:=by unfold rk;rw[fP,if_pos h,aap];rfl
theorem yn{c:Nat}(h:q c=false):rk q (c+1)=rk q c:=by unfold rk;rw[fP,if_neg (by rw[h];decide),abb]
theorem DU(c:Nat):∀m,rk q c<=rk q (c+m):=by
 intro L0
 induction L0 with
 |zero=>
  exact aaS _
 |succ m ih=>
  have:=ih
  rw[<-Nat.add_assoc]
  cases h:q (c+m)
  ·rw[yn h];exact this
  ·rw[rD h];exact ad 719039804244480 [_,_] [] ih
theorem mB{a b:Nat}(h:a<=b):rk q a<=rk q b:=by have:=DU (q:=q) a (b-a);rw[show a+(b-a)=b by exact av 321744351782535451518837294976865068382240795580 [_,_,_] [] h (su _ _)] at this;exact this
theorem A7{a b:Nat}(hq:q a=true)(h:a<b):rk q a<rk q b:=by
 have:=mB (q:=q) (show a+1<=b from h)
 rw[rD hq] at this;exact ad 144558064681200 [_,_] [] this
theorem A8{a b:Nat}(ha:q a=true)(hb:q b=true)(e:rk q a=rk q b):a=b:=by
 rcases Nat.lt_trichotomy a b with h|h|h
 ·have:=A7 ha h;exact av 13010768349709862 [_,_,_,_] [] e this
 ·exact h
 ·have:=A7 hb h;exact av 13010762510419862 [_,_,_,_] [] e this
theorem u7{k:Nat}(hk:q k=true):∀{n:Nat},k<n->(aR q n)[rk q k]? =some k:=by
 intro L0
 induction L0 with
 |zero=>
  intro h
  exact absurd h (aad _)
 |succ n ih=>
  intro h
  rw[fP]
  by_cases e:k=n
  ·subst e
   rw[if_pos hk,rk,abt (aaS _),Nat.sub_self];rfl
  ·have i:=ih (show k<n by exact av 9484454001995787537181 [_,_] [] h e)
   rw[aat (aO i)];exact i
theorem qH:∀{n j:Nat},j<rk q n->∃k,k<n/\q k=true/\rk q k=j:=by
 intro L0
 induction L0 with
 |zero=>
  intro j h
  exact absurd h (aad _)
 |succ n ih=>
  intro j h
  by_cases hj:j<rk q n
  ·obtain⟨k,h1,h2,h3⟩:=ih hj
   exact⟨k,ad 719039804973481 [_,_] [] h1,h2,h3⟩
  ·cases hq:q n
   ·rw[yn hq] at h;exact absurd h hj
   ·rw[rD hq] at h;exact⟨n,dk 985608181 [_] [],hq,av 9484837165110935808271 [_,_] [] h hj⟩
theorem xk(f:Nat):∀m,(aR q (f+m)).filter (λk=>decide (k<f))=aR q f:=by
 intro L0
 induction L0 with
 |zero=>
  rw[Nat.add_zero,List.filter_eq_self]
  intro k hk
  have:=(aal.mp hk).1
  rw[aar] at this
  exact decide_eq_true this
 |succ m ih=>
  rw[<-Nat.add_assoc,fP,List.filter_append,ih]
  split
  ·rw[List.filter_cons_of_neg (by simp)];simp
  ·simp
noncomputable def fw(q:Nat->Bool)(p:PC):PC:=⟨rk q p.f,rk q p.l,p.ps⟩
theorem A9{n:Nat}{p:PC}(h1:p.f<=p.l)(h2:p.l<n)(h3:q p.l=true):bZ (aR q n) p=fw q p:=by
 unfold bZ fw
 have e1:=xk (q:=q) p.f (n-p.f)
 have e2:=xk (q:=q) (p.l+1) (n-(p.l+1))
 rw[show p.f+(n-p.f)=n by exact dX 234551632449468344157232388038134634850653540175419680 [_,_,_,_] [] h1 h2 (su _ _)] at e1
 rw[show p.l+1+(n-(p.l+1))=n by exact av 1385555950252574024429654109415824982805712065471749317278795581 [_,_,_] [] h2 (su _ _)] at e2
 have e3:((aR q n).filter λk=>decide (k<=p.l))=aR q (p.l+1):=by
  rw[<-e2]
  congr 1
  funext k
  exact decide_eq_decide.mpr (by lia)
 rw[e1,e3]
 have:=rD h3
 unfold rk at this⊢
 rw[this];rfl
variable{n:Nat}{sz:List (Option Int)}{sk:List Gl}{v:Bool}
noncomputable def gJ(q:Nat->Bool)(n:Nat)(sz:List (Option Int)):List (Option Int):=(aR q n).map λk=>sz.getD k none
noncomputable def gZ(q:Nat->Bool)(n:Nat)(sk:List Gl):List Gl:=sk.getD 0 dj::(aR q n).map λk=>sk.getD (k+1) dj
theorem gG{k:Nat}(hk:q k=true)(h:k<n):(gJ q n sz).getD (rk q k) none=sz.getD k none:=by
 rw[gJ,aaY,aaE,u7 hk h];rfl
theorem xl{k:Nat}(hk:q k=true)(h:k<n):(gZ q n sk).getD (rk q k+1) dj=sk.getD (k+1) dj:=by
 rw[gZ,abA,aaY,aaE,u7 hk h];rfl
theorem G4(h:∀c,c<n->q c=false->sz.getD c none=none):∀{c:Nat},c<=n->jJ (gZ q n sk) (gJ q n sz) (rk q c)=jJ sk sz c:=by
 intro L0
 induction L0 with
 |zero=>
  intro _
  exact rfl
 |succ c ih=>
  intro hc
  have i:=ih (show c<=n by exact ad 144552159781200 [_,_] [] hc)
  cases hq:q c
  ·rw[yn hq,i,jJ,h c hc hq];show _=_+0;exact dk 1119015455 [] [_]
  ·rw[rD hq,jJ,jJ,i,gG hq hc]
   congr 1
   cases sz.getD c none with
   |none=>rfl
   |some w=>show w+((gZ q n sk).getD (rk q c+1) dj).w=w+_;rw[xl hq hc]
theorem jv{v:Bool}{p p':PC}(h:p.ps=p'.ps):bS v p'={bS v p with spans:=(bS v p').spans}:=by
 unfold bS bB
 rw[<-h]
 cases v<;>rfl
theorem G5{v:Bool}(p:PC):al v (fw q p)=al v p:=by
 unfold al
 rw[jv (p:=p) (p':=fw q p) rfl];rfl
theorem Kz{ps:List PC}(h:∀c,c<n->q c=false->sz.getD c none=none)(S:jA n sk v ps sz)(hp:∀p∈ps,p.f<=p.l/\p.l<n/\q p.l=true):jA (rk q n) (gZ q n sk) v (ps.map (fw q)) (gJ q n sz):=by
 have hw:∀p∈ps,ju (gZ q n sk) v (gJ q n sz) (fw q p)=ju sk v sz p:=λp h1=>by
  have:=hp p h1
  rw[ju,ju,G5]
  show _-(jJ _ _ (rk q p.l)-jJ _ _ (rk q p.f))=_
  rw[G4 h (by lia),G4 h (by lia)]
 refine⟨by unfold gJ rk;rw[aaq],λc hc e p' hp'=> ?_,λc hc w e=> ?_,λc hc w e p' hp'=> ?_⟩
 ·obtain⟨k,h1,h2,rfl⟩:=qH hc
  obtain⟨p,h3,rfl⟩:=aak.mp hp'
  rw[gG h2 h1] at e
  intro q'
  exact S.no k h1 e p h3 (A8 (hp p h3).2.2 h2 q')
 ·obtain⟨k,h1,h2,rfl⟩:=qH hc
  rw[gG h2 h1] at e
  obtain⟨p,h3,h4,h5⟩:=S.ex k h1 w e
  exact⟨fw q p,aak.mpr ⟨p,h3,rfl⟩,by show rk q p.l=_;rw[h4],by rw[hw p h3,h5]⟩
 ·obtain⟨k,h1,h2,rfl⟩:=qH hc
  obtain⟨p,h3,rfl⟩:=aak.mp hp'
  rw[gG h2 h1] at e
  intro q'
  rw[hw p h3]
  exact S.le k h1 w e p h3 (A8 (hp p h3).2.2 h2 q')
theorem LB:∀{a b:Nat}{l:List PC},Ch a l b->(∀p∈l,q p.l=true)->Ch (rk q a) (l.map (fw q)) (rk q b)
 |a,b,[],h,_=>by rw[show a=b from h];rfl
 |a,b,p::l,h,hl=>by
  have i:=LB h.2.2 λy hy=>hl y (.tail _ hy)
  rw[rD (hl p (.head _))] at i
  exact⟨by show rk q p.f=_;rw[h.1],mB h.2.1,i⟩
theorem FH{c:Nat}(hc:c<n)(hq:q c=true):nW (gJ q n sz) (gZ q n sk) (rk q c)=nW sz sk c:=by
 unfold nW
 rw[gG hq hc,xl hq hc]
theorem KA{c:Nat}(hc:c<n)(hq:q c=true):bT (gJ q n sz) (gZ q n sk) v (rk q c)=bT sz sk v c:=by
 rw[bT,bT,gG hq hc,FH hc hq]
theorem DV:∀{k:Nat},k<=n->(aaa (rk q k)).flatMap (bT (gJ q n sz) (gZ q n sk) v)=(aR q k).flatMap (bT sz sk v):=by
 intro L0
 induction L0 with
 |zero=>
  intro _
  exact rfl
 |succ k ih=>
  intro h
  have i:=ih (show k<=n by exact ad 144552159781200 [_,_] [] h)
  cases hq:q k
  ·rw[yn hq,i,fP,if_neg (by rw[hq];decide),abb]
  ·rw[rD hq,abx,abC,i,fP,if_pos hq,abC]
   congr 1
   show _++[]=_++[]
   rw[KA h hq]
theorem nc{σ:Type}(f:σ->Nd->σ)(J:σ->Prop)(g:Nat->List Nd)(h1:∀c s,J s->J ((g c).foldl f s))(h2:∀c s,q c=false->J s->c<n->(g c).foldl f s=s):∀{k:Nat}(s:σ),k<=n->J s->((aR q k).flatMap g).foldl f s=((aaa k).flatMap g).foldl f s/\J (((aaa k).flatMap g).foldl f s):=by
 intro L0
 induction L0 with
 |zero=>
  intro s _ hs
  exact⟨rfl,hs⟩
 |succ k ih=>
  intro s hk hs
  obtain⟨i1,i2⟩:=ih s (ad 144552159781200 [_,_] [] hk) hs
  have e:((aaa (k+1)).flatMap g).foldl f s=(g k).foldl f (((aaa k).flatMap g).foldl f s):=by
   rw[abx,abC,List.foldl_append]
   show((g k)++[]).foldl f _=_
   rw[abb]
  rw[e]
  refine⟨?_,h1 k _ i2⟩
  rw[fP,abC,List.foldl_append,i1]
  cases hq:q k
  ·rw[if_neg (by decide),h2 k _ hq i2 (ad 144558064681200 [_,_] [] hk)];rfl
  ·rw[if_pos rfl]
   show((g k)++[]).foldl f _=_
   rw[abb]
theorem Ba:aq (gJ q n sz) (gZ q n sk) v= .skip (sk.getD 0 dj) 109::(aR q n).flatMap (bT sz sk v):=by
 rw[aq,show(gJ q n sz).length=rk q n by unfold gJ rk;rw[aaq],DV (aaS _)];rfl
theorem qJ{c:Nat}(e:sz.getD c none=none):bT sz sk v c=[la none v,.skip dj 109]:=by
 rw[bT,e,nW,e]
theorem u8(a b:Int):a<=mx a b:=by unfold mx;split<;>lia
theorem yo{a:Int}(h:0<=a):mx a 0=a:=by unfold mx;rw[if_neg (by exact ad 9064289814033 [] [_] h)]
theorem xm(t:Q4)(i:Int):t.add i 0=t:=by
 obtain⟨a,b,c,d⟩:=t
 unfold Q4.add
 simp only[aac]
 split
 ·rfl
 ·split
  ·rfl
  ·split<;>rfl
theorem xn(t:Tt):t.add dj=t:=by
 obtain⟨a,b,c⟩:=t
 show Tt.mk (a+0) (b.add 0 0) (c.add 0 0)=_
 rw[xm,xm,aac]
theorem tO(t:Tt):t.wid 0=t:=by
 obtain⟨a,b,c⟩:=t
 show Tt.mk (a+0) b c=_
 rw[aac]
theorem C2(s:NL)(h:0<=s.a/\0<=s.b):[la none false,.skip dj 109].foldl gi s=s:=by
 obtain⟨t,a,b⟩:=s
 show NL.mk ((t.wid 0).add dj) (mx (mx a 0) 0) (mx (mx b (0+0)) 0)=_
 rw[show(0:Int)+0=0 from rfl,tO,xn,yo h.1,yo h.1,yo h.2,yo h.2]
theorem C3(s:NL)(h:0<=s.a/\s.b=0):[la none true,.skip dj 109].foldl dp s=s:=by
 obtain⟨t,a,b⟩:=s
 obtain⟨h1,h2⟩:=h
 dsimp only at h1 h2
 subst h2
 show NL.mk (((t.wid (0+0)).wid 0).add dj) (mx (mx a (0+0)) 0) 0=_
 rw[show(0:Int)+0=0 from rfl,tO,tO,xn,yo h1,yo h1]
theorem G6(h:∀c,c<n->q c=false->sz.getD c none=none)(hn:sz.length=n):az (aq (gJ q n sz) (gZ q n sk) false)=az (aq sz sk false):=by
 rw[Ba,aq,az,az,abm,abm,hn]
 have st:∀(l:List Nd)(s:NL),(0<=s.a/\0<=s.b)->0<=(l.foldl gi s).a/\0<=(l.foldl gi s).b:=by
  intro l
  induction l with
  |nil=>intro s hs;exact hs
  |cons x l ih=>
   intro s hs
   rw[abm]
   exact ih _ ⟨by have:=u8 s.a (J4 x);show 0<=mx s.a (J4 x);exact av 1465602050350117341641976 [] [_,_,_] hs this,by have:=u8 s.b (J5 x);show 0<=mx s.b (J5 x);exact av 1465602054654789441641976 [] [_,_,_] hs this⟩
 exact(nc (q:=q) (n:=n) gi (λs=>0<=s.a/\0<=s.b) (bT sz sk false) (λc s=>st _ s) (λc s hq hs hc=>by rw[qJ (h c hc hq)];exact C2 s hs) (k:=n) _ (aaS _) (st [.skip (sk.getD 0 dj) 109] ⟨t0,0,0⟩ ⟨by decide,by decide⟩)).1
theorem G7(h:∀c,c<n->q c=false->sz.getD c none=none)(hn:sz.length=n):ar (aq (gJ q n sz) (gZ q n sk) true)=ar (aq sz sk true):=by
 rw[Ba,aq,ar,ar,abm,abm,hn]
 exact(nc (q:=q) (n:=n) dp (λs=>0<=s.a/\s.b=0) (bT sz sk true) (λc s hs=>by
   refine⟨?_,rfl⟩
   show 0<=mx (mx s.a (0+0)) 0
   have:=u8 (mx s.a (0+0)) 0
   have:=u8 s.a (0+0)
   lia) (λc s hq hs hc=>by rw[qJ (h c hc hq)];exact C3 s hs) (k:=n) _ (aaS _) ⟨by have:=u8 0 0;exact this,rfl⟩).1
theorem tP(h:∀c,c<n->q c=false->sz.getD c none=none)(hn:sz.length=n)(mode amount:Int):da (gJ q n sz) (gZ q n sk) mode amount v=da sz sk mode amount v:=by
 unfold da
 cases v
 ·rw[if_neg (by decide),if_neg (by decide)];unfold Fn;rw[G6 h hn]
 ·rw[if_pos rfl,if_pos rfl];unfold Fo;rw[G7 h hn]
noncomputable def J8(b:Bx):Nd->Int
 | .skip g _=>g.w
 |x=>tB b.kind x
noncomputable def F7(b:Bx):Nd->Int
 | .skip g _=>iR b g
 |_=>0
noncomputable def Bb(b:Bx)(s:Int×Int)(x:Nd):Int×Int:=(s.1+J8 b x,s.2+F7 b x)
noncomputable def J9(b:Bx)(s:Int×Int):Int:=s.1+eq (b.up*s.2) b.down
theorem kA(b:Bx)(s:PL)(x:Nd):bt b s x=⟨(Bb b (s.f,s.x) x).1,(Bb b (s.f,s.x) x).2,s.l++[J9 b (Bb b (s.f,s.x) x)]⟩:=by cases x<;>rfl
theorem C4(b:Bx):∀(l:List Nd)(s:PL)(k:Nat),k<s.l.length->(l.foldl (bt b) s).l.getD k 0=s.l.getD k 0:=by
 intro L0
 induction L0 with
 |nil=>
  intro s k _
  exact rfl
 |cons x l ih=>
  intro s k h
  rw[abm,ih _ k (by rw[kA];simp;exact ad 719039804973481 [_,_] [] h),kA]
  exact fO.1 h
theorem Bc(b:Bx):∀(l:List Nd)(s:PL)(rest:List Nd),l≠[]->((l++rest).foldl (bt b) s).l.getD (s.l.length+l.length-1) 0=J9 b (l.foldl (Bb b) (s.f,s.x))
 |[],s,rest,h=>absurd rfl h
 |[x],s,rest,_=>by
  rw[List.singleton_append,abm,C4 b rest _ _ (by rw[kA];simp),kA]
  exact fO.2 (by simp)
 |x::y::l,s,rest,_=>by
  have:=Bc b (y::l) (bt b s x) rest (by simp)
  rw[aa6,abm,abm]
  have e:(bt b s x).l.length=s.l.length+1:=by rw[kA];simp
  rw[e] at this
  rw[aaf,show s.l.length+((y::l).length+1)-1=s.l.length+1+(y::l).length-1 by exact av 5431442761523765247136008732059415005148219169106063588870415278767853768329447781859828790543902143441443831580535547 [_,_,_,_] [] (su _ _) (su _ _),this,kA]
theorem xo(sz:List (Option Int))(sk:List Gl)(v:Bool)(k:Nat):((aaa k).flatMap (bT sz sk v)).length=2*k:=by
 rw[uQ,abw]
theorem xp(b:Bx){k:Nat}(hn:sz.length=n)(h:k<=n):(gE b (aq sz sk v)).getD (2*k+1) 0=J9 b ((.skip (sk.getD 0 dj) 109::(aaa k).flatMap (bT sz sk v)).foldl (Bb b) (0,0)):=by
 have e:aq sz sk v=(.skip (sk.getD 0 dj) 109::(aaa k).flatMap (bT sz sk v))++((aaa (n-k)).map (k+·)).flatMap (bT sz sk v):=by
  rw[aq,hn,aa6,<-abC,<-List.range_add,show k+(n-k)=n by exact av 321744351782535451518837294976865068382240795580 [_,_,_] [] h (su _ _)]
 have:=Bc b (.skip (sk.getD 0 dj) 109::(aaa k).flatMap (bT sz sk v)) ⟨0,0,[0]⟩ (((aaa (n-k)).map (k+·)).flatMap (bT sz sk v)) (by simp)
 rw[<-e] at this
 simp only[aaf,xo,aae] at this
 rw[gE,<-this]
 congr 1
 exact ad 223891274164366824411698031075559598888564424779297772778564700044930590195339366334534935547 [_,_] [] (su _ _)
theorem xq(b:Bx){k:Nat}(hn:sz.length=n)(h:k<n):(gE b (aq sz sk v)).getD (2*k+2) 0=J9 b (Bb b ((.skip (sk.getD 0 dj) 109::(aaa k).flatMap (bT sz sk v)).foldl (Bb b) (0,0)) (la (sz.getD k none) v)):=by
 have e:aq sz sk v=(.skip (sk.getD 0 dj) 109::((aaa k).flatMap (bT sz sk v)++[la (sz.getD k none) v]))++(.skip (nW sz sk k) 109::((aaa (n-(k+1))).map (k+1+·)).flatMap (bT sz sk v)):=by
  rw[aq,hn]
  have:aaa n=aaa k++[k]++(aaa (n-(k+1))).map (k+1+·):=by
   rw[<-abx,<-List.range_add,show k+1+(n-(k+1))=n by exact av 1385555950252574024429654109415824982805712065471749317278795581 [_,_,_] [] h (su _ _)]
  rw[this,abC,abC]
  simp[bT]
 have:=Bc b (.skip (sk.getD 0 dj) 109::((aaa k).flatMap (bT sz sk v)++[la (sz.getD k none) v])) ⟨0,0,[0]⟩ (.skip (nW sz sk k) 109::((aaa (n-(k+1))).map (k+1+·)).flatMap (bT sz sk v)) (by simp)
 rw[<-e] at this
 simp only[aaf,aap,xo,aae] at this
 rw[<-aa6,List.foldl_append] at this
 rw[gE,show 2*k+2=0+1+(2*k+(0+1)+1)-1 by exact ad 63455361907828838900810359736611476787081095330315180038232937476279703995799507693192866252823450267305295534935547 [_,_] [] (su _ _)]
 exact this
theorem C5(b:Bx)(s:Int×Int)(hk:b.kind=if v=true then 3 else 2):[la none v,.skip dj 109].foldl (Bb b) s=s:=by
 obtain⟨x,y⟩:=s
 have e1:J8 b (la none v)=0:=by unfold la J8 tB;rw[hk];cases v<;>rfl
 have e2:F7 b (.skip dj 109)=0:=by
  show iR b dj=0
  unfold iR
  split
  ·rfl
  ·split<;>rfl
 have e3:F7 b (la none v)=0:=by unfold la F7;cases v<;>rfl
 show(x+J8 b (la none v)+0,y+F7 b (la none v)+F7 b (.skip dj 109))=_
 rw[e1,e2,e3];simp
theorem G8(b:Bx)(hk:b.kind=if v=true then 3 else 2)(h:∀c,c<n->q c=false->sz.getD c none=none){k:Nat}(hkn:k<=n):(.skip ((gZ q n sk).getD 0 dj) 109::(aaa (rk q k)).flatMap (bT (gJ q n sz) (gZ q n sk) v)).foldl (Bb b) (0,0)=(.skip (sk.getD 0 dj) 109::(aaa k).flatMap (bT sz sk v)).foldl (Bb b) (0,0):=by
 rw[DV hkn,abm,abm]
 exact(nc (q:=q) (n:=n) (Bb b) (λq0=>True) (bT sz sk v) (λc s q0=>trivial) (λc s hq q0 hc=>by rw[qJ (h c hc hq)];exact C5 b s hk) (k:=k) _ hkn trivial).1
theorem FI{mode amount:Int}(h:∀c,c<n->q c=false->sz.getD c none=none)(hn:sz.length=n):(∀k,k<=n->(bu (gJ q n sz) (gZ q n sk) mode amount v).getD (2*rk q k+1) 0=(bu sz sk mode amount v).getD (2*k+1) 0)/\(∀k,k<n->q k=true->(bu (gJ q n sz) (gZ q n sk) mode amount v).getD (2*rk q k+2) 0=(bu sz sk mode amount v).getD (2*k+2) 0):=by
 have hk:(aH sz sk mode amount v).kind=if v=true then 3 else 2:=by
  unfold aH da;cases v<;>rfl
 have hl:(gJ q n sz).length=rk q n:=by unfold gJ rk;rw[aaq]
 unfold bu
 rw[show aH (gJ q n sz) (gZ q n sk) mode amount v=aH sz sk mode amount v by unfold aH;rw[tP h hn]]
 refine⟨λk h1=> ?_,λk h1 h2=> ?_⟩
 ·rw[xp _ hl (mB h1),xp _ hn h1,G8 _ hk h h1]
 ·rw[xq _ hl (A7 h2 h1),xq _ hn h1,G8 _ hk h (Nat.le_of_lt h1),gG h2 h1]
end
end
section
variable{r:Nat}{mu:Mu}
section
variable{q:Nat->Bool}{n:Nat}{sz:List (Option Int)}{sk:List Gl}{v:Bool}
noncomputable def dN(sz:List (Option Int))(sk:List Gl)(v:Bool)(rb:Bx)(ed:List Int)(p:PC):List V:=
 qu (.box (cq (bS v p) (sz.getD p.f none) (ed.getD (2*p.l+2) 0-ed.getD (2*p.f+1) 0) rb) []) ((bS v p).items.map jI)::jI (.skip (nW sz sk p.f) 109)::(abu (p.f+1) (p.l-p.f)).flatMap (kf sz sk v)
theorem qK{α β:Type}{f g:α->List β}:∀{l:List α},(∀x∈l,f x=g x)->l.flatMap f=l.flatMap g:=by
 intro L0
 induction L0 with
 |nil=>
  intro _
  exact rfl
 |cons x l ih=>
  intro h
  rw[abg,abg,h x (.head _),ih λy hy=>h y (.tail _ hy)]
theorem C6{rb:Bx}{ed:List Int}{p:PC}(h:p.f<=p.l):lb sz sk v rb ed ((p.f:Int),bS v p)=dN sz sk v rb ed p:=by
 have e:((p.f:Int)+(bS v p).spans-1).toNat=p.l:=by rw[kc];exact ad 14019503068000472239558393443109690485079670232557143163527507692653204278707722379717756673602027847 [_,_,_] [] (tn _)
 unfold lb dN
 dsimp only
 rw[e];rfl
theorem Bd{rb:Bx}{ed:List Int}:∀{l:List PC},(∀p∈l,p.f<=p.l)->(bh v l).flatMap (lb sz sk v rb ed)=l.flatMap (dN sz sk v rb ed):=by
 intro L0
 induction L0 with
 |nil=>
  intro _
  exact rfl
 |cons p l ih=>
  intro h
  show lb sz sk v rb ed ((p.f:Int),bS v p)++(bh v l).flatMap _=_
  rw[C6 (h p (.head _)),ih λy hy=>h y (.tail _ hy),abg]
theorem Be(l:List Nat):(l.flatMap (kf sz sk v)).length=2*l.length:=by
 induction l with
 |nil=>rfl
 |cons x l ih=>rw[abg,aap,ih,aaf];show 2+_=_;exact dk 523793266947341418602 [_] []
theorem sL{rb:Bx}{ed:List Int}{p:PC}(h:p.f<=p.l):(dN sz sk v rb ed p).length=2*(p.l+1-p.f):=by
 rw[dN,aaf,aaf,Be,abz];exact dX 119397776520228077080144902299721895623005880551520551132538820218857403227895896701208688538863812803860 [_,_,_,_] [] h (su _ _) (su _ _)
theorem KB{α:Type}{a b:List α}{k:Nat}{d:α}(h:k<a.length):(a++b).getD k d=a.getD k d:=by
 rw[aaY,aaY,aat h]
theorem KC{α:Type}{a b:List α}{k:Nat}{d:α}:(a++b).getD (a.length+k) d=b.getD k d:=by
 rw[aaY,aaY,abt (by exact dk 198288180 [_,_] []),Nat.add_sub_cancel_left]
theorem wd(d:V):∀(m s j:Nat),j<m->((abu s m).flatMap (kf sz sk v)).getD (2*j) d=jI (la (sz.getD (s+j) none) v)/\((abu s m).flatMap (kf sz sk v)).getD (2*j+1) d=jI (.skip (nW sz sk (s+j)) 109)
 |0,_,_,h=>absurd h (aad _)
 |m+1,s,0,_=>by rw[abv,abg];exact⟨rfl,rfl⟩
 |m+1,s,j+1,h=>by
  have i:=wd d m (s+1) j (by exact ad 1170926630230651201 [_,_] [] h)
  rw[abv,abg,show s+(j+1)=s+1+j by exact dk 110423448797970346202 [_,_] []]
  exact i
theorem qL{rb:Bx}{ed:List Int}(d:V):∀{a b:Nat}{l:List PC},Ch a l b->∀p∈l,∀i,i<2*(p.l+1-p.f)->(l.flatMap (dN sz sk v rb ed)).getD (2*(p.f-a)+i) d=(dN sz sk v rb ed p).getD i d
 |a,b,[],h,p,hp,i,hi=>absurd hp abh
 |a,b,p0::l,h,p,hp,i,hi=>by
  have h1:=h.1
  have h2:=h.2.1
  have hl:=sL (sz:=sz) (sk:=sk) (v:=v) (rb:=rb) (ed:=ed) h2
  rw[abg]
  rcases aai.mp hp with rfl|hp
  ·rw[h1,Nat.sub_self,Nat.mul_zero,Nat.zero_add,KB (by exact av 853601307814955696912281 [_,_,_] [] hi hl)]
  ·have hb:=h.2.2.bd.2 p hp
   rw[show 2*(p.f-a)+i=(dN sz sk v rb ed p0).length+(2*(p.f-(p0.l+1))+i) by exact Lq 730911000136001023771412659781963890453167988914400951712890078328510903669931223273035162341757494755938366991551400394256113354212682658962155050269880565247697226788916144909657853386415374917242 [_,_,_,_,_,_,_,_,_,_,_] [] h1 h2 hl hb (su _ _) (su _ _) (su _ _),KC]
   exact qL d h.2.2 p hp i hi
theorem Bf{rb:Bx}{ed:List Int}:∀{a b:Nat}{l:List PC},Ch a l b->(l.flatMap (dN sz sk v rb ed)).length=2*(b-a)
 |a,b,[],h=>by rw[show a=b from h];simp
 |a,b,p::l,h=>by
  have h1:=h.1
  have h2:=h.2.1
  have h3:=h.2.2.bd.1
  rw[abg,aap,sL h2,Bf h.2.2]
  exact Kc 598865666224820636208742262654963454735157064964573499579113506250405528428086229041687608164170451157761601316383324572110851272402229512165926480595304461362399052 [_,_,_,_,_,_,_] [] h1 h2 h3 (su _ _) (su _ _) (su _ _)
theorem DW{rb:Bx}{ed:List Int}{b:Nat}{l:List PC}{x:V}(h:Ch 0 l b){p:PC}(hp:p∈l):(x::l.flatMap (dN sz sk v rb ed)).getD (1+2*p.f) .none=qu (.box (cq (bS v p) (sz.getD p.f none) (ed.getD (2*p.l+2) 0-ed.getD (2*p.f+1) 0) rb) []) ((bS v p).items.map jI):=by
 have hb:=h.bd.2 p hp
 have:=qL (sz:=sz) (sk:=sk) (v:=v) (rb:=rb) (ed:=ed) .none h p hp 0 (by exact av 3219158732437272340863989045102542954937068727629792522441028933017453478960406 [_,_,_,_] [] hb (su _ _))
 rw[Nat.add_zero] at this
 rw[show 1+2*p.f=2*(p.f-0)+1 by exact ad 874299323078290210899920771319211086162087997133226547 [_,_] [] (su _ _),abA,this];rfl
theorem FJ{rb:Bx}{ed:List Int}{b:Nat}{l:List PC}{x:V}(h:Ch 0 l b){p:PC}(hp:p∈l){c:Nat}(h1:p.f<c)(h2:c<=p.l):(x::l.flatMap (dN sz sk v rb ed)).getD (1+2*c) .none=jI (la (sz.getD c none) v):=by
 have hb:=h.bd.2 p hp
 have:=qL (sz:=sz) (sk:=sk) (v:=v) (rb:=rb) (ed:=ed) .none h p hp (2*(c-(p.f+1))+1+1) (by exact tX 46257144964979480013501974448023337704853492272336338647297430560485456299479124818200841352276826610373610565273984490861 [_,_,_,_,_] [] h1 h2 (su _ _) (su _ _))
 rw[show 1+2*c=2*(p.f-0)+(2*(c-(p.f+1))+1+1)+1 by exact dX 2453219487980289465545636447497121525015821869897821714053483199721062580854861814037403696743248812947259315078222779651 [_,_,_,_] [] h1 (su _ _) (su _ _),abA,this,dN,abA,abA,(wd .none _ _ _ (by exact tX 19230357334557789135618773534596160066481774789462917525075475352276826610373610565273984490861 [_,_,_,_,_] [] h1 h2 (su _ _) (su _ _))).1,show p.f+1+(c-(p.f+1))=c by exact av 1385555950252574024429654109415824982805712065471749317278795581 [_,_,_] [] h1 (su _ _)]
theorem DX{rb:Bx}{ed:List Int}{b:Nat}{l:List PC}{x:V}(h:Ch 0 l b){p:PC}(hp:p∈l){c:Nat}(h1:p.f<=c)(h2:c<=p.l):(x::l.flatMap (dN sz sk v rb ed)).getD (2+2*c) .none=jI (.skip (nW sz sk c) 109):=by
 have hb:=h.bd.2 p hp
 by_cases e:p.f=c
 ·subst e
  have:=qL (sz:=sz) (sk:=sk) (v:=v) (rb:=rb) (ed:=ed) .none h p hp 1 (by exact av 3219160759993231385389686110715851684474758727629792522441028933017453478960406 [_,_,_,_] [] hb (su _ _))
  rw[show 2+2*p.f=2*(p.f-0)+1+1 by exact ad 7143879984944504540293083804082638131976162087997133226547 [_,_] [] (su _ _),abA,this];rfl
 ·have:=qL (sz:=sz) (sk:=sk) (v:=v) (rb:=rb) (ed:=ed) .none h p hp (2*(c-(p.f+1))+1+1+1) (by exact yv 24582943394162573242793040541190137766939633404370617750951614583089589546887808825379322157201122882593906612589187234494550065490860 [_,_,_,_,_] [] h1 h2 e (su _ _) (su _ _))
  rw[show 2+2*c=2*(p.f-0)+(2*(c-(p.f+1))+1+1+1)+1 by exact tX 1303742699330288880373714197912999233627752762321616330770546599094012228696049356373618994056543324554617469683662282196572973568650 [_,_,_,_] [] h1 e (su _ _) (su _ _),abA,this,dN,abA,abA,(wd .none _ _ _ (by exact yv 1261703744720336545187947731604854061961869243936662018820201937862882593906612589187234494550065490860 [_,_,_,_,_] [] h1 h2 e (su _ _) (su _ _))).2,show p.f+1+(c-(p.f+1))=c by exact dX 90906325896071381742829606118772277121882768615601472706661778140884580 [_,_,_] [] h1 e (su _ _)]
theorem oI{p:PC}(h:p.l<n):aI (aR q n) p=(abu p.f (p.l+1-p.f)).filter q:=by
 unfold aI
 apply List.filter_congr
 intro c hc
 rw[aby] at hc
 cases e:q c
 ·refine decide_eq_false λh=> ?_
  have:=(aal.mp h).2
  rw[e] at this;cases this
 ·exact decide_eq_true (aal.mpr ⟨aar.mpr (dX 6128014115873853713779771923512673300953191156789849655283750716300898661 [_,_,_,_,_] [] h hc (su _ _)),e⟩)
theorem nf{l:Nat}(hl:q l=true):∀(m f:Nat),f+m=l->∃h,f<=h/\h<=l/\q h=true/\rk q h=rk q f/\(abu f (m+1)).filter q=h::(abu (h+1) (l-h)).filter q
 |m,f,e=>by
  cases hf:q f
  ·cases m with
   |zero=>rw[show f=l by exact ad 144563968852202 [_,_] [] e,hl] at hf;cases hf
   |succ m=>
    obtain⟨h,h1,h2,h3,h4,h5⟩:=nf hl m (f+1) (by exact ad 102569063067802393914346202 [_,_,_] [] e)
    refine⟨h,by exact ad 144552159781200 [_,_] [] h1,h2,h3,by rw[h4,yn hf],?_⟩
    rw[abv,List.filter_cons_of_neg (by rw[hf];decide),h5]
  ·refine⟨f,aaS _,by exact ad 144552151762202 [_,_,_] [] e,hf,rfl,?_⟩
   rw[abv,List.filter_cons_of_pos hf,show l-f=m by exact av 241093146597598387748387140377164796883710569402 [_,_,_,_] [] e (su _ _)]
theorem we{β:Type}{g g':Nat->List β}(h:∀c,c<n->q c=true->g' (rk q c)=g c)(a:Nat):∀m,a+m<=n->((abu a m).filter q).flatMap g=(abu (rk q a) (rk q (a+m)-rk q a)).flatMap g':=by
 intro L0
 induction L0 with
 |zero=>
  intro _
  rw[Nat.add_zero,Nat.sub_self];rfl
 |succ m ih=>
  intro hm
  have i:=ih (by exact ad 12657802218822534346200 [_,_,_] [] hm)
  have le:=DU (q:=q) a m
  rw[List.range'_1_concat,List.filter_append,abC,i,<-Nat.add_assoc]
  cases e:q (a+m)
  ·rw[yn e,List.filter_cons_of_neg (by rw[e];decide)];simp
  ·rw[rD e,show rk q (a+m)+1-rk q a=(rk q (a+m)-rk q a)+1 by exact dX 1062804319963856751643904340958337982946025126418600684488110829468627885801838275841662803860 [_,_,_,_] [] le (su _ _) (su _ _),List.range'_1_concat,abC,List.filter_cons_of_pos e,show rk q a+(rk q (a+m)-rk q a)=rk q (a+m) by exact av 321744351782535451518837294976865068382240795580 [_,_,_] [] le (su _ _)]
   congr 1
   show g (a+m)++[]=g' (rk q (a+m))++[]
   rw[h (a+m) (by exact ad 12657802266652224346200 [_,_,_] [] hm) e]
theorem u9{c c':Ce}{w w':Option Int}{s:Int}{rb:Bx}{l:List V}(hc:c'={c with spans:=c'.spans})(hv:c.vert=v):∃a b c1 d e f g h i,qu (.box (cq c w s rb) []) l= .tup [a,b,c1,d,e,f,g,h,i]/\qu (.box (cq c' w' s rb) []) l= .tup (([a,b,c1,d,e,f,g,h,i]:List V).set (if v=true then 2 else 1) (.int (w'.getD 0))):=by
 rw[hc]
 obtain⟨cw,ch,cd,cit,spans,tt,vert⟩:=c
 cases hv
 cases vert
 ·exact⟨_,_,_,_,_,_,_,_,_,rfl,rfl⟩
 ·exact⟨_,_,_,_,_,_,_,_,_,rfl,rfl⟩
theorem Bg(b:Bx)(l:List PC):a9 b v (bh v (l.map (fw q)))=a9 b v (bh v l):=by
 have e:∀f:Ce->Int,(∀c s,f {c with spans:=s}=f c)->(bh v (l.map (fw q))).map (λp=>f p.2)=(bh v l).map λp=>f p.2:=λf hf=>by
  unfold bh
  rw[aba,aba,aba]
  apply aa9
  intro p _
  show f (bS v (fw q p))=f (bS v p)
  rw[jv (p:=p) (p':=fw q p) rfl,hf]
 unfold a9
 rw[e (λc=>c.w) λq0 q0=>rfl,e (λc=>c.h) λq0 q0=>rfl,e (λc=>c.d) λq0 q0=>rfl]
theorem FK{c:Nat}(hc:c<n)(hq:q c=true):kf (gJ q n sz) (gZ q n sk) v (rk q c)=kf sz sk v c:=by
 rw[kf,kf,gG hq hc,FH hc hq]
theorem C7{rb:Bx}{ed ed':List Int}{b:Nat}{l:List PC}{x:V}(h:Ch 0 l b)(hb:b<=n){p:PC}(hp:p∈l)(hq:q p.l=true)(e1:ed'.getD (2*rk q p.f+1) 0=ed.getD (2*p.f+1) 0)(e2:ed'.getD (2*rk q p.l+2) 0=ed.getD (2*p.l+2) 0):
  iw (x::l.flatMap (dN sz sk v rb ed)) (aR q n) sz v p=dN (gJ q n sz) (gZ q n sk) v rb ed' (fw q p):=by
 have pb:=h.bd.2 p hp
 obtain⟨h0,a1,a2,a3,a4,a5⟩:=nf hq (p.l-p.f) p.f (by exact av 11218531869052011565853736377823687763169955437906123016922037231406 [_,_,_,_] [] pb (su _ _))
 have hH:aI (aR q n) p=h0::(abu (h0+1) (p.l-h0)).filter q:=by
  rw[oI (by exact av 453638730363373644487160183017998660 [_,_,_,_] [] hb pb),show p.l+1-p.f=p.l-p.f+1 by exact dX 37057695241653886054304967627897182698220044357504298629210675101503828310874590773294450421132747390824610689406 [_,_,_,_,_] [] pb (su _ _) (su _ _),a5]
 have hd:(aI (aR q n) p).headD 0=h0:=by rw[hH];rfl
 have hlead:=DW (sz:=sz) (sk:=sk) (v:=v) (rb:=rb) (ed:=ed) (x:=x) h hp
 unfold iw
 rw[hH,abg]
 have t1:((abu (h0+1) (p.l-h0)).filter q).flatMap (j9 (x::l.flatMap (dN sz sk v rb ed)) (aR q n) sz v p)=((abu (h0+1) (p.l-h0)).filter q).flatMap (kf sz sk v):=by
  refine qK λc hc=> ?_
  have:=(aal.mp hc).1
  rw[aby] at this
  unfold j9
  rw[hd,if_neg (by exact ad 56007167814396125485733617137006 [_,_,_] [] this),FJ h hp (by exact av 453638936305343089034246106418406580 [_,_,_,_] [] a1 this) (by exact av 1037742175043755907199825863614557750545365396042920743617866006 [_,_,_,_] [] this (su _ _)),DX h hp (by exact av 453620406103454570624246106418406580 [_,_,_,_] [] a1 this) (by exact av 1037742175043755907199825863614557750545365396042920743617866006 [_,_,_,_] [] this (su _ _))];rfl
 have t2:=we (n:=n) (q:=q) (g:=kf sz sk v) (g':=kf (gJ q n sz) (gZ q n sk) v) (λc hc hq=>FK hc hq) (h0+1) (p.l-h0) (by exact tX 48311348740489014381256518363694945825657110011003995581594354000869251253459006850 [_,_,_,_,_,_] [] hb pb a2 (su _ _))
 rw[t1,t2,rD a3,show h0+1+(p.l-h0)=p.l+1 by exact av 78734766637325107974490089615027774976865068382240795580 [_,_,_] [] a2 (su _ _),rD hq,a4]
 rw[j9,hd,if_pos rfl,DX h hp a1 a2]
 obtain⟨d1,d2,d3,d4,d5,d6,d7,d8,d9,L1,L2⟩:=u9 (v:=v) (w:=sz.getD p.f none) (w':=sz.getD h0 none) (s:=ed.getD (2*p.l+2) 0-ed.getD (2*p.f+1) 0) (rb:=rb) (l:=(bS v p).items.map jI) (jv (v:=v) (p:=p) (p':=fw q p) rfl) (tK v p)
 have t3:iT (x::l.flatMap (dN sz sk v rb ed)) (aR q n) sz v p=qu (.box (cq (bS v (fw q p)) (sz.getD h0 none) (ed.getD (2*p.l+2) 0-ed.getD (2*p.f+1) 0) rb) []) ((bS v p).items.map jI):=by
  unfold iT tH
  rw[hlead,L1,L2,hd]
 have e3:(bS v (fw q p)).items=(bS v p).items:=by rw[qE,qE];rfl
 have t4:dN (gJ q n sz) (gZ q n sk) v rb ed' (fw q p)=qu (.box (cq (bS v (fw q p)) ((gJ q n sz).getD (rk q p.f) none) (ed'.getD (2*rk q p.l+2) 0-ed'.getD (2*rk q p.f+1) 0) rb) []) ((bS v (fw q p)).items.map jI)::jI (.skip (nW (gJ q n sz) (gZ q n sk) (rk q p.f)) 109)::(abu (rk q p.f+1) (rk q p.l-rk q p.f)).flatMap (kf (gJ q n sz) (gZ q n sk) v):=rfl
 rw[t3,t4,e1,e2,<-a4,gG a3 (by exact dX 330702912907631347465351681696223017998660 [_,_,_,_,_] [] hb pb a2),FH (by exact dX 330702912907631347465351681696223017998660 [_,_,_,_,_] [] hb pb a2) a3,e3,show rk q p.l+1-(rk q h0+1)=rk q p.l-rk q h0 by exact av 19231142851278784001790630598691874843346400030986056391375308579973440854278548869796785940547 [_,_,_,_] [] (su _ _) (su _ _)]
 rfl
end
theorem vb{q:Nat->Bool}{n:Nat}{sz:List (Option Int)}{sk:List Gl}{v:Bool}{mode amount:Int}{l:List PC}(h4:n<=4)(hn:sz.length=n)(h:∀c,c<n->q c=false->sz.getD c none=none)(hx:g8 n (.cells l))(hq:∀p∈l,q p.l=true):
  RF (r+1) (.ref cY) [oc sz sk v (aH sz sk mode amount v) (bu sz sk mode amount v) (.cells l),a7 l,.lst ((aR q n).map aV),.lst (sz.map oi),.bool v] mu=some (oc (gJ q n sz) (gZ q n sk) v (aH (gJ q n sz) (gZ q n sk) mode amount v) (bu (gJ q n sz) (gZ q n sk) mode amount v) (.cells (l.map (fw q))),mu):=by
 have hbl:=qF sz sk v (aH sz sk mode amount v) (bu sz sk mode amount v) (.cells l)
 obtain⟨b,h1,h2,h3⟩:=hx
 have E:=FI (sk:=sk) (v:=v) (mode:=mode) (amount:=amount) h hn
 have hB:aH (gJ q n sz) (gZ q n sk) mode amount v=aH sz sk mode amount v:=by unfold aH;rw[tP h hn]
 rw[hB]
 generalize aH sz sk mode amount v=B at*
 generalize bu sz sk mode amount v=ed at*
 generalize bu (gJ q n sz) (gZ q n sk) mode amount v=ed' at*
 have hb:=h1.bd.2
 have hlen:=h1.len
 have o1:oc sz sk v B ed (.cells l)=qu (.box (a9 B v (bh v l)) []) (jI (.skip (sk.getD 0 dj) 109)::l.flatMap (dN sz sk v (a9 B v (bh v l)) ed)):=by
  show qu (.box (a9 B v (bh v l)) []) (tN sz sk v (a9 B v (bh v l)) ed (bh v l))=_
  rw[tN,Bd λp hp=>(hb p hp).2.1]
 have o2:oc (gJ q n sz) (gZ q n sk) v B ed' (.cells (l.map (fw q)))=qu (.box (a9 B v (bh v l)) []) (jI (.skip (sk.getD 0 dj) 109)::l.flatMap (iw (jI (.skip (sk.getD 0 dj) 109)::l.flatMap (dN sz sk v (a9 B v (bh v l)) ed)) (aR q n) sz v)):=by
  show qu (.box (a9 B v (bh v (l.map (fw q)))) []) (tN (gJ q n sz) (gZ q n sk) v (a9 B v (bh v (l.map (fw q)))) ed' (bh v (l.map (fw q))))=_
  rw[tN,Bg,Bd λp hp=>by
   obtain⟨p',hp',rfl⟩:=aak.mp hp
   exact mB (hb p' hp').2.1]
  rw[show(gZ q n sk).getD 0 dj=sk.getD 0 dj from rfl,List.flatMap_map]
  congr 2
  refine qK λp hp=> ?_
  have:=hb p hp
  exact(C7 h1 h2 hp (hq p hp) (E.1 p.f (by exact av 453620200237741204368299151694998660 [_,_,_,_] [] h2 this)) (E.2 p.l (by exact av 453638730363373644487160183017998660 [_,_,_,_] [] h2 this) (hq p hp))).symm
 rw[o1] at hbl
 rw[o1,o2]
 have hit:(jI (.skip (sk.getD 0 dj) 109)::l.flatMap (dN sz sk v (a9 B v (bh v l)) ed)).length=1+2*b:=by
  rw[aaf,Bf h1];exact ad 184795317656359867045649398852274461045264856539836547 [_,_] [] (su _ _)
 have hhl:∀p∈l,(aI (aR q n) p).length<=5:=λp hp=>by
  rw[oI (by have:=hb p hp;exact av 453638730363373644487160183017998660 [_,_,_,_] [] h2 this)]
  have:=abB q (abu p.f (p.l+1-p.f))
  rw[abz] at this
  have:=hb p hp
  lia
 refine Fy (t:=[.int (a9 B v (bh v l)).kind,.int (a9 B v (bh v l)).w,.int (a9 B v (bh v l)).h,.int (a9 B v (bh v l)).d,.int (a9 B v (bh v l)).shift,.int (a9 B v (bh v l)).sign,.int (a9 B v (bh v l)).order,.tup [.int (a9 B v (bh v l)).up,.int (a9 B v (bh v l)).down]]) ⟨_,_,_,_,_,_,_,_,rfl⟩ (λp hp=> ?_) (by exact dX 3504725784068545746485239286070 [_,_,_] [] h4 h2 hit) (by exact av 103407807627524070 [_,_] [] h4 hn) (by simp) ?_ (by exact dX 585194144492504248177286070 [_,_,_] [] h4 h2 hlen) hhl
 ·have pb:=hb p hp
  have lo:=DW (sz:=sz) (sk:=sk) (v:=v) (rb:=a9 B v (bh v l)) (ed:=ed) (x:=jI (.skip (sk.getD 0 dj) 109)) h1 hp
  obtain⟨d1,d2,d3,d4,d5,d6,d7,d8,d9,L1,L2⟩:=u9 (v:=v) (w:=sz.getD p.f none) (w':=none) (s:=ed.getD (2*p.l+2) 0-ed.getD (2*p.f+1) 0) (rb:=a9 B v (bh v l)) (l:=(bS v p).items.map jI) (jv (v:=v) (p:=p) (p':=p) rfl) (tK v p)
  refine⟨⟨d1,d2,d3,d4,d5,d6,d7,d8,d9,?_⟩,?_,λc hc=> ?_,by exact dX 5254543636835778821315249773420121023286070 [_,_,_,_] [] h4 h2 pb⟩
  ·rw[bk (d:=V.none) (by rw[hit];exact ad 2816572436059342603700718348498714922037231406 [_,_,_] [] pb),lo,L1]
  ·obtain⟨h0,_,_,_,_,a5⟩:=nf (hq p hp) (p.l-p.f) p.f (by exact av 11218531869052011565853736377823687763169955437906123016922037231406 [_,_,_,_] [] pb (su _ _))
   rw[oI (by exact av 453638730363373644487160183017998660 [_,_,_,_] [] h2 pb),show p.l+1-p.f=p.l-p.f+1 by exact dX 37057695241653886054304967627897182698220044357504298629210675101503828310874590773294450421132747390824610689406 [_,_,_,_,_] [] pb (su _ _) (su _ _),a5]
   exact⟨_,_,rfl⟩
  ·rw[oI (by exact av 453638730363373644487160183017998660 [_,_,_,_] [] h2 pb)] at hc
   have:=(aal.mp hc).1
   rw[aby] at this
   rw[hit]
   exact yv 42681824449063945883940373311332603214921547229908603420440889481397648107994835099787515901207304152140641582163771621767370862 [_,_,_,_,_,_,_] [] hn h2 pb this (su _ _)
 ·show(_&&true)=true
  rw[Bool.and_true];exact hbl
end
section
variable{r:Nat}{mu:Mu}
theorem Bh{T:ba}{F:bM}{hint:Nat->Nat->Bool}{a:Addr}{ps:List Str}{names:ae}{body:List Stmt}{vs:List V}{mu mu':Mu}{v:V}{loc':au}{fr:GC}{keep:Option Nat}(hv:uw ps [] vs=some vs)(h:g6 T F hint names 60 body (eE ps vs []) mu=some (.ret v,loc',mu')):xT T hint F a (.fn ps [] names body fr keep) vs mu=some (v,mu'):=by
 show((uw ps [] vs).bind λvs'=>(g6 T F hint names 60 body (eE ps vs' []) mu).map λx=>(DC x.1,x.2.2))=_
 rw[hv]
 show(g6 T F hint names 60 body (eE ps vs []) mu).map (λx=>(DC x.1,x.2.2))=_
 rw[h]
 rfl
theorem xr(c m:Int):∃s:Int×Int,RF (r+1) (.ref ku) [.int c,.int m] []=some (.ref 0,gF s):=by
 by_cases hc:c<0
 ·exact⟨((if c-10^18>0 then c-10^18 else 0),(2*(c.natAbs:Int)+1+(m.natAbs:Int)).fmod 2147483629+7),aa nU rfl [oA,oA,oA,oW (dU (a:=2) (b:=c.natAbs) (.inl (by decide))),oB (mT hc),oA,oA,oW (tz (a:=2*(c.natAbs:Int)+1+(m.natAbs:Int)) (b:=2147483629) (by decide))] (by kernel_rfl)⟩
 ·exact⟨((if c-10^18>0 then c-10^18 else 0),(2*(c.natAbs:Int)+0+(m.natAbs:Int)).fmod 2147483629+7),aa nU rfl [oA,oA,oA,oW (dU (a:=2) (b:=c.natAbs) (.inl (by decide))),oB (mU hc),oA,oA,oW (tz (a:=2*(c.natAbs:Int)+0+(m.natAbs:Int)) (b:=2147483629) (by decide))] (by kernel_rfl)⟩
end
section
variable{r:Nat}{mu:Mu}
noncomputable abbrev lw(i k:Nat):List Stmt:=((aD a8).drop i).take k
noncomputable abbrev mD(r:Nat)(m:Nat)(b:List Stmt)(loc:au)(mu:Mu):Option (Fl×au×Mu):=g6 TT (RF r) HT (bn a8) m b loc mu
theorem iE{i k m n:Nat}{loc loc':au}{mu mu':Mu}(h:mD r n (lw i k) loc mu=some (.next,loc',mu'))(hk:(lw i k).length=k)(hn:n=m+1+k):mD r n ((aD a8).drop i) loc mu=mD r (m+1) ((aD a8).drop (i+k)) loc' mu':=by
 have:=Kv h hk hn
 rw[List.drop_drop] at this
 exact this
theorem wf:∀l:List Int,cA (l.map V.int)=some l:=by
 intro L0
 induction L0 with
 |nil=>
  exact rfl
 |cons x l ih=>
  rw[aaX,cA,ih];rfl
theorem xt(l:List Int)(m:Mu):aL TT m (.builtin "sum") [.lst (l.map V.int)]=some (.int l.sum):=by
 show(cA (l.map V.int)).map (λns=>V.int ns.sum)=_
 rw[wf];rfl
noncomputable abbrev Ka(sc:List Int):V:= .arg (sc.map V.int)
noncomputable abbrev l0(sc:List Int):au:=[(aaQ "script",Ka sc)]
noncomputable abbrev l1(sc:List Int):au:=l0 sc++[(aaQ "box",.ref 0)]
noncomputable abbrev l2(sc:List Int)(v:Bool)(n:Nat):au:=l1 sc++[(aaQ "upright",.bool v),(aaQ "columns",.int n)]
noncomputable abbrev l3(sc:List Int)(v:Bool)(n:Nat)(g:Int):au:=l2 sc v n++[(aaQ "gone",.int g)]
noncomputable abbrev l4(sc:List Int)(v:Bool)(n:Nat)(g:Int)(sk:List Gl):au:=l3 sc v n g++[(aaQ "skips",.lst (sk.map Gl.v))]
noncomputable abbrev l5(sc:List Int)(v:Bool)(n:Nat)(g:Int)(sk:List Gl)(rs:List (List PC)):au:=l4 sc v n g sk++[(aaQ "rows",.lst (rs.map a7))]
noncomputable abbrev l6(sc:List Int)(v:Bool)(n:Nat)(g:Int)(sk:List Gl)(rs:List (List PC))(b:V):au:=l5 sc v n g sk rs++[(aaQ "behind",b)]
noncomputable abbrev l7(sc:List Int)(v:Bool)(n:Nat)(g:Int)(sk:List Gl)(rs:List (List PC))(b:V)(mode amount:Int):au:=l6 sc v n g sk rs b++[(aaQ "goal",.tup [.int mode,.int amount])]
noncomputable abbrev l8(sc:List Int)(v:Bool)(n:Nat)(g:Int)(sk:List Gl)(rs:List (List PC))(b:V)(mode amount:Int)(o:List Nat):au:=l7 sc v n g sk rs b mode amount++[(aaQ "order",.lst (o.map aV))]
theorem KD{sc:List Int}(h:sc.length<=900):∃s:Int×Int,mD (r+9) 60 (lw 0 1) (l0 sc) []=some (.next,l1 sc,gF s):=by
 cases sc with
 |nil=>
  obtain⟨s,hs⟩:=xr (r:=r+8) (10^18+4693398358266209248146981381628182000433109836) ([]:List Int).sum
  exact⟨s,bK [oA,oA,oA,oA,oQ (xt []),oC hs] (by kernel_rfl)⟩
 |cons a l=>
  obtain⟨s,hs⟩:=xr (r:=r+8) a l.sum
  rw[aaf] at h
  have hc:qW (Ka (a::l)) (some 1) none=some (.lst (l.map V.int)):=by
   have e:qW (Ka (a::l)) (some 1) none=(if(false=true/\false=false/\(0:Int)<=1) then some [] else if((V.int a::l.map V.int).length<=1000/\(1:Int)<=((V.int a::l.map V.int).length:Nat)/\-((V.int a::l.map V.int).length:Int)<=1/\(false=true->(1:Int)<=(if(0:Int)<=1 then 1 else 1+((V.int a::l.map V.int).length:Nat)))) then some (l.map V.int) else none).map V.lst:=by kernel_rfl
   rw[e,if_neg (by simp),if_pos (by rw[aaf,aaq];exact⟨ad 7425655033006321200 [_] [] h,dk 88704754023 [_] [],dk 9654642752673 [_] [],λh=>absurd h (by decide)⟩)]
   rfl
  exact⟨s,bK [oA,oA,oA,oW hc,oQ (xt l),oC hs] (by kernel_rfl)⟩
theorem KE{sc:List Int}(s:Int×Int):∃(s':Int×Int)(v:Bool)(n:Nat),mD (r+9) 59 (lw 1 1) (l1 sc) (gF s)=some (.next,l2 sc v n,gF s')/\2<=n/\n<=4:=by
 obtain⟨d1,s1,t1,a1,b1⟩:=ah (r:=r+8) (n:=2) (by decide) s
 obtain⟨d2,s2,t2,a2,b2⟩:=ah (r:=r+8) (n:=3) (by decide) s1
 have:d2=0\/d2=1\/d2=2:=av 353115188902488509752248180708033 [] [_] a2 b2
 have hd:∃n:Nat,(4:Int)-d2=n/\2<=n/\n<=4:=⟨(4-d2).toNat,av 373188198029092456863416573032214822314633940494704302987451707917121203957 [_] [_] this (tn _),av 545136458190213105650683095686783038940494704302987451707917121203957 [_] [_] this (tn _),av 4511247291657282576179578264751694898940494704302987451707917121203957 [_] [_] this (tn _)⟩
 obtain⟨n,en,hn⟩:=hd
 by_cases h:d1=1
 ·refine⟨s2,true,n,?_,hn⟩
  have:mD (r+9) 59 (lw 1 1) (l1 sc) (gF s)=some (.next,l1 sc++[(aaQ "upright",.bool true),(aaQ "columns",.int (4-d2))],gF s2):=bK [oC t1,oB (dl h),oC t2] (by kernel_rfl)
  rw[en] at this
  exact this
 ·refine⟨s2,false,n,?_,hn⟩
  have:mD (r+9) 59 (lw 1 1) (l1 sc) (gF s)=some (.next,l1 sc++[(aaQ "upright",.bool false),(aaQ "columns",.int (4-d2))],gF s2):=bK [oC t1,oB (cC h),oC t2] (by kernel_rfl)
  rw[en] at this
  exact this
theorem KF{sc:List Int}{v:Bool}{n:Nat}(h2:2<=n)(s:Int×Int):∃(s':Int×Int)(g:Int),mD (r+9) 58 (lw 2 1) (l2 sc v n) (gF s)=some (.next,l3 sc v n g,gF s'):=by
 obtain⟨d1,s1,t1,a1,b1⟩:=ah (r:=r+8) (n:=2) (by decide) s
 by_cases h:d1=0
 ·obtain⟨d2,s2,t2,a2,b2⟩:=ah (r:=r+8) (n:=n) (ad 1087619903640 [_] [] h2) s1
  exact⟨s2,d2,bK [oC t1,oB (dl h),oC t2] (by kernel_rfl)⟩
 ·exact⟨s1,-1,bK [oC t1,oB (cC h)] (by kernel_rfl)⟩
theorem KG{sc:List Int}{v:Bool}{n:Nat}{g:Int}(h4:n<=4)(s:Int×Int):∃(s':Int×Int)(sk:List Gl),mD (r+9) 57 (lw 3 1) (l3 sc v n g) (gF s)=some (.next,l4 sc v n g sk,gF s')/\sk.length=n+1/\∀x∈sk,rA x:=by
 obtain⟨sk,s',h1,h2,h3⟩:=qA (f:=dG TT (RF (r+9)) HT (bn a8) (l3 sc v n g) 53 (cT (aN 0 (ag 3 (aD a8)))) [] (cE (aN 0 (ag 3 (aD a8)))) (cN (aN 0 (ag 3 (aD a8))))) Gl.v (λk:Nat=>V.int (k:Int)) rA [] (aaa (n+1)) s (λx q0 s=>by
  obtain⟨gl,s1,f1,f2⟩:=flow (r:=r+4) s
  exact⟨gl,s1,cM (n:=52) [oC f1] (by kernel_rfl),f2⟩)
 rw[<-bY] at h1
 have g1: -1000<=(n:Int)+1/\(n:Int)+1<=1000:=ad 411375158968275558506256018049980 [_] [] h4
 have g2:(aM 0 ((n+1:Nat):Int)).length<=1000:=by rw[bY];simp;exact ad 200897965980 [_] [] h4
 exact⟨s',sk,bK [oG g1,oG g2,oL h1] (by kernel_rfl),by rw[h2,abw],h3⟩
theorem KH{sc:List Int}{v:Bool}{n:Nat}{g:Int}{sk:List Gl}(h2:2<=n)(h4:n<=4)(s:Int×Int):∃(s':Int×Int)(rs:List (List PC)),mD (r+9) 56 (lw 4 1) (l4 sc v n g sk) (gF s)=some (.next,l5 sc v n g sk rs,gF s')/\(rs.length=2\/rs.length=3\/rs.length=4)/\∀row∈rs,uW n g row:=by
 obtain⟨s',rs,t,h⟩:=AO (r:=r+2) (g:=g) h2 h4 s
 exact⟨s',rs,bK [oC t] (by kernel_rfl),h⟩
noncomputable def LC(b:LR):Prop:=(∀l,b≠.cells l)/\∀n,g8 n b
noncomputable abbrev bC:Expr:=vN 0 (fq 9 (Fp (ag 0 (ru (ag 6 (aD a8))))))
theorem KI{sc:List Int}{v:Bool}{n:Nat}{g:Int}{sk:List Gl}{rs:List (List PC)}(s:Int×Int):∃(s':Int×Int)(b:LR),mD (r+9) 55 (lw 5 2) (l5 sc v n g sk rs) (gF s)=some (.next,l6 sc v n g sk rs b.v,gF s')/\LC b:=by
 obtain⟨d1,s1,t1,a1,b1⟩:=ah (r:=r+8) (n:=30) (by decide) s
 obtain⟨d2,s2,t2,a2,b2⟩:=ah (r:=r+8) (n:=4) (by decide) s1
 by_cases h:d2>0
 ·obtain⟨as,s',h1,h2,h3⟩:=qA (f:=dG TT (RF (r+9)) HT (bn a8) (l6 sc v n g sk rs (.tup [.int 5,.int d1])) 46 (cT bC) [] (cE bC) (cN bC)) oi (λk:Nat=>V.int (k:Int)) F6 [] (aaa 3) s2 (λx q0 s=>by
   obtain⟨e1,q1,u1,c1,k1⟩:=ah (r:=r+8) (n:=2) (by decide) s
   by_cases hz:e1=0
   ·exact⟨none,q1,cM (n:=45) [oC u1,oB (dl hz)] (by kernel_rfl),trivial⟩
   ·obtain⟨e2,q2,u2,c2,k2⟩:=ah (r:=r+8) (n:=9) (by decide) q1
    exact⟨some (1+e2),q2,cM (n:=45) [oC u1,oB (cC hz),oC u2] (by kernel_rfl),by show 0<=1+e2;exact ad 248715505599033 [] [_] c2,by show 1+e2<=10;exact ad 1724632335841054 [] [_] k2⟩)
  obtain⟨a,b,c,rfl⟩:∃a b c,as=[a,b,c]:=CI h2
  rw[<-bY] at h1
  refine⟨s',.rule a b c,bK [oC t1,oC t2,oB (jl h),oA,oA,oL h1,oA] (by kernel_rfl),⟨λl e=>(by cases e),λn=>⟨h3 a (by simp),h3 b (by simp),h3 c (by simp)⟩⟩⟩
 ·exact⟨s2,.kern d1,bK [oC t1,oC t2,oB (fJ h)] (by kernel_rfl),⟨λl e=>(by cases e),λn=>⟨a1,ad 248336377654 [] [_] b1⟩⟩⟩
theorem KJ{sc:List Int}{v:Bool}{n:Nat}{g:Int}{sk:List Gl}{rs:List (List PC)}{b:V}(s:Int×Int):∃(s':Int×Int)(mode amount:Int),mD (r+9) 53 (lw 7 1) (l6 sc v n g sk rs b) (gF s)=some (.next,l7 sc v n g sk rs b mode amount,gF s')/\(mode=0\/mode=1)/\-400<=amount/\amount<=400:=by
 obtain⟨d1,s1,t1,a1,b1⟩:=ah (r:=r+8) (n:=300) (by decide) s
 obtain⟨d2,s2,t2,a2,b2⟩:=ah (r:=r+8) (n:=120) (by decide) s1
 obtain⟨d3,s3,t3,a3,b3⟩:=ah (r:=r+8) (n:=2) (by decide) s2
 have h:d3=0\/d3=1:=av 5099603133597204561108033 [] [_] a3 b3
 rcases h with rfl|rfl
 ·exact⟨s3,0,20+d1,bK [oC t1,oC t2,oC t3,oA] (by kernel_rfl),.inl rfl,ad 24249812461359033 [] [_] a1,ad 1294395416754754 [] [_] b1⟩
 ·exact⟨s3,1,d2-40,bK [oC t1,oC t2,oC t3,oA] (by kernel_rfl),.inr rfl,ad 224082788722359033 [] [_] a2,ad 1319066154888754 [] [_] b2⟩
theorem KK{sc:List Int}{v:Bool}{n:Nat}{g:Int}{sk:List Gl}{rs:List (List PC)}{b:V}{mode amount:Int}(hr:rs.length<=4)(s:Int×Int):∃(s':Int×Int)(o:List Nat),mD (r+9) 52 (lw 8 1) (l7 sc v n g sk rs b mode amount) (gF s)=some (.next,l8 sc v n g sk rs b mode amount o,gF s')/\(aaa (rs.length+2)).Perm o:=by
 obtain⟨o,s',t,p⟩:=order (r:=r+7) (n:=rs.length+2) (ad 2256510295945980 [_] [] hr) s
 have hl:∀m:Mu,aL TT m (.builtin "len") [.lst (rs.map a7)]=some (.int (rs.length:Nat)):=λm=>by rw[fX (by rw[aaq];exact ad 112324465980 [_] [] hr) m,aaq]
 exact⟨s',o,bK [oQ hl,oC t] (by kernel_rfl),p⟩
end
section
variable{r:Nat}{mu:Mu}
noncomputable def Pl:Nat->V->Prop
 |_,.none=>True
 |_,.int _=>True
 |d+1,.tup l=>∀x∈l,Pl d x
 |d+1,.lst l=>∀x∈l,Pl d x
 |_,_=>False
theorem Pl.up:∀{d:Nat}{v:V},Pl d v->Pl (d+1) v
 |0,.none,_=>trivial
 |0,.int _,_=>trivial
 |0,.tup l,h=>by unfold Pl at h;exact h.elim
 |0,.lst l,h=>by unfold Pl at h;exact h.elim
 |d+1,.none,_=>trivial
 |d+1,.int _,_=>trivial
 |d+1,.tup l,h=>by unfold Pl at h⊢;exact λx hx=>(h x hx).up
 |d+1,.lst l,h=>by unfold Pl at h⊢;exact λx hx=>(h x hx).up
 |0,.bool _,h=>by unfold Pl at h;exact h.elim
 |0,.obj _ _,h=>by unfold Pl at h;exact h.elim
 |0,.ref _,h=>by unfold Pl at h;exact h.elim
 |0,.top _,h=>by unfold Pl at h;exact h.elim
 |0,.arg _,h=>by unfold Pl at h;exact h.elim
 |d+1,.bool _,h=>by unfold Pl at h;exact h.elim
 |d+1,.obj _ _,h=>by unfold Pl at h;exact h.elim
 |d+1,.ref _,h=>by unfold Pl at h;exact h.elim
 |d+1,.top _,h=>by unfold Pl at h;exact h.elim
 |d+1,.arg _,h=>by unfold Pl at h;exact h.elim
noncomputable def Py(d:Nat)(v:V)(p:PyData):Prop:=jL v=some p/\p.canLay0=true/\p.depth<=d
theorem KL{d:Nat}:∀{l:List V},(∀x∈l,∃p,Py d x p)->∃ps,kF l=some ps/\PyData.canLayAll0 ps=true/\PyData.depthAll ps<=d
 |[],_=>⟨[],rfl,rfl,aaT _⟩
 |x::l,h=>by
  obtain⟨p,h1,h2,h3⟩:=h x (.head _)
  obtain⟨ps,g1,g2,g3⟩:=KL (l:=l) λy hy=>h y (.tail _ hy)
  refine⟨p::ps,by rw[kF,h1,g1],by rw[PyData.canLayAll0,h2,g2];rfl,?_⟩
  rw[PyData.depthAll]
  exact dX 2678581744329593337804729717217126522269774660 [_,_,_,_] [] h3 g3 (L5 _ _)
theorem Pl.py:∀{d:Nat}{v:V},Pl d v->∃p,Py d v p
 |d,.none,_=>⟨.none,rfl,rfl,aaT _⟩
 |d,.int i,_=>⟨.int i,rfl,rfl,aaT _⟩
 |0,.tup l,h=>by unfold Pl at h;exact h.elim
 |0,.lst l,h=>by unfold Pl at h;exact h.elim
 |d+1,.tup l,h=>by
  unfold Pl at h
  obtain⟨ps,h1,h2,h3⟩:=KL λx hx=>(h x hx).py
  exact⟨.tuple ps,by rw[jL,h1];rfl,by rw[PyData.canLay0];exact h2,by rw[PyData.depth];exact ad 5824229334724824480 [_,_] [] h3⟩
 |d+1,.lst l,h=>by
  unfold Pl at h
  obtain⟨ps,h1,h2,h3⟩:=KL λx hx=>(h x hx).py
  exact⟨.list ps,by rw[jL,h1];rfl,by rw[PyData.canLay0];exact h2,by rw[PyData.depth];exact ad 5824229334724824480 [_,_] [] h3⟩
 |0,.bool _,h=>by unfold Pl at h;exact h.elim
 |0,.obj _ _,h=>by unfold Pl at h;exact h.elim
 |0,.ref _,h=>by unfold Pl at h;exact h.elim
 |0,.top _,h=>by unfold Pl at h;exact h.elim
 |0,.arg _,h=>by unfold Pl at h;exact h.elim
 |d+1,.bool _,h=>by unfold Pl at h;exact h.elim
 |d+1,.obj _ _,h=>by unfold Pl at h;exact h.elim
 |d+1,.ref _,h=>by unfold Pl at h;exact h.elim
 |d+1,.top _,h=>by unfold Pl at h;exact h.elim
 |d+1,.arg _,h=>by unfold Pl at h;exact h.elim
theorem qM{d:Nat}{v:V}(h:Pl d v)(hd:d<=64):tY v v=some true:=by
 obtain⟨p,h1,h2,h3⟩:=h.py
 have hs:aaF p=true:=abi.mpr ⟨h2,decide_eq_true (av 292813380026471070 [_,_] [] hd h3)⟩
 unfold tY
 rw[h1]
 show(if _ then _ else _)=_
 rw[if_pos ⟨hs,hs⟩,SeqAt.eqv_refl p h2]
theorem Bi{d:Nat}{l:List V}(h:Pl d (.tup l))(hd:d<=64):b9 [] .NotEq (.tup l) (.tup l)=some false:=by
 have e:b9 [] .NotEq (.tup l) (.tup l)=(tY (.tup l) (.tup l)).map (!·):=by kernel_rfl
 rw[e,qM h hd];rfl
theorem FL{d:Nat}{l:List V}(h:Pl d (.tup l))(hd:d<=64):b9 [] .Eq (.tup l) (.tup l)=some true:=by
 have e:b9 [] .Eq (.tup l) (.tup l)=tY (.tup l) (.tup l):=by kernel_rfl
 rw[e,qM h hd]
theorem C8(l:List Nat):Pl 1 (.lst (l.map aV)):=by
 unfold Pl
 intro x hx
 obtain⟨k,_,rfl⟩:=aak.mp hx
 unfold Pl;trivial
theorem C9(l:List Nat):b9 [] .NotEq (.lst (l.map aV)) (.lst (l.map aV))=some false:=by
 cases l with
 |nil=>rfl
 |cons a l=>
  have e:b9 [] .NotEq (.lst ((a::l).map aV)) (.lst ((a::l).map aV))=(tY (.lst ((a::l).map aV)) (.lst ((a::l).map aV))).map (!·):=by kernel_rfl
  rw[e,qM (C8 (a::l)) (by decide)];rfl
theorem kB{kept:List Nat}{c:Nat}{b:Bool}(h:decide (c∉kept)=b):b9 [] .NotIn (.int c) (.lst (kept.map aV))=some b:=by
 have e:b9 [] .NotIn (.int c) (.lst (kept.map aV))=((cA (kept.map aV)).map λns=>ns.contains (c:Int)).map (!·):=by kernel_rfl
 rw[e,qx,<-h]
 show some _=some _
 congr 1
 show(!(kept.map λk:Nat=>(k:Int)).contains (c:Int))=_
 have hk:(kept.map λk:Nat=>(k:Int)).contains (c:Int)=decide (c∈kept):=by
  rw[Bool.eq_iff_iff,abd,decide_eq_true_iff,aak]
  constructor
  ·intro⟨k,hk,e⟩
   have:k=c:=ad 144563961562565 [_,_] [] e
   rw[<-this];exact hk
  ·intro h;exact⟨c,h,rfl⟩
 rw[hk]
 by_cases hc:c∈kept
 ·rw[decide_eq_true hc,decide_eq_false (λh=>h hc)];rfl
 ·rw[decide_eq_false hc,decide_eq_true hc];rfl
theorem FN{T:ba}{F:bM}{hint:Nat->Nat->Bool}{nm names:ae}{loc loc':au}{n:Nat}{t it' t' elt:Expr}{v:V}{mu mu':Mu}{vs items:List V}(obs:List (Ob T F))(hb:cv names t v (f8 names loc)=some loc')(hi:dI T F hint (bE nm names) loc' n it' mu (obs.map Ob.an)=some ((items,mu),[],mR obs))(hl:items.length<=1000)(ht:(iB t').all (λx=>(loc'.lookup x).isNone)=true)
  (hc:aW (λv mu=>(cv names t' v loc').bind λloc''=>(fu T F hint (bE nm names) loc'' n elt mu).map λ(x,mu)=>([x],mu)) items mu=some (vs,mu')):Cl T F hint nm loc n t it' t' elt names v mu=some (vs,mu'):=by
 unfold Cl
 rw[hb]
 show(yx T F hint (bE nm names) loc' n it' mu).bind _=_
 rw[(vI n).i _ _ _ _ _ _ _ _ hi (eB obs)]
 show(if _ then _ else _)=_
 rw[if_pos ⟨hl,ht⟩]
 exact hc
theorem Mk{T:ba}{F:bM}{hint:Nat->Nat->Bool}{nm names:ae}{loc':au}{n:Nat}{t' elt:Expr}{v x:V}{mu:Mu}(obs:List (Ob T F))(h:((D.up (cv names t' v loc')).bind λl=>(dE T F hint (bE nm names) l n elt mu).bind λx=>D.pure ([x.1],x.2)) (obs.map Ob.an)=some (([x],mu),[],mR obs)):
  ((cv names t' v loc').bind λloc''=>(fu T F hint (bE nm names) loc'' n elt mu).map λ(x,mu)=>([x],mu))=some ([x],mu):=by
 have S:=vI (T:=T) (F:=F) (hint:=hint)
 exact Sd.bind (Sd.up _) (λl=>Sd.map ((S n).e _ _ _ _)) _ _ _ _ h (eB obs)
end
section
variable{r:Nat}{mu:Mu}
structure Wd where
 sc:List Int
 v:Bool
 n:Nat
 g:Int
 sk:List Gl
 rs:List (List PC)
 b:V
 mode:Int
 amount:Int
 o:List Nat
noncomputable abbrev Wd.goal(w:Wd):V:= .tup [.int w.mode,.int w.amount]
noncomputable abbrev Wd.l8(w:Wd):au:=Mine.l8 w.sc w.v w.n w.g w.sk w.rs w.b w.mode w.amount w.o
noncomputable def bm(rs:List (List PC)):List Nat:=rs.flatMap λrow=>row.map PC.l
noncomputable def dP(n:Nat)(ends:List Nat):List Nat:=(aaa n).filter λk=>decide (k∉ends)
noncomputable abbrev Wd.l9(w:Wd)(es:List Nat):au:=w.l8++[(aaQ "ends",.lst (es.map aV))]
noncomputable abbrev Wd.l10(w:Wd)(es out:List Nat):au:=w.l9 es++[(aaQ "out",.lst (out.map aV))]
noncomputable abbrev Wd.l11(w:Wd)(es out:List Nat)(sz:List (Option Int))(td:List V)(rp:V):au:=w.l10 es out++[(aaQ "sizes",.lst (sz.map oi)),(aaQ "told",.tup td),(aaQ "report",rp)]
noncomputable abbrev Wd.l13(w:Wd)(es out:List Nat)(sz:List (Option Int))(td:List V)(rp:V)(hol:List PC)(em:List V):au:=w.l11 es out sz td rp++[(aaQ "hollow",a7 hol),(aaQ "empty",.tup em)]
noncomputable abbrev eC:Expr:=Fp (ag 9 (aD a8))
noncomputable def G9:Expr->Expr×Expr
 | .ListComp _ [_,⟨t,it,_,_⟩] _ _=>(it,t)
 |e=>(e,e)
theorem KM{w:Wd}(h1:w.rs.length<=900)(h2:∀row∈w.rs,row.length<=900):mD (r+9) 51 (lw 9 1) w.l8 mu=some (.next,w.l9 (bm w.rs),mu):=by
 have hc:aW (Cl TT (RF (r+9)) HT (bn a8) w.l8 47 (cT eC) (G9 eC).1 (G9 eC).2 (cE eC) (cN eC)) (w.rs.map a7) mu=some ((bm w.rs).map aV,mu):=by
  unfold bm
  rw[List.map_flatMap]
  refine eN λrow hr=> ?_
  refine FN (items:=row.map PC.v) (loc':=[(aaQ "row",a7 row)]) [] (by kernel_rfl) (by kernel_rfl) (by rw[aaq];have:=h2 row hr;exact ad 112324457880 [_] [] this) (by kernel_rfl) ?_
  rw[aba]
  exact bg (g:=aV∘PC.l) λp q0=>Mk [] (by kernel_rfl)
 exact bK [oG (c:=(w.rs.map a7).length<=1000) (by rw[aaq];exact ad 112324457880 [_] [] h1),oL hc] (by kernel_rfl)
theorem Ha{w:Wd}{es:List Nat}(h4:w.n<=4):mD (r+9) 50 (lw 10 1) (w.l9 es) mu=some (.next,w.l10 es (dP w.n es),mu):=by
 have hc:aW (dG TT (RF (r+9)) HT (bn a8) (w.l9 es) 46 (cT (aN 0 (ag 10 (aD a8)))) (cI (aN 0 (ag 10 (aD a8)))) (cE (aN 0 (ag 10 (aD a8)))) (cN (aN 0 (ag 10 (aD a8))))) ((aaa w.n).map aV) mu=some ((dP w.n es).map aV,mu):=by
  unfold dP
  rw[<-eS]
  refine eN λc q0=> ?_
  by_cases h:c∈es
  ·rw[decide_eq_false (λh'=>h' h),if_neg (by decide)]
   exact gj (n:=45) [oB (kB (decide_eq_false (λh'=>h' h)))] (by kernel_rfl)
  ·rw[decide_eq_true h,if_pos rfl]
   exact gj (n:=45) [oB (kB (decide_eq_true h))] (by kernel_rfl)
 rw[<-bY] at hc
 have g2:(aM 0 (w.n:Int)).length<=1000:=by rw[bY];simp;exact ad 112324465980 [_] [] h4
 exact bK [oG (c:= -1000<=(w.n:Int)/\(w.n:Int)<=1000) (ad 6219866656953679578049980 [_] [] h4),oG g2,oL hc] (by kernel_rfl)
noncomputable abbrev Da(r:Nat)(rows sk:List V)(w:Wd)(res:V):Prop:=∀m,RF (r+9) (.ref cf) [.lst rows,.lst sk,w.goal,.bool w.v] m=some (res,m)
theorem Hb{w:Wd}{es out:List Nat}{sz:List (Option Int)}{td:List V}{rp:V}(hr:w.rs.length<=900)(hT:Da r (w.rs.map a7++[w.b]) (w.sk.map Gl.v) w (.tup [.lst (sz.map oi),.tup td,rp])):mD (r+9) 49 (lw 11 1) (w.l10 es out) mu=some (.next,w.l11 es out sz td rp,mu):=
 bK [oW (jq (a:=w.rs.map a7) (b:=[w.b]) (by rw[aaq];simp;exact ad 200897957880 [_] [] hr)),oP hT] (by kernel_rfl)
noncomputable abbrev F8:Expr:=match ag 12 (aD a8) with
 | .If (.BoolOp _ [_,_,c] _) _ _ _=>vN 0 (fq 9 c)
 |_=> .Constant .none 0 ⟨0,0,0,0⟩
theorem Db{T:ba}{l:List V}(h:l.length<=1000)(m:Mu):aL T m (.builtin "len") [.tup l]=some (.int l.length):=by
 show(if l.length<=1000 then some (l.length:Int) else none).map V.int=_
 rw[if_pos h];rfl
theorem Hc{w:Wd}{es:List Nat}{sz:List (Option Int)}{td:List V}{rp:V}(h4:w.n<=4)(hr:w.rs.length<=900)(h1:sz.length=w.n)(h2:td.length=w.rs.length+1)(h3:∀c,c<w.n->(sz.getD c none=none↔c∉es)):mD (r+9) 48 (lw 12 1) (w.l11 es (dP w.n es) sz td rp) mu=some (.next,w.l11 es (dP w.n es) sz td rp,mu):=by
 have hc:aW (dG TT (RF (r+9)) HT (bn a8) (w.l11 es (dP w.n es) sz td rp) 39 (cT F8) (cI F8) (cE F8) (cN F8)) ((aaa w.n).map aV) mu=some ((dP w.n es).map aV,mu):=by
  have:dP w.n es=(aaa w.n).filter λk=>decide (sz.getD k none=none):=List.filter_congr λc hc=>by
   rw[Bool.eq_iff_iff,decide_eq_true_iff,decide_eq_true_iff,h3 c (aar.mp hc)]
  rw[this,<-eS]
  refine eN λc hc=> ?_
  have hi:=jp (sz:=sz) (c:=c) (by have:=aar.mp hc;exact av 13010230872581672 [_,_,_] [] h1 this) (av 73275102927524070 [_,_] [] h4 h1)
  cases e:sz.getD c none with
  |none=>
   rw[e] at hi
   rw[decide_eq_true rfl,if_pos rfl]
   exact gj (n:=38) [oW hi,oA] (by kernel_rfl)
  |some x=>
   rw[e] at hi
   rw[decide_eq_false (λh=>by cases h),if_neg (by decide)]
   exact gj (n:=38) [oW hi,oA] (by kernel_rfl)
 rw[<-bY] at hc
 have g2:(aM 0 (w.n:Int)).length<=1000:=by rw[bY];simp;exact ad 112324465980 [_] [] h4
 have e1:∀m:Mu,aL TT m (.builtin "len") [.lst (sz.map oi)]=some (.int (w.n:Nat)):=λm=>by rw[fX (by rw[aaq];exact av 81884447127524070 [_,_] [] h4 h1) m,aaq,h1]
 have e2:∀m:Mu,aL TT m (.builtin "len") [.tup td]=some (.int (w.rs.length+1:Nat)):=λm=>by rw[Db (av 663264596207805815970 [_,_] [] hr h2) m,h2]
 have e3:∀m:Mu,aL TT m (.builtin "len") [.lst (w.rs.map a7)]=some (.int (w.rs.length:Nat)):=λm=>by rw[fX (by rw[aaq];exact ad 112324457880 [_] [] hr) m,aaq]
 have e4:=C9 (dP w.n es)
 generalize dP w.n es=O at*
 exact bK [oQ e1,oB (uG (a:=(w.n:Int)) (b:=(w.n:Int)) rfl),oQ e2,oQ e3,oB (uG (a:=((w.rs.length+1:Nat):Int)) (b:=(w.rs.length:Int)+1) (dk 77581883929608365 [_] [])),oG (c:= -1000<=(w.n:Int)/\(w.n:Int)<=1000) (ad 6219866656953679578049980 [_] [] h4),oG g2,oL hc,oB e4] (by kernel_rfl)
theorem Hd{w:Wd}{es out:List Nat}{sz:List (Option Int)}{td:List V}{rp:V}(h:sz.length<=400):mD (r+9) 47 (lw 13 1) (w.l11 es out sz td rp) mu=some (.next,w.l13 es out sz td rp (bR sz) [],mu):=by
 have hb:=λm=>GP (r:=r+8) (mu:=m) h
 generalize bR sz=B at*
 exact bK [oP hb] (by kernel_rfl)
end
section
variable{r:Nat}{mu:Mu}
theorem Dc{items:List V}{k:Nat}(h:items.length=k+1)(hl:items.length<=900):bP [] (.tup items) (-1)=some (items.getD k .none):=by
 have e:bP [] (.tup items) (-1)=if items.length<=1000 then(if(0:Int)<=-1 then eW items (-1) else if -(items.length:Int)<=-1 then items[(-1+(items.length:Int)).toNat]? else none) else none:=by kernel_rfl
 rw[e,if_pos (by exact ad 112324457880 [_] [] hl),if_neg (by exact dk 1183304978 [] []),if_pos (by exact ad 628792255922984037182 [_,_] [] h),show(-1+(items.length:Int)).toNat=k by exact av 756575840476179228392443494674643011123614769052367759738375736637362 [_,_,_] [] h (tn _)]
 exact bk (by exact ad 144558842508272 [_,_] [] h)
theorem wg{α:Type}{l:List α}{j:Nat}(d:α)(h:j<l.length):cO j (l.drop j)=(j,l.getD j d)::cO (j+1) (l.drop (j+1)):=by
 rw[List.drop_eq_getElem_cons h,cO,aaY,aaD h];rfl
structure FP(r:Nat)(w:Wd)(sz:List (Option Int))(td:List V)(rp:V)(hol:List PC)(h0:V):Prop where
 rl:2<=w.rs.length
 rl4:w.rs.length<=4
 tdl:td.length=w.rs.length+1
 alone:∀k,k<w.rs.length->Da r [a7 hol,a7 (w.rs.getD k []),w.b] (w.sk.map Gl.v) w (.tup [.lst (sz.map oi),.tup [h0,td.getD k .none,td.getD w.rs.length .none],rp])
 pa:∀k,k<w.rs.length->Pl 40 (.tup [.lst (sz.map oi),.tup [h0,td.getD k .none,td.getD w.rs.length .none],rp])
noncomputable abbrev Kb:Stmt:=ag 14 (aD a8)
theorem wh{w:Wd}{es out:List Nat}{sz:List (Option Int)}{td:List V}{rp:V}{hol:List PC}{h0:V}(A:FP r w sz td rp hol h0){k:Nat}(hk:k<w.rs.length){em:List V}(he:em=if k=0 then[] else[h0]):
  ∃loc1,cu TT (RF (r+9)) HT (bn a8) 44 (cG Kb) (a6 Kb) (GO a7 (k,w.rs.getD k [])) (w.l13 es out sz td rp hol em) mu=some (.next,loc1,mu)/\dx (w.l13 es out sz td rp hol em) loc1=w.l13 es out sz td rp hol [h0]:=by
 have hT:=A.alone k hk
 have hP:=Bi (A.pa k hk) (by decide)
 have i1:=jt (items:=td) (k:=k) (i:=(k:Int)) rfl (by have:=A.tdl;exact av 105383397251412320581 [_,_,_] [] hk this) (by have:=A.tdl;have:=A.rl4;lia)
 have i2:=Dc (items:=td) (k:=w.rs.length) A.tdl (by have:=A.tdl;have:=A.rl4;lia)
 refine⟨w.l13 es out sz td rp hol [h0]++[(aaQ "k",.int k),(aaQ "row",a7 (w.rs.getD k [])),(aaQ "alone",.tup [.lst (sz.map oi),.tup [h0,td.getD k .none,td.getD w.rs.length .none],rp])],?_,by kernel_rfl⟩
 generalize w.rs.getD k []=row at*
 generalize td.getD k .none=x at*
 generalize td.getD w.rs.length .none=y at*
 by_cases h:k=0
 ·subst h
  rw[if_pos rfl] at he
  subst he
  exact bx [oP hT,oB (dl (a:=((0:Nat):Int)) (b:=0) rfl),oA,oA,oA,oW i1,oW i2,oA,oB hP] (by kernel_rfl)
 ·rw[if_neg h] at he
  subst he
  exact bx [oP hT,oB (cC (a:=(k:Int)) (b:=0) (ad 73277240903602388 [_] [] h)),oW i1,oW i2,oA,oB hP] (by kernel_rfl)
theorem He{w:Wd}{es out:List Nat}{sz:List (Option Int)}{td:List V}{rp:V}{hol:List PC}{h0:V}(A:FP r w sz td rp hol h0):mD (r+9) 46 (lw 14 1) (w.l13 es out sz td rp hol []) mu=some (.next,w.l13 es out sz td rp hol [h0],mu):=by
 have hrl:=A.rl
 have hrl4:=A.rl4
 have:=qz (α:=Nat×List PC) (σ:=List V) (f:=cu TT (RF (r+9)) HT (bn a8) 44 (cG Kb) (a6 Kb)) (GO a7) (λem=>w.l13 es out sz td rp hol em) (λq0=>mu) (λem l=>∃j,l=cO j (w.rs.drop j)/\em=if j=0 then[] else[h0])
  (λem p l i=>by
   obtain⟨j,hl,he⟩:=i
   have hj:j<w.rs.length:=by
    refine Decidable.byContradiction λhn=> ?_
    rw[List.drop_eq_nil_of_le (by exact ad 1606134282398 [_,_] [] hn),cO] at hl
    cases hl
   rw[wg [] hj] at hl
   cases hl
   obtain⟨loc1,t1,t2⟩:=wh (mu:=mu) (es:=es) (out:=out) A hj he
   exact⟨[h0],loc1,t1,t2,j+1,rfl,by rw[if_neg (by exact dk 83654208188 [_] [])]⟩) (cO 0 w.rs) [] ⟨0,rfl,rfl⟩
 obtain⟨em,h1,j,h2,h3⟩:=this
 have hj:j≠0:=by
  rintro rfl
  have:=congrArg List.length h2
  rw[eQ] at this
  simp at this
  exact av 4795698815640 [_] [] hrl this
 rw[if_neg hj] at h3
 subst h3
 rw[<-gH] at h1
 have g:(fD 0 (w.rs.map a7)).length<=1000:=by rw[gH,aaq,eQ];exact ad 112324465980 [_] [] hrl4
 exact bK [oG g,oS h1] (by kernel_rfl)
noncomputable abbrev vc(w:Wd)(hol:List PC):List V:=w.rs.map a7++[w.b,a7 hol]
noncomputable abbrev Hf:Expr:=match ag 16 (aD a8) with
 | .If (.Compare _ _ [c] _) _ _ _=>vN 0 (fq 9 c)
 |_=> .Constant .none 0 ⟨0,0,0,0⟩
noncomputable abbrev Wd.l16(w:Wd)(es out:List Nat)(sz:List (Option Int))(td:List V)(rp:V)(hol:List PC)(em:List V)(mx:V):au:=w.l13 es out sz td rp hol em++[(aaQ "mixed",mx)]
theorem Hg{w:Wd}{es out:List Nat}{sz:List (Option Int)}{td:List V}{rp:V}{hol:List PC}{em:List V}{mx:V}(hr:w.rs.length<=4)(ho:∀k∈w.o,k<w.rs.length+2)(hol':w.o.length<=900)(hT:Da r (w.o.map λk=>(vc w hol).getD k .none) (w.sk.map Gl.v) w mx):mD (r+9) 45 (lw 15 1) (w.l13 es out sz td rp hol em) mu=some (.next,w.l16 es out sz td rp hol em mx,mu):=by
 have hc:aW (dG TT (RF (r+9)) HT (bn a8) (w.l13 es out sz td rp hol em) 39 (cT (aN 0 (ag 15 (aD a8)))) [] (cE (aN 0 (ag 15 (aD a8)))) (cN (aN 0 (ag 15 (aD a8))))) (w.o.map aV) mu=some (w.o.map λk=>(vc w hol).getD k .none,mu):=by
  refine bg λk hk=> ?_
  have hk2:=ho k hk
  have hi:bP [] (.lst (vc w hol)) (k:Int)=some ((vc w hol).getD k .none):=iu (bk (by simp;exact ad 6211642910138847181 [_,_] [] hk2)) (av 663264644037495095070 [_,_] [] hr hk2)
  generalize (vc w hol).getD k .none=x at*
  exact cM (n:=38) [oW (jq (a:=w.rs.map a7) (b:=[w.b,a7 hol]) (by rw[aaq];simp;exact ad 431189065980 [_] [] hr)),oW hi] (by kernel_rfl)
 exact bK [oG (c:=(w.o.map aV).length<=1000) (by rw[aaq];exact ad 112324457880 [_] [] hol'),oL hc,oP hT] (by kernel_rfl)
theorem xu{a b:List V}(h1:0<a.length)(h2:0<b.length)(h:a.length+b.length<=1000):oO .Add (.tup a) (.tup b)=some (.tup (a++b)):=if_pos ⟨rfl,h1,h2,h⟩
theorem Hh{w:Wd}{es out:List Nat}{sz:List (Option Int)}{td:List V}{rp:V}{hol:List PC}{h0:V}{mx:V}(hr:w.rs.length<=4)(htd:td.length=w.rs.length+1)(ho:∀k∈w.o,k<w.rs.length+2)(hol':w.o.length<=900)
  (hm:mx= .tup [.lst (sz.map oi),.tup (w.o.map λk=>(td++[h0]).getD k .none),rp]) (hp:Pl 40 mx):mD (r+9) 44 (lw 16 1) (w.l16 es out sz td rp hol [h0] mx) mu=some (.next,w.l16 es out sz td rp hol [h0] mx,mu):=by
 have hc:aW (dG TT (RF (r+9)) HT (bn a8) (w.l16 es out sz td rp hol [h0] mx) 34 (cT Hf) [] (cE Hf) (cN Hf)) (w.o.map aV) mu=some (w.o.map λk=>(td++[h0]).getD k .none,mu):=by
  refine bg λk hk=> ?_
  have hk2:=ho k hk
  have hi:=jt (items:=td++[h0]) (k:=k) (i:=(k:Int)) rfl (by simp;exact av 34391450974587083392173966272 [_,_,_] [] htd hk2) (by simp;exact av 2580996016757805824070 [_,_] [] hr htd)
  generalize (td++[h0]).getD k .none=x at*
  exact cM (n:=33) [oW (xu (a:=td) (b:=[h0]) (ad 103106445237182 [_,_] [] htd) Nat.zero_lt_one (by simp;exact av 1186282256357805824070 [_,_] [] hr htd)),oW hi] (by kernel_rfl)
 subst hm
 have hP:=Bi hp (by decide)
 have ht:=λm=>j8 (T:=TT) (l:=w.o.map λk=>(td++[h0]).getD k .none) (by rw[aaq];exact ad 112324457880 [_] [] hol') m
 generalize (w.o.map λk=>(td++[h0]).getD k .none)=X at*
 exact bK [oG (c:=(w.o.map aV).length<=1000) (by rw[aaq];exact ad 112324457880 [_] [] hol'),oL hc,oQ ht,oB hP] (by kernel_rfl)
theorem Hi{w:Wd}{es out:List Nat}{sz:List (Option Int)}{td:List V}{rp:V}{hol:List PC}{em:List V}{mx:V}(ho:out.length<=900)(s:Int×Int):∃(s':Int×Int)(out':List Nat),mD (r+9) 43 (lw 17 1) (w.l16 es out sz td rp hol em mx) (gF s)=some (.next,w.l16 es out' sz td rp hol em mx,gF s')/\(∀k∈out',k∈out)/\(out'=[]->out=[]):=by
 have e1:∀m:Mu,aL TT m (.builtin "len") [.lst (out.map aV)]=some (.int (out.length:Nat)):=λm=>by rw[fX (by rw[aaq];exact ad 112324457880 [_] [] ho) m,aaq]
 by_cases h:(out.length:Int)>1
 ·obtain⟨d1,s1,t1,a1,b1⟩:=ah (r:=r+8) (n:=2) (by decide) s
  by_cases hz:d1=0
  ·obtain⟨d2,s2,t2,a2,b2⟩:=ah (r:=r+8) (n:=(out.length:Int)) (by exact ad 97885791232024 [_] [] h) s1
   have hg:out[d2.toNat]? =some (out.getD d2.toNat 0):=bk (by exact dX 1952774721013275483651291727984111590923613323161024 [_,_] [_] h b2 (tn _))
   have hi:=qy hg ho
   rw[show((d2.toNat:Nat):Int)=d2 by exact av 49462315800913995350899045039202037560505033 [_] [_] a2 (tn _)] at hi
   refine⟨s2,[out.getD d2.toNat 0],?_,λk hk=> ?_,λh=>by cases h⟩
   ·generalize out.getD d2.toNat 0=x at*
    exact bK [oQ e1,oB (jl h),oC t1,oB (dl hz),oQ e1,oC t2,oW hi] (by kernel_rfl)
   ·rw[aah] at hk
    subst hk
    exact abj hg
  ·exact⟨s1,out,bK [oQ e1,oB (jl h),oC t1,oB (cC hz)] (by kernel_rfl),λk hk=>hk,λh=>h⟩
 ·exact⟨s,out,bK [oQ e1,oB (fJ h)] (by kernel_rfl),λk hk=>hk,λh=>h⟩
theorem Dd{w:Wd}{es:List Nat}{sz:List (Option Int)}{td:List V}{rp:V}{hol:List PC}{em:List V}{mx:V}:mD (r+9) 42 (lw 18 1) (w.l16 es [] sz td rp hol em mx) mu=some (.ret (.bool true),w.l16 es [] sz td rp hol em mx,mu):=bK [oA] (by kernel_rfl)
theorem De{w:Wd}{es:List Nat}{k:Nat}{out:List Nat}{sz:List (Option Int)}{td:List V}{rp:V}{hol:List PC}{em:List V}{mx:V}:mD (r+9) 42 (lw 18 1) (w.l16 es (k::out) sz td rp hol em mx) mu=some (.next,w.l16 es (k::out) sz td rp hol em mx,mu):=bK [oA] (by kernel_rfl)
noncomputable abbrev Wd.l19(w:Wd)(es out:List Nat)(sz:List (Option Int))(td:List V)(rp:V)(hol:List PC)(em:List V)(mx:V)(kept:List Nat):au:=w.l16 es out sz td rp hol em mx++[(aaQ "kept",.lst (kept.map aV))]
noncomputable abbrev Wd.l20(w:Wd)(es out:List Nat)(sz:List (Option Int))(td:List V)(rp:V)(hol:List PC)(em:List V)(mx:V)(kept:List Nat)(due:List V):au:=w.l19 es out sz td rp hol em mx kept++[(aaQ "due",.tup due)]
noncomputable abbrev Wd.l21(w:Wd)(es out:List Nat)(sz:List (Option Int))(td:List V)(rp:V)(hol:List PC)(em:List V)(mx:V)(kept:List Nat)(due:List V)(fe:V):au:=w.l20 es out sz td rp hol em mx kept due++[(aaQ "fewer",fe)]
theorem Hj{w:Wd}{es out:List Nat}{sz:List (Option Int)}{td:List V}{rp:V}{hol:List PC}{em:List V}{mx:V}(h4:w.n<=4):mD (r+9) 41 (lw 19 1) (w.l16 es out sz td rp hol em mx) mu=some (.next,w.l19 es out sz td rp hol em mx (dP w.n out),mu):=by
 have hc:aW (dG TT (RF (r+9)) HT (bn a8) (w.l16 es out sz td rp hol em mx) 37 (cT (aN 0 (ag 19 (aD a8)))) (cI (aN 0 (ag 19 (aD a8)))) (cE (aN 0 (ag 19 (aD a8)))) (cN (aN 0 (ag 19 (aD a8))))) ((aaa w.n).map aV) mu=some ((dP w.n out).map aV,mu):=by
  unfold dP
  rw[<-eS]
  refine eN λc q0=> ?_
  by_cases h:c∈out
  ·rw[decide_eq_false (λh'=>h' h),if_neg (by decide)]
   exact gj (n:=36) [oB (kB (decide_eq_false (λh'=>h' h)))] (by kernel_rfl)
  ·rw[decide_eq_true h,if_pos rfl]
   exact gj (n:=36) [oB (kB (decide_eq_true h))] (by kernel_rfl)
 rw[<-bY] at hc
 have g2:(aM 0 (w.n:Int)).length<=1000:=by rw[bY];simp;exact ad 112324465980 [_] [] h4
 exact bK [oG (c:= -1000<=(w.n:Int)/\(w.n:Int)<=1000) (ad 6219866656953679578049980 [_] [] h4),oG g2,oL hc] (by kernel_rfl)
theorem Bj{l:List V}{k:Nat}(h:l.length=k+1)(h1:1<=k)(h2:l.length<=900):qW (.tup l) (some (-1)) none=some (.tup [l.getD k .none]):=by
 have e:qW (.tup l) (some (-1)) none=(if(l.isEmpty=true/\true=false/\(0:Int)<=-1) then some [] else if(l.length<=1000/\(-1:Int)<=(l.length:Nat)/\-(l.length:Int)<=-1/\(true=true->(1:Int)<=(if(0:Int)<=-1 then -1 else -1+(l.length:Int)))) then some (l.drop (if(0:Int)<=-1 then -1 else -1+(l.length:Int)).toNat) else none).map V.tup:=by kernel_rfl
 rw[e,if_neg (by simp),if_pos ⟨by exact ad 112324457880 [_] [] h2,by exact dk 134282073 [_] [],by exact ad 628792255922984037182 [_,_] [] h,λq0=>by rw[if_neg (by exact dk 1183304978 [] [])];exact av 4682126277086534979971337182 [_,_] [] h h1⟩,if_neg (by exact dk 1183304978 [] []),show(-1+(l.length:Int)).toNat=k by exact av 756575840476179228392443494674643011123614769052367759738375736637362 [_,_,_] [] h (tn _),List.drop_eq_getElem_cons (by exact ad 144558842508272 [_,_] [] h),List.drop_eq_nil_of_le (by exact ad 5824222415168337182 [_,_] [] h),aaY,aaD (by exact ad 144558842508272 [_,_] [] h)]
 rfl
theorem Hk{w:Wd}{es out:List Nat}{sz:List (Option Int)}{td:List V}{rp:V}{hol:List PC}{em:List V}{mx:V}{kept:List Nat}{d:Nat×List PC->V}(hr:1<=w.rs.length)(hr4:w.rs.length<=4)(htd:td.length=w.rs.length+1)
  (hS:∀p∈cO 0 w.rs,p.1<td.length/\∀m,RF (r+9) (.ref cY) [td.getD p.1 .none,a7 p.2,.lst (kept.map aV),.lst (sz.map oi),.bool w.v] m=some (d p,m)):
  mD (r+9) 40 (lw 20 1) (w.l19 es out sz td rp hol em mx kept) mu=some (.next,w.l20 es out sz td rp hol em mx kept ((cO 0 w.rs).map d++[td.getD w.rs.length .none]),mu):=by
 have hc:aW (dG TT (RF (r+9)) HT (bn a8) (w.l19 es out sz td rp hol em mx kept) 33 (cT (aN 0 (ag 20 (aD a8)))) [] (cE (aN 0 (ag 20 (aD a8)))) (cN (aN 0 (ag 20 (aD a8))))) ((cO 0 w.rs).map (GO a7)) mu=some ((cO 0 w.rs).map d,mu):=by
  refine bg λp hp=> ?_
  obtain⟨h1,h2⟩:=hS p hp
  obtain⟨k,row⟩:=p
  dsimp only at h1 h2
  have hi:=jt (items:=td) (k:=k) (i:=(k:Int)) rfl h1 (av 593528908187805824070 [_,_] [] hr4 htd)
  generalize td.getD k .none=x at*
  generalize d (k,row)=y at*
  exact cM (n:=32) [oW hi,oP h2] (by kernel_rfl)
 rw[<-gH] at hc
 have g:(fD 0 (w.rs.map a7)).length<=1000:=by rw[gH,aaq,eQ];exact ad 112324465980 [_] [] hr4
 have ht:=λm=>j8 (T:=TT) (l:=(cO 0 w.rs).map d) (by rw[aaq,eQ];exact ad 112324465980 [_] [] hr4) m
 have hcut:=Bj htd hr (av 593528908187805824070 [_,_] [] hr4 htd)
 have ha:=xu (a:=(cO 0 w.rs).map d) (b:=[td.getD w.rs.length .none]) (by rw[aaq,eQ];exact ad 12729086550 [_] [] hr) Nat.zero_lt_one (by rw[aaq,eQ];simp;exact ad 200897965980 [_] [] hr4)
 generalize (cO 0 w.rs).map d=X at*
 generalize td.getD w.rs.length .none=Y at*
 exact bK [oG g,oL hc,oQ ht,oA,oW hcut,oW ha] (by kernel_rfl)
theorem Hl{w:Wd}{es out:List Nat}{sz:List (Option Int)}{td:List V}{rp:V}{hol:List PC}{em:List V}{mx:V}{kept:List Nat}{due:List V}{fe:V}(hr4:w.rs.length<=4)(hk:kept.length<=4)(hkn:∀k∈kept,k<w.n)(hn:w.n<=4)(hsk:w.sk.length=w.n+1)(hrow:∀row∈w.rs,row.length<=60/\∀p∈row,p.l∈kept)
  (hT:Da r ((w.rs.map λrow=>row.map (bZ kept)).map a7++[w.b]) ((w.sk.getD 0 dj::kept.map λk=>w.sk.getD (k+1) dj).map Gl.v) w fe):
  mD (r+9) 39 (lw 21 1) (w.l20 es out sz td rp hol em mx kept due) mu=some (.next,w.l21 es out sz td rp hol em mx kept due fe,mu):=by
 have hf:=λm=>GT (r:=r+8) (mu:=m) (rows:=w.rs) (kept:=kept) (ad 100514665980 [_] [] hk) (ad 135944065980 [_] [] hr4) hrow
 have ha:=jq (a:=(w.rs.map λrow=>row.map (bZ kept)).map a7) (b:=[w.b]) (by rw[aaq,aaq];simp;exact ad 200897965980 [_] [] hr4)
 have hc:aW (dG TT (RF (r+9)) HT (bn a8) (w.l20 es out sz td rp hol em mx kept due) 31 (cT (aN 0 (ag 21 (aD a8)))) [] (cE (aN 0 (ag 21 (aD a8)))) (cN (aN 0 (ag 21 (aD a8))))) (kept.map aV) mu=some (kept.map λk=>(w.sk.getD (k+1) dj).v,mu):=by
  refine bg λk hk=> ?_
  have:=hkn k hk
  have hi:=oy (sk:=w.sk) (c:=k+1) (i:=(k:Int)+1) rfl (av 894429939041580633966272 [_,_,_] [] hsk this) (av 593528908187805824070 [_,_] [] hn hsk)
  exact cM (n:=30) [oW hi] (by kernel_rfl)
 have hcut:qW (.lst (w.sk.map Gl.v)) none (some 1)=some (.lst [(w.sk.getD 0 dj).v]):=by
  have e:qW (.lst (w.sk.map Gl.v)) none (some 1)=(if((w.sk.map Gl.v).length<=1000/\(0:Int)<=1/\(1:Int)<=((w.sk.map Gl.v).length:Nat)/\(false=true->(1:Int)<((w.sk.map Gl.v).length:Nat))) then some ((w.sk.map Gl.v).take 1) else none).map V.lst:=by kernel_rfl
  rw[e,if_pos (by rw[aaq];exact⟨av 663264596207805824070 [_,_] [] hn hsk,dk 147333 [] [],ad 8810247599037182 [_,_] [] hsk,λh=>absurd h (by decide)⟩)]
  cases hs:w.sk with
  |nil=>rw[hs] at hsk;cases hsk
  |cons a l=>rfl
 have hadd:=jq (a:=[(w.sk.getD 0 dj).v]) (b:=kept.map λk=>(w.sk.getD (k+1) dj).v) (by rw[aaq];simp;exact ad 909915565645980 [_] [] hk)
 have hT':Da r ((w.rs.map λrow=>row.map (bZ kept)).map a7++[w.b]) ([(w.sk.getD 0 dj).v]++kept.map λk=>(w.sk.getD (k+1) dj).v) w fe:=by
  have e:(kept.map λk=>w.sk.getD (k+1) dj).map Gl.v=kept.map λk=>(w.sk.getD (k+1) dj).v:=by rw[aba];rfl
  rw[aaX,e] at hT
  exact hT
 generalize (w.rs.map λrow=>row.map (bZ kept)).map a7=R at*
 generalize (kept.map λk=>(w.sk.getD (k+1) dj).v)=K at*
 generalize (w.sk.getD 0 dj).v=k0 at*
 exact bK [oP hf,oW ha,oA,oW hcut,oG (c:=(kept.map aV).length<=1000) (by rw[aaq];exact ad 112324465980 [_] [] hk),oL hc,oW hadd,oP hT'] (by kernel_rfl)
theorem Hm{w:Wd}{es out:List Nat}{sz:List (Option Int)}{td:List V}{rp:V}{hol:List PC}{em:List V}{mx:V}{kept:List Nat}{due:List V}(hk:kept.length<=4)(hkn:∀k∈kept,k<sz.length)(hsz:sz.length<=4)(hp:Pl 40 (.tup [.lst ((kept.map λk=>sz.getD k none).map oi),.tup due,rp])):
  mD (r+9) 38 (lw 22 1) (w.l21 es out sz td rp hol em mx kept due (.tup [.lst ((kept.map λk=>sz.getD k none).map oi),.tup due,rp])) mu=some (.ret (.bool true),w.l21 es out sz td rp hol em mx kept due (.tup [.lst ((kept.map λk=>sz.getD k none).map oi),.tup due,rp]),mu):=by
 have hc:aW (dG TT (RF (r+9)) HT (bn a8) (w.l21 es out sz td rp hol em mx kept due (.tup [.lst ((kept.map λk=>sz.getD k none).map oi),.tup due,rp])) 31 (cT (aN 0 (ag 22 (aD a8)))) [] (cE (aN 0 (ag 22 (aD a8)))) (cN (aN 0 (ag 22 (aD a8))))) (kept.map aV) mu=some ((kept.map λk=>sz.getD k none).map oi,mu):=by
  rw[aba]
  refine bg (g:=oi∘λk=>sz.getD k none) λk hk=> ?_
  have hi:=jp (sz:=sz) (c:=k) (hkn k hk) (ad 100514665980 [_] [] hsz)
  exact cM (n:=30) [oW hi] (by kernel_rfl)
 have hP:=FL hp (by decide)
 generalize (kept.map λk=>sz.getD k none).map oi=Z at*
 exact bK [oG (c:=(kept.map aV).length<=1000) (by rw[aaq];exact ad 112324465980 [_] [] hk),oL hc,oB hP] (by kernel_rfl)
end
section
variable{r:Nat}{mu:Mu}
theorem Pl.le{d e:Nat}{v:V}(h:Pl d v)(hd:d<=e):Pl e v:=by
 induction hd with
 |refl=>exact h
 |step _ ih=>exact ih.up
theorem gn(d:Nat)(i:Int):Pl d (.int i):=by cases d<;>(unfold Pl;trivial)
theorem Df(d:Nat):Pl d .none:=by cases d<;>(unfold Pl;trivial)
theorem lp{d:Nat}{l:List V}(h:∀x∈l,Pl d x):Pl (d+1) (.tup l):=by unfold Pl;exact h
theorem FQ{d:Nat}{l:List V}(h:∀x∈l,Pl d x):Pl (d+1) (.lst l):=by unfold Pl;exact h
theorem lq{d:Nat}{P:V->Prop}:∀x∈([]:List V),P x:=λx h=>absurd h abh
theorem bc{P:V->Prop}{a:V}{l:List V}(h:P a)(hl:∀x∈l,P x):∀x∈a::l,P x:=λx hx=>by
 rcases aai.mp hx with rfl|hx
 ·exact h
 ·exact hl x hx
theorem jw(d:Nat)(l:List Int):Pl (d+1) (.tup (l.map V.int)):=lp λx hx=>by obtain⟨i,_,rfl⟩:=aak.mp hx;exact gn d i
theorem Bk(d:Nat)(o:Option Int):Pl (d+1) (od o):=by
 cases o with
 |none=>exact jw d []
 |some x=>exact jw d [x]
theorem Hn(d:Nat)(o:Option Int):Pl d (oi o):=by
 cases o with
 |none=>exact Df d
 |some x=>exact gn d x
theorem wi{d:Nat}(b:Bx){jH:List V}(h:∀x∈jH,Pl d x):Pl (d+2) (qu (.box b []) jH):=
 lp (bc (gn _ _) (bc (gn _ _) (bc (gn _ _) (bc (gn _ _) (bc (gn _ _) (bc (gn _ _) (bc (gn _ _) (bc (jw d [b.up,b.down]) (bc (lp h) (lq (d:=0)))))))))))
theorem tQ:∀x:Nd,Pl 2 (jI x)
 | .kern w=>jw 1 [5,w,1]
 | .skip g s=>lp (bc (gn _ _) (bc (jw 0 [g.w,g.s,g.so,g.k,g.ko]) (bc (gn _ _) (bc (jw 0 []) (lq (d:=0))))))
 | .rule a b c=>lp (bc (gn _ _) (bc (Bk 0 a) (bc (Bk 0 b) (bc (Bk 0 c) (lq (d:=0))))))
 | .box b l=>wi b (lq (d:=0))
theorem FS(sz:List (Option Int))(sk:List Gl)(v:Bool)(b:Bx)(ed:List Int)(x:LR):Pl 6 (oc sz sk v b ed x):=by
 have hd:∀x,Pl 4 (jI x):=λx=>(tQ x).le (by decide)
 have hcol:∀(l:List Nat),∀y∈l.flatMap (kf sz sk v),Pl 4 y:=λl y hy=>by
  obtain⟨c,_,h⟩:=aam.mp hy
  exact(bc (hd _) (bc (hd _) (lq (d:=0)))) y h
 cases x with
 |cells l=>
  refine wi _ (bc (hd _) λy hy=> ?_)
  obtain⟨p,_,h⟩:=aam.mp hy
  refine(bc (wi _ λz hz=> ?_) (bc (hd _) (hcol _))) y h
  obtain⟨u,_,rfl⟩:=aak.mp hz
  exact tQ u
 |rule a b c=>exact(tQ _).le (by decide)
 |kern w=>exact(tQ _).le (by decide)
theorem wj{sz:List (Option Int)}{X:List V}{a b:Int}(h:∀x∈X,Pl 6 x):Pl 40 (.tup [.lst (sz.map oi),.tup X,.tup [.int a,.int b]]):=
 (lp (d:=7) (bc (FQ (d:=6) λx hx=>by obtain⟨o,_,rfl⟩:=aak.mp hx;exact Hn _ o) (bc (lp (d:=6) h) (bc (jw 6 [a,b]) (lq (d:=0)))))).le (by decide)
theorem sM(a b:List LR):dq (a++b)=dq a++dq b:=abC
theorem qO:∀rs:List (List PC),dq (rs.map LR.cells)=rs.flatten:=by
 intro L0
 induction L0 with
 |nil=>
  exact rfl
 |cons row rs ih=>
  rw[aaX,dq,abg,List.flatten_cons];exact congrArg _ (ih)
theorem sN{b:LR}(h:∀l,b≠.cells l):FG b=[]:=by cases b with
 |cells l=>exact absurd rfl (h l)
 |_=>rfl
theorem ng{rows:List LR}{p:PC}:p∈dq rows↔∃l,LR.cells l∈rows/\p∈l:=by
 unfold dq
 rw[aam]
 constructor
 ·rintro⟨x,h1,h2⟩
  cases x with
  |cells l=>exact⟨l,h1,h2⟩
  |rule=>exact absurd h2 abh
  |kern=>exact absurd h2 abh
 ·rintro⟨l,h1,h2⟩
  exact⟨_,h1,h2⟩
theorem tR{n:Nat}{g:Int}{row:List PC}(h:uW n g row):g8 n (.cells row):=by
 obtain⟨_,c,I⟩:=h
 exact⟨c.toNat,I.ch,by have:=I.c0;have:=I.cn;exact av 29762154466852592762405553528183380443889853 [_,_] [_] this (tn _),λp hp=>⟨(I.ok p hp).a2,λx hx=>((I.ok p hp).bd x hx).c⟩⟩
theorem nh{n:Nat}{g:Int}{row:List PC}{v:Bool}(h:uW n g row):∀p∈row,p.f<=p.l/\p.l<n/\-300<=al v p/\al v p<=300:=λp hp=>by
 obtain⟨_,c,I⟩:=h
 have h1:=I.ch.bd.2 p hp
 have h2:=I.cn
 have h3:=I.c0
 exact⟨h1.2.1,dX 756544948767414497676509194925987078585784293486119463974305540689406 [_,_,_,_] [_] h1 h2 (tn _),G2 (I.ok p hp).a2 (I.ok p hp).bd⟩
theorem tS{n:Nat}{sk:List Gl}{v:Bool}{mode amount:Int}{rows:List LR}{sz:List (Option Int)}(n14:n=1\/n=2\/n=3\/n=4)(hsk:sk.length=n+1)(hg:∀x∈sk,rA x)(hm:mode=0\/mode=1)(a1: -400<=amount)(a2:amount<=400)(hl:rows.length<=8)(hok:∀x∈rows,g8 n x)
  (S:jA n sk v (dq rows) sz) (hsz:∀x,some x∈sz->-2600<=x/\x<=2600) {m:Mu}:RF (r+9) (.ref cf) [.lst (rows.map LR.v),.lst (sk.map Gl.v),.tup [.int mode,.int amount],.bool v] m=some (.tup [.lst (sz.map oi),.tup (rows.map (oc sz sk v (aH sz sk mode amount v) (bu sz sk mode amount v))),rB sz sk v mode amount],m):=by
 have e:eu n sk v rows=sz:=CW hok S
 have:=G1 (r:=r) (mu:=m) (n:=n) (sk:=sk) (v:=v) (mode:=mode) (amount:=amount) (rows:=rows) ⟨n14,hsk,hg,hm,a1,a2,hl,hok,λx hx=>hsz x (e▸hx)⟩
 rw[e] at this
 exact this
theorem yp{α:Type}:∀{l:List α}{k:Nat}{p:Nat×α},p∈cO k l->k<=p.1/\l[p.1-k]? =some p.2:=by
 intro L0
 induction L0 with
 |nil=>
  intro k p h
  exact absurd h abh
 |cons x l ih=>
  intro k p h
  rw[cO] at h
  rcases aai.mp h with rfl|h
  ·exact⟨aaS _,by simp⟩
  ·obtain⟨h1,h2⟩:=ih h
   refine⟨by exact ad 144552159781200 [_,_] [] h1,?_⟩
   rw[show p.1-k=(p.1-(k+1))+1 by exact dX 8608714991707241150144757550720657172826892029418423321757158513083439719790377164796883719317400 [_,_,_,_] [] h1 (su _ _) (su _ _),List.getElem?_cons_succ]
   exact h2
theorem yq{α β:Type}(f:α->β):∀(l:List α)(k:Nat),(cO k l).map (λp=>f p.2)=l.map f:=by
 intro L0
 induction L0 with
 |nil=>
  intro _
  exact rfl
 |cons x l ih=>
  intro k
  rw[cO,aaX,aaX,ih]
theorem qQ{α:Type}{f:α->V}{l:List α}{k:Nat}{x:α}(h:l[k]? =some x):(l.map f).getD k .none=f x:=by
 rw[aaY,aaE,h];rfl
end
section
variable{r:Nat}{mu:Mu}
structure ew(n:Nat)(g:Int)(sk:List Gl)(rs:List (List PC))(b:LR)(mode amount:Int)(o:List Nat):Prop where
 n2:2<=n
 n4:n<=4
 sk1:sk.length=n+1
 skb:∀x∈sk,rA x
 rl:rs.length=2\/rs.length=3\/rs.length=4
 row:∀row∈rs,uW n g row
 beh:LC b
 md:mode=0\/mode=1
 a1: -400<=amount
 a2:amount<=400
 o:(aaa (rs.length+2)).Perm o
section
variable{n:Nat}{g:Int}{sk:List Gl}{rs:List (List PC)}{b:LR}{mode amount:Int}{o:List Nat}(D:ew n g sk rs b mode amount o)(v:Bool)
noncomputable def gY(rs:List (List PC))(b:LR):List LR:=rs.map LR.cells++[b]
noncomputable abbrev ni(n:Nat)(sk:List Gl)(v:Bool)(rs:List (List PC))(b:LR):List (Option Int):=eu n sk v (gY rs b)
noncomputable abbrev jG(sz:List (Option Int))(sk:List Gl)(v:Bool)(mode amount:Int)(x:LR):V:=oc sz sk v (aH sz sk mode amount v) (bu sz sk mode amount v) x
theorem Dg:(gY rs b).map LR.v=rs.map a7++[b.v]:=by
 rw[gY,abk,aba];rfl
include D
theorem ew.ok:∀x∈gY rs b,g8 n x:=λx hx=>by
 rcases aaj.mp hx with hx|hx
 ·obtain⟨row,hr,rfl⟩:=aak.mp hx
  exact tR (D.row row hr)
 ·rw[aah] at hx
  subst hx
  exact D.beh.2 n
theorem ew.cells:dq (gY rs b)=rs.flatten:=by
 rw[gY,sM,qO]
 show _++(FG b++[])=_
 rw[sN D.beh.1]
 simp
theorem ew.mem{p:PC}(h:p∈rs.flatten):∃row∈rs,p∈row:=by
 obtain⟨row,h1,h2⟩:=List.mem_flatten.mp h
 exact⟨row,h1,h2⟩
theorem ew.sol:jA n sk v rs.flatten (ni n sk v rs b):=by
 rw[<-D.cells];exact xj D.ok
theorem ew.len:(ni n sk v rs b).length=n:=(D.sol v).len
theorem ew.small:∀x,some x∈ni n sk v rs b->-2600<=x/\x<=2600:=A4 (D.sol v) D.n4 D.skb λp hp=>by
 obtain⟨row,h1,h2⟩:=D.mem hp
 have:=nh (v:=v) (D.row row h1) p h2
 exact⟨this.1,this.2.2⟩
theorem ew.hol:g8 n (.cells (bR (ni n sk v rs b))):=A5 (by rw[D.len v];exact aaS _) (D.small v)
theorem ew.n14:n=1\/n=2\/n=3\/n=4:=by have:=D.n2;have:=D.n4;lia
theorem ew.tab{rows:List LR}(hl:rows.length<=8)(h:∀x∈rows,x∈gY rs b\/x= .cells (bR (ni n sk v rs b)))(hb:LR.cells (bR (ni n sk v rs b))∈rows){m:Mu}:
  RF (r+9) (.ref cf) [.lst (rows.map LR.v),.lst (sk.map Gl.v),.tup [.int mode,.int amount],.bool v] m=some (.tup [.lst ((ni n sk v rs b).map oi),.tup (rows.map (jG (ni n sk v rs b) sk v mode amount)),rB (ni n sk v rs b) sk v mode amount],m):=by
 have hok:∀x∈rows,g8 n x:=λx hx=>by
  rcases h x hx with h|rfl
  ·exact D.ok x h
  ·exact D.hol v
 refine tS D.n14 D.sk1 D.skb D.md D.a1 D.a2 hl hok (A6 (D.sol v) (λp hp=> ?_) λp hp=> ?_) (D.small v)
 ·obtain⟨l,h1,h2⟩:=ng.mp hp
  rcases h _ h1 with h3|h3
  ·left
   rw[<-D.cells]
   exact ng.mpr ⟨l,h3,h2⟩
  ·right
   cases h3;exact h2
 ·exact ng.mpr ⟨_,hb,hp⟩
theorem ew.tab0{m:Mu}:RF (r+9) (.ref cf) [.lst ((gY rs b).map LR.v),.lst (sk.map Gl.v),.tup [.int mode,.int amount],.bool v] m=some (.tup [.lst ((ni n sk v rs b).map oi),.tup ((gY rs b).map (jG (ni n sk v rs b) sk v mode amount)),rB (ni n sk v rs b) sk v mode amount],m):=
 tS D.n14 D.sk1 D.skb D.md D.a1 D.a2 (by rw[gY,aap,aaq,aax];have:=D.rl;exact ad 6416991121561532680171162750387 [_] [] this) D.ok (by rw[D.cells];exact D.sol v) (D.small v)
theorem ew.ends{c:Nat}(hc:c<n):(ni n sk v rs b).getD c none=none↔c∉bm rs:=by
 rw[C1 (D.sol v) hc,bm]
 have:(rs.flatten).map PC.l=rs.flatMap λrow=>row.map PC.l:=by rw[List.map_flatten,List.flatMap_def]
 rw[this]
section
variable{q:Nat->Bool}(hq:∀c,c<n->q c=false->c∉bm rs)
include hq
theorem ew.gone:∀c,c<n->q c=false->(ni n sk v rs b).getD c none=none:=λc hc h=>(D.ends v hc).mpr (hq c hc h)
theorem ew.qt{row:List PC}(h:row∈rs){p:PC}(hp:p∈row):q p.l=true:=by
 cases e:q p.l with
 |true=>rfl
 |false=>exact absurd (aam.mpr ⟨row,h,aak.mpr ⟨p,hp,rfl⟩⟩) (hq p.l (nh (v:=false) (D.row row h) p hp).2.1 e)
theorem ew.rk14:rk q n=1\/rk q n=2\/rk q n=3\/rk q n=4:=by
 have h1:rk q n<=n:=by
  unfold rk aR
  have:=abB q (aaa n)
  rw[abw] at this
  exact this
 have h2:1<=rk q n:=by
  obtain⟨row,hr⟩:∃row,row∈rs:=by
   cases h:rs with
   |nil=>have:=D.rl;rw[h] at this;simp at this
   |cons row l=>exact⟨row,.head _⟩
  obtain⟨hne,_⟩:=D.row row hr
  obtain⟨p,hp⟩:∃p,p∈row:=by
   cases row with
   |nil=>exact absurd rfl hne
   |cons p l=>exact⟨p,.head _⟩
  have h3:=D.qt hq hr hp
  have h4:=(nh (v:=false) (D.row row hr) p hp).2.1
  unfold rk aR
  exact List.length_pos_of_mem (aal.mpr ⟨aar.mpr h4,h3⟩)
 have:=D.n4
 exact dX 15973227214056549886919458994917625842663974480 [_,_] [] h1 h2 this
noncomputable def jB(q:Nat->Bool)(rs:List (List PC))(b:LR):List LR:=rs.map (λrow=> .cells (row.map (fw q)))++[b]
theorem ew.okF:∀x∈jB q rs b,g8 (rk q n) x:=λx hx=>by
 rcases aaj.mp hx with hx|hx
 ·obtain⟨row,hr,rfl⟩:=aak.mp hx
  obtain⟨c,h1,h2,h3⟩:=tR (D.row row hr)
  refine⟨rk q c,LB h1 λp hp=>D.qt hq hr hp,mB h2,λp hp=> ?_⟩
  obtain⟨p',hp',rfl⟩:=aak.mp hp
  exact h3 p' hp'
 ·rw[aah] at hx
  subst hx
  exact D.beh.2 _
theorem ew.cellsF:dq (jB q rs b)=rs.flatten.map (fw q):=by
 rw[jB,sM,show(rs.map λrow=>LR.cells (row.map (fw q)))=(rs.map λrow=>row.map (fw q)).map LR.cells by rw[aba];rfl,qO]
 show _++(FG b++[])=_
 rw[sN D.beh.1,List.map_flatten]
 simp
theorem ew.tabF{m:Mu}:RF (r+9) (.ref cf) [.lst ((jB q rs b).map LR.v),.lst ((gZ q n sk).map Gl.v),.tup [.int mode,.int amount],.bool v] m=some (.tup [.lst ((gJ q n (ni n sk v rs b)).map oi),.tup ((jB q rs b).map (jG (gJ q n (ni n sk v rs b)) (gZ q n sk) v mode amount)),rB (ni n sk v rs b) sk v mode amount],m):=by
 have hm:=tP (sk:=sk) (v:=v) (D.gone v hq) (D.len v) mode amount
 have hS:=Kz (D.gone v hq) (D.sol v) λp hp=>by
  obtain⟨row,h1,h2⟩:=D.mem hp
  have:=nh (v:=v) (D.row row h1) p h2
  exact⟨this.1,this.2.1,D.qt hq h1 h2⟩
 have hsz:∀x,some x∈gJ q n (ni n sk v rs b)->-2600<=x/\x<=2600:=λx hx=>by
  obtain⟨k,_,e⟩:=aak.mp hx
  rw[aaY] at e
  cases h:(ni n sk v rs b)[k]? with
  |none=>rw[h] at e;cases e
  |some y=>
   rw[h] at e
   have e:y=some x:=e
   subst e
   exact D.small v x (abj h)
 have hsk:∀x∈gZ q n sk,rA x:=λx hx=>by
  rcases aai.mp hx with rfl|hx
  ·exact qD D.skb 0
  ·obtain⟨k,_,rfl⟩:=aak.mp hx
   exact qD D.skb _
 have:=tS (r:=r) (m:=m) (n:=rk q n) (sk:=gZ q n sk) (v:=v) (mode:=mode) (amount:=amount) (rows:=jB q rs b) (sz:=gJ q n (ni n sk v rs b)) (D.rk14 hq) (by unfold gZ rk;rw[aaf,aaq]) hsk D.md D.a1 D.a2 (by rw[jB,aap,aaq,aax];have:=D.rl;exact ad 6416991121561532680171162750387 [_] [] this) (D.okF hq) (by rw[D.cellsF hq];exact hS) hsz
 rw[this,show rB (gJ q n (ni n sk v rs b)) (gZ q n sk) v mode amount=rB (ni n sk v rs b) sk v mode amount by unfold rB;rw[hm]]
theorem ew.outB:jG (gJ q n (ni n sk v rs b)) (gZ q n sk) v mode amount b=jG (ni n sk v rs b) sk v mode amount b:=by
 have hm:=tP (sk:=sk) (v:=v) (D.gone v hq) (D.len v) mode amount
 have hB:aH (gJ q n (ni n sk v rs b)) (gZ q n sk) mode amount v=aH (ni n sk v rs b) sk mode amount v:=by unfold aH;rw[hm]
 unfold jG
 rw[hB]
 cases b with
 |cells l=>exact absurd rfl (D.beh.1 l)
 |rule a b c=>rfl
 |kern w=>rfl
end
end
end
section
variable{r:Nat}{mu:Mu}
theorem Bl{sc:List Int}{n:Nat}{g:Int}{sk:List Gl}{rs:List (List PC)}{b:LR}{mode amount:Int}{o:List Nat}(D:ew n g sk rs b mode amount o)(v:Bool)(s:Int×Int):
  ∃(loc':au)(mu':Mu),mD (r+9) 51 ((aD a8).drop 9) (l8 sc v n g sk rs b.v mode amount o) (gF s)=some (.ret (.bool true),loc',mu'):=by
 have n2:=D.n2
 have n4:=D.n4
 have rl:=D.rl
 have hlen:=D.len v
 obtain⟨w,hw⟩:∃w:Wd,w=⟨sc,v,n,g,sk,rs,b.v,mode,amount,o⟩:=⟨_,rfl⟩
 have hwn:w.n=n:=by rw[hw]
 have hwrs:w.rs=rs:=by rw[hw]
 have hwb:w.b=b.v:=by rw[hw]
 have hwsk:w.sk=sk:=by rw[hw]
 have hwo:w.o=o:=by rw[hw]
 have hl8:l8 sc v n g sk rs b.v mode amount o=w.l8:=by rw[hw]
 have hTabI:∀{rows skl:List V}{res:V},(∀m,RF (r+9) (.ref cf) [.lst rows,.lst skl,.tup [.int mode,.int amount],.bool v] m=some (res,m))->Da r rows skl w res:=λh m=>by rw[hw];exact h m
 rw[hl8]
 obtain⟨sz,hsz⟩:∃sz,sz=ni n sk v rs b:=⟨_,rfl⟩
 obtain⟨rp,hrp⟩:∃rp,rp=rB sz sk v mode amount:=⟨_,rfl⟩
 obtain⟨h0,hh0⟩:∃h0,h0=jG sz sk v mode amount (.cells (bR sz)):=⟨_,rfl⟩
 obtain⟨td,htd⟩:∃td,td=(gY rs b).map (jG sz sk v mode amount):=⟨_,rfl⟩
 have htdl:td.length=w.rs.length+1:=by rw[htd,hwrs,aaq,gY,aap,aaq,aax]
 have tdk:∀k row,rs[k]? =some row->td.getD k .none=jG sz sk v mode amount (.cells row):=λk row h=>by
  rw[htd]
  refine qQ ?_
  rw[gY,aat (by rw[aaq];exact aO h),aaE,h];rfl
 have tdb:td.getD w.rs.length .none=jG sz sk v mode amount b:=by
  rw[htd,hwrs]
  refine qQ ?_
  rw[gY,abt (by rw[aaq];exact aaS _),aaq,Nat.sub_self];rfl
 have hrpI:∃a c:Int,rp= .tup [.int a,.int c]:=by rw[hrp];exact⟨_,_,rfl⟩
 obtain⟨rpa,rpc,hrpI⟩:=hrpI
 have plo:∀(sz:List (Option Int))(sk:List Gl)(x:LR),Pl 6 (jG sz sk v mode amount x):=λsz sk x=>FS _ _ _ _ _ x
 have T0:Da r (w.rs.map a7++[w.b]) (w.sk.map Gl.v) w (.tup [.lst (sz.map oi),.tup td,rp]):=hTabI λm=>by
  have:=D.tab0 v (r:=r) (m:=m)
  rw[Dg] at this
  rw[hwrs,hwb,hwsk,htd,hrp,hsz]
  exact this
 have A:FP r w sz td rp (bR sz) h0:=by
  refine⟨by rw[hwrs];exact ad 55356817555876171162750387 [_] [] rl,by rw[hwrs];exact ad 458101336577782171162750387 [_] [] rl,htdl,λk hk=>hTabI λm=> ?_,λk hk=> ?_⟩
  ·rw[hwrs] at hk
   have hg:rs[k]? =some (rs.getD k []):=bk hk
   have hm:=abj hg
   have:=D.tab v (r:=r) (m:=m) (rows:=[.cells (bR sz),.cells (rs.getD k []),b]) (by simp) (by
    intro x hx
    simp only[aai,abh,or_false] at hx
    rcases hx with rfl|rfl|rfl
    ·right;rw[hsz]
    ·left;exact aaj.mpr (.inl (aak.mpr ⟨_,hm,rfl⟩))
    ·left;exact aaj.mpr (.inr (.head _))) (by rw[hsz];exact .head _)
   rw[<-hsz] at this
   rw[hwrs,hwb,hwsk,tdk k _ hg,<-hwrs,tdb,hh0,hrp,hwrs]
   exact this
  ·rw[hrpI]
   rw[hwrs] at hk
   have hg:rs[k]? =some (rs.getD k []):=bk hk
   rw[tdk k _ hg,tdb,hh0]
   exact wj (bc (plo _ _ _) (bc (plo _ _ _) (bc (plo _ _ _) (lq (d:=0)))))
 have hlr:∀row∈w.rs,row.length<=4:=λrow h=>by
  rw[hwrs] at h
  obtain⟨c,h1,h2,_⟩:=tR (D.row row h)
  have:=h1.len
  exact dX 458100853076054248177286070 [_,_,_] [] n4 h2 this
 have e9:=KM (r:=r) (mu:=gF s) (w:=w) (by rw[hwrs];exact ad 432682678294492171162750387 [_] [] rl) λrow h=>by have:=hlr row h;exact ad 100514665980 [_] [] this
 have e10:=Ha (r:=r) (mu:=gF s) (w:=w) (es:=bm w.rs) (by exact av 77579775027524070 [_,_] [] n4 hwn)
 have e11:=Hb (r:=r) (mu:=gF s) (w:=w) (es:=bm w.rs) (out:=dP w.n (bm w.rs)) (by rw[hwrs];exact ad 432682678294492171162750387 [_] [] rl) T0
 have e12:=Hc (r:=r) (mu:=gF s) (w:=w) (es:=bm w.rs) (sz:=sz) (td:=td) (rp:=rp) (by exact av 77579775027524070 [_,_] [] n4 hwn) (by rw[hwrs];exact ad 432682678294492171162750387 [_] [] rl) (by rw[hsz,hlen,hwn]) htdl λc hc=>by rw[hsz,hwrs];exact D.ends v (by exact av 13010230872573662 [_,_,_] [] hwn hc)
 have e13:=Hd (r:=r) (mu:=gF s) (w:=w) (es:=bm w.rs) (out:=dP w.n (bm w.rs)) (sz:=sz) (td:=td) (rp:=rp) (by rw[hsz,hlen];exact ad 141848965980 [_] [] n4)
 have e14:=He (mu:=gF s) (es:=bm w.rs) (out:=dP w.n (bm w.rs)) A
 have ho:∀k∈w.o,k<w.rs.length+2:=λk hk=>by
  rw[hwo] at hk
  rw[hwrs]
  exact aar.mp (D.o.mem_iff.mpr hk)
 have hol:w.o.length<=900:=by
  have:=D.o.length_eq
  rw[abw] at this
  rw[hwo];exact av 2554944684850313367890412991603758487 [_,_] [] rl this
 obtain⟨L0,FU⟩:∃L0:List LR,L0=rs.map LR.cells++[b,.cells (bR sz)]:=⟨_,rfl⟩
 have hL0l:L0.length=rs.length+2:=by rw[FU,aap,aaq];rfl
 have hL0v:L0.map LR.v=vc w (bR sz):=by rw[FU,abk,aba,vc,hwrs,hwb];rfl
 have hL0t:L0.map (jG sz sk v mode amount)=td++[h0]:=by rw[FU,htd,hh0,gY];simp
 have gm:∀(f:LR->V)(l:List Nat),(∀k∈l,k<rs.length+2)->(l.map λk=>L0.getD k (.kern 0)).map f=l.map λk=>(L0.map f).getD k .none:=λf l hl=>by
  rw[aba]
  refine aa9 λk hk=> ?_
  exact(qQ (bk (d:=LR.kern 0) (by rw[hL0l];exact hl k hk))).symm
 have ho':∀k∈o,k<rs.length+2:=λk hk=>by have:=ho k (by rw[hwo];exact hk);rw[hwrs] at this;exact this
 have TM:Da r (w.o.map λk=>(vc w (bR sz)).getD k .none) (w.sk.map Gl.v) w (.tup [.lst (sz.map oi),.tup (w.o.map λk=>(td++[h0]).getD k .none),rp]):=hTabI λm=>by
  have hol':o.length=rs.length+2:=by have:=D.o.length_eq;rw[abw] at this;exact this.symm
  have:=D.tab v (r:=r) (m:=m) (rows:=o.map λk=>L0.getD k (.kern 0)) (by rw[aaq];exact av 4656272431668629079750204991603758487 [_,_] [] rl hol') (by
   intro x hx
   obtain⟨k,hk,rfl⟩:=aak.mp hx
   have hm:=abj (bk (d:=LR.kern 0) (l:=L0) (k:=k) (by rw[hL0l];exact ho' k hk))
   generalize L0.getD k (.kern 0)=x at*
   rw[FU] at hm
   rcases aaj.mp hm with h|h
   ·left;exact aaj.mpr (.inl h)
   ·simp only[aai,abh,or_false] at h
    rcases h with rfl|rfl
    ·left;exact aaj.mpr (.inr (.head _))
    ·right;rw[hsz]) (by
   refine aak.mpr ⟨rs.length+1,D.o.mem_iff.mp (aar.mpr (by exact dk 8514876751201 [_] [])),?_⟩
   rw[FU,aaY,abt (by rw[aaq];exact dk 985608180 [_] []),aaq,show rs.length+1-rs.length=1 by exact ad 107846141716794162870119922864486779457265711887547 [_,_] [] (su _ _),hsz]
   rfl)
  rw[gm _ o ho',gm _ o ho',hL0v,<-hsz,hL0t,<-hrp] at this
  rw[hwo,hwsk]
  exact this
 have hpm:Pl 40 (.tup [.lst (sz.map oi),.tup (w.o.map λk=>(td++[h0]).getD k .none),rp]):=by
  rw[hrpI,hwo,<-hL0t,<-gm _ o ho']
  exact wj λx hx=>by obtain⟨y,_,rfl⟩:=aak.mp hx;exact plo _ _ y
 obtain⟨mx,hmx⟩:∃mx,mx=V.tup [.lst (sz.map oi),.tup (w.o.map λk=>(td++[h0]).getD k .none),rp]:=⟨_,rfl⟩
 rw[<-hmx] at TM hpm
 have e15:=Hg (r:=r) (mu:=gF s) (w:=w) (es:=bm w.rs) (out:=dP w.n (bm w.rs)) (sz:=sz) (td:=td) (rp:=rp) (hol:=bR sz) (em:=[h0]) (mx:=mx) (by rw[hwrs];exact ad 458101336577782171162750387 [_] [] rl) ho hol TM
 have e16:=Hh (r:=r) (mu:=gF s) (w:=w) (es:=bm w.rs) (out:=dP w.n (bm w.rs)) (sz:=sz) (td:=td) (rp:=rp) (hol:=bR sz) (h0:=h0) (mx:=mx) (by rw[hwrs];exact ad 458101336577782171162750387 [_] [] rl) htdl ho hol hmx hpm
 obtain⟨s2,out,e17,ho1,ho2⟩:=Hi (r:=r) (w:=w) (es:=bm w.rs) (out:=dP w.n (bm w.rs)) (sz:=sz) (td:=td) (rp:=rp) (hol:=bR sz) (em:=[h0]) (mx:=mx) (by have:=abB (λk=>decide (k∉bm w.rs)) (aaa w.n);rw[abw] at this;unfold dP;exact dX 53417554337685758744070 [_,_,_] [] n4 hwn this) s
 have E9:=iE (m:=49) e9 (by kernel_rfl) rfl
 have E10:=iE (m:=48) e10 (by kernel_rfl) rfl
 have E11:=iE (m:=47) e11 (by kernel_rfl) rfl
 have E12:=iE (m:=46) e12 (by kernel_rfl) rfl
 have E13:=iE (m:=45) e13 (by kernel_rfl) rfl
 have E14:=iE (m:=44) e14 (by kernel_rfl) rfl
 have E15:=iE (m:=43) e15 (by kernel_rfl) rfl
 have E16:=iE (m:=42) e16 (by kernel_rfl) rfl
 have E17:=iE (m:=41) e17 (by kernel_rfl) rfl
 have E:=E9.trans (E10.trans (E11.trans (E12.trans (E13.trans (E14.trans (E15.trans (E16.trans E17)))))))
 cases out with
 |nil=>exact⟨_,_,E.trans (xc (m:=40) (k:=1) Dd (by kernel_rfl) rfl)⟩
 |cons k0 out=>
  have e18:=De (r:=r) (mu:=gF s2) (w:=w) (es:=bm w.rs) (k:=k0) (out:=out) (sz:=sz) (td:=td) (rp:=rp) (hol:=bR sz) (em:=[h0]) (mx:=mx)
  obtain⟨out',hout'⟩:∃out',out'=k0::out:=⟨_,rfl⟩
  rw[<-hout'] at e18 E ho1
  obtain⟨q,hqd⟩:∃q:Nat->Bool,q=λk=>decide (k∉out'):=⟨_,rfl⟩
  have hq:∀c,c<n->q c=false->c∉bm rs:=λc hc h=>by
   rw[hqd] at h
   have h1:c∈out':=Decidable.byContradiction λh'=>by have h:decide (c∉out')=false:=h;rw[decide_eq_true h'] at h;cases h
   have h2:=ho1 c h1
   unfold dP at h2
   have h3:=of_decide_eq_true (aal.mp h2).2
   rw[hwrs] at h3
   exact h3
  have hkept:dP w.n out'=aR q n:=by rw[hwn,hqd];rfl
  have e19:=Hj (r:=r) (mu:=gF s2) (w:=w) (es:=bm w.rs) (out:=out') (sz:=sz) (td:=td) (rp:=rp) (hol:=bR sz) (em:=[h0]) (mx:=mx) (by exact av 77579775027524070 [_,_] [] n4 hwn)
  rw[hkept] at e19
  have kl:(aR q n).length<=4:=by
   unfold aR
   have:=abB q (aaa n)
   rw[abw] at this
   exact av 77579775026066070 [_,_] [] n4 this
  have kn:∀k∈aR q n,k<n:=λk hk=>aar.mp (aal.mp hk).1
  have hS:∀p∈cO 0 w.rs,p.1<td.length/\∀m,RF (r+9) (.ref cY) [td.getD p.1 .none,a7 p.2,.lst ((aR q n).map aV),.lst (sz.map oi),.bool w.v] m=some (jG (gJ q n sz) (gZ q n sk) v mode amount (.cells (p.2.map (fw q))),m):=λp hp=>by
   obtain⟨h1,h2⟩:=yp hp
   rw[hwrs,Nat.sub_zero] at h2
   refine⟨by have:=aO h2;rw[htdl,hwrs];exact ad 719039804973481 [_,_] [] this,λm=> ?_⟩
   rw[tdk _ _ h2,show w.v=v by rw[hw]]
   have hm:=abj h2
   have:=vb (r:=r+8) (mu:=m) (q:=q) (n:=n) (sz:=sz) (sk:=sk) (v:=v) (mode:=mode) (amount:=amount) (l:=p.2) n4 (by rw[hsz,hlen]) (by rw[hsz];exact D.gone v hq) (tR (D.row _ hm)) λp' hp'=>D.qt hq hm hp'
   exact this
  have e20:=Hk (r:=r) (mu:=gF s2) (w:=w) (es:=bm w.rs) (out:=out') (sz:=sz) (td:=td) (rp:=rp) (hol:=bR sz) (em:=[h0]) (mx:=mx) (kept:=aR q n) (d:=λp=>jG (gJ q n sz) (gZ q n sk) v mode amount (.cells (p.2.map (fw q)))) (by rw[hwrs];exact ad 55074388019395171162750387 [_] [] rl) (by rw[hwrs];exact ad 458101336577782171162750387 [_] [] rl) htdl hS
  have hdue:(cO 0 w.rs).map (λp=>jG (gJ q n sz) (gZ q n sk) v mode amount (.cells (p.2.map (fw q))))++[td.getD w.rs.length .none]=(jB q rs b).map (jG (gJ q n sz) (gZ q n sk) v mode amount):=by
   rw[yq (λrow:List PC=>jG (gJ q n sz) (gZ q n sk) v mode amount (.cells (row.map (fw q)))),tdb,jB,abk,aba,hwrs,hsz,<-D.outB v hq]
   rfl
  rw[hdue] at e20
  obtain⟨due,hdu⟩:∃due,due=(jB q rs b).map (jG (gJ q n sz) (gZ q n sk) v mode amount):=⟨_,rfl⟩
  rw[<-hdu] at e20
  have hrow:∀row∈w.rs,row.length<=60/\∀p∈row,p.l∈aR q n:=λrow h=>by
   have h1:=hlr row h
   rw[hwrs] at h
   refine⟨by exact ad 135944065980 [_] [] h1,λp hp=>aal.mpr ⟨aar.mpr (nh (v:=v) (D.row row h) p hp).2.1,D.qt hq h hp⟩⟩
  have hfw:(w.rs.map λrow=>row.map (bZ (aR q n))).map a7++[w.b]=(jB q rs b).map LR.v:=by
   have:(w.rs.map λrow=>row.map (bZ (aR q n)))=rs.map λrow=>row.map (fw q):=by
    rw[hwrs]
    refine aa9 λrow h=>aa9 λp hp=> ?_
    have:=nh (v:=v) (D.row row h) p hp
    exact A9 this.1 this.2.1 (D.qt hq h hp)
   rw[this,jB,abk,aba,aba,hwb]
   rfl
  have TF:Da r ((w.rs.map λrow=>row.map (bZ (aR q n))).map a7++[w.b]) ((w.sk.getD 0 dj::(aR q n).map λk=>w.sk.getD (k+1) dj).map Gl.v) w (.tup [.lst (((aR q n).map λk=>sz.getD k none).map oi),.tup due,rp]):=hTabI λm=>by
   have:=D.tabF v hq (r:=r) (m:=m)
   rw[hfw,hwsk,hdu,hrp,hsz]
   exact this
  have e21:=Hl (r:=r) (mu:=gF s2) (w:=w) (es:=bm w.rs) (out:=out') (sz:=sz) (td:=td) (rp:=rp) (hol:=bR sz) (em:=[h0]) (mx:=mx) (kept:=aR q n) (due:=due) (by rw[hwrs];exact ad 458101336577782171162750387 [_] [] rl) kl (by rw[hwn];exact kn) (by exact av 77579775027524070 [_,_] [] n4 hwn) (by rw[hwsk,hwn];exact D.sk1) hrow TF
  have hpd:Pl 40 (.tup [.lst (((aR q n).map λk=>sz.getD k none).map oi),.tup due,rp]):=by
   rw[hrpI,hdu]
   exact wj λx hx=>by obtain⟨y,_,rfl⟩:=aak.mp hx;exact plo _ _ y
  have e22:=Hm (r:=r) (mu:=gF s2) (w:=w) (es:=bm w.rs) (out:=out') (sz:=sz) (td:=td) (rp:=rp) (hol:=bR sz) (em:=[h0]) (mx:=mx) (kept:=aR q n) (due:=due) kl (by rw[hsz,hlen];exact kn) (by rw[hsz,hlen];exact ad 106419565980 [_] [] n4) hpd
  have E18:=iE (m:=40) e18 (by kernel_rfl) rfl
  have E19:=iE (m:=39) e19 (by kernel_rfl) rfl
  have E20:=iE (m:=38) e20 (by kernel_rfl) rfl
  have E21:=iE (m:=37) e21 (by kernel_rfl) rfl
  exact⟨_,_,E.trans (E18.trans (E19.trans (E20.trans (E21.trans (xc (m:=36) (k:=1) e22 (by kernel_rfl) rfl)))))⟩
theorem Bm{sc:List Int}(h:sc.length<=900):∃mu':Mu,xT TT HT (RF (r+9)) rW zG [Ka sc] []=some (.bool true,mu'):=by
 obtain⟨s0,e0⟩:=KD (r:=r) h
 obtain⟨s1,v,n,e1,n2,n4⟩:=KE (r:=r) (sc:=sc) s0
 obtain⟨s2,g,e2⟩:=KF (r:=r) (sc:=sc) (v:=v) n2 s1
 obtain⟨s3,sk,e3,k1,k2⟩:=KG (r:=r) (sc:=sc) (v:=v) (g:=g) n4 s2
 obtain⟨s4,rs,e4,r1,r2⟩:=KH (r:=r) (sc:=sc) (v:=v) (g:=g) (sk:=sk) n2 n4 s3
 obtain⟨s5,b,e5,hb⟩:=KI (r:=r) (sc:=sc) (v:=v) (n:=n) (g:=g) (sk:=sk) (rs:=rs) s4
 obtain⟨s6,mode,amount,e7,m1,m2,m3⟩:=KJ (r:=r) (sc:=sc) (v:=v) (n:=n) (g:=g) (sk:=sk) (rs:=rs) (b:=b.v) s5
 obtain⟨s7,o,e8,hp⟩:=KK (r:=r) (sc:=sc) (v:=v) (n:=n) (g:=g) (sk:=sk) (rs:=rs) (b:=b.v) (mode:=mode) (amount:=amount) (ad 458101336577782171162750387 [_] [] r1) s6
 obtain⟨loc',mu',e9⟩:=Bl (r:=r) (sc:=sc) (⟨n2,n4,k1,k2,r1,r2,hb,m1,m2,m3,hp⟩:ew n g sk rs b mode amount o) v s7
 have E0:=iE (m:=58) e0 (by kernel_rfl) rfl
 have E1:=iE (m:=57) e1 (by kernel_rfl) rfl
 have E2:=iE (m:=56) e2 (by kernel_rfl) rfl
 have E3:=iE (m:=55) e3 (by kernel_rfl) rfl
 have E4:=iE (m:=54) e4 (by kernel_rfl) rfl
 have E5:=iE (m:=52) e5 (by kernel_rfl) rfl
 have E7:=iE (m:=51) e7 (by kernel_rfl) rfl
 have E8:=iE (m:=50) e8 (by kernel_rfl) rfl
 exact⟨mu',Bh rfl (E0.trans (E1.trans (E2.trans (E3.trans (E4.trans (E5.trans (E7.trans (E8.trans e9))))))))⟩
end
section
set_option tactic.hygienic true
noncomputable abbrev HP:Program:=PySem.Challenge.pw_tu0009_01
noncomputable def FT(i:Nat):List Stmt->Stmt
 |[]=> .Pass ⟨0,0,0,0⟩
 |s::r=>match i with
  |0=>s
  |i+1=>FT i r
noncomputable def t6(i:Nat):Stmt:=FT i HP.main.body
noncomputable def KN(i j:Nat):Stmt:=match t6 i with
 | .ClassDef _ _ _ b _ _ _ _ _ _ _=>FT j b
 |s=>s
noncomputable def hA:Stmt->Arguments
 | .FunctionDef _ p _ _ _ _ _ _ _ _=>p
 |_=>⟨[],[],none,[],[],none,[]⟩
noncomputable def hB:Stmt->List Stmt
 | .FunctionDef _ _ b _ _ _ _ _ _ _=>b
 |_=>[]
noncomputable def hC:Stmt->Scope
 | .FunctionDef _ _ _ _ _ _ s _ _ _=>s
 |_=>HP.main.scope
noncomputable abbrev fA(i:Nat):=hA (t6 i)
noncomputable abbrev fS(i:Nat):=hB (t6 i)
noncomputable abbrev fC(i:Nat):=hC (t6 i)
noncomputable abbrev mA(i j:Nat):=hA (KN i j)
noncomputable abbrev mS(i j:Nat):=hB (KN i j)
noncomputable abbrev mC(i j:Nat):=hC (KN i j)
noncomputable abbrev hn:Value:= .none
noncomputable abbrev hr(a:Addr):Value:= .ref a
noncomputable abbrev ht(s:String):Value:= .type s
noncomputable abbrev hi(i:Int)(t:Nat):Value:= .int i t
noncomputable abbrev hs(s:String)(t:Nat):Value:= .str (aaQ s) t
noncomputable abbrev he(P:Params)(s:String)(t:Nat)(v:Value):DictEntry:=⟨PyData.keyHash P (aaQ s),.str (aaQ s) t,v⟩
noncomputable abbrev ho(c:Value)(d:Data):Obj:=⟨c,none,d,List.toArray []⟩
noncomputable abbrev hq(a:Array Value)(n:Nat):Data:= .seq a n
noncomputable abbrev hf(a:Array Value):Data:= .fields a
noncomputable abbrev hd(a:Array DictEntry)(n:Nat):Data:= .dict a n
noncomputable abbrev hF(f:FuncData):Data:= .func f
noncomputable abbrev ha{α:Type}(l:List α):Array α:=List.toArray l
noncomputable abbrev Bn:=FuncData.mk
noncomputable abbrev Bo:=FuncBody.stmts
noncomputable def eH:List Obj->List (Nat×Obj)->List Obj
 |l,[]=>l
 |l,(i,o)::r=>eH (l.set i o) r
noncomputable def Ho{α:Type}:List α->List α
 |[]=>[]
 |[x]=>[x]
 |x::_::r=>x::Ho r
noncomputable def hT:Nat->List Obj->BT
 |0,_=> .nil
 |_+1,[]=> .nil
 |n+1,x::l=> .node x (hT n (Ho l)) (hT n (Ho l.tail))
noncomputable abbrev hb(s:String):Value:= .builtin s
noncomputable abbrev hy:Value:= .bool true
noncomputable abbrev hz:Value:= .bool false
noncomputable abbrev aj(t:String)(l:List Value)(n:Nat):Obj:= .mk (ht t) none (hq (ha l) n) (ha [])
noncomputable abbrev dr(a b:String)(p:Arguments)(s:List Stmt)(c:Scope)(g:Addr)(m r:Value)(n:Nat):Obj:= .mk (ht "function") none (hF (Bn (aaQ a) (aaQ b) p (Bo s) c g [] hn hn hn m none r hn n)) (ha [])
noncomputable abbrev cR(a b:String)(p:Arguments)(s:List Stmt)(c:Scope)(g:Addr)(n:Nat):Obj:= .mk hn none (hF (Bn (aaQ a) (aaQ b) p (Bo s) c g [] hn hn hn hn none hn hn n)) (ha [])
noncomputable abbrev aS(t:String)(l:List Value):Obj:= .mk (ht t) none (hf (ha l)) (ha [])
noncomputable abbrev bL(l:List Value):Obj:= .mk hn none (hf (ha l)) (ha [])
noncomputable abbrev gt(t:String)(l:List DictEntry)(n:Nat):Obj:= .mk (ht t) none (hd (ha l) n) (ha [])
noncomputable def Hp(P:Params):List Value:=[(hs "_law_shrunk" 1319),(hs "_law_shrunk" 1320),(hs "/claim/cut.py" 1321),(hi 604 0),(hi 5 0),(hi 0 0),(hi 0 0),(hi 3 0),(hr 766),hy,(hi 181 0),(hr 767),hn,hn,hn,(hr 768),(hi 1322 0),(hi 604 0),(hs "/claim/cut.py" 1323)]
noncomputable def Hq(P:Params):List Value:=[(hi 131 0),(hi 4 0),(hr 267),(hi 136 0),(hi 4 0),(hr 274),(hi 141 0),(hi 4 0),(hr 281),(hi 144 0),(hi 4 0),(hr 288),(hi 147 0),(hi 4 0),(hr 295),(hi 150 0),(hi 4 0),(hr 302)]
noncomputable def oe(P:Params):List DictEntry:=[(he P "__name__" 165 (hs "law_tu0009_01" 1227)),(he P "__doc__" 166 hn),(he P "__package__" 167 hn),(he P "__loader__" 168 (hb "__main__.__loader__#opaque")),(he P "__spec__" 169 hn),(he P "__annotations__" 170 (hr 6)),(he P "__builtins__" 171 (hr 4)),(he P "__file__" 173 (hs "/claim/cut.py" 172)),(he P "__cached__" 174 hn),(he P "_wall" 193 (hr 21)),(he P "TOP_SKIP" 200 (hi 7 194)),(he P "SPLIT_TOP_SKIP" 201 (hi 8 195)),(he P "TAB_SKIP" 202 (hi 9 196)),(he P "SPACE_SKIP" 203 (hi 10 197)),(he P "XSPACE_SKIP" 204 (hi 11 198)),(he P "PAR_FILL_SKIP" 205 (hi 12 199)),(he P "PageError" 235 (hr 43)),(he P "BadArgument" 251 (hr 56)),(he P "Overflow" 267 (hr 68)),(he P "BadAlign" 283 (hr 80)),(he P "TooDeep" 299 (hr 92)),(he P "UNITY" 303 (hi 65536 302)),(he P "MAX_DIMEN" 309 (hi 1073741823 308)),(he P "MAX_NUMBER" 315 (hi 2147483647 314)),(he P "INF_BAD" 317 (hi 10000 316)),(he P "NORMAL" 322 (hi 0 318)),(he P "FIL" 323 (hi 1 319)),(he P "FILL" 324 (hi 2 320)),(he P "FILLL" 325 (hi 3 321)),(he P "is_whole" 334 (hr 105)),(he P "check_whole" 341 (hr 112)),(he P "check_dimen" 348 (hr 119)),(he P "rounded" 356 (hr 126)),(he P "reading" 364 (hr 133)),(he P "decimal_text" 377 (hr 140)),(he P "times" 386 (hr 147)),(he P "times_scaled" 387 (hr 147)),(he P "over" 397 (hr 154)),(he P "over_scaled" 398 (hr 154)),(he P "badness" 407 (hr 161)),(he P "order_text" 414 (hr 168)),(he P "part_text" 423 (hr 175)),(he P "Glue" 525 (hr 243)),(he P "top_order" 533 (hr 254)),(he P "Totals" 600 (hr 306)),(he P "CHAR" 611 (hi 0 603)),(he P "LIGATURE" 612 (hi 1 604)),(he P "HBOX" 613 (hi 2 605)),(he P "VBOX" 614 (hi 3 606)),(he P "RULE" 615 (hi 4 607)),(he P "KERN" 616 (hi 5 608)),(he P "GLUE" 617 (hi 6 609)),(he P "PENALTY" 618 (hi 7 610)),(he P "DISC" 626 (hi 8 619)),(he P "MARK" 627 (hi 9 620)),(he P "INSERT" 628 (hi 10 621)),(he P "ADJUST" 629 (hi 11 622)),(he P "MATH" 630 (hi 12 623)),(he P "SPECIAL" 631 (hi 13 624)),(he P "UNSET" 632 (hi 14 625)),(he P "NATURAL" 636 (hi 0 633)),(he P "STRETCHED" 637 (hi 1 634)),(he P "SHRUNK" 638 (hi 2 635)),(he P "FONT_KERN" 643 (hi 0 639)),(he P "EXPLICIT" 644 (hi 1 640)),(he P "ACCENT_KERN" 645 (hi 2 641)),(he P "MU_KERN" 646 (hi 3 642)),(he P "PLAIN" 654 (hi 0 647)),(he P "ALEADERS" 655 (hi 1 648)),(he P "CLEADERS" 656 (hi 2 649)),(he P "XLEADERS" 657 (hi 3 650)),(he P "MU_SKIP" 658 (hi 4 651)),(he P "NONSCRIPT" 659 (hi 5 652)),(he P "NAMED" 660 (hi 100 653)),(he P "FOR_DEVICE" 665 (hi 0 661)),(he P "WRITING" 666 (hi 1 662)),(he P "OPENING" 667 (hi 2 663)),(he P "CLOSING" 668 (hi 3 664)),(he P "DEEPEST" 670 (hi 60 669)),(he P "Box" 711 (hr 351)),(he P "Rule" 746 (hr 372)),(he P "Kern" 778 (hr 393)),(he P "Skip" 812 (hr 415)),(he P "Unset" 854 (hr 437)),(he P "check_depth" 861 (hr 448)),(he P "described_special" 867 (hr 453)),(he P "described_rest" 878 (hr 460)),(he P "described" 885 (hr 466)),(he P "described_list" 892 (hr 472)),(he P "width_of" 898 (hr 477)),(he P "height_of" 904 (hr 482)),(he P "depth_of" 910 (hr 487)),(he P "line_height" 917 (hr 494)),(he P "line_depth" 924 (hr 501)),(he P "EXACTLY" 929 (hi 0 927)),(he P "SPREAD" 930 (hi 1 928)),(he P "FINE" 935 (hi 0 931)),(he P "LOOSE" 936 (hi 1 932)),(he P "TIGHT" 937 (hi 2 933)),(he P "OVERFULL" 938 (hi 3 934)),(he P "natural_line" 949 (hr 516)),(he P "across" 956 (hr 523)),(he P "check_column" 964 (hr 530)),(he P "natural_column" 975 (hr 537)),(he P "quotient" 983 (hr 544)),(he P "set_glue" 994 (hr 551)),(he P "flex" 1002 (hr 558)),(he P "set_part" 1010 (hr 565)),(he P "part_size" 1018 (hr 572)),(he P "places" 1029 (hr 579)),(he P "moved" 1039 (hr 586)),(he P "goal_size" 1048 (hr 593)),(he P "set_box" 1058 (hr 600)),(he P "hpack" 1076 (hr 608)),(he P "vpack" 1092 (hr 616)),(he P "TAB_SORT" 1096 (hi 109 1095)),(he P "along" 1103 (hr 623)),(he P "check_skips" 1112 (hr 630)),(he P "placed_cells" 1123 (hr 637)),(he P "widths" 1129 (hr 642)),(he P "empty_box" 1138 (hr 649)),(he P "tab_node" 1147 (hr 656)),(he P "prototype" 1160 (hr 663)),(he P "row_box" 1166 (hr 668)),(he P "set_cell" 1179 (hr 675)),(he P "set_row" 1196 (hr 682)),(he P "set_rule" 1206 (hr 689)),(he P "finished" 1226 (hr 696)),(he P "_law_box" 1236 (hr 703)),(he P "_law_take" 1245 (hr 710)),(he P "_law_flow" 1257 (hr 717)),(he P "_law_part" 1265 (hr 724)),(he P "_law_node" 1273 (hr 731)),(he P "_law_cell" 1279 (hr 736)),(he P "_law_rows" 1285 (hr 741)),(he P "_law_table" 1291 (hr 746)),(he P "_law_blank" 1302 (hr 753)),(he P "_law_order" 1312 (hr 760)),(he P "_law_fewer" 1318 (hr 765)),(he P "_law_shrunk" 1324 (hr 770)),(he P "law" 1330 (hr 775))]
noncomputable def Hr(P:Params):List Value:=[(hs "natural_line" 939),(hs "natural_line" 940),(hs "/claim/cut.py" 941),(hi 317 0),(hi 1 0),(hi 0 0),(hi 0 0),(hi 3 0),(hr 510),hy,(hi 181 0),(hr 511),hn,(hr 512),(hr 513),(hr 514),(hi 947 0),(hi 317 0),(hs "/claim/cut.py" 948)]
noncomputable def Hs(P:Params):List Value:=[(hs "Totals" 536),(hs "Totals" 537),(hs "/claim/cut.py" 538),(hi 129 0),(hi 0 0),(hi 0 0),(hi 0 0),(hi 0 0),(hr 258),hz,(hi 181 0),(hr 259),hn,hn,hn,hn,(hi 539 0),(hi 129 0),(hs "/claim/cut.py" 540)]
noncomputable def Ht(P:Params):List Value:=[(hs "law" 1325),(hs "law" 1326),(hs "/claim/cut.py" 1327),(hi 614 0),(hi 1 0),(hi 0 0),(hi 0 0),(hi 3 0),(hr 771),hy,(hi 181 0),(hr 772),hn,hn,hn,(hr 773),(hi 1328 0),(hi 614 0),(hs "/claim/cut.py" 1329)]
noncomputable def Hu(P:Params):List Value:=[(hs "across" 950),(hs "across" 951),(hs "/claim/cut.py" 952),(hi 328 0),(hi 1 0),(hi 0 0),(hi 0 0),(hi 3 0),(hr 517),hy,(hi 181 0),(hr 518),hn,(hr 519),(hr 520),(hr 521),(hi 954 0),(hi 328 0),(hs "/claim/cut.py" 955)]
noncomputable def Hv(P:Params):List Value:=[(hs "__init__" 546),(hs "Totals.__init__" 547),(hs "/claim/cut.py" 548),(hi 131 0),(hi 1 0),(hi 0 0),(hi 0 0),(hi 3 0),(hr 262),hy,(hi 181 0),(hr 263),hn,(hr 264),(hr 265),(hr 266),(hi 550 0),(hi 131 0),(hs "/claim/cut.py" 551)]
noncomputable def lr(P:Params):List Value:=[(hi 1 0),(hi 0 0),(hr 20),(hi 6 0),(hi 0 0),(hr 31),(hi 10 0),(hi 0 0),(hr 52),(hi 12 0),(hi 0 0),(hr 64),(hi 14 0),(hi 0 0),(hr 76),(hi 16 0),(hi 0 0),(hr 88),(hi 24 0),(hi 0 0),(hr 104),(hi 26 0),(hi 0 0),(hr 111),(hi 30 0),(hi 0 0),(hr 118),(hi 34 0),(hi 0 0),(hr 125),(hi 40 0),(hi 0 0),(hr 132),(hi 42 0),(hi 0 0),(hr 139),(hi 53 0),(hi 0 0),(hr 146),(hi 56 0),(hi 0 0),(hr 153),(hi 66 0),(hi 0 0),(hr 160),(hi 82 0),(hi 0 0),(hr 167),(hi 84 0),(hi 0 0),(hr 174),(hi 86 0),(hi 0 0),(hr 181),(hi 124 0),(hi 0 0),(hr 253),(hi 129 0),(hi 0 0),(hr 260),(hi 160 0),(hi 0 0),(hr 340),(hi 174 0),(hi 0 0),(hr 361),(hi 184 0),(hi 0 0),(hr 382),(hi 192 0),(hi 0 0),(hr 403),(hi 205 0),(hi 0 0),(hr 425),(hi 218 0),(hi 0 0),(hr 447),(hi 221 0),(hi 0 0),(hr 452),(hi 227 0),(hi 0 0),(hr 459),(hi 242 0),(hi 0 0),(hr 465),(hi 265 0),(hi 0 0),(hr 471),(hi 267 0),(hi 0 0),(hr 476),(hi 280 0),(hi 0 0),(hr 481),(hi 293 0),(hi 0 0),(hr 486),(hi 306 0),(hi 0 0),(hr 493),(hi 310 0),(hi 0 0),(hr 500),(hi 317 0),(hi 0 0),(hr 515),(hi 328 0),(hi 0 0),(hr 522),(hi 334 0),(hi 0 0),(hr 529),(hi 338 0),(hi 0 0),(hr 536),(hi 355 0),(hi 0 0),(hr 543),(hi 357 0),(hi 0 0),(hr 550),(hi 372 0),(hi 0 0),(hr 557),(hi 378 0),(hi 0 0),(hr 564),(hi 380 0),(hi 0 0),(hr 571),(hi 384 0),(hi 0 0),(hr 578),(hi 397 0),(hi 0 0),(hr 585),(hi 407 0),(hi 0 0),(hr 592),(hi 412 0),(hi 0 0),(hr 599),(hi 415 0),(hi 0 0),(hr 607),(hi 423 0),(hi 0 0),(hr 615),(hi 434 0),(hi 0 0),(hr 622),(hi 436 0),(hi 0 0),(hr 629),(hi 442 0),(hi 0 0),(hr 636),(hi 452 0),(hi 0 0),(hr 641),(hi 467 0),(hi 0 0),(hr 648),(hi 470 0),(hi 0 0),(hr 655),(hi 472 0),(hi 0 0),(hr 662),(hi 479 0),(hi 0 0),(hr 667),(hi 490 0),(hi 0 0),(hr 674),(hi 498 0),(hi 0 0),(hr 681),(hi 509 0),(hi 0 0),(hr 688),(hi 513 0),(hi 0 0),(hr 695),(hi 530 0),(hi 0 0),(hr 702),(hi 532 0),(hi 0 0),(hr 709),(hi 539 0),(hi 0 0),(hr 716),(hi 543 0),(hi 0 0),(hr 723),(hi 550 0),(hi 0 0),(hr 730),(hi 558 0),(hi 0 0),(hr 735),(hi 566 0),(hi 0 0),(hr 740),(hi 580 0),(hi 0 0),(hr 745),(hi 590 0),(hi 0 0),(hr 752),(hi 597 0),(hi 0 0),(hr 759),(hi 602 0),(hi 0 0),(hr 764),(hi 604 0),(hi 0 0),(hr 769),(hi 614 0),(hi 0 0),(hr 774)]
noncomputable def KO(P:Params):List Value:=[(hs "<module>" 182),(hs "<module>" 183),(hs "/claim/cut.py" 184),(hi 1 0),(hi 0 0),(hi 0 0),(hi 0 0),(hi 0 0),(hr 11),hz,(hi 181 0),(hr 12),hn,hn,hn,hn,(hi 185 0),(hi 1 0),(hs "/claim/cut.py" 186)]
noncomputable def Hw(P:Params):List Value:=[(hs "check_column" 957),(hs "check_column" 958),(hs "/claim/cut.py" 959),(hi 334 0),(hi 1 0),(hi 0 0),(hi 0 0),(hi 3 0),(hr 524),hy,(hi 181 0),(hr 525),hn,(hr 526),(hr 527),(hr 528),(hi 962 0),(hi 334 0),(hs "/claim/cut.py" 963)]
noncomputable def Hx(P:Params):List Value:=[(hs "add" 553),(hs "Totals.add" 554),(hs "/claim/cut.py" 555),(hi 136 0),(hi 2 0),(hi 0 0),(hi 0 0),(hi 3 0),(hr 269),hy,(hi 181 0),(hr 270),hn,(hr 271),(hr 272),(hr 273),(hi 558 0),(hi 136 0),(hs "/claim/cut.py" 559)]
noncomputable def KP(P:Params):List Value:=[(hs "_wall" 187),(hs "_wall" 188),(hs "/claim/cut.py" 189),(hi 1 0),(hi 1 0),(hi 0 0),(hi 0 0),(hi 3 0),(hr 15),hy,(hi 181 0),(hr 16),hn,(hr 17),(hr 18),(hr 19),(hi 191 0),(hi 1 0),(hs "/claim/cut.py" 192)]
noncomputable def Hy(P:Params):List Value:=[(hs "natural_column" 965),(hs "natural_column" 966),(hs "/claim/cut.py" 967),(hi 338 0),(hi 1 0),(hi 0 0),(hi 0 0),(hi 3 0),(hr 531),hy,(hi 181 0),(hr 532),hn,(hr 533),(hr 534),(hr 535),(hi 973 0),(hi 338 0),(hs "/claim/cut.py" 974)]
noncomputable def Hz(P:Params):List Value:=[(hs "widen" 561),(hs "Totals.widen" 562),(hs "/claim/cut.py" 563),(hi 141 0),(hi 2 0),(hi 0 0),(hi 0 0),(hi 3 0),(hr 276),hy,(hi 181 0),(hr 277),hn,(hr 278),(hr 279),(hr 280),(hi 566 0),(hi 141 0),(hs "/claim/cut.py" 567)]
noncomputable def KQ(P:Params):List Value:=[(hs "PageError" 210),(hs "PageError" 211),(hs "/claim/cut.py" 212),(hi 6 0),(hi 0 0),(hi 0 0),(hi 0 0),(hi 0 0),(hr 29),hz,(hi 181 0),(hr 30),hn,hn,hn,hn,(hi 213 0),(hi 6 0),(hs "/claim/cut.py" 214)]
noncomputable def HA(P:Params):List Value:=[(hs "quotient" 976),(hs "quotient" 977),(hs "/claim/cut.py" 978),(hi 355 0),(hi 2 0),(hi 0 0),(hi 0 0),(hi 3 0),(hr 538),hy,(hi 181 0),(hr 539),hn,(hr 540),(hr 541),(hr 542),(hi 981 0),(hi 355 0),(hs "/claim/cut.py" 982)]
noncomputable def HB(P:Params):List Value:=[(hs "stretch_top" 569),(hs "Totals.stretch_top" 570),(hs "/claim/cut.py" 571),(hi 144 0),(hi 1 0),(hi 0 0),(hi 0 0),(hi 3 0),(hr 283),hy,(hi 181 0),(hr 284),hn,(hr 285),(hr 286),(hr 287),(hi 573 0),(hi 144 0),(hs "/claim/cut.py" 574)]
noncomputable def HC(P:Params):List Value:=[(hs "set_glue" 984),(hs "set_glue" 985),(hs "/claim/cut.py" 986),(hi 357 0),(hi 2 0),(hi 0 0),(hi 0 0),(hi 3 0),(hr 545),hy,(hi 181 0),(hr 546),hn,(hr 547),(hr 548),(hr 549),(hi 992 0),(hi 357 0),(hs "/claim/cut.py" 993)]
noncomputable def HD(P:Params):List Value:=[(hs "shrink_top" 576),(hs "Totals.shrink_top" 577),(hs "/claim/cut.py" 578),(hi 147 0),(hi 1 0),(hi 0 0),(hi 0 0),(hi 3 0),(hr 290),hy,(hi 181 0),(hr 291),hn,(hr 292),(hr 293),(hr 294),(hi 580 0),(hi 147 0),(hs "/claim/cut.py" 581)]
noncomputable def KR(P:Params):List Value:=[(hs "__init__" 221),(hs "PageError.__init__" 222),(hs "/claim/cut.py" 223),(hi 8 0),(hi 2 0),(hi 0 0),(hi 0 0),(hi 3 0),(hr 34),hy,(hi 181 0),(hr 35),hn,(hr 36),(hr 37),(hr 38),(hi 226 0),(hi 8 0),(hs "/claim/cut.py" 227)]
noncomputable def HE(P:Params):List Value:=[(hs "flex" 995),(hs "flex" 996),(hs "/claim/cut.py" 997),(hi 372 0),(hi 2 0),(hi 0 0),(hi 0 0),(hi 3 0),(hr 552),hy,(hi 181 0),(hr 553),hn,(hr 554),(hr 555),(hr 556),(hi 1000 0),(hi 372 0),(hs "/claim/cut.py" 1001)]
noncomputable def HF(P:Params):List Value:=[(hs "copy" 583),(hs "Totals.copy" 584),(hs "/claim/cut.py" 585),(hi 150 0),(hi 1 0),(hi 0 0),(hi 0 0),(hi 3 0),(hr 297),hy,(hi 181 0),(hr 298),hn,(hr 299),(hr 300),(hr 301),(hi 587 0),(hi 150 0),(hs "/claim/cut.py" 588)]
noncomputable def KS(P:Params):List Value:=[(hs "BadArgument" 238),(hs "BadArgument" 239),(hs "/claim/cut.py" 240),(hi 10 0),(hi 0 0),(hi 0 0),(hi 0 0),(hi 0 0),(hr 50),hz,(hi 181 0),(hr 51),hn,hn,hn,hn,(hi 241 0),(hi 10 0),(hs "/claim/cut.py" 242)]
noncomputable def HG(P:Params):List Value:=[(hs "set_part" 1003),(hs "set_part" 1004),(hs "/claim/cut.py" 1005),(hi 378 0),(hi 2 0),(hi 0 0),(hi 0 0),(hi 3 0),(hr 559),hy,(hi 181 0),(hr 560),hn,(hr 561),(hr 562),(hr 563),(hi 1008 0),(hi 378 0),(hs "/claim/cut.py" 1009)]
noncomputable def HH(P:Params):List Value:=[(hs "part_size" 1011),(hs "part_size" 1012),(hs "/claim/cut.py" 1013),(hi 380 0),(hi 2 0),(hi 0 0),(hi 0 0),(hi 3 0),(hr 566),hy,(hi 181 0),(hr 567),hn,(hr 568),(hr 569),(hr 570),(hi 1016 0),(hi 380 0),(hs "/claim/cut.py" 1017)]
noncomputable def KT(P:Params):List Value:=[(hs "Overflow" 254),(hs "Overflow" 255),(hs "/claim/cut.py" 256),(hi 12 0),(hi 0 0),(hi 0 0),(hi 0 0),(hi 0 0),(hr 62),hz,(hi 181 0),(hr 63),hn,hn,hn,hn,(hi 257 0),(hi 12 0),(hs "/claim/cut.py" 258)]
noncomputable def HI(P:Params):List Value:=[(hs "places" 1019),(hs "places" 1020),(hs "/claim/cut.py" 1021),(hi 384 0),(hi 1 0),(hi 0 0),(hi 0 0),(hi 3 0),(hr 573),hy,(hi 181 0),(hr 574),hn,(hr 575),(hr 576),(hr 577),(hi 1027 0),(hi 384 0),(hs "/claim/cut.py" 1028)]
noncomputable def HJ(P:Params):List Value:=[(hs "moved" 1030),(hs "moved" 1031),(hs "/claim/cut.py" 1032),(hi 397 0),(hi 1 0),(hi 0 0),(hi 0 0),(hi 3 0),(hr 580),hy,(hi 181 0),(hr 581),hn,(hr 582),(hr 583),(hr 584),(hi 1037 0),(hi 397 0),(hs "/claim/cut.py" 1038)]
noncomputable def KU(P:Params):List Value:=[(hs "BadAlign" 270),(hs "BadAlign" 271),(hs "/claim/cut.py" 272),(hi 14 0),(hi 0 0),(hi 0 0),(hi 0 0),(hi 0 0),(hr 74),hz,(hi 181 0),(hr 75),hn,hn,hn,hn,(hi 273 0),(hi 14 0),(hs "/claim/cut.py" 274)]
noncomputable def HK(P:Params):List Value:=[(hs "goal_size" 1040),(hs "goal_size" 1041),(hs "/claim/cut.py" 1042),(hi 407 0),(hi 3 0),(hi 0 0),(hi 0 0),(hi 3 0),(hr 587),hy,(hi 181 0),(hr 588),hn,(hr 589),(hr 590),(hr 591),(hi 1046 0),(hi 407 0),(hs "/claim/cut.py" 1047)]
noncomputable def HL(P:Params):List Value:=[(hs "Box" 673),(hs "Box" 674),(hs "/claim/cut.py" 675),(hi 160 0),(hi 0 0),(hi 0 0),(hi 0 0),(hi 0 0),(hr 338),hz,(hi 181 0),(hr 339),hn,hn,hn,hn,(hi 676 0),(hi 160 0),(hs "/claim/cut.py" 677)]
noncomputable def HM(P:Params):List Value:=[(hs "set_box" 1049),(hs "set_box" 1050),(hs "/claim/cut.py" 1051),(hi 412 0),(hi 3 0),(hi 0 0),(hi 0 0),(hi 3 0),(hr 594),hy,(hi 181 0),(hr 595),hn,(hr 596),(hr 597),(hr 598),(hi 1056 0),(hi 412 0),(hs "/claim/cut.py" 1057)]
noncomputable def KV(P:Params):List Value:=[(hs "TooDeep" 286),(hs "TooDeep" 287),(hs "/claim/cut.py" 288),(hi 16 0),(hi 0 0),(hi 0 0),(hi 0 0),(hi 0 0),(hr 86),hz,(hi 181 0),(hr 87),hn,hn,hn,hn,(hi 289 0),(hi 16 0),(hs "/claim/cut.py" 290)]
noncomputable def HN(P:Params):List Value:=[(hs "__init__" 683),(hs "Box.__init__" 684),(hs "/claim/cut.py" 685),(hi 162 0),(hi 6 0),(hi 0 0),(hi 0 0),(hi 3 0),(hr 342),hy,(hi 181 0),(hr 343),hn,(hr 344),(hr 345),(hr 346),(hi 692 0),(hi 162 0),(hs "/claim/cut.py" 693)]
noncomputable def HO(P:Params):List Value:=[(hs "hpack" 1060),(hs "hpack" 1061),(hs "/claim/cut.py" 1062),(hi 415 0),(hi 4 0),(hi 0 0),(hi 0 0),(hi 3 0),(hr 602),hy,(hi 181 0),(hr 603),hn,(hr 604),(hr 605),(hr 606),(hi 1074 0),(hi 415 0),(hs "/claim/cut.py" 1075)]
noncomputable def HQ(P:Params):List Value:=[(hs "vpack" 1078),(hs "vpack" 1079),(hs "/claim/cut.py" 1080),(hi 423 0),(hi 4 0),(hi 0 0),(hi 0 0),(hi 3 0),(hr 610),hy,(hi 181 0),(hr 611),hn,(hr 612),(hr 613),(hr 614),(hi 1090 0),(hi 423 0),(hs "/claim/cut.py" 1091)]
noncomputable def HR(P:Params):List Value:=[(hs "is_whole" 326),(hs "is_whole" 327),(hs "/claim/cut.py" 328),(hi 24 0),(hi 3 0),(hi 0 0),(hi 0 0),(hi 3 0),(hr 99),hy,(hi 181 0),(hr 100),hn,(hr 101),(hr 102),(hr 103),(hi 332 0),(hi 24 0),(hs "/claim/cut.py" 333)]
noncomputable def HS(P:Params):List Value:=[(hs "Rule" 714),(hs "Rule" 715),(hs "/claim/cut.py" 716),(hi 174 0),(hi 0 0),(hi 0 0),(hi 0 0),(hi 0 0),(hr 359),hz,(hi 181 0),(hr 360),hn,hn,hn,hn,(hi 717 0),(hi 174 0),(hs "/claim/cut.py" 718)]
noncomputable def HU(P:Params):List Value:=[(hs "along" 1097),(hs "along" 1098),(hs "/claim/cut.py" 1099),(hi 434 0),(hi 1 0),(hi 0 0),(hi 0 0),(hi 3 0),(hr 617),hy,(hi 181 0),(hr 618),hn,(hr 619),(hr 620),(hr 621),(hi 1101 0),(hi 434 0),(hs "/claim/cut.py" 1102)]
noncomputable def HV(P:Params):List Value:=[(hs "check_whole" 335),(hs "check_whole" 336),(hs "/claim/cut.py" 337),(hi 26 0),(hi 1 0),(hi 0 0),(hi 0 0),(hi 3 0),(hr 106),hy,(hi 181 0),(hr 107),hn,(hr 108),(hr 109),(hr 110),(hi 339 0),(hi 26 0),(hs "/claim/cut.py" 340)]
noncomputable def HW(P:Params):List Value:=[(hs "__init__" 725),(hs "Rule.__init__" 726),(hs "/claim/cut.py" 727),(hi 177 0),(hi 4 0),(hi 0 0),(hi 0 0),(hi 3 0),(hr 363),hy,(hi 181 0),(hr 364),hn,(hr 365),(hr 366),(hr 367),(hi 733 0),(hi 177 0),(hs "/claim/cut.py" 734)]
noncomputable def HX(P:Params):List Value:=[(hs "check_skips" 1104),(hs "check_skips" 1105),(hs "/claim/cut.py" 1106),(hi 436 0),(hi 2 0),(hi 0 0),(hi 0 0),(hi 3 0),(hr 624),hy,(hi 181 0),(hr 625),hn,(hr 626),(hr 627),(hr 628),(hi 1110 0),(hi 436 0),(hs "/claim/cut.py" 1111)]
noncomputable def HY(P:Params):List Value:=[(hs "check_dimen" 342),(hs "check_dimen" 343),(hs "/claim/cut.py" 344),(hi 30 0),(hi 1 0),(hi 0 0),(hi 0 0),(hi 3 0),(hr 113),hy,(hi 181 0),(hr 114),hn,(hr 115),(hr 116),(hr 117),(hi 346 0),(hi 30 0),(hs "/claim/cut.py" 347)]
noncomputable def HZ(P:Params):List Value:=[(hs "placed_cells" 1113),(hs "placed_cells" 1114),(hs "/claim/cut.py" 1115),(hi 442 0),(hi 2 0),(hi 0 0),(hi 0 0),(hi 3 0),(hr 631),hy,(hi 181 0),(hr 632),hn,(hr 633),(hr 634),(hr 635),(hi 1121 0),(hi 442 0),(hs "/claim/cut.py" 1122)]
noncomputable def H0(P:Params):List Value:=[(hs "rounded" 349),(hs "rounded" 350),(hs "/claim/cut.py" 351),(hi 34 0),(hi 2 0),(hi 0 0),(hi 0 0),(hi 3 0),(hr 120),hy,(hi 181 0),(hr 121),hn,(hr 122),(hr 123),(hr 124),(hi 354 0),(hi 34 0),(hs "/claim/cut.py" 355)]
noncomputable def H1(P:Params):List Value:=[(hs "Kern" 749),(hs "Kern" 750),(hs "/claim/cut.py" 751),(hi 184 0),(hi 0 0),(hi 0 0),(hi 0 0),(hi 0 0),(hr 380),hz,(hi 181 0),(hr 381),hn,hn,hn,hn,(hi 752 0),(hi 184 0),(hs "/claim/cut.py" 753)]
noncomputable def H2(P:Params):List Value:=[(hs "widths" 1124),(hs "widths" 1125),(hs "/claim/cut.py" 1126),(hi 452 0),(hi 3 0),(hi 0 0),(hi 0 0),(hi 3 0),(hr 638),hy,(hi 181 0),(hr 639),hn,hn,hn,(hr 640),(hi 1127 0),(hi 452 0),(hs "/claim/cut.py" 1128)]
noncomputable def H3(P:Params):List Value:=[(hs "reading" 357),(hs "reading" 358),(hs "/claim/cut.py" 359),(hi 40 0),(hi 2 0),(hi 0 0),(hi 0 0),(hi 3 0),(hr 127),hy,(hi 181 0),(hr 128),hn,(hr 129),(hr 130),(hr 131),(hi 362 0),(hi 40 0),(hs "/claim/cut.py" 363)]
noncomputable def H4(P:Params):List Value:=[(hs "__init__" 760),(hs "Kern.__init__" 761),(hs "/claim/cut.py" 762),(hi 187 0),(hi 3 0),(hi 0 0),(hi 0 0),(hi 3 0),(hr 384),hy,(hi 181 0),(hr 385),hn,(hr 386),(hr 387),(hr 388),(hi 766 0),(hi 187 0),(hs "/claim/cut.py" 767)]
noncomputable def H5(P:Params):List Value:=[(hs "empty_box" 1130),(hs "empty_box" 1131),(hs "/claim/cut.py" 1132),(hi 467 0),(hi 2 0),(hi 0 0),(hi 0 0),(hi 3 0),(hr 643),hy,(hi 181 0),(hr 644),hn,(hr 645),(hr 646),(hr 647),(hi 1136 0),(hi 467 0),(hs "/claim/cut.py" 1137)]
noncomputable def H6(P:Params):List Value:=[(hs "decimal_text" 365),(hs "decimal_text" 366),(hs "/claim/cut.py" 367),(hi 42 0),(hi 1 0),(hi 0 0),(hi 0 0),(hi 3 0),(hr 134),hy,(hi 181 0),(hr 135),hn,(hr 136),(hr 137),(hr 138),(hi 375 0),(hi 42 0),(hs "/claim/cut.py" 376)]
noncomputable def H7(P:Params):List Value:=[(hs "tab_node" 1139),(hs "tab_node" 1140),(hs "/claim/cut.py" 1141),(hi 470 0),(hi 3 0),(hi 0 0),(hi 0 0),(hi 3 0),(hr 650),hy,(hi 181 0),(hr 651),hn,(hr 652),(hr 653),(hr 654),(hi 1145 0),(hi 470 0),(hs "/claim/cut.py" 1146)]
noncomputable def H8(P:Params):List Value:=[(hs "times" 378),(hs "times" 379),(hs "/claim/cut.py" 380),(hi 53 0),(hi 3 0),(hi 0 0),(hi 0 0),(hi 3 0),(hr 141),hy,(hi 181 0),(hr 142),hn,(hr 143),(hr 144),(hr 145),(hi 384 0),(hi 53 0),(hs "/claim/cut.py" 385)]
noncomputable def H9(P:Params):List Value:=[(hs "Skip" 781),(hs "Skip" 782),(hs "/claim/cut.py" 783),(hi 192 0),(hi 0 0),(hi 0 0),(hi 0 0),(hi 0 0),(hr 401),hz,(hi 181 0),(hr 402),hn,hn,hn,hn,(hi 784 0),(hi 192 0),(hs "/claim/cut.py" 785)]
noncomputable def Ia(P:Params):List Value:=[(hs "prototype" 1148),(hs "prototype" 1149),(hs "/claim/cut.py" 1150),(hi 472 0),(hi 5 0),(hi 0 0),(hi 0 0),(hi 3 0),(hr 657),hy,(hi 181 0),(hr 658),hn,(hr 659),(hr 660),(hr 661),(hi 1158 0),(hi 472 0),(hs "/claim/cut.py" 1159)]
noncomputable def Ib(P:Params):List Value:=[(hs "over" 388),(hs "over" 389),(hs "/claim/cut.py" 390),(hi 56 0),(hi 2 0),(hi 0 0),(hi 0 0),(hi 3 0),(hr 148),hy,(hi 181 0),(hr 149),hn,(hr 150),(hr 151),(hr 152),(hi 395 0),(hi 56 0),(hs "/claim/cut.py" 396)]
noncomputable def Ic(P:Params):List Value:=[(hs "__init__" 792),(hs "Skip.__init__" 793),(hs "/claim/cut.py" 794),(hi 195 0),(hi 4 0),(hi 0 0),(hi 0 0),(hi 3 0),(hr 406),hy,(hi 181 0),(hr 407),hn,(hr 408),(hr 409),(hr 410),(hi 799 0),(hi 195 0),(hs "/claim/cut.py" 800)]
noncomputable def Id(P:Params):List Value:=[(hs "row_box" 1161),(hs "row_box" 1162),(hs "/claim/cut.py" 1163),(hi 479 0),(hi 3 0),(hi 0 0),(hi 0 0),(hi 3 0),(hr 664),hy,(hi 181 0),(hr 665),hn,hn,hn,(hr 666),(hi 1164 0),(hi 479 0),(hs "/claim/cut.py" 1165)]
noncomputable def Ie(P:Params):List Value:=[(hs "badness" 399),(hs "badness" 400),(hs "/claim/cut.py" 401),(hi 66 0),(hi 2 0),(hi 0 0),(hi 0 0),(hi 3 0),(hr 155),hy,(hi 181 0),(hr 156),hn,(hr 157),(hr 158),(hr 159),(hi 405 0),(hi 66 0),(hs "/claim/cut.py" 406)]
noncomputable def Ig(P:Params):List Value:=[(hs "set_cell" 1167),(hs "set_cell" 1168),(hs "/claim/cut.py" 1169),(hi 490 0),(hi 4 0),(hi 0 0),(hi 0 0),(hi 3 0),(hr 669),hy,(hi 181 0),(hr 670),hn,(hr 671),(hr 672),(hr 673),(hi 1177 0),(hi 490 0),(hs "/claim/cut.py" 1178)]
noncomputable def Ih(P:Params):List Value:=[(hs "order_text" 408),(hs "order_text" 409),(hs "/claim/cut.py" 410),(hi 82 0),(hi 1 0),(hi 0 0),(hi 0 0),(hi 3 0),(hr 162),hy,(hi 181 0),(hr 163),hn,(hr 164),(hr 165),(hr 166),(hi 412 0),(hi 82 0),(hs "/claim/cut.py" 413)]
noncomputable def Ii(P:Params):List Value:=[(hs "Unset" 815),(hs "Unset" 816),(hs "/claim/cut.py" 817),(hi 205 0),(hi 0 0),(hi 0 0),(hi 0 0),(hi 0 0),(hr 423),hz,(hi 181 0),(hr 424),hn,hn,hn,hn,(hi 818 0),(hi 205 0),(hs "/claim/cut.py" 819)]
noncomputable def Ij(P:Params):List Value:=[(hs "set_row" 1180),(hs "set_row" 1181),(hs "/claim/cut.py" 1182),(hi 498 0),(hi 6 0),(hi 0 0),(hi 0 0),(hi 3 0),(hr 676),hy,(hi 181 0),(hr 677),hn,(hr 678),(hr 679),(hr 680),(hi 1194 0),(hi 498 0),(hs "/claim/cut.py" 1195)]
noncomputable def Ik(P:Params):List Value:=[(hs "part_text" 415),(hs "part_text" 416),(hs "/claim/cut.py" 417),(hi 84 0),(hi 3 0),(hi 0 0),(hi 0 0),(hi 3 0),(hr 169),hy,(hi 181 0),(hr 170),hn,(hr 171),(hr 172),(hr 173),(hi 421 0),(hi 84 0),(hs "/claim/cut.py" 422)]
noncomputable def Il(P:Params):List Value:=[(hs "set_rule" 1197),(hs "set_rule" 1198),(hs "/claim/cut.py" 1199),(hi 509 0),(hi 2 0),(hi 0 0),(hi 0 0),(hi 3 0),(hr 683),hy,(hi 181 0),(hr 684),hn,(hr 685),(hr 686),(hr 687),(hi 1204 0),(hi 509 0),(hs "/claim/cut.py" 1205)]
noncomputable def Im(P:Params):List Value:=[(hs "__init__" 826),(hs "Unset.__init__" 827),(hs "/claim/cut.py" 828),(hi 208 0),(hi 8 0),(hi 0 0),(hi 0 0),(hi 3 0),(hr 428),hy,(hi 181 0),(hr 429),hn,(hr 430),(hr 431),(hr 432),(hi 837 0),(hi 208 0),(hs "/claim/cut.py" 838)]
noncomputable def Io(P:Params):List Value:=[(hi 88 0),(hi 4 0),(hr 189),(hi 97 0),(hi 4 0),(hr 196),(hi 100 0),(hi 4 0),(hr 203),(hi 103 0),(hi 4 0),(hr 210),(hi 106 0),(hi 4 0),(hr 217),(hi 110 0),(hi 4 0),(hr 224),(hi 114 0),(hi 4 0),(hr 231),(hi 117 0),(hi 4 0),(hr 239)]
noncomputable def Ip(P:Params):List Value:=[(hs "Glue" 426),(hs "Glue" 427),(hs "/claim/cut.py" 428),(hi 86 0),(hi 0 0),(hi 0 0),(hi 0 0),(hi 0 0),(hr 179),hz,(hi 181 0),(hr 180),hn,hn,hn,hn,(hi 429 0),(hi 86 0),(hs "/claim/cut.py" 430)]
noncomputable def Iq(P:Params):List Value:=[(hs "finished" 1207),(hs "finished" 1208),(hs "/claim/cut.py" 1209),(hi 513 0),(hi 6 0),(hi 0 0),(hi 0 0),(hi 3 0),(hr 690),hy,(hi 181 0),(hr 691),hn,(hr 692),(hr 693),(hr 694),(hi 1224 0),(hi 513 0),(hs "/claim/cut.py" 1225)]
noncomputable def Ir(P:Params):List Value:=[(hs "__init__" 441),(hs "Glue.__init__" 442),(hs "/claim/cut.py" 443),(hi 88 0),(hi 6 0),(hi 0 0),(hi 0 0),(hi 3 0),(hr 184),hy,(hi 181 0),(hr 185),hn,(hr 186),(hr 187),(hr 188),(hi 450 0),(hi 88 0),(hs "/claim/cut.py" 451)]
noncomputable def It(P:Params):List Value:=[(hs "_law_box" 1229),(hs "_law_box" 1230),(hs "/claim/cut.py" 1231),(hi 530 0),(hi 2 0),(hi 0 0),(hi 0 0),(hi 3 0),(hr 697),hy,(hi 181 0),(hr 698),hn,(hr 699),(hr 700),(hr 701),(hi 1234 0),(hi 530 0),(hs "/claim/cut.py" 1235)]
noncomputable def Iu(P:Params):List Value:=[(hs "check_depth" 855),(hs "check_depth" 856),(hs "/claim/cut.py" 857),(hi 218 0),(hi 1 0),(hi 0 0),(hi 0 0),(hi 3 0),(hr 442),hy,(hi 181 0),(hr 443),hn,(hr 444),(hr 445),(hr 446),(hi 859 0),(hi 218 0),(hs "/claim/cut.py" 860)]
noncomputable def Iv(P:Params):List Value:=[(hs "parts" 453),(hs "Glue.parts" 454),(hs "/claim/cut.py" 455),(hi 97 0),(hi 1 0),(hi 0 0),(hi 0 0),(hi 3 0),(hr 191),hy,(hi 181 0),(hr 192),hn,(hr 193),(hr 194),(hr 195),(hi 457 0),(hi 97 0),(hs "/claim/cut.py" 458)]
noncomputable def Iw(P:Params):List Value:=[(hs "described_special" 862),(hs "described_special" 863),(hs "/claim/cut.py" 864),(hi 221 0),(hi 1 0),(hi 0 0),(hi 0 0),(hi 3 0),(hr 449),hy,(hi 181 0),(hr 450),hn,hn,hn,(hr 451),(hi 865 0),(hi 221 0),(hs "/claim/cut.py" 866)]
noncomputable def Ix(P:Params):List Value:=[(hs "_law_take" 1237),(hs "_law_take" 1238),(hs "/claim/cut.py" 1239),(hi 532 0),(hi 2 0),(hi 0 0),(hi 0 0),(hi 3 0),(hr 704),hy,(hi 181 0),(hr 705),hn,(hr 706),(hr 707),(hr 708),(hi 1243 0),(hi 532 0),(hs "/claim/cut.py" 1244)]
noncomputable def Iy(P:Params):List Value:=[(hs "same" 460),(hs "Glue.same" 461),(hs "/claim/cut.py" 462),(hi 100 0),(hi 2 0),(hi 0 0),(hi 0 0),(hi 3 0),(hr 198),hy,(hi 181 0),(hr 199),hn,(hr 200),(hr 201),(hr 202),(hi 465 0),(hi 100 0),(hs "/claim/cut.py" 466)]
noncomputable def Iz(P:Params):List Value:=[(hs "described_rest" 868),(hs "described_rest" 869),(hs "/claim/cut.py" 870),(hi 227 0),(hi 2 0),(hi 0 0),(hi 0 0),(hi 3 0),(hr 454),hy,(hi 181 0),(hr 455),hn,(hr 456),(hr 457),(hr 458),(hi 876 0),(hi 227 0),(hs "/claim/cut.py" 877)]
noncomputable def IA(P:Params):List Value:=[(hs "_law_flow" 1246),(hs "_law_flow" 1247),(hs "/claim/cut.py" 1248),(hi 539 0),(hi 1 0),(hi 0 0),(hi 0 0),(hi 3 0),(hr 711),hy,(hi 181 0),(hr 712),hn,(hr 713),(hr 714),(hr 715),(hi 1255 0),(hi 539 0),(hs "/claim/cut.py" 1256)]
noncomputable def IB(P:Params):List Value:=[(hs "described" 880),(hs "described" 881),(hs "/claim/cut.py" 882),(hi 242 0),(hi 2 0),(hi 0 0),(hi 0 0),(hi 3 0),(hr 462),hy,(hi 181 0),(hr 463),hn,hn,hn,(hr 464),(hi 883 0),(hi 242 0),(hs "/claim/cut.py" 884)]
noncomputable def IC(P:Params):List Value:=[(hs "added" 468),(hs "Glue.added" 469),(hs "/claim/cut.py" 470),(hi 103 0),(hi 2 0),(hi 0 0),(hi 0 0),(hi 3 0),(hr 205),hy,(hi 181 0),(hr 206),hn,(hr 207),(hr 208),(hr 209),(hi 473 0),(hi 103 0),(hs "/claim/cut.py" 474)]
noncomputable def ID(P:Params):List Value:=[(hs "_law_part" 1258),(hs "_law_part" 1259),(hs "/claim/cut.py" 1260),(hi 543 0),(hi 1 0),(hi 0 0),(hi 0 0),(hi 3 0),(hr 718),hy,(hi 181 0),(hr 719),hn,(hr 720),(hr 721),(hr 722),(hi 1263 0),(hi 543 0),(hs "/claim/cut.py" 1264)]
noncomputable def IE(P:Params):List Value:=[(hs "described_list" 887),(hs "described_list" 888),(hs "/claim/cut.py" 889),(hi 265 0),(hi 2 0),(hi 0 0),(hi 0 0),(hi 3 0),(hr 468),hy,(hi 181 0),(hr 469),hn,hn,hn,(hr 470),(hi 890 0),(hi 265 0),(hs "/claim/cut.py" 891)]
noncomputable def IF(P:Params):List Value:=[(hs "times" 476),(hs "Glue.times" 477),(hs "/claim/cut.py" 478),(hi 106 0),(hi 2 0),(hi 0 0),(hi 0 0),(hi 3 0),(hr 212),hy,(hi 181 0),(hr 213),hn,(hr 214),(hr 215),(hr 216),(hi 483 0),(hi 106 0),(hs "/claim/cut.py" 484)]
noncomputable def IG(P:Params):List Value:=[(hs "_law_node" 1266),(hs "_law_node" 1267),(hs "/claim/cut.py" 1268),(hi 550 0),(hi 1 0),(hi 0 0),(hi 0 0),(hi 3 0),(hr 725),hy,(hi 181 0),(hr 726),hn,(hr 727),(hr 728),(hr 729),(hi 1271 0),(hi 550 0),(hs "/claim/cut.py" 1272)]
noncomputable def IH(P:Params):List Value:=[(hs "width_of" 893),(hs "width_of" 894),(hs "/claim/cut.py" 895),(hi 267 0),(hi 1 0),(hi 0 0),(hi 0 0),(hi 3 0),(hr 473),hy,(hi 181 0),(hr 474),hn,hn,hn,(hr 475),(hi 896 0),(hi 267 0),(hs "/claim/cut.py" 897)]
noncomputable def II(P:Params):List Value:=[(hs "_law_cell" 1274),(hs "_law_cell" 1275),(hs "/claim/cut.py" 1276),(hi 558 0),(hi 3 0),(hi 0 0),(hi 0 0),(hi 3 0),(hr 732),hy,(hi 181 0),(hr 733),hn,hn,hn,(hr 734),(hi 1277 0),(hi 558 0),(hs "/claim/cut.py" 1278)]
noncomputable def IJ(P:Params):List Value:=[(hs "over" 486),(hs "Glue.over" 487),(hs "/claim/cut.py" 488),(hi 110 0),(hi 2 0),(hi 0 0),(hi 0 0),(hi 3 0),(hr 219),hy,(hi 181 0),(hr 220),hn,(hr 221),(hr 222),(hr 223),(hi 493 0),(hi 110 0),(hs "/claim/cut.py" 494)]
noncomputable def IK(P:Params):List Value:=[(hs "height_of" 899),(hs "height_of" 900),(hs "/claim/cut.py" 901),(hi 280 0),(hi 1 0),(hi 0 0),(hi 0 0),(hi 3 0),(hr 478),hy,(hi 181 0),(hr 479),hn,hn,hn,(hr 480),(hi 902 0),(hi 280 0),(hs "/claim/cut.py" 903)]
noncomputable def IL(P:Params):List Value:=[(hs "_law_rows" 1280),(hs "_law_rows" 1281),(hs "/claim/cut.py" 1282),(hi 566 0),(hi 3 0),(hi 0 0),(hi 0 0),(hi 3 0),(hr 737),hy,(hi 181 0),(hr 738),hn,hn,hn,(hr 739),(hi 1283 0),(hi 566 0),(hs "/claim/cut.py" 1284)]
noncomputable def IM(P:Params):List Value:=[(hs "depth_of" 905),(hs "depth_of" 906),(hs "/claim/cut.py" 907),(hi 293 0),(hi 1 0),(hi 0 0),(hi 0 0),(hi 3 0),(hr 483),hy,(hi 181 0),(hr 484),hn,hn,hn,(hr 485),(hi 908 0),(hi 293 0),(hs "/claim/cut.py" 909)]
noncomputable def IN(P:Params):List Value:=[(hs "negated" 496),(hs "Glue.negated" 497),(hs "/claim/cut.py" 498),(hi 114 0),(hi 1 0),(hi 0 0),(hi 0 0),(hi 3 0),(hr 226),hy,(hi 181 0),(hr 227),hn,(hr 228),(hr 229),(hr 230),(hi 500 0),(hi 114 0),(hs "/claim/cut.py" 501)]
noncomputable def IO(P:Params):List Value:=[(hs "_law_table" 1286),(hs "_law_table" 1287),(hs "/claim/cut.py" 1288),(hi 580 0),(hi 4 0),(hi 0 0),(hi 0 0),(hi 3 0),(hr 742),hy,(hi 181 0),(hr 743),hn,hn,hn,(hr 744),(hi 1289 0),(hi 580 0),(hs "/claim/cut.py" 1290)]
noncomputable def IP(P:Params):List Value:=[(hs "line_height" 911),(hs "line_height" 912),(hs "/claim/cut.py" 913),(hi 306 0),(hi 1 0),(hi 0 0),(hi 0 0),(hi 3 0),(hr 488),hy,(hi 181 0),(hr 489),hn,(hr 490),(hr 491),(hr 492),(hi 915 0),(hi 306 0),(hs "/claim/cut.py" 916)]
noncomputable def IQ(P:Params):List Value:=[(hs "text" 504),(hs "Glue.text" 505),(hs "/claim/cut.py" 506),(hi 117 0),(hi 2 0),(hi 0 0),(hi 0 0),(hi 3 0),(hr 234),hy,(hi 181 0),(hr 235),hn,(hr 236),(hr 237),(hr 238),(hi 510 0),(hi 117 0),(hs "/claim/cut.py" 511)]
noncomputable def IR(P:Params):List Value:=[(hs "_law_blank" 1292),(hs "_law_blank" 1293),(hs "/claim/cut.py" 1294),(hi 590 0),(hi 1 0),(hi 0 0),(hi 0 0),(hi 3 0),(hr 747),hy,(hi 181 0),(hr 748),hn,(hr 749),(hr 750),(hr 751),(hi 1300 0),(hi 590 0),(hs "/claim/cut.py" 1301)]
noncomputable def IS(P:Params):List Value:=[(hs "line_depth" 918),(hs "line_depth" 919),(hs "/claim/cut.py" 920),(hi 310 0),(hi 1 0),(hi 0 0),(hi 0 0),(hi 3 0),(hr 495),hy,(hi 181 0),(hr 496),hn,(hr 497),(hr 498),(hr 499),(hi 922 0),(hi 310 0),(hs "/claim/cut.py" 923)]
noncomputable def IT(P:Params):List Value:=[(hs "_law_order" 1303),(hs "_law_order" 1304),(hs "/claim/cut.py" 1305),(hi 597 0),(hi 2 0),(hi 0 0),(hi 0 0),(hi 3 0),(hr 754),hy,(hi 181 0),(hr 755),hn,(hr 756),(hr 757),(hr 758),(hi 1310 0),(hi 597 0),(hs "/claim/cut.py" 1311)]
noncomputable def IU(P:Params):List Value:=[(hs "_law_fewer" 1313),(hs "_law_fewer" 1314),(hs "/claim/cut.py" 1315),(hi 602 0),(hi 2 0),(hi 0 0),(hi 0 0),(hi 3 0),(hr 761),hy,(hi 181 0),(hr 762),hn,hn,hn,(hr 763),(hi 1316 0),(hi 602 0),(hs "/claim/cut.py" 1317)]
noncomputable def IV(P:Params):List Value:=[(hs "top_order" 526),(hs "top_order" 527),(hs "/claim/cut.py" 528),(hi 124 0),(hi 1 0),(hi 0 0),(hi 0 0),(hi 3 0),(hr 248),hy,(hi 181 0),(hr 249),hn,(hr 250),(hr 251),(hr 252),(hi 531 0),(hi 124 0),(hs "/claim/cut.py" 532)]
noncomputable def FU(P:Params):List Obj:=[boot_o_0 P,boot_o_1 P,boot_o_2 P,boot_o_3 P,boot_o_4 P,boot_o_5 P,boot_o_6 P,boot_o_7 P,boot_o_8 P,boot_o_9 P,boot_o_10 P]
noncomputable def LD(P:Params):List Obj:=eH (FU P) []++[aj "tuple" [] 0,bL [],aS "code" (((KO P).take 19)),(abD (ht "frame") none abE (ha [(some (hr 13)),(some (hr 3)),(some (hr 3)),none,(some (hs "__main__" 164)),none,(some (hr 0))]))]
noncomputable def LE(P:Params):List Obj:=eH (LD P) []++[]
noncomputable def LF(P:Params):List Obj:=eH (LE P) [(3,gt "dict" [(he P "__name__" 165 (hs "__main__" 164)),(he P "__doc__" 166 hn),(he P "__package__" 167 hn),(he P "__loader__" 168 (hb "__main__.__loader__#opaque")),(he P "__spec__" 169 hn),(he P "__annotations__" 170 (hr 6)),(he P "__builtins__" 171 (hr 4)),(he P "__file__" 173 (hs "/claim/cut.py" 172)),(he P "__cached__" 174 hn),(he P "_wall" 193 (hr 21))] 10),(12,bL [(hi 1 0),(hi 0 0),(hr 20)])]++[aj "tuple" [] 0,bL [],aj "tuple" [(hs "k" 190)] 0,aj "tuple" [] 0,cR "_wall" "_wall" (fA 0) (fS 0) (fC 0) 0 0,aS "code" (((KP P).take 19)),dr "_wall" "_wall" (fA 0) (fS 0) (fC 0) 3 (hs "__main__" 164) (hr 20) 0]
noncomputable def LG(P:Params):List Obj:=eH (LF P) [(3,gt "dict" (((oe P).take 16).set 0 (he P "__name__" 165 (hs "__main__" 164))) 16)]++[aj "tuple" [(hi 7 194),(hi 8 195),(hi 9 196),(hi 10 197),(hi 11 198),(hi 12 199)] 0,aS "tuple_iterator" [hn,(hi 6 0)],aj "tuple" [] 0,aS "StopIteration" [(hr 24),hn,hn,hn,hz,hn]]
noncomputable def LH(P:Params):List Obj:=eH (LG P) [(3,gt "dict" (((oe P).take 17).set 0 (he P "__name__" 165 (hs "gluepage.errors" 206))) 17),(12,bL [(hi 1 0),(hi 0 0),(hr 20),(hi 6 0),(hi 0 0),(hr 31)])]++[aj "tuple" [(ht "ValueError")] 0,aS "builtin_function_or_method" [(hb "type.__prepare__"),(ht "type")],gt "dict" [(he P "__module__" 215 (hs "gluepage.errors" 206)),(he P "__qualname__" 217 (hs "PageError" 216)),(he P "__firstlineno__" 219 (hi 6 218)),(he P "__init__" 228 (hr 40)),(he P "__static_attributes__" 230 (hr 41))] 5,aj "tuple" [] 0,bL [(hi 8 0),(hi 4 0),(hr 39)],aS "code" (((KQ P).take 19)),(abD (ht "frame") none abE (ha [(some (hr 31)),(some (hr 3)),(some (hr 28)),none,(some (hs "gluepage.errors" 206)),none,(some (hr 0))])),aj "tuple" [(hs "" 220)] 0,aj "tuple" [] 0,bL [],aj "tuple" [(hs "self" 224),(hs "reason" 225)] 0,aj "tuple" [] 0,cR "__init__" "PageError.__init__" (mA 3 0) (mS 3 0) (mC 3 0) 0 0,aS "code" (((KR P).take 19)),(abD (ht "function") none (hF (Bn (aaQ "__init__") (aaQ "PageError.__init__") (mA 3 0) (Bo (mS 3 0)) (mC 3 0) 3 [] (hr 33) hn hn (hs "gluepage.errors" 206) none (hr 39) hn 0)) (ha [])),aj "tuple" [(hs "reason" 229)] 0,gt "dict" [(he P "__module__" 215 (hs "gluepage.errors" 206)),(he P "__firstlineno__" 219 (hi 6 218)),(he P "__init__" 228 (hr 40)),(he P "__static_attributes__" 230 (hr 41)),(he P "__weakref__" 232 (hr 44)),(he P "__doc__" 233 hn)] 3,(abD (ht "type") none (abF (abG (aaQ "PageError") [(ht "ValueError")] [(hr 43),(ht "ValueError"),(ht "Exception"),(ht "BaseException"),(ht "object")] 42 (aaQ "PageError") true [] [] false none false)) (ha [(some (hr 26)),none,(some (hs "PageError" 208)),(some (hs "PageError" 216)),(some (hb "ValueError.__new__")),(some hy)])),aS "getset_descriptor" [(hs "__weakref__" 231),(hr 43),(hb "ExceptionGroup.__weakref__"),hn],aS "super" [(hr 43),(hr 43),(hr 43)],aS "builtin_function_or_method" [(hb "object.__init_subclass__"),(hr 43)]]
noncomputable def LI(P:Params):List Obj:=eH (LH P) [(3,gt "dict" (((oe P).take 18).set 0 (he P "__name__" 165 (hs "gluepage.errors" 206))) 18),(12,bL [(hi 1 0),(hi 0 0),(hr 20),(hi 6 0),(hi 0 0),(hr 31),(hi 10 0),(hi 0 0),(hr 52)]),(43,(abD (ht "type") none (abF (abG (aaQ "PageError") [(ht "ValueError")] [(hr 43),(ht "ValueError"),(ht "Exception"),(ht "BaseException"),(ht "object")] 42 (aaQ "PageError") true [] [(hr 56)] false none false)) (ha [(some (hr 26)),none,(some (hs "PageError" 208)),(some (hs "PageError" 216)),(some (hb "ValueError.__new__")),(some hy)])))]++[aj "tuple" [(hr 43)] 0,aS "builtin_function_or_method" [(hb "type.__prepare__"),(ht "type")],gt "dict" [(he P "__module__" 243 (hs "gluepage.errors" 206)),(he P "__qualname__" 245 (hs "BadArgument" 244)),(he P "__firstlineno__" 247 (hi 10 246)),(he P "__static_attributes__" 248 (hr 54))] 4,aj "tuple" [] 0,bL [],aS "code" (((KS P).take 19)),(abD (ht "frame") none abE (ha [(some (hr 52)),(some (hr 3)),(some (hr 49)),none,(some (hs "gluepage.errors" 206)),none,(some (hr 0))])),aj "tuple" [] 0,gt "dict" [(he P "__module__" 243 (hs "gluepage.errors" 206)),(he P "__firstlineno__" 247 (hi 10 246)),(he P "__static_attributes__" 248 (hr 54)),(he P "__doc__" 249 hn)] 2,(abD (ht "type") none (abF (abG (aaQ "BadArgument") [(hr 43)] [(hr 56),(hr 43),(ht "ValueError"),(ht "Exception"),(ht "BaseException"),(ht "object")] 55 (aaQ "BadArgument") true [] [] false none false)) (ha [(some (hr 47)),none,(some (hs "BadArgument" 236)),(some (hs "BadArgument" 244)),(some (hb "ValueError.__new__")),(some hy)])),aS "super" [(hr 56),(hr 56),(hr 56)],aS "builtin_function_or_method" [(hb "object.__init_subclass__"),(hr 56)]]
noncomputable def LJ(P:Params):List Obj:=eH (LI P) [(3,gt "dict" (((oe P).take 19).set 0 (he P "__name__" 165 (hs "gluepage.errors" 206))) 19),(12,bL [(hi 1 0),(hi 0 0),(hr 20),(hi 6 0),(hi 0 0),(hr 31),(hi 10 0),(hi 0 0),(hr 52),(hi 12 0),(hi 0 0),(hr 64)]),(43,(abD (ht "type") none (abF (abG (aaQ "PageError") [(ht "ValueError")] [(hr 43),(ht "ValueError"),(ht "Exception"),(ht "BaseException"),(ht "object")] 42 (aaQ "PageError") true [] [(hr 56),(hr 68)] false none false)) (ha [(some (hr 26)),none,(some (hs "PageError" 208)),(some (hs "PageError" 216)),(some (hb "ValueError.__new__")),(some hy)])))]++[aj "tuple" [(hr 43)] 0,aS "builtin_function_or_method" [(hb "type.__prepare__"),(ht "type")],gt "dict" [(he P "__module__" 259 (hs "gluepage.errors" 206)),(he P "__qualname__" 261 (hs "Overflow" 260)),(he P "__firstlineno__" 263 (hi 12 262)),(he P "__static_attributes__" 264 (hr 66))] 4,aj "tuple" [] 0,bL [],aS "code" (((KT P).take 19)),(abD (ht "frame") none abE (ha [(some (hr 64)),(some (hr 3)),(some (hr 61)),none,(some (hs "gluepage.errors" 206)),none,(some (hr 0))])),aj "tuple" [] 0,gt "dict" [(he P "__module__" 259 (hs "gluepage.errors" 206)),(he P "__firstlineno__" 263 (hi 12 262)),(he P "__static_attributes__" 264 (hr 66)),(he P "__doc__" 265 hn)] 2,(abD (ht "type") none (abF (abG (aaQ "Overflow") [(hr 43)] [(hr 68),(hr 43),(ht "ValueError"),(ht "Exception"),(ht "BaseException"),(ht "object")] 67 (aaQ "Overflow") true [] [] false none false)) (ha [(some (hr 59)),none,(some (hs "Overflow" 252)),(some (hs "Overflow" 260)),(some (hb "ValueError.__new__")),(some hy)])),aS "super" [(hr 68),(hr 68),(hr 68)],aS "builtin_function_or_method" [(hb "object.__init_subclass__"),(hr 68)]]
noncomputable def LK(P:Params):List Obj:=eH (LJ P) [(3,gt "dict" (((oe P).take 20).set 0 (he P "__name__" 165 (hs "gluepage.errors" 206))) 20),(12,bL [(hi 1 0),(hi 0 0),(hr 20),(hi 6 0),(hi 0 0),(hr 31),(hi 10 0),(hi 0 0),(hr 52),(hi 12 0),(hi 0 0),(hr 64),(hi 14 0),(hi 0 0),(hr 76)]),(43,(abD (ht "type") none (abF (abG (aaQ "PageError") [(ht "ValueError")] [(hr 43),(ht "ValueError"),(ht "Exception"),(ht "BaseException"),(ht "object")] 42 (aaQ "PageError") true [] [(hr 56),(hr 68),(hr 80)] false none false)) (ha [(some (hr 26)),none,(some (hs "PageError" 208)),(some (hs "PageError" 216)),(some (hb "ValueError.__new__")),(some hy)])))]++[aj "tuple" [(hr 43)] 0,aS "builtin_function_or_method" [(hb "type.__prepare__"),(ht "type")],gt "dict" [(he P "__module__" 275 (hs "gluepage.errors" 206)),(he P "__qualname__" 277 (hs "BadAlign" 276)),(he P "__firstlineno__" 279 (hi 14 278)),(he P "__static_attributes__" 280 (hr 78))] 4,aj "tuple" [] 0,bL [],aS "code" (((KU P).take 19)),(abD (ht "frame") none abE (ha [(some (hr 76)),(some (hr 3)),(some (hr 73)),none,(some (hs "gluepage.errors" 206)),none,(some (hr 0))])),aj "tuple" [] 0,gt "dict" [(he P "__module__" 275 (hs "gluepage.errors" 206)),(he P "__firstlineno__" 279 (hi 14 278)),(he P "__static_attributes__" 280 (hr 78)),(he P "__doc__" 281 hn)] 2,(abD (ht "type") none (abF (abG (aaQ "BadAlign") [(hr 43)] [(hr 80),(hr 43),(ht "ValueError"),(ht "Exception"),(ht "BaseException"),(ht "object")] 79 (aaQ "BadAlign") true [] [] false none false)) (ha [(some (hr 71)),none,(some (hs "BadAlign" 268)),(some (hs "BadAlign" 276)),(some (hb "ValueError.__new__")),(some hy)])),aS "super" [(hr 80),(hr 80),(hr 80)],aS "builtin_function_or_method" [(hb "object.__init_subclass__"),(hr 80)]]
noncomputable def LL(P:Params):List Obj:=eH (LK P) [(3,gt "dict" (((oe P).take 25).set 0 (he P "__name__" 165 (hs "gluepage.scaled" 300))) 25),(12,bL (((lr P).take 18))),(43,(abD (ht "type") none (abF (abG (aaQ "PageError") [(ht "ValueError")] [(hr 43),(ht "ValueError"),(ht "Exception"),(ht "BaseException"),(ht "object")] 42 (aaQ "PageError") true [] [(hr 56),(hr 68),(hr 80),(hr 92)] false none false)) (ha [(some (hr 26)),none,(some (hs "PageError" 208)),(some (hs "PageError" 216)),(some (hb "ValueError.__new__")),(some hy)])))]++[aj "tuple" [(hr 43)] 0,aS "builtin_function_or_method" [(hb "type.__prepare__"),(ht "type")],gt "dict" [(he P "__module__" 291 (hs "gluepage.errors" 206)),(he P "__qualname__" 293 (hs "TooDeep" 292)),(he P "__firstlineno__" 295 (hi 16 294)),(he P "__static_attributes__" 296 (hr 90))] 4,aj "tuple" [] 0,bL [],aS "code" (((KV P).take 19)),(abD (ht "frame") none abE (ha [(some (hr 88)),(some (hr 3)),(some (hr 85)),none,(some (hs "gluepage.errors" 206)),none,(some (hr 0))])),aj "tuple" [] 0,gt "dict" [(he P "__module__" 291 (hs "gluepage.errors" 206)),(he P "__firstlineno__" 295 (hi 16 294)),(he P "__static_attributes__" 296 (hr 90)),(he P "__doc__" 297 hn)] 2,(abD (ht "type") none (abF (abG (aaQ "TooDeep") [(hr 43)] [(hr 92),(hr 43),(ht "ValueError"),(ht "Exception"),(ht "BaseException"),(ht "object")] 91 (aaQ "TooDeep") true [] [] false none false)) (ha [(some (hr 83)),none,(some (hs "TooDeep" 284)),(some (hs "TooDeep" 292)),(some (hb "ValueError.__new__")),(some hy)])),aS "super" [(hr 92),(hr 92),(hr 92)],aS "builtin_function_or_method" [(hb "object.__init_subclass__"),(hr 92)]]
noncomputable def IW(P:Params):List Obj:=eH (LL P) [(3,gt "dict" (((oe P).take 29).set 0 (he P "__name__" 165 (hs "gluepage.scaled" 300))) 29)]++[aj "tuple" [(hi 0 318),(hi 1 319),(hi 2 320),(hi 3 321)] 0,aS "tuple_iterator" [hn,(hi 4 0)],aj "tuple" [] 0,aS "StopIteration" [(hr 97),hn,hn,hn,hz,hn]]
noncomputable def IX(P:Params):List Obj:=eH (IW P) [(3,gt "dict" (((oe P).take 42).set 0 (he P "__name__" 165 (hs "gluepage.scaled" 300))) 42),(12,bL (((lr P).take 51)))]++[aj "tuple" [] 0,bL [],aj "tuple" [(hs "value" 329),(hs "low" 330),(hs "high" 331)] 0,aj "tuple" [] 0,cR "is_whole" "is_whole" (fA 14) (fS 14) (fC 14) 0 0,aS "code" (((HR P).take 19)),dr "is_whole" "is_whole" (fA 14) (fS 14) (fC 14) 3 (hs "gluepage.scaled" 300) (hr 104) 0,aj "tuple" [] 0,bL [],aj "tuple" [(hs "value" 338)] 0,aj "tuple" [] 0,cR "check_whole" "check_whole" (fA 15) (fS 15) (fC 15) 0 0,aS "code" (((HV P).take 19)),dr "check_whole" "check_whole" (fA 15) (fS 15) (fC 15) 3 (hs "gluepage.scaled" 300) (hr 111) 0,aj "tuple" [] 0,bL [],aj "tuple" [(hs "value" 345)] 0,aj "tuple" [] 0,cR "check_dimen" "check_dimen" (fA 16) (fS 16) (fC 16) 0 0,aS "code" (((HY P).take 19)),dr "check_dimen" "check_dimen" (fA 16) (fS 16) (fC 16) 3 (hs "gluepage.scaled" 300) (hr 118) 0,aj "tuple" [] 0,bL [],aj "tuple" [(hs "number" 352),(hs "by" 353)] 0,aj "tuple" [] 0,cR "rounded" "rounded" (fA 17) (fS 17) (fC 17) 0 0,aS "code" (((H0 P).take 19)),dr "rounded" "rounded" (fA 17) (fS 17) (fC 17) 3 (hs "gluepage.scaled" 300) (hr 125) 0,aj "tuple" [] 0,bL [],aj "tuple" [(hs "whole" 360),(hs "scale" 361)] 0,aj "tuple" [] 0,cR "reading" "reading" (fA 18) (fS 18) (fC 18) 0 0,aS "code" (((H3 P).take 19)),dr "reading" "reading" (fA 18) (fS 18) (fC 18) 3 (hs "gluepage.scaled" 300) (hr 132) 0,aj "tuple" [] 0,bL [],aj "tuple" [(hs "value" 368),(hs "sign" 369),(hs "points" 370),(hs "part" 371),(hs "scale" 372),(hs "near" 373),(hs "places" 374)] 0,aj "tuple" [] 0,cR "decimal_text" "decimal_text" (fA 19) (fS 19) (fC 19) 0 0,aS "code" (((H6 P).take 19)),dr "decimal_text" "decimal_text" (fA 19) (fS 19) (fC 19) 3 (hs "gluepage.scaled" 300) (hr 139) 0,aj "tuple" [] 0,bL [],aj "tuple" [(hs "count" 381),(hs "value" 382),(hs "more" 383)] 0,aj "tuple" [] 0,cR "times" "times" (fA 20) (fS 20) (fC 20) 0 0,aS "code" (((H8 P).take 19)),dr "times" "times" (fA 20) (fS 20) (fC 20) 3 (hs "gluepage.scaled" 300) (hr 146) 0,aj "tuple" [] 0,bL [],aj "tuple" [(hs "value" 391),(hs "by" 392),(hs "quotient" 393),(hs "rest" 394)] 0,aj "tuple" [] 0,cR "over" "over" (fA 22) (fS 22) (fC 22) 0 0,aS "code" (((Ib P).take 19)),dr "over" "over" (fA 22) (fS 22) (fC 22) 3 (hs "gluepage.scaled" 300) (hr 153) 0,aj "tuple" [] 0,bL [],aj "tuple" [(hs "excess" 402),(hs "total" 403),(hs "ratio" 404)] 0,aj "tuple" [] 0,cR "badness" "badness" (fA 24) (fS 24) (fC 24) 0 0,aS "code" (((Ie P).take 19)),dr "badness" "badness" (fA 24) (fS 24) (fC 24) 3 (hs "gluepage.scaled" 300) (hr 160) 0,aj "tuple" [] 0,bL [],aj "tuple" [(hs "order" 411)] 0,aj "tuple" [] 0,cR "order_text" "order_text" (fA 25) (fS 25) (fC 25) 0 0,aS "code" (((Ih P).take 19)),dr "order_text" "order_text" (fA 25) (fS 25) (fC 25) 3 (hs "gluepage.scaled" 300) (hr 167) 0,aj "tuple" [] 0,bL [],aj "tuple" [(hs "value" 418),(hs "order" 419),(hs "unit" 420)] 0,aj "tuple" [] 0,cR "part_text" "part_text" (fA 26) (fS 26) (fC 26) 0 0,aS "code" (((Ik P).take 19)),dr "part_text" "part_text" (fA 26) (fS 26) (fC 26) 3 (hs "gluepage.scaled" 300) (hr 174) 0]
noncomputable def IY(P:Params):List Obj:=eH (IX P) [(3,gt "dict" (((oe P).take 43).set 0 (he P "__name__" 165 (hs "gluepage.scaled" 300))) 43),(12,bL (((lr P).take 54)))]++[aj "tuple" [] 0,aS "builtin_function_or_method" [(hb "type.__prepare__"),(ht "type")],gt "dict" [(he P "__module__" 431 (hs "gluepage.scaled" 300)),(he P "__qualname__" 433 (hs "Glue" 432)),(he P "__firstlineno__" 435 (hi 86 434)),(he P "__init__" 452 (hr 190)),(he P "parts" 459 (hr 197)),(he P "same" 467 (hr 204)),(he P "added" 475 (hr 211)),(he P "times" 485 (hr 218)),(he P "over" 495 (hr 225)),(he P "negated" 502 (hr 232)),(he P "text" 512 (hr 240)),(he P "__static_attributes__" 518 (hr 241))] 12,aj "tuple" [] 0,bL (((Io P).take 24)),aS "code" (((Ip P).take 19)),(abD (ht "frame") none abE (ha [(some (hr 181)),(some (hr 3)),(some (hr 178)),none,(some (hs "gluepage.scaled" 300)),none,(some (hr 0))])),aj "tuple" [(hi 0 436),(hi 0 437),(hi 0 438),(hi 0 439),(hi 0 440)] 0,aj "tuple" [] 0,bL [],aj "tuple" [(hs "self" 444),(hs "width" 445),(hs "stretch" 446),(hs "stretch_order" 447),(hs "shrink" 448),(hs "shrink_order" 449)] 0,aj "tuple" [] 0,cR "__init__" "Glue.__init__" (mA 27 0) (mS 27 0) (mC 27 0) 0 0,aS "code" (((Ir P).take 19)),(abD (ht "function") none (hF (Bn (aaQ "__init__") (aaQ "Glue.__init__") (mA 27 0) (Bo (mS 27 0)) (mC 27 0) 3 [] (hr 183) hn hn (hs "gluepage.scaled" 300) none (hr 189) hn 0)) (ha [])),aj "tuple" [] 0,bL [],aj "tuple" [(hs "self" 456)] 0,aj "tuple" [] 0,cR "parts" "Glue.parts" (mA 27 1) (mS 27 1) (mC 29 0) 0 0,aS "code" (((Iv P).take 19)),dr "parts" "Glue.parts" (mA 27 1) (mS 27 1) (mC 29 0) 3 (hs "gluepage.scaled" 300) (hr 196) 0,aj "tuple" [] 0,bL [],aj "tuple" [(hs "self" 463),(hs "other" 464)] 0,aj "tuple" [] 0,cR "same" "Glue.same" (mA 27 2) (mS 27 2) (mC 27 2) 0 0,aS "code" (((Iy P).take 19)),dr "same" "Glue.same" (mA 27 2) (mS 27 2) (mC 27 2) 3 (hs "gluepage.scaled" 300) (hr 203) 0,aj "tuple" [] 0,bL [],aj "tuple" [(hs "self" 471),(hs "other" 472)] 0,aj "tuple" [] 0,cR "added" "Glue.added" (mA 27 3) (mS 27 3) (mC 27 3) 0 0,aS "code" (((IC P).take 19)),dr "added" "Glue.added" (mA 27 3) (mS 27 3) (mC 27 3) 3 (hs "gluepage.scaled" 300) (hr 210) 0,aj "tuple" [] 0,bL [],aj "tuple" [(hs "self" 479),(hs "count" 480),(hs "stretch" 481),(hs "shrink" 482)] 0,aj "tuple" [] 0,cR "times" "Glue.times" (mA 27 4) (mS 27 4) (mC 27 4) 0 0,aS "code" (((IF P).take 19)),dr "times" "Glue.times" (mA 27 4) (mS 27 4) (mC 27 4) 3 (hs "gluepage.scaled" 300) (hr 217) 0,aj "tuple" [] 0,bL [],aj "tuple" [(hs "self" 489),(hs "by" 490),(hs "stretch" 491),(hs "shrink" 492)] 0,aj "tuple" [] 0,cR "over" "Glue.over" (mA 27 5) (mS 27 5) (mC 27 5) 0 0,aS "code" (((IJ P).take 19)),dr "over" "Glue.over" (mA 27 5) (mS 27 5) (mC 27 5) 3 (hs "gluepage.scaled" 300) (hr 224) 0,aj "tuple" [] 0,bL [],aj "tuple" [(hs "self" 499)] 0,aj "tuple" [] 0,cR "negated" "Glue.negated" (mA 27 6) (mS 27 6) (mC 29 5) 0 0,aS "code" (((IN P).take 19)),dr "negated" "Glue.negated" (mA 27 6) (mS 27 6) (mC 29 5) 3 (hs "gluepage.scaled" 300) (hr 231) 0,aj "tuple" [(hs "pt" 503)] 0,aj "tuple" [] 0,bL [],aj "tuple" [(hs "self" 507),(hs "unit" 508),(hs "found" 509)] 0,aj "tuple" [] 0,cR "text" "Glue.text" (mA 27 7) (mS 27 7) (mC 27 7) 0 0,aS "code" (((IQ P).take 19)),(abD (ht "function") none (hF (Bn (aaQ "text") (aaQ "Glue.text") (mA 27 7) (Bo (mS 27 7)) (mC 27 7) 3 [] (hr 233) hn hn (hs "gluepage.scaled" 300) none (hr 239) hn 0)) (ha [])),aj "tuple" [(hs "shrink" 513),(hs "shrink_order" 514),(hs "stretch" 515),(hs "stretch_order" 516),(hs "width" 517)] 0,gt "dict" [(he P "__module__" 431 (hs "gluepage.scaled" 300)),(he P "__firstlineno__" 435 (hi 86 434)),(he P "__init__" 452 (hr 190)),(he P "parts" 459 (hr 197)),(he P "same" 467 (hr 204)),(he P "added" 475 (hr 211)),(he P "times" 485 (hr 218)),(he P "over" 495 (hr 225)),(he P "negated" 502 (hr 232)),(he P "text" 512 (hr 240)),(he P "__static_attributes__" 518 (hr 241)),(he P "__dict__" 520 (hr 244)),(he P "__weakref__" 522 (hr 245)),(he P "__doc__" 523 hn)] 4,(abD (ht "type") none (abF (abG (aaQ "Glue") [(ht "object")] [(hr 243),(ht "object")] 242 (aaQ "Glue") true [] [] false none false)) (ha [none,none,(some (hs "Glue" 424)),(some (hs "Glue" 432)),(some (hb "object.__new__")),(some hy)])),aS "getset_descriptor" [(hs "__dict__" 519),(hr 243),(hb "function.__dict__"),(hb "function.__dict__#set")],aS "getset_descriptor" [(hs "__weakref__" 521),(hr 243),(hb "ExceptionGroup.__weakref__"),hn],aS "super" [(hr 243),(hr 243),(hr 243)],aS "builtin_function_or_method" [(hb "object.__init_subclass__"),(hr 243)]]
noncomputable def IZ(P:Params):List Obj:=eH (IY P) [(3,gt "dict" (((oe P).take 44).set 0 (he P "__name__" 165 (hs "gluepage.scaled" 300))) 44),(12,bL (((lr P).take 57)))]++[aj "tuple" [] 0,bL [],aj "tuple" [(hs "sums" 529),(hs "order" 530)] 0,aj "tuple" [] 0,cR "top_order" "top_order" (fA 28) (fS 28) (fC 28) 0 0,aS "code" (((IV P).take 19)),dr "top_order" "top_order" (fA 28) (fS 28) (fC 28) 3 (hs "gluepage.scaled" 300) (hr 253) 0]
noncomputable def I0(P:Params):List Obj:=eH (IZ P) [(3,gt "dict" (((oe P).take 45).set 0 (he P "__name__" 165 (hs "gluepage.nodes" 601))) 45),(12,bL (((lr P).take 60)))]++[aj "tuple" [] 0,aS "builtin_function_or_method" [(hb "type.__prepare__"),(ht "type")],gt "dict" [(he P "__module__" 541 (hs "gluepage.scaled" 300)),(he P "__qualname__" 543 (hs "Totals" 542)),(he P "__firstlineno__" 545 (hi 129 544)),(he P "__init__" 552 (hr 268)),(he P "add" 560 (hr 275)),(he P "widen" 568 (hr 282)),(he P "stretch_top" 575 (hr 289)),(he P "shrink_top" 582 (hr 296)),(he P "copy" 589 (hr 303)),(he P "__static_attributes__" 593 (hr 304))] 10,aj "tuple" [] 0,bL (((Hq P).take 18)),aS "code" (((Hs P).take 19)),(abD (ht "frame") none abE (ha [(some (hr 260)),(some (hr 3)),(some (hr 257)),none,(some (hs "gluepage.scaled" 300)),none,(some (hr 0))])),aj "tuple" [] 0,bL [],aj "tuple" [(hs "self" 549)] 0,aj "tuple" [] 0,cR "__init__" "Totals.__init__" (mA 29 0) (mS 29 0) (mC 29 0) 0 0,aS "code" (((Hv P).take 19)),dr "__init__" "Totals.__init__" (mA 29 0) (mS 29 0) (mC 29 0) 3 (hs "gluepage.scaled" 300) (hr 267) 0,aj "tuple" [] 0,bL [],aj "tuple" [(hs "self" 556),(hs "glue" 557)] 0,aj "tuple" [] 0,cR "add" "Totals.add" (mA 29 1) (mS 29 1) (mC 29 1) 0 0,aS "code" (((Hx P).take 19)),dr "add" "Totals.add" (mA 29 1) (mS 29 1) (mC 29 1) 3 (hs "gluepage.scaled" 300) (hr 274) 0,aj "tuple" [] 0,bL [],aj "tuple" [(hs "self" 564),(hs "width" 565)] 0,aj "tuple" [] 0,cR "widen" "Totals.widen" (mA 29 2) (mS 29 2) (mC 29 2) 0 0,aS "code" (((Hz P).take 19)),dr "widen" "Totals.widen" (mA 29 2) (mS 29 2) (mC 29 2) 3 (hs "gluepage.scaled" 300) (hr 281) 0,aj "tuple" [] 0,bL [],aj "tuple" [(hs "self" 572)] 0,aj "tuple" [] 0,cR "stretch_top" "Totals.stretch_top" (mA 29 3) (mS 29 3) (mC 29 4) 0 0,aS "code" (((HB P).take 19)),dr "stretch_top" "Totals.stretch_top" (mA 29 3) (mS 29 3) (mC 29 4) 3 (hs "gluepage.scaled" 300) (hr 288) 0,aj "tuple" [] 0,bL [],aj "tuple" [(hs "self" 579)] 0,aj "tuple" [] 0,cR "shrink_top" "Totals.shrink_top" (mA 29 4) (mS 29 4) (mC 29 4) 0 0,aS "code" (((HD P).take 19)),dr "shrink_top" "Totals.shrink_top" (mA 29 4) (mS 29 4) (mC 29 4) 3 (hs "gluepage.scaled" 300) (hr 295) 0,aj "tuple" [] 0,bL [],aj "tuple" [(hs "self" 586)] 0,aj "tuple" [] 0,cR "copy" "Totals.copy" (mA 29 5) (mS 29 5) (mC 29 5) 0 0,aS "code" (((HF P).take 19)),dr "copy" "Totals.copy" (mA 29 5) (mS 29 5) (mC 29 5) 3 (hs "gluepage.scaled" 300) (hr 302) 0,aj "tuple" [(hs "natural" 590),(hs "shrink" 591),(hs "stretch" 592)] 0,gt "dict" [(he P "__module__" 541 (hs "gluepage.scaled" 300)),(he P "__firstlineno__" 545 (hi 129 544)),(he P "__init__" 552 (hr 268)),(he P "add" 560 (hr 275)),(he P "widen" 568 (hr 282)),(he P "stretch_top" 575 (hr 289)),(he P "shrink_top" 582 (hr 296)),(he P "copy" 589 (hr 303)),(he P "__static_attributes__" 593 (hr 304)),(he P "__dict__" 595 (hr 307)),(he P "__weakref__" 597 (hr 308)),(he P "__doc__" 598 hn)] 4,(abD (ht "type") none (abF (abG (aaQ "Totals") [(ht "object")] [(hr 306),(ht "object")] 305 (aaQ "Totals") true [] [] false none false)) (ha [none,none,(some (hs "Totals" 534)),(some (hs "Totals" 542)),(some (hb "object.__new__")),(some hy)])),aS "getset_descriptor" [(hs "__dict__" 594),(hr 306),(hb "function.__dict__"),(hb "function.__dict__#set")],aS "getset_descriptor" [(hs "__weakref__" 596),(hr 306),(hb "ExceptionGroup.__weakref__"),hn],aS "super" [(hr 306),(hr 306),(hr 306)],aS "builtin_function_or_method" [(hb "object.__init_subclass__"),(hr 306)]]
noncomputable def I1(P:Params):List Obj:=eH (I0 P) [(3,gt "dict" (((oe P).take 60).set 0 (he P "__name__" 165 (hs "gluepage.nodes" 601))) 60)]++[aj "tuple" [(hi 0 603),(hi 1 604),(hi 2 605),(hi 3 606),(hi 4 607),(hi 5 608),(hi 6 609),(hi 7 610)] 0,aS "tuple_iterator" [hn,(hi 8 0)],aj "tuple" [] 0,aS "StopIteration" [(hr 313),hn,hn,hn,hz,hn],aj "tuple" [(hi 8 619),(hi 9 620),(hi 10 621),(hi 11 622),(hi 12 623),(hi 13 624),(hi 14 625)] 0,aS "tuple_iterator" [hn,(hi 7 0)],aj "tuple" [] 0,aS "StopIteration" [(hr 317),hn,hn,hn,hz,hn]]
noncomputable def I2(P:Params):List Obj:=eH (I1 P) [(3,gt "dict" (((oe P).take 74).set 0 (he P "__name__" 165 (hs "gluepage.nodes" 601))) 74)]++[aj "tuple" [(hi 0 633),(hi 1 634),(hi 2 635)] 0,aS "tuple_iterator" [hn,(hi 3 0)],aj "tuple" [] 0,aS "StopIteration" [(hr 321),hn,hn,hn,hz,hn],aj "tuple" [(hi 0 639),(hi 1 640),(hi 2 641),(hi 3 642)] 0,aS "tuple_iterator" [hn,(hi 4 0)],aj "tuple" [] 0,aS "StopIteration" [(hr 325),hn,hn,hn,hz,hn],aj "tuple" [(hi 0 647),(hi 1 648),(hi 2 649),(hi 3 650),(hi 4 651),(hi 5 652),(hi 100 653)] 0,aS "tuple_iterator" [hn,(hi 7 0)],aj "tuple" [] 0,aS "StopIteration" [(hr 329),hn,hn,hn,hz,hn]]
noncomputable def I3(P:Params):List Obj:=eH (I2 P) [(3,gt "dict" (((oe P).take 78).set 0 (he P "__name__" 165 (hs "gluepage.nodes" 601))) 78)]++[aj "tuple" [(hi 0 661),(hi 1 662),(hi 2 663),(hi 3 664)] 0,aS "tuple_iterator" [hn,(hi 4 0)],aj "tuple" [] 0,aS "StopIteration" [(hr 333),hn,hn,hn,hz,hn]]
noncomputable def I4(P:Params):List Obj:=eH (I3 P) [(3,gt "dict" (((oe P).take 80).set 0 (he P "__name__" 165 (hs "gluepage.nodes" 601))) 80),(12,bL (((lr P).take 63)))]++[aj "tuple" [] 0,aS "builtin_function_or_method" [(hb "type.__prepare__"),(ht "type")],gt "dict" [(he P "__module__" 678 (hs "gluepage.nodes" 601)),(he P "__qualname__" 680 (hs "Box" 679)),(he P "__firstlineno__" 682 (hi 160 681)),(he P "__init__" 694 (hr 348)),(he P "__static_attributes__" 704 (hr 349))] 5,aj "tuple" [] 0,bL [(hi 162 0),(hi 4 0),(hr 347)],aS "code" (((HL P).take 19)),(abD (ht "frame") none abE (ha [(some (hr 340)),(some (hr 3)),(some (hr 337)),none,(some (hs "gluepage.nodes" 601)),none,(some (hr 0))])),aj "tuple" [] 0,bL [],aj "tuple" [(hs "self" 686),(hs "kind" 687),(hs "width" 688),(hs "height" 689),(hs "depth" 690),(hs "items" 691)] 0,aj "tuple" [] 0,cR "__init__" "Box.__init__" (mA 38 0) (mS 38 0) (mC 38 0) 0 0,aS "code" (((HN P).take 19)),dr "__init__" "Box.__init__" (mA 38 0) (mS 38 0) (mC 38 0) 3 (hs "gluepage.nodes" 601) (hr 347) 0,aj "tuple" [(hs "depth" 695),(hs "height" 696),(hs "items" 697),(hs "kind" 698),(hs "order" 699),(hs "ratio" 700),(hs "shift" 701),(hs "sign" 702),(hs "width" 703)] 0,gt "dict" [(he P "__module__" 678 (hs "gluepage.nodes" 601)),(he P "__firstlineno__" 682 (hi 160 681)),(he P "__init__" 694 (hr 348)),(he P "__static_attributes__" 704 (hr 349)),(he P "__dict__" 706 (hr 352)),(he P "__weakref__" 708 (hr 353)),(he P "__doc__" 709 hn)] 4,(abD (ht "type") none (abF (abG (aaQ "Box") [(ht "object")] [(hr 351),(ht "object")] 350 (aaQ "Box") true [] [] false none false)) (ha [none,none,(some (hs "Box" 671)),(some (hs "Box" 679)),(some (hb "object.__new__")),(some hy)])),aS "getset_descriptor" [(hs "__dict__" 705),(hr 351),(hb "function.__dict__"),(hb "function.__dict__#set")],aS "getset_descriptor" [(hs "__weakref__" 707),(hr 351),(hb "ExceptionGroup.__weakref__"),hn],aS "super" [(hr 351),(hr 351),(hr 351)],aS "builtin_function_or_method" [(hb "object.__init_subclass__"),(hr 351)]]
noncomputable def I5(P:Params):List Obj:=eH (I4 P) [(3,gt "dict" (((oe P).take 81).set 0 (he P "__name__" 165 (hs "gluepage.nodes" 601))) 81),(12,bL (((lr P).take 66)))]++[aj "tuple" [] 0,aS "builtin_function_or_method" [(hb "type.__prepare__"),(ht "type")],gt "dict" [(he P "__module__" 719 (hs "gluepage.nodes" 601)),(he P "__qualname__" 721 (hs "Rule" 720)),(he P "__firstlineno__" 723 (hi 174 722)),(he P "kind" 724 (hi 4 607)),(he P "__init__" 735 (hr 369)),(he P "__static_attributes__" 739 (hr 370))] 6,aj "tuple" [] 0,bL [(hi 177 0),(hi 4 0),(hr 368)],aS "code" (((HS P).take 19)),(abD (ht "frame") none abE (ha [(some (hr 361)),(some (hr 3)),(some (hr 358)),none,(some (hs "gluepage.nodes" 601)),none,(some (hr 0))])),aj "tuple" [] 0,bL [],aj "tuple" [(hs "self" 728),(hs "width" 729),(hs "height" 730),(hs "depth" 731),(hs "size" 732)] 0,aj "tuple" [] 0,cR "__init__" "Rule.__init__" (mA 39 1) (mS 39 1) (mC 39 1) 0 0,aS "code" (((HW P).take 19)),dr "__init__" "Rule.__init__" (mA 39 1) (mS 39 1) (mC 39 1) 3 (hs "gluepage.nodes" 601) (hr 368) 0,aj "tuple" [(hs "depth" 736),(hs "height" 737),(hs "width" 738)] 0,gt "dict" [(he P "__module__" 719 (hs "gluepage.nodes" 601)),(he P "__firstlineno__" 723 (hi 174 722)),(he P "kind" 724 (hi 4 607)),(he P "__init__" 735 (hr 369)),(he P "__static_attributes__" 739 (hr 370)),(he P "__dict__" 741 (hr 373)),(he P "__weakref__" 743 (hr 374)),(he P "__doc__" 744 hn)] 4,(abD (ht "type") none (abF (abG (aaQ "Rule") [(ht "object")] [(hr 372),(ht "object")] 371 (aaQ "Rule") true [] [] false none false)) (ha [none,none,(some (hs "Rule" 712)),(some (hs "Rule" 720)),(some (hb "object.__new__")),(some hy)])),aS "getset_descriptor" [(hs "__dict__" 740),(hr 372),(hb "function.__dict__"),(hb "function.__dict__#set")],aS "getset_descriptor" [(hs "__weakref__" 742),(hr 372),(hb "ExceptionGroup.__weakref__"),hn],aS "super" [(hr 372),(hr 372),(hr 372)],aS "builtin_function_or_method" [(hb "object.__init_subclass__"),(hr 372)]]
noncomputable def I6(P:Params):List Obj:=eH (I5 P) [(3,gt "dict" (((oe P).take 82).set 0 (he P "__name__" 165 (hs "gluepage.nodes" 601))) 82),(12,bL (((lr P).take 69)))]++[aj "tuple" [] 0,aS "builtin_function_or_method" [(hb "type.__prepare__"),(ht "type")],gt "dict" [(he P "__module__" 754 (hs "gluepage.nodes" 601)),(he P "__qualname__" 756 (hs "Kern" 755)),(he P "__firstlineno__" 758 (hi 184 757)),(he P "kind" 759 (hi 5 608)),(he P "__init__" 768 (hr 390)),(he P "__static_attributes__" 771 (hr 391))] 6,aj "tuple" [] 0,bL [(hi 187 0),(hi 4 0),(hr 389)],aS "code" (((H1 P).take 19)),(abD (ht "frame") none abE (ha [(some (hr 382)),(some (hr 3)),(some (hr 379)),none,(some (hs "gluepage.nodes" 601)),none,(some (hr 0))])),aj "tuple" [] 0,bL [],aj "tuple" [(hs "self" 763),(hs "width" 764),(hs "sort" 765)] 0,aj "tuple" [] 0,cR "__init__" "Kern.__init__" (mA 40 1) (mS 40 1) (mC 40 1) 0 0,aS "code" (((H4 P).take 19)),dr "__init__" "Kern.__init__" (mA 40 1) (mS 40 1) (mC 40 1) 3 (hs "gluepage.nodes" 601) (hr 389) 0,aj "tuple" [(hs "sort" 769),(hs "width" 770)] 0,gt "dict" [(he P "__module__" 754 (hs "gluepage.nodes" 601)),(he P "__firstlineno__" 758 (hi 184 757)),(he P "kind" 759 (hi 5 608)),(he P "__init__" 768 (hr 390)),(he P "__static_attributes__" 771 (hr 391)),(he P "__dict__" 773 (hr 394)),(he P "__weakref__" 775 (hr 395)),(he P "__doc__" 776 hn)] 4,(abD (ht "type") none (abF (abG (aaQ "Kern") [(ht "object")] [(hr 393),(ht "object")] 392 (aaQ "Kern") true [] [] false none false)) (ha [none,none,(some (hs "Kern" 747)),(some (hs "Kern" 755)),(some (hb "object.__new__")),(some hy)])),aS "getset_descriptor" [(hs "__dict__" 772),(hr 393),(hb "function.__dict__"),(hb "function.__dict__#set")],aS "getset_descriptor" [(hs "__weakref__" 774),(hr 393),(hb "ExceptionGroup.__weakref__"),hn],aS "super" [(hr 393),(hr 393),(hr 393)],aS "builtin_function_or_method" [(hb "object.__init_subclass__"),(hr 393)]]
noncomputable def I7(P:Params):List Obj:=eH (I6 P) [(3,gt "dict" (((oe P).take 83).set 0 (he P "__name__" 165 (hs "gluepage.nodes" 601))) 83),(12,bL (((lr P).take 72)))]++[aj "tuple" [] 0,aS "builtin_function_or_method" [(hb "type.__prepare__"),(ht "type")],gt "dict" [(he P "__module__" 786 (hs "gluepage.nodes" 601)),(he P "__qualname__" 788 (hs "Skip" 787)),(he P "__firstlineno__" 790 (hi 192 789)),(he P "kind" 791 (hi 6 609)),(he P "__init__" 801 (hr 412)),(he P "__static_attributes__" 805 (hr 413))] 6,aj "tuple" [] 0,bL [(hi 195 0),(hi 4 0),(hr 411)],aS "code" (((H9 P).take 19)),(abD (ht "frame") none abE (ha [(some (hr 403)),(some (hr 3)),(some (hr 400)),none,(some (hs "gluepage.nodes" 601)),none,(some (hr 0))])),aj "tuple" [hn] 0,aj "tuple" [] 0,bL [],aj "tuple" [(hs "self" 795),(hs "glue" 796),(hs "sort" 797),(hs "leader" 798)] 0,aj "tuple" [] 0,cR "__init__" "Skip.__init__" (mA 41 1) (mS 41 1) (mC 41 1) 0 0,aS "code" (((Ic P).take 19)),(abD (ht "function") none (hF (Bn (aaQ "__init__") (aaQ "Skip.__init__") (mA 41 1) (Bo (mS 41 1)) (mC 41 1) 3 [] (hr 405) hn hn (hs "gluepage.nodes" 601) none (hr 411) hn 0)) (ha [])),aj "tuple" [(hs "glue" 802),(hs "leader" 803),(hs "sort" 804)] 0,gt "dict" [(he P "__module__" 786 (hs "gluepage.nodes" 601)),(he P "__firstlineno__" 790 (hi 192 789)),(he P "kind" 791 (hi 6 609)),(he P "__init__" 801 (hr 412)),(he P "__static_attributes__" 805 (hr 413)),(he P "__dict__" 807 (hr 416)),(he P "__weakref__" 809 (hr 417)),(he P "__doc__" 810 hn)] 4,(abD (ht "type") none (abF (abG (aaQ "Skip") [(ht "object")] [(hr 415),(ht "object")] 414 (aaQ "Skip") true [] [] false none false)) (ha [none,none,(some (hs "Skip" 779)),(some (hs "Skip" 787)),(some (hb "object.__new__")),(some hy)])),aS "getset_descriptor" [(hs "__dict__" 806),(hr 415),(hb "function.__dict__"),(hb "function.__dict__#set")],aS "getset_descriptor" [(hs "__weakref__" 808),(hr 415),(hb "ExceptionGroup.__weakref__"),hn],aS "super" [(hr 415),(hr 415),(hr 415)],aS "builtin_function_or_method" [(hb "object.__init_subclass__"),(hr 415)]]
noncomputable def I8(P:Params):List Obj:=eH (I7 P) [(3,gt "dict" (((oe P).take 89).set 0 (he P "__name__" 165 (hs "gluepage.nodes" 601))) 89),(12,bL (((lr P).take 90)))]++[aj "tuple" [] 0,aS "builtin_function_or_method" [(hb "type.__prepare__"),(ht "type")],gt "dict" [(he P "__module__" 820 (hs "gluepage.nodes" 601)),(he P "__qualname__" 822 (hs "Unset" 821)),(he P "__firstlineno__" 824 (hi 205 823)),(he P "kind" 825 (hi 14 625)),(he P "__init__" 839 (hr 434)),(he P "__static_attributes__" 847 (hr 435))] 6,aj "tuple" [] 0,bL [(hi 208 0),(hi 4 0),(hr 433)],aS "code" (((Ii P).take 19)),(abD (ht "frame") none abE (ha [(some (hr 425)),(some (hr 3)),(some (hr 422)),none,(some (hs "gluepage.nodes" 601)),none,(some (hr 0))])),aj "tuple" [hz] 0,aj "tuple" [] 0,bL [],aj "tuple" [(hs "self" 829),(hs "width" 830),(hs "height" 831),(hs "depth" 832),(hs "items" 833),(hs "spans" 834),(hs "totals" 835),(hs "is_vertical" 836)] 0,aj "tuple" [] 0,cR "__init__" "Unset.__init__" (mA 42 1) (mS 42 1) (mC 42 1) 0 0,aS "code" (((Im P).take 19)),(abD (ht "function") none (hF (Bn (aaQ "__init__") (aaQ "Unset.__init__") (mA 42 1) (Bo (mS 42 1)) (mC 42 1) 3 [] (hr 427) hn hn (hs "gluepage.nodes" 601) none (hr 433) hn 0)) (ha [])),aj "tuple" [(hs "depth" 840),(hs "height" 841),(hs "is_vertical" 842),(hs "items" 843),(hs "spans" 844),(hs "totals" 845),(hs "width" 846)] 0,gt "dict" [(he P "__module__" 820 (hs "gluepage.nodes" 601)),(he P "__firstlineno__" 824 (hi 205 823)),(he P "kind" 825 (hi 14 625)),(he P "__init__" 839 (hr 434)),(he P "__static_attributes__" 847 (hr 435)),(he P "__dict__" 849 (hr 438)),(he P "__weakref__" 851 (hr 439)),(he P "__doc__" 852 hn)] 4,(abD (ht "type") none (abF (abG (aaQ "Unset") [(ht "object")] [(hr 437),(ht "object")] 436 (aaQ "Unset") true [] [] false none false)) (ha [none,none,(some (hs "Unset" 813)),(some (hs "Unset" 821)),(some (hb "object.__new__")),(some hy)])),aS "getset_descriptor" [(hs "__dict__" 848),(hr 437),(hb "function.__dict__"),(hb "function.__dict__#set")],aS "getset_descriptor" [(hs "__weakref__" 850),(hr 437),(hb "ExceptionGroup.__weakref__"),hn],aS "super" [(hr 437),(hr 437),(hr 437)],aS "builtin_function_or_method" [(hb "object.__init_subclass__"),(hr 437)],aj "tuple" [] 0,bL [],aj "tuple" [(hs "depth" 858)] 0,aj "tuple" [] 0,cR "check_depth" "check_depth" (fA 43) (fS 43) (fC 43) 0 0,aS "code" (((Iu P).take 19)),dr "check_depth" "check_depth" (fA 43) (fS 43) (fC 43) 3 (hs "gluepage.nodes" 601) (hr 447) 0,aj "tuple" [] 0,bL [],cR "described_special" "described_special" (fA 44) (fS 44) (fC 44) 0 0,aS "code" (((Iw P).take 19)),dr "described_special" "described_special" (fA 44) (fS 44) (fC 44) 3 (hs "gluepage.nodes" 601) (hr 452) 0,aj "tuple" [] 0,bL [],aj "tuple" [(hs "node" 871),(hs "depth" 872),(hs "kind" 873),(hs "sums" 874),(hs "sizes" 875)] 0,aj "tuple" [] 0,cR "described_rest" "described_rest" (fA 45) (fS 45) (fC 45) 0 0,aS "code" (((Iz P).take 19)),dr "described_rest" "described_rest" (fA 45) (fS 45) (fC 45) 3 (hs "gluepage.nodes" 601) (hr 459) 0,aj "tuple" [(hi 0 879)] 0,aj "tuple" [] 0,bL [],cR "described" "described" (fA 46) (fS 46) (fC 46) 0 0,aS "code" (((IB P).take 19)),(abD (ht "function") none (hF (Bn (aaQ "described") (aaQ "described") (fA 46) (Bo (fS 46)) (fC 46) 3 [] (hr 461) hn hn (hs "gluepage.nodes" 601) none (hr 465) hn 0)) (ha [])),aj "tuple" [(hi 0 886)] 0,aj "tuple" [] 0,bL [],cR "described_list" "described_list" (fA 47) (fS 47) (fC 47) 0 0,aS "code" (((IE P).take 19)),(abD (ht "function") none (hF (Bn (aaQ "described_list") (aaQ "described_list") (fA 47) (Bo (fS 47)) (fC 47) 3 [] (hr 467) hn hn (hs "gluepage.nodes" 601) none (hr 471) hn 0)) (ha []))]
noncomputable def I9(P:Params):List Obj:=eH (I8 P) [(3,gt "dict" (((oe P).take 94).set 0 (he P "__name__" 165 (hs "gluepage.packing" 925))) 94),(12,bL (((lr P).take 105)))]++[aj "tuple" [] 0,bL [],cR "width_of" "width_of" (fA 48) (fS 48) (fC 48) 0 0,aS "code" (((IH P).take 19)),dr "width_of" "width_of" (fA 48) (fS 48) (fC 48) 3 (hs "gluepage.nodes" 601) (hr 476) 0,aj "tuple" [] 0,bL [],cR "height_of" "height_of" (fA 49) (fS 49) (fC 49) 0 0,aS "code" (((IK P).take 19)),dr "height_of" "height_of" (fA 49) (fS 49) (fC 49) 3 (hs "gluepage.nodes" 601) (hr 481) 0,aj "tuple" [] 0,bL [],cR "depth_of" "depth_of" (fA 50) (fS 50) (fC 50) 0 0,aS "code" (((IM P).take 19)),dr "depth_of" "depth_of" (fA 50) (fS 50) (fC 50) 3 (hs "gluepage.nodes" 601) (hr 486) 0,aj "tuple" [] 0,bL [],aj "tuple" [(hs "node" 914)] 0,aj "tuple" [] 0,cR "line_height" "line_height" (fA 51) (fS 51) (fC 51) 0 0,aS "code" (((IP P).take 19)),dr "line_height" "line_height" (fA 51) (fS 51) (fC 51) 3 (hs "gluepage.nodes" 601) (hr 493) 0,aj "tuple" [] 0,bL [],aj "tuple" [(hs "node" 921)] 0,aj "tuple" [] 0,cR "line_depth" "line_depth" (fA 52) (fS 52) (fC 52) 0 0,aS "code" (((IS P).take 19)),dr "line_depth" "line_depth" (fA 52) (fS 52) (fC 52) 3 (hs "gluepage.nodes" 601) (hr 500) 0]
noncomputable def Ja(P:Params):List Obj:=eH (I9 P) [(3,gt "dict" (((oe P).take 100).set 0 (he P "__name__" 165 (hs "gluepage.packing" 925))) 100)]++[aj "tuple" [(hi 0 927),(hi 1 928)] 0,aS "tuple_iterator" [hn,(hi 2 0)],aj "tuple" [] 0,aS "StopIteration" [(hr 504),hn,hn,hn,hz,hn],aj "tuple" [(hi 0 931),(hi 1 932),(hi 2 933),(hi 3 934)] 0,aS "tuple_iterator" [hn,(hi 4 0)],aj "tuple" [] 0,aS "StopIteration" [(hr 508),hn,hn,hn,hz,hn]]
noncomputable def Jb(P:Params):List Obj:=eH (Ja P) [(3,gt "dict" (((oe P).take 112).set 0 (he P "__name__" 165 (hs "gluepage.packing" 925))) 112),(12,bL (((lr P).take 141)))]++[aj "tuple" [] 0,bL [],aj "tuple" [(hs "items" 942),(hs "totals" 943),(hs "height" 944),(hs "depth" 945),(hs "node" 946)] 0,aj "tuple" [] 0,cR "natural_line" "natural_line" (fA 56) (fS 56) (fC 56) 0 0,aS "code" (((Hr P).take 19)),dr "natural_line" "natural_line" (fA 56) (fS 56) (fC 56) 3 (hs "gluepage.packing" 925) (hr 515) 0,aj "tuple" [] 0,bL [],aj "tuple" [(hs "node" 953)] 0,aj "tuple" [] 0,cR "across" "across" (fA 57) (fS 57) (fC 57) 0 0,aS "code" (((Hu P).take 19)),dr "across" "across" (fA 57) (fS 57) (fC 57) 3 (hs "gluepage.packing" 925) (hr 522) 0,aj "tuple" [] 0,bL [],aj "tuple" [(hs "items" 960),(hs "node" 961)] 0,aj "tuple" [] 0,cR "check_column" "check_column" (fA 58) (fS 58) (fC 58) 0 0,aS "code" (((Hw P).take 19)),dr "check_column" "check_column" (fA 58) (fS 58) (fC 58) 3 (hs "gluepage.packing" 925) (hr 529) 0,aj "tuple" [] 0,bL [],aj "tuple" [(hs "items" 968),(hs "totals" 969),(hs "width" 970),(hs "depth" 971),(hs "node" 972)] 0,aj "tuple" [] 0,cR "natural_column" "natural_column" (fA 59) (fS 59) (fC 59) 0 0,aS "code" (((Hy P).take 19)),dr "natural_column" "natural_column" (fA 59) (fS 59) (fC 59) 3 (hs "gluepage.packing" 925) (hr 536) 0,aj "tuple" [] 0,bL [],aj "tuple" [(hs "up" 979),(hs "down" 980)] 0,aj "tuple" [] 0,cR "quotient" "quotient" (fA 60) (fS 60) (fC 60) 0 0,aS "code" (((HA P).take 19)),dr "quotient" "quotient" (fA 60) (fS 60) (fC 60) 3 (hs "gluepage.packing" 925) (hr 543) 0,aj "tuple" [] 0,bL [],aj "tuple" [(hs "totals" 987),(hs "excess" 988),(hs "order" 989),(hs "total" 990),(hs "report" 991)] 0,aj "tuple" [] 0,cR "set_glue" "set_glue" (fA 61) (fS 61) (fC 61) 0 0,aS "code" (((HC P).take 19)),dr "set_glue" "set_glue" (fA 61) (fS 61) (fC 61) 3 (hs "gluepage.packing" 925) (hr 550) 0,aj "tuple" [] 0,bL [],aj "tuple" [(hs "box" 998),(hs "glue" 999)] 0,aj "tuple" [] 0,cR "flex" "flex" (fA 62) (fS 62) (fC 62) 0 0,aS "code" (((HE P).take 19)),dr "flex" "flex" (fA 62) (fS 62) (fC 62) 3 (hs "gluepage.packing" 925) (hr 557) 0,aj "tuple" [] 0,bL [],aj "tuple" [(hs "box" 1006),(hs "flexed" 1007)] 0,aj "tuple" [] 0,cR "set_part" "set_part" (fA 63) (fS 63) (fC 63) 0 0,aS "code" (((HG P).take 19)),dr "set_part" "set_part" (fA 63) (fS 63) (fC 63) 3 (hs "gluepage.packing" 925) (hr 564) 0,aj "tuple" [] 0,bL [],aj "tuple" [(hs "box" 1014),(hs "node" 1015)] 0,aj "tuple" [] 0,cR "part_size" "part_size" (fA 64) (fS 64) (fC 64) 0 0,aS "code" (((HH P).take 19)),dr "part_size" "part_size" (fA 64) (fS 64) (fC 64) 3 (hs "gluepage.packing" 925) (hr 571) 0,aj "tuple" [] 0,bL [],aj "tuple" [(hs "box" 1022),(hs "found" 1023),(hs "fixed" 1024),(hs "flexed" 1025),(hs "node" 1026)] 0,aj "tuple" [] 0,cR "places" "places" (fA 65) (fS 65) (fC 65) 0 0,aS "code" (((HI P).take 19)),dr "places" "places" (fA 65) (fS 65) (fC 65) 3 (hs "gluepage.packing" 925) (hr 578) 0,aj "tuple" [] 0,bL [],aj "tuple" [(hs "items" 1033),(hs "kept" 1034),(hs "out" 1035),(hs "node" 1036)] 0,aj "tuple" [] 0,cR "moved" "moved" (fA 66) (fS 66) (fC 66) 0 0,aS "code" (((HJ P).take 19)),dr "moved" "moved" (fA 66) (fS 66) (fC 66) 3 (hs "gluepage.packing" 925) (hr 585) 0,aj "tuple" [] 0,bL [],aj "tuple" [(hs "own" 1043),(hs "mode" 1044),(hs "amount" 1045)] 0,aj "tuple" [] 0,cR "goal_size" "goal_size" (fA 67) (fS 67) (fC 67) 0 0,aS "code" (((HK P).take 19)),dr "goal_size" "goal_size" (fA 67) (fS 67) (fC 67) 3 (hs "gluepage.packing" 925) (hr 592) 0]
noncomputable def Jc(P:Params):List Obj:=eH (Jb P) [(3,gt "dict" (((oe P).take 124).set 0 (he P "__name__" 165 (hs "gluepage.align" 1093))) 124),(12,bL (((lr P).take 174)))]++[aj "tuple" [] 0,bL [],aj "tuple" [(hs "box" 1052),(hs "totals" 1053),(hs "excess" 1054),(hs "report" 1055)] 0,aj "tuple" [] 0,cR "set_box" "set_box" (fA 68) (fS 68) (fC 68) 0 0,aS "code" (((HM P).take 19)),dr "set_box" "set_box" (fA 68) (fS 68) (fC 68) 3 (hs "gluepage.packing" 925) (hr 599) 0,aj "tuple" [(hi 1 928),(hi 0 1059),hn] 0,aj "tuple" [] 0,bL [],aj "tuple" [(hs "items" 1063),(hs "mode" 1064),(hs "amount" 1065),(hs "outside" 1066),(hs "kept" 1067),(hs "out" 1068),(hs "totals" 1069),(hs "height" 1070),(hs "depth" 1071),(hs "width" 1072),(hs "box" 1073)] 0,aj "tuple" [] 0,cR "hpack" "hpack" (fA 69) (fS 69) (fC 69) 0 0,aS "code" (((HO P).take 19)),(abD (ht "function") none (hF (Bn (aaQ "hpack") (aaQ "hpack") (fA 69) (Bo (fS 69)) (fC 69) 3 [] (hr 601) hn hn (hs "gluepage.packing" 925) none (hr 607) hn 0)) (ha [])),aj "tuple" [(hi 1 928),(hi 0 1077),(hi 1073741823 308)] 0,aj "tuple" [] 0,bL [],aj "tuple" [(hs "items" 1081),(hs "mode" 1082),(hs "amount" 1083),(hs "most_depth" 1084),(hs "totals" 1085),(hs "width" 1086),(hs "depth" 1087),(hs "height" 1088),(hs "box" 1089)] 0,aj "tuple" [] 0,cR "vpack" "vpack" (fA 70) (fS 70) (fC 70) 0 0,aS "code" (((HQ P).take 19)),(abD (ht "function") none (hF (Bn (aaQ "vpack") (aaQ "vpack") (fA 70) (Bo (fS 70)) (fC 70) 3 [] (hr 609) hn hn (hs "gluepage.packing" 925) none (hr 615) hn 0)) (ha [])),aj "tuple" [] 0,bL [],aj "tuple" [(hs "cell" 1100)] 0,aj "tuple" [] 0,cR "along" "along" (fA 73) (fS 73) (fC 73) 0 0,aS "code" (((HU P).take 19)),dr "along" "along" (fA 73) (fS 73) (fC 73) 3 (hs "gluepage.align" 1093) (hr 622) 0,aj "tuple" [] 0,bL [],aj "tuple" [(hs "columns" 1107),(hs "skips" 1108),(hs "skip" 1109)] 0,aj "tuple" [] 0,cR "check_skips" "check_skips" (fA 74) (fS 74) (fC 74) 0 0,aS "code" (((HX P).take 19)),dr "check_skips" "check_skips" (fA 74) (fS 74) (fC 74) 3 (hs "gluepage.align" 1093) (hr 629) 0,aj "tuple" [] 0,bL [],aj "tuple" [(hs "row" 1116),(hs "columns" 1117),(hs "found" 1118),(hs "column" 1119),(hs "cell" 1120)] 0,aj "tuple" [] 0,cR "placed_cells" "placed_cells" (fA 75) (fS 75) (fC 75) 0 0,aS "code" (((HZ P).take 19)),dr "placed_cells" "placed_cells" (fA 75) (fS 75) (fC 75) 3 (hs "gluepage.align" 1093) (hr 636) 0,aj "tuple" [] 0,bL [],cR "widths" "widths" (fA 76) (fS 76) (fC 76) 0 0,aS "code" (((H2 P).take 19)),dr "widths" "widths" (fA 76) (fS 76) (fC 76) 3 (hs "gluepage.align" 1093) (hr 641) 0,aj "tuple" [] 0,bL [],aj "tuple" [(hs "width" 1133),(hs "is_vertical" 1134),(hs "size" 1135)] 0,aj "tuple" [] 0,cR "empty_box" "empty_box" (fA 77) (fS 77) (fC 77) 0 0,aS "code" (((H5 P).take 19)),dr "empty_box" "empty_box" (fA 77) (fS 77) (fC 77) 3 (hs "gluepage.align" 1093) (hr 648) 0,aj "tuple" [] 0,bL [],aj "tuple" [(hs "sizes" 1142),(hs "skips" 1143),(hs "column" 1144)] 0,aj "tuple" [] 0,cR "tab_node" "tab_node" (fA 78) (fS 78) (fC 78) 0 0,aS "code" (((H7 P).take 19)),dr "tab_node" "tab_node" (fA 78) (fS 78) (fC 78) 3 (hs "gluepage.align" 1093) (hr 655) 0,aj "tuple" [] 0,bL [],aj "tuple" [(hs "sizes" 1151),(hs "skips" 1152),(hs "mode" 1153),(hs "amount" 1154),(hs "is_vertical" 1155),(hs "items" 1156),(hs "column" 1157)] 0,aj "tuple" [] 0,cR "prototype" "prototype" (fA 79) (fS 79) (fC 79) 0 0,aS "code" (((Ia P).take 19)),dr "prototype" "prototype" (fA 79) (fS 79) (fC 79) 3 (hs "gluepage.align" 1093) (hr 662) 0,aj "tuple" [] 0,bL [],cR "row_box" "row_box" (fA 80) (fS 80) (fC 80) 0 0,aS "code" (((Id P).take 19)),dr "row_box" "row_box" (fA 80) (fS 80) (fC 80) 3 (hs "gluepage.align" 1093) (hr 667) 0]
noncomputable def Jd(P:Params):List Obj:=eH (Jc P) [(3,gt "dict" (((oe P).take 136)) 136),(12,bL (((lr P).take 210)))]++[aj "tuple" [] 0,bL [],aj "tuple" [(hs "cell" 1170),(hs "width" 1171),(hs "size" 1172),(hs "row" 1173),(hs "own" 1174),(hs "box" 1175),(hs "report" 1176)] 0,aj "tuple" [] 0,cR "set_cell" "set_cell" (fA 81) (fS 81) (fC 81) 0 0,aS "code" (((Ig P).take 19)),dr "set_cell" "set_cell" (fA 81) (fS 81) (fC 81) 3 (hs "gluepage.align" 1093) (hr 674) 0,aj "tuple" [] 0,bL [],aj "tuple" [(hs "cells" 1183),(hs "sizes" 1184),(hs "skips" 1185),(hs "model" 1186),(hs "edges" 1187),(hs "is_vertical" 1188),(hs "row" 1189),(hs "column" 1190),(hs "cell" 1191),(hs "last" 1192),(hs "other" 1193)] 0,aj "tuple" [] 0,cR "set_row" "set_row" (fA 82) (fS 82) (fC 82) 0 0,aS "code" (((Ij P).take 19)),dr "set_row" "set_row" (fA 82) (fS 82) (fC 82) 3 (hs "gluepage.align" 1093) (hr 681) 0,aj "tuple" [] 0,bL [],aj "tuple" [(hs "rule" 1200),(hs "model" 1201),(hs "width" 1202),(hs "height" 1203)] 0,aj "tuple" [] 0,cR "set_rule" "set_rule" (fA 83) (fS 83) (fC 83) 0 0,aS "code" (((Il P).take 19)),dr "set_rule" "set_rule" (fA 83) (fS 83) (fC 83) 3 (hs "gluepage.align" 1093) (hr 688) 0,aj "tuple" [] 0,bL [],aj "tuple" [(hs "rows" 1210),(hs "sizes" 1211),(hs "skips" 1212),(hs "mode" 1213),(hs "amount" 1214),(hs "is_vertical" 1215),(hs "model" 1216),(hs "report" 1217),(hs "edges" 1218),(hs "found" 1219),(hs "row" 1220),(hs "cells" 1221),(hs "column" 1222),(hs "cell" 1223)] 0,aj "tuple" [] 0,cR "finished" "finished" (fA 84) (fS 84) (fC 84) 0 0,aS "code" (((Iq P).take 19)),dr "finished" "finished" (fA 84) (fS 84) (fC 84) 3 (hs "gluepage.align" 1093) (hr 695) 0,aj "tuple" [] 0,bL [],aj "tuple" [(hs "cell" 1232),(hs "more" 1233)] 0,aj "tuple" [] 0,cR "_law_box" "_law_box" (fA 86) (fS 86) (fC 86) 0 0,aS "code" (((It P).take 19)),dr "_law_box" "_law_box" (fA 86) (fS 86) (fC 86) 3 (hs "law_tu0009_01" 1227) (hr 702) 0,aj "tuple" [] 0,bL [],aj "tuple" [(hs "box" 1240),(hs "many" 1241),(hs "digit" 1242)] 0,aj "tuple" [] 0,cR "_law_take" "_law_take" (fA 87) (fS 87) (fC 87) 0 0,aS "code" (((Ix P).take 19)),dr "_law_take" "_law_take" (fA 87) (fS 87) (fC 87) 3 (hs "law_tu0009_01" 1227) (hr 709) 0,aj "tuple" [] 0,bL [],aj "tuple" [(hs "box" 1249),(hs "breadth" 1250),(hs "more" 1251),(hs "less" 1252),(hs "first" 1253),(hs "second" 1254)] 0,aj "tuple" [] 0,cR "_law_flow" "_law_flow" (fA 88) (fS 88) (fC 88) 0 0,aS "code" (((IA P).take 19)),dr "_law_flow" "_law_flow" (fA 88) (fS 88) (fC 88) 3 (hs "law_tu0009_01" 1227) (hr 716) 0,aj "tuple" [] 0,bL [],aj "tuple" [(hs "box" 1261),(hs "way" 1262)] 0,aj "tuple" [] 0,cR "_law_part" "_law_part" (fA 89) (fS 89) (fC 89) 0 0,aS "code" (((ID P).take 19)),dr "_law_part" "_law_part" (fA 89) (fS 89) (fC 89) 3 (hs "law_tu0009_01" 1227) (hr 723) 0,aj "tuple" [] 0,bL [],aj "tuple" [(hs "part" 1269),(hs "made" 1270)] 0,aj "tuple" [] 0,cR "_law_node" "_law_node" (fA 90) (fS 90) (fC 90) 0 0,aS "code" (((IG P).take 19)),dr "_law_node" "_law_node" (fA 90) (fS 90) (fC 90) 3 (hs "law_tu0009_01" 1227) (hr 730) 0,aj "tuple" [] 0,bL [],cR "_law_cell" "_law_cell" (fA 91) (fS 91) (fC 91) 0 0,aS "code" (((II P).take 19)),dr "_law_cell" "_law_cell" (fA 91) (fS 91) (fC 91) 3 (hs "law_tu0009_01" 1227) (hr 735) 0,aj "tuple" [] 0,bL [],cR "_law_rows" "_law_rows" (fA 92) (fS 92) (fC 92) 0 0,aS "code" (((IL P).take 19)),dr "_law_rows" "_law_rows" (fA 92) (fS 92) (fC 92) 3 (hs "law_tu0009_01" 1227) (hr 740) 0,aj "tuple" [] 0,bL [],cR "_law_table" "_law_table" (fA 93) (fS 93) (fC 93) 0 0,aS "code" (((IO P).take 19)),dr "_law_table" "_law_table" (fA 93) (fS 93) (fC 93) 3 (hs "law_tu0009_01" 1227) (hr 745) 0]
noncomputable def vd(P:Params):List Obj:=eH (Jd P) [(3,gt "dict" (((oe P).take 141)) 141),(12,bL (((lr P).take 225)))]++[aj "tuple" [] 0,bL [],aj "tuple" [(hs "sizes" 1295),(hs "row" 1296),(hs "first" 1297),(hs "column" 1298),(hs "size" 1299)] 0,aj "tuple" [] 0,cR "_law_blank" "_law_blank" (fA 94) (fS 94) (fC 94) 0 0,aS "code" (((IR P).take 19)),dr "_law_blank" "_law_blank" (fA 94) (fS 94) (fC 94) 3 (hs "law_tu0009_01" 1227) (hr 752) 0,aj "tuple" [] 0,bL [],aj "tuple" [(hs "box" 1306),(hs "many" 1307),(hs "rest" 1308),(hs "found" 1309)] 0,aj "tuple" [] 0,cR "_law_order" "_law_order" (fA 95) (fS 95) (fC 95) 0 0,aS "code" (((IT P).take 19)),dr "_law_order" "_law_order" (fA 95) (fS 95) (fC 95) 3 (hs "law_tu0009_01" 1227) (hr 759) 0,aj "tuple" [] 0,bL [],cR "_law_fewer" "_law_fewer" (fA 96) (fS 96) (fC 96) 0 0,aS "code" (((IU P).take 19)),dr "_law_fewer" "_law_fewer" (fA 96) (fS 96) (fC 96) 3 (hs "law_tu0009_01" 1227) (hr 764) 0,aj "tuple" [] 0,bL [],cR "_law_shrunk" "_law_shrunk" (fA 97) (fS 97) (fC 97) 0 0,aS "code" (((Hp P).take 19)),dr "_law_shrunk" "_law_shrunk" (fA 97) (fS 97) (fC 97) 3 (hs "law_tu0009_01" 1227) (hr 769) 0,aj "tuple" [] 0,bL [],cR "law" "law" (fA 98) (fS 98) (fC 98) 0 0,aS "code" (((Ht P).take 19)),dr "law" "law" (fA 98) (fS 98) (fC 98) 3 (hs "law_tu0009_01" 1227) (hr 774) 0]
noncomputable def ca:Life:=(PySem.Life.mk [] [] [] 0 [] [] false (ha []) [] 0 false false false 0 [2000,10,10] false 0 true [] [] 0 false)
noncomputable def bv:PySem.Drawn:=(PySem.Drawn.mk 0 0 0 0)
noncomputable def hG:Array GenState:=Array.mk []
noncomputable def ey:Option Value:=(some (hr 6))
noncomputable def fy:Env:={scope:=HP.main.scope,locals:=mainNs,globals:=mainNs,cells:=[],code:=(hr 13),frame:=some 14}
noncomputable def xv:List Stmt:=behindTheImports HP
noncomputable def aP:Code:= .body xv fy
noncomputable def KW:Pos:=(abH 0 0 0 0)
noncomputable def DY:Pos:=(abH 0 0 0 0)
noncomputable def DZ:Pos:=(abH 0 0 0 0)
noncomputable abbrev mE:List Frame:=[topFrame KW]
noncomputable def bU(a b:Nat):List Stmt:=(xv.drop a).take b
noncomputable abbrev LM(P:Params)(os:OsState):Shared:=⟨boot_heap P,Array.mk [],boot_drawn,boot_toks,os⟩
noncomputable abbrev LO(P:Params)(os:OsState):Shared:=⟨Heap.mk (Array.mk (LD P)) ca,hG,bv,187,os⟩
noncomputable abbrev LQ(P:Params)(os:OsState):SharedT:=⟨hT 12 (LE P),15,ca,hG,bv,187,os⟩
noncomputable abbrev LS(P:Params)(os:OsState):SharedT:=⟨hT 12 (LF P),22,ca,hG,bv,194,os⟩
noncomputable abbrev LT(P:Params)(os:OsState):SharedT:=⟨hT 12 (LG P),26,ca,hG,bv,206,os⟩
noncomputable abbrev LU(P:Params)(os:OsState):SharedT:=⟨hT 12 (LH P),47,ca,hG,bv,236,os⟩
noncomputable abbrev LV(P:Params)(os:OsState):SharedT:=⟨hT 12 (LI P),59,ca,hG,bv,252,os⟩
noncomputable abbrev LW(P:Params)(os:OsState):SharedT:=⟨hT 12 (LJ P),71,ca,hG,bv,268,os⟩
noncomputable abbrev LX(P:Params)(os:OsState):SharedT:=⟨hT 12 (LK P),83,ca,hG,bv,284,os⟩
noncomputable abbrev LY(P:Params)(os:OsState):SharedT:=⟨hT 12 (LL P),95,ca,hG,bv,318,os⟩
noncomputable abbrev Je(P:Params)(os:OsState):SharedT:=⟨hT 12 (IW P),99,ca,hG,bv,326,os⟩
noncomputable abbrev Jf(P:Params)(os:OsState):SharedT:=⟨hT 12 (IX P),176,ca,hG,bv,424,os⟩
noncomputable abbrev Jg(P:Params)(os:OsState):SharedT:=⟨hT 12 (IY P),248,ca,hG,bv,526,os⟩
noncomputable abbrev Jh(P:Params)(os:OsState):SharedT:=⟨hT 12 (IZ P),255,ca,hG,bv,534,os⟩
noncomputable abbrev Ji(P:Params)(os:OsState):SharedT:=⟨hT 12 (I0 P),311,ca,hG,bv,603,os⟩
noncomputable abbrev Jj(P:Params)(os:OsState):SharedT:=⟨hT 12 (I1 P),319,ca,hG,bv,633,os⟩
noncomputable abbrev Jk(P:Params)(os:OsState):SharedT:=⟨hT 12 (I2 P),331,ca,hG,bv,661,os⟩
noncomputable abbrev Jl(P:Params)(os:OsState):SharedT:=⟨hT 12 (I3 P),335,ca,hG,bv,669,os⟩
noncomputable abbrev Jm(P:Params)(os:OsState):SharedT:=⟨hT 12 (I4 P),356,ca,hG,bv,712,os⟩
noncomputable abbrev Jn(P:Params)(os:OsState):SharedT:=⟨hT 12 (I5 P),377,ca,hG,bv,747,os⟩
noncomputable abbrev Jo(P:Params)(os:OsState):SharedT:=⟨hT 12 (I6 P),398,ca,hG,bv,779,os⟩
noncomputable abbrev Jp(P:Params)(os:OsState):SharedT:=⟨hT 12 (I7 P),420,ca,hG,bv,813,os⟩
noncomputable abbrev Jq(P:Params)(os:OsState):SharedT:=⟨hT 12 (I8 P),473,ca,hG,bv,893,os⟩
noncomputable abbrev Jr(P:Params)(os:OsState):SharedT:=⟨hT 12 (I9 P),502,ca,hG,bv,927,os⟩
noncomputable abbrev Js(P:Params)(os:OsState):SharedT:=⟨hT 12 (Ja P),510,ca,hG,bv,939,os⟩
noncomputable abbrev Jt(P:Params)(os:OsState):SharedT:=⟨hT 12 (Jb P),594,ca,hG,bv,1049,os⟩
noncomputable abbrev Ju(P:Params)(os:OsState):SharedT:=⟨hT 12 (Jc P),669,ca,hG,bv,1167,os⟩
noncomputable abbrev Jv(P:Params)(os:OsState):SharedT:=⟨hT 12 (Jd P),747,ca,hG,bv,1292,os⟩
noncomputable abbrev Jw(P:Params)(os:OsState):SharedT:=⟨hT 12 (vd P),776,ca,hG,bv,1331,os⟩
noncomputable def Jx:Pos:=(abH 1 0 3 12)
noncomputable def Jy:Pos:=(abH 4 61 4 74)
noncomputable def Jz:Pos:=(abH 6 0 9 28)
noncomputable def JA:Pos:=(abH 10 0 11 8)
noncomputable def JB:Pos:=(abH 12 0 13 8)
noncomputable def JC:Pos:=(abH 14 0 15 8)
noncomputable def JD:Pos:=(abH 22 0 22 7)
noncomputable def JE:Pos:=(abH 23 19 23 24)
noncomputable def JF:Pos:=(abH 84 0 85 81)
noncomputable def JG:Pos:=(abH 86 0 123 20)
noncomputable def D0:Pos:=(abH 124 0 128 17)
noncomputable def D1:Pos:=(abH 152 0 152 8)
noncomputable def D2:Pos:=(abH 154 43 154 48)
noncomputable def D3:Pos:=(abH 157 57 157 62)
noncomputable def D4:Pos:=(abH 158 30 158 37)
noncomputable def D5:Pos:=(abH 160 0 173 27)
noncomputable def D6:Pos:=(abH 174 0 183 26)
noncomputable def D7:Pos:=(abH 184 0 191 24)
noncomputable def D8:Pos:=(abH 192 0 204 28)
noncomputable def D9:Pos:=(abH 265 0 266 60)
noncomputable def Ea:Pos:=(abH 314 0 314 8)
noncomputable def Eb:Pos:=(abH 316 20 316 28)
noncomputable def Ec:Pos:=(abH 407 0 411 54)
noncomputable def Ed:Pos:=(abH 479 0 489 14)
noncomputable def Ee:Pos:=(abH 580 0 589 49)
noncomputable def Ef:Pos:=(abH 614 0 646 59)
end
section
set_option tactic.hygienic true
set_option maxHeartbeats 0
theorem JH(w:World):(λos=>topGo treeTable HP w 11 ey 12 (LM w.params os) (topStub HP))=λos=>some (LO w.params os,⟨denote treeTable aP,aP,DY,mE⟩):=by
 rw[PySem.W.Fast.te15667345088766844465,PySem.W.Fast.te11892475500146522536,abI]
 kernel_rfl
theorem Dh(w:World):(λos=>segRun treeTable HP w 11 ey 1 1 (LO w.params os) (blockOf xv fy aP DY mE))=λos=>some (.next,(LQ w.params os).abs,aP,DZ):=by
 rw[PySem.W.Fast.te14374325043358763698,abI]
 kernel_rfl
theorem Ml(w:World):(λos=>segRunT treeTable HP w 11 ey 1 30 (LQ w.params os) ⟨(execs (bU 0 1) fy).wrap doneF deadEnd id id,aP,DZ,mE⟩)=λos=>some (.next,LS w.params os,aP,Jx):=by rw[abJ,abI,abK];kernel_rfl
theorem Mm:∀w:World,(λos=>segRunT treeTable HP w 11 ey 1 138 (LS w.params os) ⟨(execs (bU 1 1) fy).wrap doneF deadEnd id id,aP,Jx,mE⟩)=λos=>some (.next,LT w.params os,aP,Jy):=byRow2 "special-get-raises" (λw=>by rw[abJ,abI,abK];kernel_rfl) (λw=>by rw[abJ,abI,abK];kernel_rfl)
theorem JI(w:World):(λos=>segRunT treeTable HP w 11 ey 1 230 (LT w.params os) ⟨(execs (bU 2 2) fy).wrap doneF deadEnd id id,aP,Jy,mE⟩)=λos=>some (.next,LU w.params os,aP,Jz):=by rw[abJ,abI,abK];kernel_rfl
theorem Mn(w:World):(λos=>segRunT treeTable HP w 11 ey 1 214 (LU w.params os) ⟨(execs (bU 4 1) fy).wrap doneF deadEnd id id,aP,Jz,mE⟩)=λos=>some (.next,LV w.params os,aP,JA):=by rw[abJ,abI,abK];kernel_rfl
theorem Mo(w:World):(λos=>segRunT treeTable HP w 11 ey 1 214 (LV w.params os) ⟨(execs (bU 5 1) fy).wrap doneF deadEnd id id,aP,JA,mE⟩)=λos=>some (.next,LW w.params os,aP,JB):=by rw[abJ,abI,abK];kernel_rfl
theorem Mp(w:World):(λos=>segRunT treeTable HP w 11 ey 1 214 (LW w.params os) ⟨(execs (bU 6 1) fy).wrap doneF deadEnd id id,aP,JB,mE⟩)=λos=>some (.next,LX w.params os,aP,JC):=by rw[abJ,abI,abK];kernel_rfl
theorem Mq(w:World):(λos=>segRunT treeTable HP w 11 ey 1 283 (LX w.params os) ⟨(execs (bU 7 6) fy).wrap doneF deadEnd id id,aP,JC,mE⟩)=λos=>some (.next,LY w.params os,aP,JD):=by rw[abJ,abI,abK];kernel_rfl
theorem Mr:∀w:World,(λos=>segRunT treeTable HP w 11 ey 1 102 (LY w.params os) ⟨(execs (bU 13 1) fy).wrap doneF deadEnd id id,aP,JD,mE⟩)=λos=>some (.next,Je w.params os,aP,JE):=byRow2 "special-get-raises" (λw=>by rw[abJ,abI,abK];kernel_rfl) (λw=>by rw[abJ,abI,abK];kernel_rfl)
theorem Ms(w:World):(λos=>segRunT treeTable HP w 11 ey 1 359 (Je w.params os) ⟨(execs (bU 14 13) fy).wrap doneF deadEnd id id,aP,JE,mE⟩)=λos=>some (.next,Jf w.params os,aP,JF):=by rw[abJ,abI,abK];kernel_rfl
theorem Mt(w:World):(λos=>segRunT treeTable HP w 11 ey 1 466 (Jf w.params os) ⟨(execs (bU 27 1) fy).wrap doneF deadEnd id id,aP,JF,mE⟩)=λos=>some (.next,Jg w.params os,aP,JG):=by rw[abJ,abI,abK];kernel_rfl
theorem KX(w:World):(λos=>segRunT treeTable HP w 11 ey 1 31 (Jg w.params os) ⟨(execs (bU 28 1) fy).wrap doneF deadEnd id id,aP,JG,mE⟩)=λos=>some (.next,Jh w.params os,aP,D0):=by rw[abJ,abI,abK];kernel_rfl
theorem KY(w:World):(λos=>segRunT treeTable HP w 11 ey 1 390 (Jh w.params os) ⟨(execs (bU 29 2) fy).wrap doneF deadEnd id id,aP,D0,mE⟩)=λos=>some (.next,Ji w.params os,aP,D1):=by rw[abJ,abI,abK];kernel_rfl
theorem KZ:∀w:World,(λos=>segRunT treeTable HP w 11 ey 1 329 (Ji w.params os) ⟨(execs (bU 31 2) fy).wrap doneF deadEnd id id,aP,D1,mE⟩)=λos=>some (.next,Jj w.params os,aP,D2):=byRow2 "special-get-raises" (λw=>by rw[abJ,abI,abK];kernel_rfl) (λw=>by rw[abJ,abI,abK];kernel_rfl)
theorem K0:∀w:World,(λos=>segRunT treeTable HP w 11 ey 1 340 (Jj w.params os) ⟨(execs (bU 33 3) fy).wrap doneF deadEnd id id,aP,D2,mE⟩)=λos=>some (.next,Jk w.params os,aP,D3):=byRow2 "special-get-raises" (λw=>by rw[abJ,abI,abK];kernel_rfl) (λw=>by rw[abJ,abI,abK];kernel_rfl)
theorem K1:∀w:World,(λos=>segRunT treeTable HP w 11 ey 1 102 (Jk w.params os) ⟨(execs (bU 36 1) fy).wrap doneF deadEnd id id,aP,D3,mE⟩)=λos=>some (.next,Jl w.params os,aP,D4):=byRow2 "special-get-raises" (λw=>by rw[abJ,abI,abK];kernel_rfl) (λw=>by rw[abJ,abI,abK];kernel_rfl)
theorem K2(w:World):(λos=>segRunT treeTable HP w 11 ey 1 244 (Jl w.params os) ⟨(execs (bU 37 2) fy).wrap doneF deadEnd id id,aP,D4,mE⟩)=λos=>some (.next,Jm w.params os,aP,D5):=by rw[abJ,abI,abK];kernel_rfl
theorem K3(w:World):(λos=>segRunT treeTable HP w 11 ey 1 241 (Jm w.params os) ⟨(execs (bU 39 1) fy).wrap doneF deadEnd id id,aP,D5,mE⟩)=λos=>some (.next,Jn w.params os,aP,D6):=by rw[abJ,abI,abK];kernel_rfl
theorem K4(w:World):(λos=>segRunT treeTable HP w 11 ey 1 238 (Jn w.params os) ⟨(execs (bU 40 1) fy).wrap doneF deadEnd id id,aP,D6,mE⟩)=λos=>some (.next,Jo w.params os,aP,D7):=by rw[abJ,abI,abK];kernel_rfl
theorem K5(w:World):(λos=>segRunT treeTable HP w 11 ey 1 241 (Jo w.params os) ⟨(execs (bU 41 1) fy).wrap doneF deadEnd id id,aP,D7,mE⟩)=λos=>some (.next,Jp w.params os,aP,D8):=by rw[abJ,abI,abK];kernel_rfl
theorem K6(w:World):(λos=>segRunT treeTable HP w 11 ey 1 393 (Jp w.params os) ⟨(execs (bU 42 6) fy).wrap doneF deadEnd id id,aP,D8,mE⟩)=λos=>some (.next,Jq w.params os,aP,D9):=by rw[abJ,abI,abK];kernel_rfl
theorem K7(w:World):(λos=>segRunT treeTable HP w 11 ey 1 146 (Jq w.params os) ⟨(execs (bU 48 6) fy).wrap doneF deadEnd id id,aP,D9,mE⟩)=λos=>some (.next,Jr w.params os,aP,Ea):=by rw[abJ,abI,abK];kernel_rfl
theorem K8:∀w:World,(λos=>segRunT treeTable HP w 11 ey 1 167 (Jr w.params os) ⟨(execs (bU 54 2) fy).wrap doneF deadEnd id id,aP,Ea,mE⟩)=λos=>some (.next,Js w.params os,aP,Eb):=byRow2 "special-get-raises" (λw=>by rw[abJ,abI,abK];kernel_rfl) (λw=>by rw[abJ,abI,abK];kernel_rfl)
theorem K9(w:World):(λos=>segRunT treeTable HP w 11 ey 1 375 (Js w.params os) ⟨(execs (bU 56 12) fy).wrap doneF deadEnd id id,aP,Eb,mE⟩)=λos=>some (.next,Jt w.params os,aP,Ec):=by rw[abJ,abI,abK];kernel_rfl
theorem La(w:World):(λos=>segRunT treeTable HP w 11 ey 1 387 (Jt w.params os) ⟨(execs (bU 68 13) fy).wrap doneF deadEnd id id,aP,Ec,mE⟩)=λos=>some (.next,Ju w.params os,aP,Ed):=by rw[abJ,abI,abK];kernel_rfl
theorem Lb(w:World):(λos=>segRunT treeTable HP w 11 ey 1 391 (Ju w.params os) ⟨(execs (bU 81 13) fy).wrap doneF deadEnd id id,aP,Ed,mE⟩)=λos=>some (.next,Jv w.params os,aP,Ee):=by rw[abJ,abI,abK];kernel_rfl
theorem Lc(w:World):(λos=>segRunT treeTable HP w 11 ey 1 144 (Jv w.params os) ⟨(execs (bU 94 5) fy).wrap doneF deadEnd id id,aP,Ee,mE⟩)=λos=>some (.next,Jw w.params os,aP,Ef):=by rw[abJ,abI,abK];kernel_rfl
theorem JJ(w:World):(λos=>topRun treeTable HP w 11 ey 2 (Jw w.params os).abs ⟨doneF .next,aP,Ef,mE⟩)=λos=>some ⟨Heap.mk (Array.mk (vd w.params)) ca,hG,bv,1331,os⟩:=by
 rw[PySem.W.Fast.te14082659384304107361,abI]
 kernel_rfl
end
section
set_option tactic.hygienic true
theorem Di:xv=bU 0 1++(bU 1 1++(bU 2 2++(bU 4 1++(bU 5 1++(bU 6 1++(bU 7 6++(bU 13 1++(bU 14 13++(bU 27 1++(bU 28 1++(bU 29 2++(bU 31 2++(bU 33 3++(bU 36 1++(bU 37 2++(bU 39 1++(bU 40 1++(bU 41 1++(bU 42 6++(bU 48 6++(bU 54 2++(bU 56 12++(bU 68 13++(bU 81 13++(bU 94 5++([])))))))))))))))))))))))))):=by kernel_rfl
noncomputable abbrev hM:Nat:=(12+(1+(30+(138+(230+(214+(214+(214+(283+(102+(359+(466+(31+(390+(329+(340+(102+(244+(241+(238+(241+(393+(146+(167+(375+(387+(391+(144+2))))))))))))))))))))))))))))
theorem Ld(w:World)(os:OsState):topRun treeTable HP w 11 ey hM ⟨boot_heap w.params,Array.mk [],boot_drawn,boot_toks,os⟩ (topStub HP)=some ⟨Heap.mk (Array.mk (vd w.params)) ca,hG,bv,1331,os⟩:=by
 refine go_top (congrFun (JH w) os) (piece_block (congrFun (Dh w) os) ?_)
 rw[Di]
 exact piece_app (segRun_of (congrFun (Ml w) os)) (piece_app (segRun_of (congrFun (Mm w) os)) (piece_app (segRun_of (congrFun (JI w) os)) (piece_app (segRun_of (congrFun (Mn w) os)) (piece_app (segRun_of (congrFun (Mo w) os)) (piece_app (segRun_of (congrFun (Mp w) os)) (piece_app (segRun_of (congrFun (Mq w) os)) (piece_app (segRun_of (congrFun (Mr w) os)) (piece_app (segRun_of (congrFun (Ms w) os)) (piece_app (segRun_of (congrFun (Mt w) os)) (piece_app (segRun_of (congrFun (KX w) os)) (piece_app (segRun_of (congrFun (KY w) os)) (piece_app (segRun_of (congrFun (KZ w) os)) (piece_app (segRun_of (congrFun (K0 w) os)) (piece_app (segRun_of (congrFun (K1 w) os)) (piece_app (segRun_of (congrFun (K2 w) os)) (piece_app (segRun_of (congrFun (K3 w) os)) (piece_app (segRun_of (congrFun (K4 w) os)) (piece_app (segRun_of (congrFun (K5 w) os)) (piece_app (segRun_of (congrFun (K6 w) os)) (piece_app (segRun_of (congrFun (K7 w) os)) (piece_app (segRun_of (congrFun (K8 w) os)) (piece_app (segRun_of (congrFun (K9 w) os)) (piece_app (segRun_of (congrFun (La w) os)) (piece_app (segRun_of (congrFun (Lb w) os)) (piece_app (segRun_of (congrFun (Lc w) os)) (piece_nil (congrFun (JJ w) os)))))))))))))))))))))))))))
end
section
set_option tactic.hygienic true
noncomputable def hK(P:Params):Frag:=(vd P).zipIdx.map λp=>(p.2,p.1)
noncomputable def Bp{α β:Type}(f:α->β->Bool):List α->List β->Bool
 |[],[]=>true
 |a::l,b::m=>f a b&&Bp f l m
 |_,_=>false
set_option backward.match.sparseCases false in
noncomputable def L3:V->Option Unit
 | .none=>some ()|_=>none
theorem Le{v:V}{u:Unit}(h:L3 v=some u):v= .none:=by cases v<;>first|exact ak h|rfl
set_option backward.match.sparseCases false in
noncomputable def Bq(v:V):Value->Bool
 | .none=>L3 v==some ()
 | .int j _=>bp v==some j
 | .bool b=>sR v==some b
 |_=>false
theorem Br{z:af}{as:aX}{v:V}{x:Value}(h:Bq v x=true):aC z as v x:=by
 cases x
 case none=>rw[Le (beq_iff_eq.mp h)];exact .none
 case int j t=>rw[cb (beq_iff_eq.mp h)];exact .int _ _
 case bool b=>rw[wu (beq_iff_eq.mp h)];exact .bool _
 all_goals exact absurd h aaG
theorem Bs{z:af}{as:aX}{l:List V}{m:List Value}(h:Bp Bq l m=true):aA z as l m:=by
 induction l generalizing m with
 |nil=>
  cases m with
  |nil=>exact .nil
  |cons=>exact absurd h aaG
 |cons a l ih=>
  cases m with
  |nil=>exact absurd h aaG
  |cons b m=>exact .cons (Br (abi.mp h).1) (ih (abi.mp h).2)
set_option backward.match.sparseCases false in
noncomputable def JK:Data->Option FuncData
 | .func fd=>some fd|_=>none
set_option backward.match.sparseCases false in
noncomputable def Bt:Data->Option (Array Value)
 | .seq its _=>some its|_=>none
theorem JL{d:Data}{f:FuncData}(h:JK d=some f):d= .func f:=by cases d<;>first|exact ak h|exact congrArg Data.func (aag h)
theorem JM{d:Data}{f:Array Value}(h:Bt d=some f):∃n,d= .seq f n:=by
 cases d
 case seq a n=>rw[<-aag h];exact⟨n,rfl⟩
 all_goals exact ak h
noncomputable def Dj(o:Option Obj):Option FuncData:=o.bind λo=>JK o.data
theorem JN{o:Option Obj}{f:FuncData}(h:Dj o=some f):∃x,o=some x/\x.data= .func f:=by
 cases o with
 |none=>exact ak h
 |some x=>exact⟨x,rfl,JL h⟩
set_option backward.match.sparseCases false in
noncomputable def Eg(K:Frag)(d:Value)(ds:List V):Bool:=match d with
 | .none=>ds.isEmpty
 | .ref T=>((K.lookup T).bind λo=>Bt o.data).any λits=>Bp Bq ds its.toList
 |_=>false
theorem Bu{K:Frag}{d:Value}{ds:List V}(h:Eg K d ds=true):zC K d ds:=by
 cases d
 case none=>exact .inl ⟨rfl,aaH.mp h⟩
 case ref T=>
  have h:((K.lookup T).bind λo=>Bt o.data).any (λits=>Bp Bq ds its.toList)=true:=h
  cases e:K.lookup T with
  |none=>rw[e] at h;exact absurd h aaG
  |some o=>
   rw[e] at h
   have h:(Bt o.data).any (λits=>Bp Bq ds its.toList)=true:=h
   cases g:Bt o.data with
   |none=>rw[g] at h;exact absurd h aaG
   |some its=>
    rw[g] at h
    obtain⟨n,hn⟩:=JM g
    exact .inr ⟨T,_,its,n,rfl,e,hn,Bs h⟩
 all_goals exact absurd h aaG
noncomputable def nj:List Str->Bool
 |[]=>true
 |a::l=> !l.contains a&&nj l
theorem tT{l:List Str}(h:nj l=true):l.Nodup:=by
 induction l with
 |nil=>exact List.nodup_nil
 |cons a l ih=>
  obtain⟨h1,h2⟩:=abi.mp h
  refine abc.mpr ⟨λm=> ?_,ih h2⟩
  rw[abd.mpr m] at h1
  exact aaG h1
noncomputable def FV(K:Frag)(fd:FuncData)(ps:List Str)(ds:List V)(names:ae):Bool:=
 (fd.globals==mainGlobals)&&(fd.builtins==builtinsNs)&&fd.closure.isEmpty&&codeIn K fd.code fd.qualname&& !fd.scope.isCoroutine&& !fd.scope.isGenerator&&(fd.scope.kind== .function)&&
 gv names&&names.all (λp=>p.2 != .free)&&fd.params.posonlyargs.isEmpty&&fd.params.vararg.isNone&&fd.params.kwonlyargs.isEmpty&&fd.params.kwarg.isNone&&(fd.params.args.map (·.arg)==ps)&&
 nj ps&&ps.all (λx=>names.lookup x==some .local||names.lookup x==some .cell)&&decide (ds.length<=ps.length)&&Eg K fd.defaults ds
noncomputable def Bv(K:Frag)(a:Addr):cy->Bool
 | .fn ps ds names body _ _=>keepIn K (.ref a)&&match Dj (K.lookup a) with
  |some fd=>FV K fd ps ds names
  |none=>false
 | .cls fI _ _=>keepIn K (.ref a)&&makesIn K a&&(findIn K (.ref a) "__init__"==some (some (.ref fI)))&&(typeIn K (.ref fI)==some (.type "function"))
noncomputable def tU(K:Frag)(a:Addr):cy->Option (FuncBody×ae)
 | .fn .. =>(Dj (K.lookup a)).map λfd=>(fd.body,fd.scope.names)
 | .cls .. =>none
noncomputable def tV:cy->Option (FuncBody×ae)
 | .fn _ _ names body _ _=>some (.stmts body,names)
 | .cls .. =>none
theorem ve{names:ae}(h:names.all (λp=>p.2 != .free)=true)(x:Str):names.lookup x≠some .free:=by
 induction names with
 |nil=>intro e;cases e
 |cons p l ih=>
  rw[List.all_cons,aan] at h
  intro e
  rw[aau] at e
  split at e
  ·rw[aag e] at h;cases h.1
  ·exact ih h.2 e
theorem FW{K:Frag}{h₀:Heap}(X:K.In h₀){a:Addr}{e:cy}(h:Bv K a e=true)(hb:tU K a e=tV e):keepIn K (.ref a)=true/\ux K h₀ a e:=by
 cases e with
 |fn ps ds names body fr keep=>
  obtain⟨h1,h2⟩:=abi.mp h
  refine⟨h1,?_⟩
  unfold tU tV at hb
  dsimp only at h2 hb
  cases e:Dj (K.lookup a) with
  |none=>rw[e] at h2;exact absurd h2 aaG
  |some fd=>
   rw[e] at h2 hb
   obtain⟨o,hl,hd⟩:=JN e
   have hb:some (fd.body,fd.scope.names)=some (.stmts body,names):=hb
   obtain⟨b1,b2⟩:=Prod.mk.inj (aag hb)
   have h2:FV K fd ps ds names=true:=h2
   unfold FV at h2
   simp only[aan,Bool.not_eq_true',beq_iff_eq,aaH,Option.isNone_iff_eq_none,decide_eq_true_eq] at h2
   obtain⟨⟨⟨⟨⟨⟨⟨⟨⟨⟨⟨⟨⟨⟨⟨⟨⟨c1,c2⟩,c3⟩,c4⟩,c5⟩,c6⟩,c7⟩,c8⟩,c9⟩,c10⟩,c11⟩,F8⟩,c13⟩,c14⟩,c15⟩,Hf⟩,c17⟩,c18⟩:=h2
   refine⟨fd,⟨⟨_,hl,hd⟩,b1,c1,c2,c3,codeRec_of X c4,c5,c6,c7,by rw[b2];exact c8,by rw[b2];exact ve c9⟩,b2,⟨c10,c11,F8,c13,c14⟩,tT c15,λx hx=> ?_,c17,Bu c18⟩
   have:=aa4.mp Hf x hx
   rw[Bool.or_eq_true,beq_iff_eq,beq_iff_eq] at this
   exact this
 |cls fI fr keep=>
  unfold Bv at h
  simp only[aan,beq_iff_eq] at h
  exact⟨h.1.1.1,h.1.1.2,h.1.2,h.2⟩
theorem JO(P:Params):((vE.take 30).all λp=>Bv (hK P) p.1 p.2)=true:=by kernel_rfl
theorem JP(P:Params):((vE.drop 30).all λp=>Bv (hK P) p.1 p.2)=true:=by kernel_rfl
theorem Dk(P:Params):(vE.all λp=>Bv (hK P) p.1 p.2)=true:=by
 rw[<-abl 30 vE,List.all_append,JO,JP];rfl
theorem Bw(P:Params):(vE.map λp=>tU (hK P) p.1 p.2)=vE.map λp=>tV p.2:=by kernel_rfl
theorem tW{α β:Type}[BEq α][LawfulBEq α]{a:α}{b:β}{l:List (α×β)}(h:l.lookup a=some b):(a,b)∈l:=by
 induction l with
 |nil=>exact ak h
 |cons p l ih=>
  obtain⟨c,d⟩:=p
  rw[aau] at h
  split at h
  ·rename_i e;rw[eq_of_beq e,aag h];exact .head _
  ·exact .tail _ (ih h)
theorem JQ{P:Params}{h₀:Heap}(X:(hK P).In h₀):DE (hK P) h₀ dh:=by
 have key:∀a e,dh a=some e->keepIn (hK P) (.ref a)=true/\ux (hK P) h₀ a e:=λa e h=>by
  have hm:=tW h
  exact FW X (aa4.mp (Dk P) _ hm) (List.map_inj_left.mp (Bw P) _ hm)
 exact⟨λa e h=>(key a e h).1,λa e h=>(key a e h).2⟩
end
section
set_option tactic.hygienic true
noncomputable def Eh(K:Frag)(p:Str×V):Bool:=match p.2 with
 | .int i=>match nsIn K mainGlobals p.1 with
  |some (some (.int j _))=>i==j
  |_=>false
 | .top v=>handedIn v&&match nsIn K mainGlobals p.1 with
  |some (some x)=>x==v
  |some none=>(p.1 !="__name__")&&(bootBuiltins p.1==some v)
  |none=>false
 |_=>false
theorem By{K:Frag}{h₀:Heap}(X:K.In h₀){p:Str×V}(h:Eh K p=true):∃val,(∀z as,aC z as p.2 val)/\∀mg,h₀.Ns mainGlobals mg->(mg p.1=some val\/(mg p.1=none/\p.1≠"__name__"/\bootBuiltins p.1=some val)):=by
 obtain⟨x,v⟩:=p
 cases v with
 |int i=>
  have h:(match nsIn K mainGlobals x with|some (some (.int j _))=>i==j|_=>false)=true:=h
  cases e:nsIn K mainGlobals x with
  |none=>rw[e] at h;cases h
  |some r=>
   cases r with
   |none=>rw[e] at h;cases h
   |some y=>
    cases y with
    |int j t=>
     rw[e] at h
     have h:(i==j)=true:=h
     rw[beq_iff_eq] at h
     subst h
     exact⟨.int i t,λz as=> .int i t,λmg G=> .inl (mg_of X G e)⟩
    |_=>rw[e] at h;cases h
 |top v=>
  obtain⟨h1,h2⟩:=abi.mp h
  refine⟨v,λz as=> .top v h1,λmg G=> ?_⟩
  have h2:(match nsIn K mainGlobals x with|some (some y)=>y==v|some none=>(x !="__name__")&&(bootBuiltins x==some v)|none=>false)=true:=h2
  cases e:nsIn K mainGlobals x with
  |none=>rw[e] at h2;cases h2
  |some r=>
   rw[e] at h2
   cases r with
   |none=>
    obtain⟨h3,h4⟩:=abi.mp h2
    exact .inr ⟨mg_none_of X G e,bne_iff_ne.mp h3,b6 h4⟩
   |some y=>
    have:y=v:=b6 h2
    subst this
    exact .inl (mg_of X G e)
 |_=>cases h
noncomputable def Bz(K:Frag)(p:Addr×Str):Bool:=on K p.1 p.2&&lC K p.1 p.2
noncomputable def JR(K:Frag)(p:(Addr×Str)×V):Bool:=match p.2 with
 | .int i=>wD K p.1.1 p.1.2 i
 |_=>false
theorem BA(P:Params):zO.all (Eh (hK P))=true:=by kernel_rfl
theorem yr(P:Params):j2.all (Bz (hK P))=true:=by kernel_rfl
theorem Dl(P:Params):((j2.map (·.1)).eraseDups.all (ud (hK P)))=true:=by kernel_rfl
theorem FX:(j2.map (·.1)).all (λc=>(j2.map (·.1)).eraseDups.contains c)=true:=by kernel_rfl
theorem BB(P:Params):zP.all (λp=>sV (hK P) p.1.1 p.1.2 p.2)=true:=by kernel_rfl
theorem Dn(P:Params):Fa.all (JR (hK P))=true:=by kernel_rfl
theorem BC{C:Addr}{x:Str}:TT.field C x=j2.contains (C,x):=rfl
theorem Do{C:Addr}{x:Str}:TT.meth C x=zP.lookup (C,x):=rfl
theorem FY{C:Addr}{x:Str}:TT.cst C x=Fa.lookup (C,x):=rfl
theorem BD{C:Addr}:TT.cls C=(j2.map (·.1)).contains C:=rfl
theorem Dp{x:Str}:TT.glob x=zO.lookup x:=rfl
theorem kC{α:Type}{f:α->Bool}{l:List α}(h:l.all f=true){a:α}(m:a∈l):f a=true:=aa4.mp h _ m
theorem Ei{P:Params}{h₀:Heap}(X:(hK P).In h₀):bV (hK P) TT h₀:=by
 have hc:∀C,TT.cls C=true->ud (hK P) C=true:=λC h=>by
  rw[BD] at h
  have h1:=abd.mp h
  have h3:=kC FX h1
  have h2:=abd.mp h3
  have h4:=kC (Dl P) h2
  exact h4
 refine⟨X,λC name h=> ?_,λC name f h=> ?_,λC name v h=> ?_,hc,λx v h=> ?_⟩
 ·rw[BC] at h
  have h1:=abd.mp h
  have h0:=kC (yr P) h1
  unfold Bz at h0
  rw[aan] at h0
  have h2:=h0
  exact⟨h2.1,h2.2,hc C (by rw[BD];exact abd.mpr (aak.mpr ⟨_,h1,rfl⟩))⟩
 ·rw[Do] at h
  have h1:=kC (BB P) (tW h)
  exact h1
 ·rw[FY] at h
  have h1:=kC (Dn P) (tW h)
  unfold JR at h1
  cases v with
  |int i=>exact⟨i,rfl,h1⟩
  |_=>cases h1
 ·rw[Dp] at h
  have h1:=kC (BA P) (tW h)
  exact By X h1
end
section
set_option tactic.hygienic true
abbrev qR:OpenLaw:=PySem.Challenge.rw_tu0009_01
noncomputable def hQ:Program:={HP with main:={HP.main with body:=[t6 98]}}
noncomputable def nk:List Str:=HP.boundNames.filter λn=>n !="law"
noncomputable def Lf:List Addr:=aaa 776
theorem Lg(P:Params):Lf=(hK P).map (·.1):=by kernel_rfl
noncomputable abbrev jC:Hook:=kHook hK Lf Lg
noncomputable abbrev Lh:Shared->Bool:=λs=>recOk qR.row.toRowW.records s
theorem FZ(s:Shared):fenceModules? HP s=some s:=by kernel_rfl
theorem BE:opening HP=plainProg HP.main.scope.names:=by kernel_rfl
theorem JS(w:World):((boot_heap w.params).isNs mainGlobals&&(Array.mk ([]:List GenState)).size==0,(boot_heap w.params).objs.size,(boot_heap w.params).nsMap mainGlobals "__annotations__")=(true,11,ey):=by kernel_rfl
noncomputable abbrev wk(P:Params)(os:OsState):Shared:=⟨Heap.mk (Array.mk (vd P)) ca,hG,bv,1331,os⟩
theorem Mv(w:World):(λos:OsState=>(staticsOk (importedModules HP.main.body) (boot_heap w.params) (wk w.params os).heap&&namesBound HP (wk w.params os).heap&&gensDone (wk w.params os)&&laidKept (boot_heap w.params) (wk w.params os).heap))=λ_=>true:=by kernel_rfl
theorem Mw(w:World):(λos:OsState=>openSeen hQ nk (importedModules HP.main.body) Lh true (wk w.params os))=λ_=>openGood hQ nk:=by kernel_rfl
theorem BF{l:List Obj}{f:Life}(h:l.all (λo=> !o.isFreed)=true):(aaa l.length).map (Heap.mk (Array.mk l) f).get?=(l.zipIdx.map λp=>(p.2,p.1)).map λp=>some p.2:=by
 refine List.ext_getElem (by rw[aaq,abw,aaq,aaq,List.length_zipIdx]) λi h1 h2=> ?_
 rw[aaq,abw] at h1
 rw[List.getElem_map,List.getElem_map,List.getElem_map,List.getElem_range,List.getElem_zipIdx]
 exact Heap.get?_some_iff.mpr ⟨(List.getElem?_toArray).trans (aaD h1),by rw[<-Bool.not_eq_true'];exact aa4.mp h _ (List.getElem_mem h1)⟩
theorem Li(P:Params):(vd P).length=776:=by kernel_rfl
theorem JT(P:Params):((vd P).all λo=> !o.isFreed)=true:=by kernel_rfl
theorem JU{K:Params->Frag}{as:List Addr}{e:∀P,as=(K P).map (·.1)}{s:Shared}:(kHook K as e).obs s=as.map s.heap.get?:=rfl
theorem JV{K:Params->Frag}{as:List Addr}{e:∀P,as=(K P).map (·.1)}{w:World}:(kHook K as e).val w=(K w.params).map λp=>some p.2:=rfl
theorem Mx(w:World):(λos:OsState=>jC.obs (wk w.params os))=λ_=>jC.val w:=by
 funext os
 have h:=BF (f:=ca) (JT w.params)
 rw[Li] at h
 delta jC wk
 rw[JU,JV]
 delta Lf hK
 exact h
end
section
set_option tactic.hygienic true
theorem JW:LeftO HP hQ nk Lh jC.obs jC.val 20000:=by
 refine LeftO.of_pieces (ann:=ey) (M:=hM) (H₀:=boot_heap) (H₁:=λP=>Heap.mk (Array.mk (vd P)) ca) (gs₀:=Array.mk []) (gs₁:=hG) (d₀:=boot_drawn) (d₁:=bv) (k₀:=boot_toks) (k₁:=1331) (m₀:=11)
  (boot_open BE (by decide) FZ) JS Ld (by decide +kernel) λw=> ?_
 funext os
 exact looks_pair (congrFun (Mv w) os) (looks_pair (congrFun (Mw w) os) (congrFun (Mx w) os))
theorem My:sreFenced HP.main=true:=by rw[PySem.W.Fast.te11788848310118352699];kernel_rfl
theorem Mz:namesResolve HP=true:=by rw[PySem.W.Fast.te8377067652309620493];kernel_rfl
theorem Lj:readsOut HP HP.main.body "vars"=false:=by kernel_rfl
theorem Lk:readsOut HP HP.main.body "dir"=false:=by kernel_rfl
theorem Ll:readsOut HP HP.main.body "locals"=false:=by kernel_rfl
theorem MA:(["vars","dir","locals"]:List Str).filter (readsOut HP HP.main.body)=[]:=by
 rw[List.filter_cons,Lj,List.filter_cons,Lk,List.filter_cons,Ll];rfl
theorem MB:(!(importedModules HP.main.body).all cThrough.contains)=false:=by kernel_rfl
theorem MC:noRoadLSs {strict:= !(importedModules HP.main.body).all cThrough.contains,foot:=none,bare:=(["vars","dir","locals"]:List Str).filter (readsOut HP HP.main.body)} HP.main.body=true:=by
 rw[MA,MB]
 rw[PySem.W.Fast.te8326940854005059898];kernel_rfl
theorem MD:(namesMeet HP HP.main.body λ_ n=>attrL n)=true:=by rw[abL];kernel_rfl
theorem ME:looksOpen HP=true:=by
 delta looksOpen
 iterate 5 refine look_both ?_ ?_
 ·exact My
 ·kernel_rfl
 ·exact Mz
 ·kernel_rfl
 ·exact MC
 exact MD
theorem MF:qR.row.wellSaid=true:=by
 delta OpenRow.wellSaid
 iterate 2 refine look_both ?_ ?_
 ·delta OpenRow.partSaid
  iterate 13 refine look_both ?_ ?_
  ·exact ME
  all_goals kernel_rfl
 all_goals kernel_rfl
theorem MG:qR.wellSaid=true:=by
 delta OpenLaw.wellSaid
 iterate 18 refine look_both ?_ ?_
 ·exact MF
 ·kernel_rfl
 ·kernel_rfl
 ·rw[PySem.W.Fast.te8179353310426384613];kernel_rfl
 ·kernel_rfl
 ·kernel_rfl
 ·rw[PySem.W.Fast.te8326940854005059898];kernel_rfl
 ·rw[PySem.W.Fast.te9558739934217749035];kernel_rfl
 ·rw[PySem.W.Fast.te16286561074155671207];kernel_rfl
 ·kernel_rfl
 ·rw[PySem.W.Fast.named_eq];kernel_rfl
 ·kernel_rfl
 ·kernel_rfl
 ·rw[abL];kernel_rfl
 ·kernel_rfl
 ·kernel_rfl
 ·rw[PySem.W.Fast.named_eq];kernel_rfl
 ·rw[abL];kernel_rfl
 ·rw[abL];kernel_rfl
theorem Dq{top sc:Scope}{cx:TablesWhole.Ctx}{a b:List Stmt}:TablesWhole.wSs TablesWhole.holds top cx sc (a++b)=(TablesWhole.wSs TablesWhole.holds top cx sc a&&TablesWhole.wSs TablesWhole.holds top cx sc b):=by
 induction a with
 |nil=>rfl
 |cons s r ih=>
  show(TablesWhole.wS TablesWhole.holds top cx sc s&&TablesWhole.wSs TablesWhole.holds top cx sc (r++b))=((TablesWhole.wS TablesWhole.holds top cx sc s&&TablesWhole.wSs TablesWhole.holds top cx sc r)&&TablesWhole.wSs TablesWhole.holds top cx sc b)
  rw[ih,Bool.and_assoc]
theorem JX{p:Program}(n:Nat)(e1:p.modules=[])(e2:p.parses=[])(e3:p.harvested=[])(h0:TablesWhole.noTwice p.main.scope=true)(h1:TablesWhole.wSs TablesWhole.gather p.main.scope ⟨p.main.scope,[],[],[],none⟩ p.main.scope p.main.body=[])(h2:TablesWhole.wSs TablesWhole.holds p.main.scope ⟨p.main.scope,[],[],[],none⟩ p.main.scope (p.main.body.take n)=true)(h3:TablesWhole.wSs TablesWhole.holds p.main.scope ⟨p.main.scope,[],[],[],none⟩ p.main.scope (p.main.body.drop n)=true):p.tablesWhole=true:=by
 delta Program.tablesWhole TablesWhole.wProgram TablesWhole.wModule
 dsimp only
 rw[e1,e2,e3,h1]
 show((true&&(TablesWhole.noTwice p.main.scope&&(TablesWhole.wSs TablesWhole.holds p.main.scope ⟨p.main.scope,[],[],[],none⟩ p.main.scope p.main.body&&true)))&&_)=true
 rw[<-abl n p.main.body,Dq,h2,h3,h0]
 rfl
theorem MH:TablesWhole.noTwice HP.main.scope=true:=by kernel_rfl
theorem MI:TablesWhole.wSs TablesWhole.gather HP.main.scope ⟨HP.main.scope,[],[],[],none⟩ HP.main.scope HP.main.body=[]:=by kernel_rfl
theorem MJ:TablesWhole.wSs TablesWhole.holds HP.main.scope ⟨HP.main.scope,[],[],[],none⟩ HP.main.scope (HP.main.body.take 60)=true:=by kernel_rfl
theorem MK:TablesWhole.wSs TablesWhole.holds HP.main.scope ⟨HP.main.scope,[],[],[],none⟩ HP.main.scope (HP.main.body.drop 60)=true:=by kernel_rfl
set_option maxHeartbeats 8000000 in
theorem Lm(call:∀r:RowW,r=qR.row.toRowW->∀d kwd,defOf hQ qR.row.name=some (d,kwd)->WalkO hQ nk (λ_ _=>True) jC.says r d kwd λf vs=>PySem.call f vs):qR.Holds:=by
 refine holds_law MG λsaid=> ?_
 refine holds_open (r:=qR.row) (q:=hQ) (loose:=nk) (Xt:=Lh) (XP:=λ_ _=>True) (Yf:=jC.obs) (Ya:=jC.val) (YP:=jC.says) (N:=20000) JW jC.of jC.keeps (λs e=>trivial) (λ_ _ _ _ _=>trivial) (by rfl) (by rfl) (by rfl) (λs e=>recFacts_of e) (by rfl) (by assumption) (by decide +kernel) ⟨rfl,rfl,rfl,rfl,rfl,JX 60 rfl rfl rfl MH MI MJ MK⟩ ?hw (call _ rfl _ _ (by rfl))
 case hw=>w_witness2
end
section
set_option tactic.hygienic true
theorem Ej(P:Params):nsIn (hK P) mainGlobals "law"=some (some (.ref rW)):=by kernel_rfl
theorem L4(r:RowW)(hr:r=qR.row.toRowW)(d:DefRec)(kwd:List (Str×Expr))(hdef:defOf hQ qR.row.name=some (d,kwd)):WalkO hQ nk (λ_ _=>True) jC.says r d kwd λf vs=>PySem.call f vs:=by
 subst hr
 intro w s₀ s₁ mg mb G Y a o pm cd doc dV kV ho hd hcd hD hmg hg args vals as hpre hlay hrd hwl hlo
 have X:(hK w.params).In s₁.heap:=kIn_of Y
 have hn:d.name=qR.row.name:=defOf_name hdef
 have ha:a=rW:=by
  have h1:=mg_of X G.T.g (Ej w.params)
  rw[hn] at hmg
  have h2:mg "law"=some (.ref a):=hmg
  rw[h1] at h2
  cases h2;rfl
 subst ha
 clear hmg ho hd hcd hD
 wrow_args hpre hlay hrd hwl hlo
 rename_i zs _ _ _ _ _ _ _ b xs _ hL ra w1 r0 hI hr hlen _
 have B:iH qR.row.prog s₁.heap:=⟨rfl,⟨mg,G.T.g⟩,⟨mb,G.T.b,G.T.builtins⟩,G.T.nolimit,G.T.seer (by kernel_rfl)⟩
 obtain⟨mu',hl⟩:=Bm (r:=0) (sc:=zs) (by omega)
 have TO:=JQ X
 have R9:=E6 (w:=w) (hint:=HT) B (Ei X) TO 9
 have C:=zD B (Ei X) R9.1 R9.2 (TO.ok _ _ Ck) hl
 have hrl:∀{xs:List Value}{ns:List Int},IntsAre xs ns->aA s₁.heap.get? [] (ns.map V.int) xs:=λ{xs ns} h=>by
  induction h with
  |nil=>exact .nil
  |cons n t h ih=>exact .cons (.int _ _) ih
 obtain⟨ob,e1,e2,n,e3⟩:=hL
 refine wpAny_call (C callerA s₁.heap.get? [] [.ref b] s₁ _ ⟨⟨_,rfl⟩,rfl,by decide,by decide⟩ ⟨λ_ _ e=>e,λ_ _ e=>e,rfl,λi mo p h=>by simp at h,λi mo p h=>by simp at h,λi j mi mj pi pj h=>by simp at h⟩ (.cons (.arg e1 e2 e3 (hrl hI)) .nil) λy s' z' as' sm R st ry=> ?_)
 cases ry
 obtain⟨h,tk,rfl⟩:=sm
 refine⟨.inl ⟨_,.bool true,[],rfl,λ_=>rfl,ReadsW.bool true,?_,λ_=>⟨List.nodup_nil,λ_ hm=>(nomatch hm)⟩⟩,.of_keep R.keep0,rfl,.of_eq hg⟩
 kernel_rfl
end
end Mine
theorem PySem.Challenge.cw_tu0009_01_holds : PySem.Challenge.rw_tu0009_01.Holds :=
 Mine.Lm Mine.L4
