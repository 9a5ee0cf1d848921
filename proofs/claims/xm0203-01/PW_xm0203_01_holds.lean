import PyProof.Rows.All
import PyProof.ExcArgsOwn
import KE.KTryMore
import Open.Tops
import Wide.FinOn
import OpenK.AllK
import Wide.All
import Lean
import PySem.Challenge.RW_xm0203_01
set_option Elab.async false
set_option linter.all false
set_option maxRecDepth 1000000
set_option genSizeOf false
set_option genInjectivity false
set_option backward.match.sparseCases false
set_option tactic.hygienic false
noncomputable section
namespace Mine
section
section
section
variable{α β γ δ ε ζ η:Type}{C:Prop}
section
variable{p0 p1 p2 p3 p4 p5 p6:Prop}
theorem ae(h:p0/\p1)(k:p0->p1->C):C:=k h.1 h.2
theorem cZ(h:p0/\p1/\p2)(k:p0->p1->p2->C):C:=k h.1 h.2.1 h.2.2
theorem dH(h:p0/\p1/\p2/\p3)(k:p0->p1->p2->p3->C):C:=k h.1 h.2.1 h.2.2.1 h.2.2.2
theorem rR(h:p0/\p1/\p2/\p3/\p4)(k:p0->p1->p2->p3->p4->C):C:=k h.1 h.2.1 h.2.2.1 h.2.2.2.1 h.2.2.2.2
theorem xI(h:p0/\p1/\p2/\p3/\p4/\p5)(k:p0->p1->p2->p3->p4->p5->C):C:=k h.1 h.2.1 h.2.2.1 h.2.2.2.1 h.2.2.2.2.1 h.2.2.2.2.2
theorem Yo(h:p0/\p1/\p2/\p3/\p4/\p5/\p6)(k:p0->p1->p2->p3->p4->p5->p6->C):C:=k h.1 h.2.1 h.2.2.1 h.2.2.2.1 h.2.2.2.2.1 h.2.2.2.2.2.1 h.2.2.2.2.2.2
end
section
variable{p0 p1 p2 p3 p4 p5 p6:α->Prop}
theorem bF(h:∃x,p0 x)(k:∀x,p0 x->C):C:=h.elim k
theorem ab(h:∃x,p0 x/\p1 x)(k:∀x,p0 x->p1 x->C):C:=h.elim λx h=>ae h (k x)
theorem bH(h:∃x,p0 x/\p1 x/\p2 x)(k:∀x,p0 x->p1 x->p2 x->C):C:=h.elim λx h=>cZ h (k x)
theorem JQ(h:∃x,p0 x/\p1 x/\p2 x/\p3 x)(k:∀x,p0 x->p1 x->p2 x->p3 x->C):C:=h.elim λx h=>dH h (k x)
theorem qX(h:∃x,p0 x/\p1 x/\p2 x/\p3 x/\p4 x)(k:∀x,p0 x->p1 x->p2 x->p3 x->p4 x->C):C:=h.elim λx h=>rR h (k x)
theorem TC(h:∃x,p0 x/\p1 x/\p2 x/\p3 x/\p4 x/\p5 x)(k:∀x,p0 x->p1 x->p2 x->p3 x->p4 x->p5 x->C):C:=h.elim λx h=>xI h (k x)
theorem XG(h:∃x,p0 x/\p1 x/\p2 x/\p3 x/\p4 x/\p5 x/\p6 x)(k:∀x,p0 x->p1 x->p2 x->p3 x->p4 x->p5 x->p6 x->C):C:=h.elim λx h=>Yo h (k x)
end
section
variable{p0 p1 p2 p3 p4 p5 p6:α->β->Prop}
theorem uo(h:∃x y,p0 x y)(k:∀x y,p0 x y->C):C:=h.elim λx h=>bF h (k x)
theorem cz(h:∃x y,p0 x y/\p1 x y)(k:∀x y,p0 x y->p1 x y->C):C:=h.elim λx h=>ab h (k x)
theorem bP(h:∃x y,p0 x y/\p1 x y/\p2 x y)(k:∀x y,p0 x y->p1 x y->p2 x y->C):C:=h.elim λx h=>bH h (k x)
theorem gr(h:∃x y,p0 x y/\p1 x y/\p2 x y/\p3 x y)(k:∀x y,p0 x y->p1 x y->p2 x y->p3 x y->C):C:=h.elim λx h=>JQ h (k x)
theorem xH(h:∃x y,p0 x y/\p1 x y/\p2 x y/\p3 x y/\p4 x y)(k:∀x y,p0 x y->p1 x y->p2 x y->p3 x y->p4 x y->C):C:=h.elim λx h=>qX h (k x)
theorem VG(h:∃x y,p0 x y/\p1 x y/\p2 x y/\p3 x y/\p4 x y/\p5 x y)(k:∀x y,p0 x y->p1 x y->p2 x y->p3 x y->p4 x y->p5 x y->C):C:=h.elim λx h=>TC h (k x)
theorem RT(h:∃x y,p0 x y/\p1 x y/\p2 x y/\p3 x y/\p4 x y/\p5 x y/\p6 x y)(k:∀x y,p0 x y->p1 x y->p2 x y->p3 x y->p4 x y->p5 x y->p6 x y->C):C:=h.elim λx h=>XG h (k x)
end
section
variable{p0 p1 p2 p3 p4 p5:α->β->γ->Prop}
theorem Se(h:∃x y z,p0 x y z)(k:∀x y z,p0 x y z->C):C:=h.elim λx h=>uo h (k x)
theorem rl(h:∃x y z,p0 x y z/\p1 x y z)(k:∀x y z,p0 x y z->p1 x y z->C):C:=h.elim λx h=>cz h (k x)
theorem Dr(h:∃x y z,p0 x y z/\p1 x y z/\p2 x y z)(k:∀x y z,p0 x y z->p1 x y z->p2 x y z->C):C:=h.elim λx h=>bP h (k x)
theorem hW(h:∃x y z,p0 x y z/\p1 x y z/\p2 x y z/\p3 x y z)(k:∀x y z,p0 x y z->p1 x y z->p2 x y z->p3 x y z->C):C:=h.elim λx h=>gr h (k x)
theorem yl(h:∃x y z,p0 x y z/\p1 x y z/\p2 x y z/\p3 x y z/\p4 x y z)(k:∀x y z,p0 x y z->p1 x y z->p2 x y z->p3 x y z->p4 x y z->C):C:=h.elim λx h=>xH h (k x)
theorem LK(h:∃x y z,p0 x y z/\p1 x y z/\p2 x y z/\p3 x y z/\p4 x y z/\p5 x y z)(k:∀x y z,p0 x y z->p1 x y z->p2 x y z->p3 x y z->p4 x y z->p5 x y z->C):C:=h.elim λx h=>VG h (k x)
end
section
variable{p0 p1 p2 p3 p4:α->β->γ->δ->Prop}
theorem Xo(h:∃x y z u,p0 x y z u)(k:∀x y z u,p0 x y z u->C):C:=h.elim λx h=>Se h (k x)
theorem K1(h:∃x y z u,p0 x y z u/\p1 x y z u)(k:∀x y z u,p0 x y z u->p1 x y z u->C):C:=h.elim λx h=>rl h (k x)
theorem UB(h:∃x y z u,p0 x y z u/\p1 x y z u/\p2 x y z u/\p3 x y z u)(k:∀x y z u,p0 x y z u->p1 x y z u->p2 x y z u->p3 x y z u->C):C:=h.elim λx h=>hW h (k x)
theorem XZ(h:∃x y z u,p0 x y z u/\p1 x y z u/\p2 x y z u/\p3 x y z u/\p4 x y z u)(k:∀x y z u,p0 x y z u->p1 x y z u->p2 x y z u->p3 x y z u->p4 x y z u->C):C:=h.elim λx h=>yl h (k x)
end
section
variable{p0 p1:α->β->γ->δ->ε->Prop}
theorem RJ(h:∃x y z u v,p0 x y z u v/\p1 x y z u v)(k:∀x y z u v,p0 x y z u v->p1 x y z u v->C):C:=h.elim λx h=>K1 h (k x)
end
end
section
variable{a b c d e i j k l m n s t u x y:Nat}
theorem om1(h:l<=3)(hc:3<=c):m+c-l+l+1+d=m+(c+1)+d:=congrArg (· +1+d) (Nat.sub_add_cancel (Nat.le_trans h (Nat.le_trans hc (Nat.le_add_left _ _))))
theorem om2(h:d+(n+1)<=900):d+1+n<=900:=Nat.le_trans (Nat.le_of_eq (Nat.succ_add d n)) h
theorem Mm(h:d+n<=m):d<=m:=Nat.le_trans (Nat.le_add_right _ _) h
theorem om4(h:u+8*(n+1)<=9000)(hk:k<=8):u+k+8*n<=9000:=Nat.le_trans (Nat.add_assoc u k _▸Nat.add_le_add_left (Nat.add_comm k (8*n)▸Nat.add_le_add_left hk _) u) h
theorem om5(h:m<=n)(h':d+n<=k):d+m<=k:=Nat.le_trans (Nat.add_le_add_left h _) h'
theorem om6(h:m<=n)(h':u+8*n<=k):u+8*m<=k:=om5 (Nat.mul_le_mul_left 8 h) h'
theorem om7(h:u+8*n<=9000)(h':k<=60):u+1+k<9900:=Nat.lt_of_le_of_lt (Nat.add_le_add (Nat.succ_le_succ (Mm h)) h') (by decide)
theorem om8(h:u+8*n<=9000):u+64<9900:=Nat.lt_of_le_of_lt (Nat.add_le_add_right (Mm h) 64) (by decide)
theorem fj(h:n+k<k){C:Prop}:C:=absurd h (Nat.not_lt.mpr (Nat.le_add_left k n))
theorem zX(e:a=b)(h:b<=900):a<=16777216:=e▸Nat.le_trans h (by decide)
theorem F0(e:x=a)(e':y=b)(h:a<=900)(h':b<=900)(hk:1800<=k):x+y<=k:=Nat.le_trans (Nat.add_le_add (e▸h) (e'▸h')) hk
theorem PM(h:k<4):k=0∨k=1∨k=2∨k=3:=(by decide:∀k,k<4->k=0∨k=1∨k=2∨k=3) k h
theorem adA(h:k<4)(h0:k≠0)(h1:k≠1)(h2:k≠2):k=3:=(by decide:∀k,k<4->k≠0->k≠1->k≠2->k=3) k h h0 h1 h2
theorem WW(h:k+1<=i):i-k=i-(k+1)+1:=(Nat.succ_pred_eq_of_pos (Nat.sub_pos_of_lt h)).symm
theorem R2(h:¬j<n):j=n+(s+(j-n)-s):=by rw[Nat.add_sub_cancel_left,Nat.add_sub_cancel' (Nat.not_lt.mp h)]
theorem ac1(h:¬i<s):s+(n+(i-s)-n)=i:=(R2 h).symm
theorem adH(h:s<=i)(h':i<n):i-s<n-s:=Nat.sub_lt_sub_right h h'
theorem acP(h:s<=n)(h':i<n-s):s+i<n:=Nat.add_lt_of_lt_sub' h'
theorem adZ(h:s<=n):s+(n-s)=n:=Nat.add_sub_cancel' h
theorem Tp(h:29+3<=n)(hl:l<=3):n-29-l+l+1+14*(1+1)=n:=(congrArg (· +29) (Nat.sub_add_cancel (Nat.le_trans hl (Nat.le_sub_of_add_le (b:=29) h)))).trans (Nat.sub_add_cancel (Nat.le_trans (by decide) h))
theorem abY(h:a<=b):a=b-(b-a):=(Nat.sub_sub_self h).symm
theorem RP(h:i<n):(Int.negSucc i+(n:Int)).toNat=n-1-i:=(congrArg Int.toNat (Int.subNatNat_of_le h)).trans (show n-(i+1)=n-1-i by rw[Nat.sub_sub,Nat.add_comm])
theorem SI:m+(l+1)+1+d=m+l+1+d+1:=Nat.succ_add _ _
theorem Tt:m+1+l+1+d=m+(l+1)+1+d:=congrArg (· +1+d) (Nat.succ_add m l)
theorem adW:m+l+1+d=m+l+d+1:=Nat.succ_add _ _
theorem SN(h:c+k=14):m+14*(n+1+1)=m+c+14*(n+1)+k:=by rw[Nat.mul_succ 14 (n+1),←h,←Nat.add_assoc,←Nat.add_assoc,Nat.add_right_comm m]
theorem aa9(h:i<n):n-1-i<n:=Nat.lt_of_le_of_lt (Nat.sub_le _ _) (Nat.sub_lt (Nat.lt_of_le_of_lt (Nat.zero_le _) h) Nat.one_pos)
theorem AL(h:a<b):a≠b+k:=Nat.ne_of_lt (Nat.lt_of_lt_of_le h (Nat.le_add_right _ _))
theorem adQ(h:a<b){C:Prop}(e:a=b):C:=absurd e (Nat.ne_of_lt h)
theorem X8(h:¬a<=b):b<=a:=Nat.le_of_not_le h
theorem O9(h:¬a<b):b<=a:=Nat.not_lt.mp h
theorem abu(e:a=b)(h:b<=c):a<=c:=e▸h
theorem adI(e:a=b)(h:c<=b):c<=a:=e▸h
theorem Vh(e:a=b)(h:a<=c):b<=c:=e▸h
theorem UG(h:a<=256)(e:b=a):(b:Int)<2^63:=Int.lt_of_le_of_lt (Int.ofNat_le.mpr (e▸h)) (by decide)
theorem VW(h:a<=900)(e:b=a):(b:Int)<2^63:=Int.lt_of_le_of_lt (Int.ofNat_le.mpr (e▸h)) (by decide)
theorem Rv{i:Int}(h: -1000000000000000000<=i): -(2^63)<=i:=Int.le_trans (by decide) h
theorem Qu{i:Int}(h:i<=1000000000000000000):i<2^63:=Int.lt_of_le_of_lt h (by decide)
theorem acB{i:Int}(h: -1000000000000000000<=i)(h':i<=1000000000000000000):i.natAbs<2^64:=by omega
theorem aaS{i:Int}(h: -1000000000000000000<=i)(h':i<=1000000000000000000): -4611686018427387904<=i/\i<4611686018427387904:=⟨Int.le_trans (by decide) h,Int.lt_of_le_of_lt h' (by decide)⟩
theorem OQ:n+1+k=n+k+1:=Nat.add_right_comm n 1 k
theorem acT:a+1+i=a+(i+1):=Nat.succ_add_eq_add_succ a i
theorem adB(h:t=k+1+j):t=k+(j+1):=h.trans acT
theorem acY(h:t=0+j):t=j:=h.trans (Nat.zero_add j)
theorem ac3(h:i+1<k+1):i<k:=Nat.lt_of_succ_lt_succ h
theorem adl(h:a<=b){C:Prop}(h':b<a):C:=absurd h' (Nat.not_lt.mpr h)
theorem acR(h:a<b)(h':b<=c):a<c:=Nat.lt_of_lt_of_le h h'
theorem XH(h:k<=900):k<=16777216:=Nat.le_trans h (by decide)
theorem abh(h:i<c):i+d<c+d:=Nat.add_lt_add_right h d
theorem adE(h:i<c):0<c:=Nat.lt_of_le_of_lt (Nat.zero_le i) h
theorem abZ(h:a=b+1):b<a:=h▸Nat.lt_succ_self b
theorem ab'(h:a<=n)(h':b<=n):max a b<=n+1:=Nat.le_succ_of_le (Nat.max_le.mpr ⟨h,h'⟩)
theorem ac4(h:38<=38+i):38+i-38=i:=Nat.add_sub_cancel_left ..
theorem abL:i+37+1=38+i:=Nat.add_comm i 38
theorem Vd{i:Int}(h: -1000000000000000000<=i): -(2^64)<i:=Int.lt_of_lt_of_le (by decide) h
theorem Tz{i:Int}(h:i<=1000000000000000000):i<2^64:=Int.lt_of_le_of_lt h (by decide)
theorem abx(h:k<=1000):k<=16777216+1:=Nat.le_trans h (by decide)
theorem abi(h:k<=1000):(k:Int)<=1000000:=Int.le_trans (Int.ofNat_le.mpr h) (by decide)
theorem adu{m:Int}(h:1000000000000000000<=m):0<=m:=Int.le_trans (by decide) h
theorem adS{i:Int}(h:¬0<i):i<=0:=Int.not_lt.mp h
theorem R6{i:Int}(h:¬0<=i):i<0:=Int.not_le.mp h
theorem abB(h:i<n):(i:Int)<n:=Int.ofNat_lt.mpr h
end
end
end
end Mine
namespace Mine
section
open PySem PySem.W PySem.Calls PyProof.Rows
section
inductive Row where
 |bad
 |dZ
 |fT
 |blank
 |call
 |dg (l:List Row)
 deriving Inhabited
inductive V where
 |none
 |bool (b:Bool)
 |int (i:Int)
 |str (x:Str)
 |tup (vs:List V)
 |obj (i:Nat)
 |glob (v:Value)
 |held (d k:Nat) (s:Int) (r:Row)
 |aL (d k:Nat) (s:Int) (l:List Row)
 |dN (s:Int) (r:Row)
 |b9 (s:Int) (l:List Row)
 deriving Inhabited
inductive Item where
 |draw (k w:Nat)
 |row (d:Nat) (free:Bool) (k:Nat) (r:Row)
 |block (d k:Nat) (l:List Row)
inductive Ob where
 |list (vs:List V)
 |inst (C:Addr) (d:Nat)
 |dict (es:List (Str×V))
 |attrs (es:List (Str×V))
 |cell (v:Option V)
 |av (l:List Item)
 |tab (P:Addr) (t:Nat) (l:List (Nat×Nat))
 |code (q:Str)
 |lh (cd:Nat) (q:Str) (lb:Expr) (ls:Scope) (cells:List (Str×Nat))
 |ck (es:List (Str×V))
 |c9 (vs:List V)
 |other
 deriving Inhabited
noncomputable def Ob.fixed:Ob->Bool
 |.other=>true
 |.ck _=>true
 |.c9 _=>true
 |_=>false
noncomputable def dI(a b:Int)(k:Nat):Nat×Int×Int:=
 if 0<a then((a%k).toNat,a/k,b) else(((b*37799+6121)%2147483171/31%k).toNat,a,(b*37799+6121)%2147483171)
noncomputable def gK(dg:Int->Int->List Row×Int×Int)(deep:Bool)(free:Bool):Nat×Int×Int->Row×Int×Int
 |(0,a,b)=>(.bad,a,b)
 |(1,a,b)=>(match free with|true=>.dZ|false=>.call,a,b)
 |(2,a,b)=>(.fT,a,b)
 |(3,a,b)=>(.blank,a,b)
 |(4,a,b)=>(.blank,a,b)
 |(5,a,b)=>match deep with
  |true=>match dg a b with|(l,a,b)=>(.dg l,a,b)
  |false=>(.call,a,b)
 |(6,a,b)=>match deep with
  |true=>match dg a b with|(l,a,b)=>(.dg l,a,b)
  |false=>(.call,a,b)
 |(_,a,b)=>(.call,a,b)
noncomputable def jM(dg:Int->Int->List Row×Int×Int)(deep:Bool)(free:Bool)(a b:Int):Row×Int×Int:=gK dg deep free (dI a b 9)
noncomputable def Row.eR:Row->Bool
 |.dZ=>true
 |_=>false
noncomputable def dJ(row:Bool->Int->Int->Row×Int×Int):Nat->Bool->Int->Int->List Row×Int×Int
 |0,_,a,b=>([],a,b)
 |m+1,free,a,b=>match row free a b with
  |(r,a,b)=>match dJ row m (free&&!r.eR) a b with
   |(l,a,b)=>(r::l,a,b)
noncomputable def aK:Nat->Int->Int->List Row×Int×Int
 |0,a,b=>match dI a b 4 with|(m,a,b)=>dJ (jM (λa b=>([],a,b)) false) m true a b
 |d+1,a,b=>match dI a b 4 with|(m,a,b)=>dJ (jM (aK d) true) m true a b
noncomputable def aD:Nat->Bool->Int->Int->Row×Int×Int
 |0=>jM (λa b=>([],a,b)) false
 |d+1=>jM (aK d) true
noncomputable abbrev jP(l:List Nat):V:=.str ⟨l.toArray⟩
noncomputable def RO:V:=jP [105,110,116]
noncomputable def iK(s:Int):V:=.tup [jP [99,111,110,115,116],.tup [RO,RO],.int s,.int 7]
noncomputable def LA(s:Int):V:=.tup [jP [99,97,108,108],.tup [jP [116,117,112,108,101],.tup []],.int s,.tup [jP [102,110],jP [109,97,105,110,46,103]],.tup []]
noncomputable def yr(s:Int)(v:V):V:=.tup [jP [116,111,108,100],.int s,v]
noncomputable def aY:V:=jP [98,108,111,99,107]
mutual
noncomputable def tree(s:Int):Row->V
 |.bad=>.tup [jP [101,120,112,114],.int s,yr s (iK s)]
 |.dZ=>.tup [jP [118,97,114],.int s,.tup [jP [120]],.none,.tup [yr s (iK s)]]
 |.fT=>.tup [jP [102,97,108,108,116,104,114,111,117,103,104],.int s]
 |.blank=>.tup [jP [118,97,114],.int s,.tup [jP [95]],.none,.tup [yr s (iK s)]]
 |.call=>.tup [jP [101,120,112,114],.int s,yr s (LA s)]
 |.dg l=>.tup [aY,.int s,.tup (trees s 0 l)]
noncomputable def trees(s:Int)(k:Int):List Row->List V
 |[]=>[]
 |r::l=>tree (10*s+k) r::trees s (k+1) l
end
noncomputable def cW:List Nat->Bool->Nat
 |[],t=>match t with|true=>2|false=>3
 |k::l,t=>match k with
  |0=>0
  |1=>1
  |2=>cW l true
  |_=>cW l t
noncomputable def nA:Nat->Nat
 |0=>0
 |1=>1
 |2=>1
 |_=>3
mutual
noncomputable def ao:Row->Nat
 |.bad=>0
 |.dZ=>2
 |.fT=>1
 |.blank=>3
 |.call=>3
 |.dg l=>nA (cW (cR l) false)
noncomputable def cR:List Row->List Nat
 |[]=>[]
 |r::l=>ao r::cR l
end
noncomputable def kindB(l:List Row):Nat:=cW (cR l) false
mutual
noncomputable def dY(s:Int):Row->Int
 |.dg l=>bp s 0 l s
 |_=>s
noncomputable def bp(s:Int)(k:Int):List Row->Int->Int
 |[],t=>t
 |r::l,t=>match ao r with
  |0=>dY (10*s+k) r
  |1=>dY (10*s+k) r
  |2=>bp s (k+1) l (10*s+k)
  |_=>bp s (k+1) l t
end
mutual
noncomputable def fF(s:Int):Row->V
 |.blank=>.tup [jP [108,101,116],.int s,.tup [.none],.tup [iK s]]
 |.call=>.tup [jP [100,111],.int s,LA s]
 |.dg l=>.tup [aY,.int s,.tup (dG s 0 l)]
 |_=>.tup []
noncomputable def dG(s:Int)(k:Int):List Row->List V
 |[]=>[]
 |r::l=>match ao r with
  |2=>dG s (k+1) l
  |_=>fF (10*s+k) r::dG s (k+1) l
end
noncomputable abbrev my(l:List Nat):PyData:=.str ⟨l.toArray⟩
noncomputable def GJ(s:Int):PyData:=.tuple [my [99,111,110,115,116],.tuple [my [105,110,116],my [105,110,116]],.int s,.int 7]
noncomputable def V2(s:Int):PyData:=.tuple [my [99,97,108,108],.tuple [my [116,117,112,108,101],.tuple []],.int s,.tuple [my [102,110],my [109,97,105,110,46,103]],.tuple []]
mutual
noncomputable def qx(s:Int):Row->List PyData
 |.blank=>[my [108,101,116],.int s,.tuple [.none],.tuple [GJ s]]
 |.call=>[my [100,111],.int s,V2 s]
 |.dg l=>[my [98,108,111,99,107],.int s,.tuple (gg s 0 l)]
 |_=>[]
noncomputable def gg(s:Int)(k:Int):List Row->List PyData
 |[]=>[]
 |r::l=>match ao r with
  |2=>gg s (k+1) l
  |_=>.tuple (qx (10*s+k) r)::gg s (k+1) l
end
mutual
noncomputable def qJ:Row->Str
 |.bad=>⟨#[97,32,118,97,108,117,101,32,116,104,97,116,32,105,115,32,110,111,116,32,117,115,101,100]⟩
 |.fT=>⟨#[102,97,108,108,116,104,114,111,117,103,104,32,115,116,97,110,100,115,32,119,104,101,114,101,32,110,111,32,99,97,115,101,32,99,111,109,101,115,32,110,101,120,116]⟩
 |.dg l=>ji l
 |_=>⟨#[]⟩
noncomputable def ji:List Row->Str
 |[]=>⟨#[100,101,99,108,97,114,101,100,32,97,110,100,32,110,111,116,32,117,115,101,100,58,32,120]⟩
 |r::l=>match ao r with
  |0=>qJ r
  |1=>qJ r
  |_=>ji l
end
mutual
noncomputable def cj(d:Nat):Row->Bool
 |.dg l=>match d with
  |0=>false
  |d+1=>Nat.ble l.length 3&&bB d true l
 |_=>true
noncomputable def bB(d:Nat)(f:Bool):List Row->Bool
 |[]=>true
 |r::l=>(f||!r.eR)&&cj d r&&bB d (f&&!r.eR) l
end
noncomputable def aB:Int->Int->List Item->Prop
 |a,b,[]=>0<=a/\0<=b
 |a,b,.draw k w::l=>0<k/\0<=a/\0<=b/\(dI a b k).1=w/\aB (dI a b k).2.1 (dI a b k).2.2 l
 |a,b,.row d f k r::l=>(aD d f a b).1=r/\k=ao r/\0<=a/\0<=b/\aB (aD d f a b).2.1 (aD d f a b).2.2 l
 |a,b,.block d k l'::l=>(aK d a b).1=l'/\k=kindB l'/\0<=a/\0<=b/\aB (aK d a b).2.1 (aK d a b).2.2 l
noncomputable abbrev Led:=List (Addr×Obj)
noncomputable abbrev dw(vs:List Value)(n:Nat):Obj:={cls:=.type "tuple",data:=.seq vs.toArray n}
noncomputable abbrev bI(vs:List Value)(n:Nat):Obj:={cls:=.type "list",data:=.seq vs.toArray n}
variable(K:Frag)
def Im(I:Led)(a:Addr)(o:Obj):Prop:=(a,o)∈I∨K.lookup a=some o
mutual
inductive Rep(ν:List Addr)(I:Led):Value->V->Prop
 |none:Rep ν I .none .none
 |bool (b:Bool):Rep ν I (.bool b) (.bool b)
 |int (i:Int) (t:Tok):Rep ν I (.int i t) (.int i)
 |str (x:Str) (t:Tok):Rep ν I (.str x t) (.str x)
 |tup {a:Addr} {xs:List Value} {n:Nat} {vs:List V} (h:Im K I a (dw xs n)) (hs:ag ν I xs vs):Rep ν I (.ref a) (.tup vs)
 |obj {i:Nat} {a:Addr} (h:ν[i]?=some a):Rep ν I (.ref a) (.obj i)
 |glob (v:Value):Rep ν I v (.glob v)
 |held {u:Value} {d k:Nat} {s:Int} {r:Row} (h:Rep ν I u (tree s r)) (hk:k=ao r) (hf:cj d r=true):Rep ν I u (.held d k s r)
 |aL {u:Value} {d k:Nat} {s:Int} {l:List Row} (h:Rep ν I u (.tup (trees s 0 l))) (hk:k=kindB l) (hf:bB d true l=true) (hl:l.length<=3):Rep ν I u (.aL d k s l)
 |dN {u:Value} {s:Int} {r:Row} (h:Rep ν I u (fF s r)) (hf:cj 1 r=true):Rep ν I u (.dN s r)
 |b9 {u:Value} {s:Int} {l:List Row} (h:Rep ν I u (.tup (dG s 0 l))) (hf:bB 1 true l=true) (hl:l.length<=3):Rep ν I u (.b9 s l)
inductive ag(ν:List Addr)(I:Led):List Value->List V->Prop
 |nil:ag ν I [] []
 |cons {x:Value} {v:V} {xs:List Value} {vs:List V} (h:Rep ν I x v) (hs:ag ν I xs vs):ag ν I (x::xs) (v::vs)
end
variable{K}
theorem Im.mono{I I':Led}(hI:∀p∈I,p∈I'){a:Addr}{o:Obj}(h:Im K I a o):Im K I' a o:=h.imp (hI _) id
structure Ext(ν aa:List Addr)(I I':Led):Prop where
 pre:ν<+:aa
 sub:∀p∈I,p∈I'
 fr:∀(i:Nat) (a:Addr),ν.length<=i->aa[i]?=some a->∀p∈I,p.1≠a
theorem Ext.refl(ν:List Addr)(I:Led):Ext ν ν I I:=⟨List.prefix_rfl,λζ h=>h,λi a hi ha=>by rw[List.getElem?_eq_none hi] at ha;cases ha⟩
theorem fh{ν aa:List Addr}(x:ν<+:aa){i:Nat}{a:Addr}(h:ν[i]?=some a):aa[i]?=some a:=by
 obtain⟨r,rfl⟩:=x
 rw[List.getElem?_append_left (List.getElem?_eq_some_iff.mp h).1];exact h
theorem Ext.at{ν aa:List Addr}{I I':Led}(x:Ext ν aa I I'){i:Nat}{a:Addr}(h:ν[i]?=some a):aa[i]?=some a:=fh x.pre h
theorem Ext.trans{ν aa aV:List Addr}{I I' dk:Led}(x:Ext ν aa I I')(y:Ext aa aV I' dk):Ext ν aV I dk:=⟨x.pre.trans y.pre,λp h=>y.sub p (x.sub p h),λi a hi ha p hp=>by
 by_cases h:i<aa.length
 ·have e:=y.at (List.getElem?_eq_getElem h)
  rw[ha] at e
  exact x.fr i a hi (by rw[List.getElem?_eq_getElem h];exact e.symm) p hp
 ·exact y.fr i a (Nat.le_of_not_lt h) ha p (x.sub p hp)⟩
theorem Ext.one{ν:List Addr}{I:Led}{x:Addr}(hI:∀p∈I,p.1≠x):Ext ν (ν++[x]) I I:=⟨⟨_,rfl⟩,λζ h=>h,λi a hi ha p hp e=>by
 rw[List.getElem?_append_right hi] at ha
 have:a∈[x]:=List.mem_of_getElem? ha
 simp at this
 exact hI p hp (e.trans this)⟩
def cy(I I':Led):Prop:=∀(a:Addr) (xs:List Value) (n:Nat),(a,dw xs n)∈I->(a,dw xs n)∈I'
theorem Rep.eG{ν aa:List Addr}{I I':Led}(x:ν<+:aa)(y:cy I I'){a:Value}{v:V}(h:Rep K ν I a v):Rep K aa I' a v:=
 Rep.rec (motive_1:=λa v ζ=>Rep K aa I' a v) (motive_2:=λa v ζ=>ag K aa I' a v) .none .bool .int .str (λh ζ i=>.tup (h.imp (y _ _ _) id) i) (λh=>.obj (fh x h)) .glob
  (λζ hk hf i=>.held i hk hf) (λζ hk hf hl i=>.aL i hk hf hl) (λζ hf i=>.dN i hf) (λζ hf hl i=>.b9 i hf hl) .nil (λζ ζ i j=>.cons i j) h
theorem ag.eG{ν aa:List Addr}{I I':Led}(x:ν<+:aa)(y:cy I I'){a:List Value}{v:List V}(h:ag K ν I a v):ag K aa I' a v:=
 ag.rec (motive_1:=λa v ζ=>Rep K aa I' a v) (motive_2:=λa v ζ=>ag K aa I' a v) .none .bool .int .str (λh ζ i=>.tup (h.imp (y _ _ _) id) i) (λh=>.obj (fh x h)) .glob
  (λζ hk hf i=>.held i hk hf) (λζ hk hf hl i=>.aL i hk hf hl) (λζ hf i=>.dN i hf) (λζ hf hl i=>.b9 i hf hl) .nil (λζ ζ i j=>.cons i j) h
theorem Rep.grow{ν aa:List Addr}{I I':Led}(x:ν<+:aa)(y:∀p∈I,p∈I'){a:Value}{v:V}(h:Rep K ν I a v):Rep K aa I' a v:=h.eG x λζ ζ ζ q=>y _ q
theorem ag.grow{ν aa:List Addr}{I I':Led}(x:ν<+:aa)(y:∀p∈I,p∈I'){a:List Value}{v:List V}(h:ag K ν I a v):ag K aa I' a v:=h.eG x λζ ζ ζ q=>y _ q
theorem Rep.mono{ν aa:List Addr}{I I':Led}(x:Ext ν aa I I'){a:Value}{v:V}(h:Rep K ν I a v):Rep K aa I' a v:=h.grow x.pre x.sub
theorem ag.mono{ν aa:List Addr}{I I':Led}(x:Ext ν aa I I'){a:List Value}{v:List V}(h:ag K ν I a v):ag K aa I' a v:=h.grow x.pre x.sub
inductive cU(P:Params)(ν:List Addr)(I:Led):List DictEntry->List (Str×V)->Prop
 |nil:cU P ν I [] []
 |cons {x:Str} {t:Tok} {a:Value} {v:V} {es:List DictEntry} {fs:List (Str×V)} (h:Rep K ν I a v) (hs:cU P ν I es fs):
   cU P ν I (⟨PyData.keyHash P x,.str x t,a⟩::es) ((x,v)::fs)
theorem cU.eG{P:Params}{ν aa:List Addr}{I I':Led}(x:ν<+:aa)(y:cy I I'){a:List DictEntry}{v:List (Str×V)}(h:cU (K:=K) P ν I a v):cU (K:=K) P aa I' a v:=
 cU.rec (motive:=λa v ζ=>cU (K:=K) P aa I' a v) .nil (λh ζ i=>.cons (h.eG x y) i) h
theorem cU.grow{P:Params}{ν aa:List Addr}{I I':Led}(x:ν<+:aa)(y:∀p∈I,p∈I'){a:List DictEntry}{v:List (Str×V)}(h:cU (K:=K) P ν I a v):cU (K:=K) P aa I' a v:=h.eG x λζ ζ ζ h=>y _ h
theorem cU.mono{P:Params}{ν aa:List Addr}{I I':Led}(x:Ext ν aa I I'){a:List DictEntry}{v:List (Str×V)}(h:cU (K:=K) P ν I a v):cU (K:=K) P aa I' a v:=h.grow x.pre x.sub
inductive bh(K:Frag)(ν:List Addr)(I:Led):List (Str×Value)->List (Str×V)->Prop
 |nil:bh K ν I [] []
 |cons {x:Str} {a:Value} {v:V} {es:List (Str×Value)} {fs:List (Str×V)} (h:Rep K ν I a v) (hs:bh K ν I es fs):bh K ν I ((x,a)::es) ((x,v)::fs)
theorem bh.eG{ν aa:List Addr}{I I':Led}(x:ν<+:aa)(y:cy I I'){a:List (Str×Value)}{v:List (Str×V)}(h:bh K ν I a v):bh K aa I' a v:=
 bh.rec (motive:=λa v ζ=>bh K aa I' a v) .nil (λh ζ i=>.cons (h.eG x y) i) h
theorem bh.mono{ν aa:List Addr}{I I':Led}(x:Ext ν aa I I'){a:List (Str×Value)}{v:List (Str×V)}(h:bh K ν I a v):bh K aa I' a v:=h.eG x.pre λζ ζ ζ q=>x.sub _ q
end
section
noncomputable def Qx:List Nat->List Nat->Bool
 |[],[]=>true
 |a::l,b::r=>match Nat.beq a b with|true=>Qx l r|false=>false
 |_,_=>false
noncomputable def du(a b:Str):Bool:=Qx a.cps.toList b.cps.toList
theorem yg:∀{a b:List Nat},Qx a b=true↔a=b
 |[],[]=>by simp[Qx]
 |[],_::_=>by simp[Qx]
 |_::_,[]=>by simp[Qx]
 |a::l,b::r=>by
  unfold Qx
  cases h:Nat.beq a b with
  |true=>rw[Nat.eq_of_beq_eq_true h];simp[yg (a:=l) (b:=r)]
  |false=>simp[Nat.ne_of_beq_eq_false h]
theorem aH{a b:Str}:du a b=true↔a=b:=by
 unfold du
 rw[yg]
 obtain⟨⟨x⟩⟩:=a
 obtain⟨⟨y⟩⟩:=b
 simp
noncomputable def bT{α:Type}(x:Str):List (Str×α)->Option α
 |[]=>none
 |p::l=>match du p.1 x with|true=>some p.2|false=>bT x l
noncomputable def gm{α:Type}(x:Str)(v:α):List (Str×α)->List (Str×α)
 |[]=>[(x,v)]
 |p::l=>match du p.1 x with|true=>(p.1,v)::l|false=>p::gm x v l
noncomputable def jL{α:Type}(x:Nat):List (Nat×α)->Option α
 |[]=>none
 |p::l=>match Nat.beq p.1 x with|true=>some p.2|false=>jL x l
theorem bU{α:Type}(x y:Str)(w:α)(b:List (Str×α)):bT x ((y,w)::b)=match du y x with|true=>some w|false=>bT x b:=rfl
theorem tN{α:Type}(x y:Nat)(w:α)(b:List (Nat×α)):jL x ((y,w)::b)=match Nat.beq y x with|true=>some w|false=>jL x b:=rfl
noncomputable def cJ{α:Type}:List α->Nat->Option α
 |[],_=>none
 |a::_,0=>some a
 |_::l,n+1=>cJ l n
noncomputable def dq{α:Type}:List α->Nat->α->List α
 |[],_,_=>[]
 |_::l,0,b=>b::l
 |a::l,n+1,b=>a::dq l n b
noncomputable def short{α:Type}(l:List α):Bool:=Nat.ble l.length 900
noncomputable def eC(i:Int):Bool:=Z.leB (-1000000000000000000) i&&Z.leB i 1000000000000000000
structure Ex where
 C:Addr
 d:Nat
inductive Rs(α:Type)where
 |ok (a:α) (H:List Ob)
 |exc (x:Ex) (H:List Ob)
noncomputable abbrev aM(α:Type):=Option (Rs α)
noncomputable def andThen{α β:Type}(a:aM α)(f:α->List Ob->aM β):aM β:=match a with
 |none=>none
 |some r=>match r with
  |.ok v H=>f v H
  |.exc x H=>some (.exc x H)
noncomputable def bV{α:Type}(v:α)(H:List Ob):aM α:=some (.ok v H)
structure nZ where
 ps:List Str
 me:List V
 body:List Stmt
 scope:Scope
 code:Addr
 qual:Str
structure Cf where
 fn:List (Addr×nZ)
 glob:List (Str×V)
 init:List (Addr×Addr)
 Jm:List (Addr×List (Str×Addr))
 nH:List Addr
 gd:List (Addr×List (Str×V))
 attrs:List (Addr×List (Str×Unit))
 codes:List (Addr×Addr)
 fU:Nat->List V->List Ob->aM V
noncomputable def Cf.method(c:Cf)(C:Addr)(x:Str):Option Addr:=(jL C c.Jm).bind (bT x)
noncomputable def ofConst:Const->Option V
 |.none=>some .none
 |.bool b=>some (.bool b)
 |.int i=>some (.int i)
 |.str x=>some (.str x)
 |_=>none
noncomputable def okN:List Nat->Bool
 |[]=>true
 |a::l=>match Nat.blt a 1114112 with
  |true=>okN l
  |false=>false
mutual
noncomputable def dat(H:List Ob):Nat->V->Option PyData
 |0,_=>none
 |n+1,v=>match v with
  |.none=>some .none
  |.bool b=>some (.bool b)
  |.int i=>some (.int i)
  |.str x=>match okN x.cps.toList with
   |true=>some (.str x)
   |false=>none
  |.tup vs=>(qB H n vs).map .tuple
  |.obj i=>match cJ H i with
   |some (.list vs)=>(qB H n vs).map .list
   |_=>none
  |.glob _=>none
  |.held .. =>none
  |.aL .. =>none
  |.dN s r=>match Nat.ble 28 n with
   |true=>some (.tuple (qx s r))
   |false=>none
  |.b9 s l=>match Nat.ble 33 n with
   |true=>some (.tuple (gg s 0 l))
   |false=>none
noncomputable def qB(H:List Ob):Nat->List V->Option (List PyData)
 |0,_=>none
 |n+1,l=>match l with
  |[]=>some []
  |v::vs=>match dat H n v with
   |some d=>(qB H n vs).map (d:: ·)
   |none=>none
end
mutual
noncomputable def Bf:Nat->PyData->PyData->Option Bool
 |0,_,_=>none
 |n+1,a,b=>match a with
  |.none=>match b with|.none=>some true|_=>some false
  |.bool x=>match b with|.bool y=>some ((x&&y)||(!x&&!y))|.int _=>none|_=>some false
  |.int x=>match b with|.int y=>some (Z.eqB x y)|.bool _=>none|_=>some false
  |.str x=>match b with|.str y=>some (du x y)|_=>some false
  |.list x=>match b with|.list y=>Az n x y|_=>some false
  |.tuple x=>match b with|.tuple y=>Az n x y|_=>some false
  |.dict _=>none
noncomputable def Az:Nat->List PyData->List PyData->Option Bool
 |0,_,_=>none
 |n+1,a,b=>match a with
  |[]=>match b with|[]=>some true|_::_=>some false
  |x::l=>match b with
   |[]=>some false
   |y::r=>match Bf n x y with
    |some true=>Az n l r
    |some false=>some false
    |none=>none
end
noncomputable def truth(H:List Ob):V->Option Bool
 |.none=>some false
 |.bool b=>some b
 |_=>none
noncomputable def p9(H:List Ob)(a b:V):Option Bool:=match dat H 60 a,dat H 60 b with
 |some x,some y=>Bf 60 x y
 |_,_=>none
noncomputable def lN:V->Option Bool
 |.none=>some true
 |.bool _=>some false
 |.int _=>some false
 |.str _=>some false
 |.tup _=>some false
 |.obj _=>some false
 |_=>none
noncomputable def Ot(a b:V):Option Bool:=match a with
 |.obj i=>match b with
  |.obj j=>match Nat.beq i j with
   |true=>some true
   |false=>none
  |_=>none
 |_=>none
noncomputable def isVal(a b:V):Option Bool:=match lN a with
 |some true=>lN b
 |some false=>match lN b with
  |some true=>some false
  |_=>Ot a b
 |none=>none
noncomputable def xU(a:PyData):List PyData->Option Bool
 |[]=>some false
 |b::l=>match Bf 60 b a with
  |some true=>some true
  |some false=>xU a l
  |none=>none
noncomputable def DV(H:List Ob)(a c:V):Option Bool:=match dat H 60 c with
 |some (.tuple xs)=>match dat H 60 a with
  |some d=>xU d xs
  |none=>none
 |some (.list xs)=>match dat H 60 a with
  |some d=>xU d xs
  |none=>none
 |some _=>none
 |none=>match c with
  |.obj i=>match cJ H i with
   |some (.dict es)=>match a with
    |.str x=>some (bT x es).isSome
    |_=>none
   |_=>none
  |_=>none
noncomputable def cmp(H:List Ob)(op:CmpOp)(a b:V):Option Bool:=match op with
 |.Eq=>p9 H a b
 |.NotEq=>(p9 H a b).map not
 |.Is=>isVal a b
 |.IsNot=>(isVal a b).map not
 |.In=>DV H a b
 |.NotIn=>(DV H a b).map not
 |.Gt=>match a,b with|.int i,.int j=>some (Z.ltB j i)|_,_=>none
 |.GtE=>match a,b with|.int i,.int j=>some (Z.leB j i)|_,_=>none
 |.Lt=>match a,b with|.int i,.int j=>some (Z.ltB i j)|_,_=>none
 |.LtE=>match a,b with|.int i,.int j=>some (Z.leB i j)|_,_=>none
noncomputable def rep1(v:List V):Nat->List V
 |0=>[]
 |n+1=>v++rep1 v n
noncomputable def ND:Expr->Bool
 |.Constant (.int _) _ _=>true
 |_=>false
noncomputable def WJ(t:Bool)(x y:Bool):Bool:=match t with
 |true=>x
 |false=>y
noncomputable def binop(H:List Ob)(op:Operator)(lit:Bool)(a b:V):aM V:=match op with
 |.Add=>match a,b with
  |.int i,.int j=>bV (.int (i+j)) H
  |.str x,.str y=>match short x.cps.toList&&short y.cps.toList with|true=>bV (.str (x++y)) H|false=>none
  |.tup xs,.tup ys=>match short xs&&short ys with|true=>bV (.tup (xs++ys)) H|false=>none
  |.obj i,.obj j=>match cJ H i,cJ H j with
   |some (.list xs),some (.list ys)=>match short xs&&short ys with|true=>bV (.obj H.length) (H++[.list (xs++ys)])|false=>none
   |_,_=>none
  |_,_=>none
 |.Sub=>match a,b with
  |.int i,.int j=>bV (.int (i-j)) H
  |_,_=>none
 |.Mult=>match a,b with
  |.int i,.int j=>match WJ lit (eC j) (eC i) with|true=>bV (.int (i*j)) H|false=>none
  |.obj i,.int (.ofNat n)=>match cJ H i with
   |some (.list xs)=>match Nat.ble (xs.length*n) 256&&Nat.ble n 256 with|true=>bV (.obj H.length) (H++[.list (rep1 xs n)])|false=>none
   |_=>none
  |_,_=>none
 |.Mod=>match a,b with
  |.int i,.int (.ofNat j)=>match Nat.blt 0 j with|true=>bV (.int (i.fmod (.ofNat j))) H|false=>none
  |_,_=>none
 |.FloorDiv=>match a,b with
  |.int i,.int (.ofNat j)=>match Nat.blt 0 j&&Nat.blt j 1073741824 with|true=>bV (.int (i.fdiv (.ofNat j))) H|false=>none
  |_,_=>none
 |.Pow=>match a,b with
  |.int i,.int (.ofNat j)=>match eC i&&Nat.ble j 1000 with|true=>bV (.int (i^j)) H|false=>none
  |_,_=>none
 |_=>none
noncomputable def place(k:Int)(n:Nat):Option Nat:=match eC k with
 |false=>none
 |true=>match k with
  |.ofNat i=>match Nat.blt i n with|true=>some i|false=>none
  |.negSucc i=>match Nat.blt i n with|true=>some (n-1-i)|false=>none
noncomputable def item(cf:Cf)(H:List Ob)(a k:V):Option V:=match a with
 |.glob (.ref g)=>match k with
  |.str x=>match jL g cf.gd with
   |some l=>bT x l
   |none=>none
  |_=>none
 |.tup vs=>match k with
  |.int i=>match place i vs.length with
   |some j=>cJ vs j
   |none=>none
  |_=>none
 |.obj j=>match cJ H j with
  |some (.list vs)=>match k with
   |.int i=>match place i vs.length with
    |some j=>cJ vs j
    |none=>none
   |_=>none
  |some (.c9 vs)=>match k with
   |.int i=>match place i vs.length with
    |some j=>cJ vs j
    |none=>none
   |_=>none
  |some (.dict es)=>match k with|.str x=>bT x es|_=>none
  |some (.ck es)=>match k with|.str x=>bT x es|_=>none
  |_=>none
 |_=>none
noncomputable def Cf.r9(c:Cf)(C:Addr)(x:Str):Bool:=((jL C c.attrs).bind (bT x)).isSome
noncomputable def getAttr(cf:Cf)(H:List Ob)(a:V)(x:Str):Option V:=match a with
 |.obj i=>match cJ H i with
  |some (.inst C d)=>match cf.r9 C x with
   |true=>match cJ H d with
    |some (.attrs es)=>bT x es
    |_=>none
   |false=>none
  |_=>none
 |_=>none
noncomputable def setAttr(cf:Cf)(H:List Ob)(a:V)(x:Str)(v:V):Option (List Ob):=match a with
 |.obj i=>match cJ H i with
  |some (.inst C d)=>match cf.r9 C x with
   |true=>match cJ H d with
    |some (.attrs es)=>match short es with
     |true=>some (dq H d (.attrs (gm x v es)))
     |false=>none
    |_=>none
   |false=>none
  |_=>none
 |_=>none
noncomputable def setItem(H:List Ob)(a k v:V):Option (List Ob):=match a,k with
 |.obj d,.str x=>match cJ H d with
  |some (.dict es)=>match short es with
   |true=>some (dq H d (.dict (gm x v es)))
   |false=>none
  |_=>none
 |.obj d,.int (.ofNat k)=>match cJ H d with
  |some (.list vs)=>match place (.ofNat k) vs.length with
   |some j=>some (dq H d (.list (dq vs j v)))
   |none=>none
  |_=>none
 |_,_=>none
inductive It where
 |tup (vs:List V)
 |lst (i k:Nat)
 |dict (i k n:Nat)
 |rZ (a n s:Int)
 |zip (x y:It)
noncomputable def intsFrom(a s:Int):Nat->List V
 |0=>[]
 |n+1=>.int a::intsFrom (a+s) s n
noncomputable def kY(H:List Ob):It->Option (Option (V×It))
 |.tup []=>some none
 |.tup (v::vs)=>some (some (v,.tup vs))
 |.lst i k=>match cJ H i with
  |some (.list vs)=>match cJ vs k with
   |some v=>some (some (v,.lst i (k+1)))
   |none=>some none
  |_=>none
 |.dict i k n=>match cJ H i with
  |some (.ck es)=>match Nat.beq es.length n with
   |true=>match cJ es k with
    |some e=>some (some (.str e.1,.dict i (k+1) n))
    |none=>some none
   |false=>none
  |_=>none
 |.rZ a n s=>match Z.ltB 0 n with
  |true=>some (some (.int a,.rZ (a+s) (n-1) s))
  |false=>some none
 |.zip _ _=>none
noncomputable def Oo(H:List Ob)(v:V):Option It:=match v with
 |.tup vs=>some (.tup vs)
 |.obj i=>match cJ H i with
  |some (.list _)=>some (.lst i 0)
  |some (.dict es)=>some (.dict i 0 es.length)
  |_=>none
 |_=>none
noncomputable abbrev ah:=List (Str×V)
structure Sc where
 ns:List (Str×NameKind)
 cells:List (Str×Nat)
 code:Option (Addr×Str)
noncomputable def Sc.get(sc:Sc)(cf:Cf)(ρ:ah)(H:List Ob)(x:Str):Option V:=match du x "__debug__" with
 |true=>none
 |false=>match bT x sc.ns with
  |none=>none
  |some k=>match k with
   |.local=>bT x ρ
   |.globalImplicit=>bT x cf.glob
   |.cell=>match bT x sc.cells with
    |none=>none
    |some i=>match cJ H i with
     |some (.cell (some v))=>some v
     |_=>none
   |.free=>match du x "__classdict__" with
    |true=>none
    |false=>match bT x sc.cells with
     |none=>none
     |some i=>match cJ H i with
      |some (.cell (some v))=>some v
      |_=>none
   |_=>none
noncomputable def Sc.put(sc:Sc)(ρ:ah)(H:List Ob)(x:Str)(v:V):Option (ah×List Ob):=match bT x sc.ns with
 |some .local=>some (gm x v ρ,H)
 |some .cell=>match bT x sc.cells with
  |some i=>match cJ H i with
   |some (.cell _)=>some (ρ,dq H i (.cell (some v)))
   |_=>none
  |none=>none
 |_=>none
noncomputable def putAll(sc:Sc):List Expr->ah->List Ob->List V->Option (ah×List Ob)
 |[],ρ,H,vs=>match vs with
  |[]=>some (ρ,H)
  |_::_=>none
 |t::ts,ρ,H,vs=>match vs with
  |[]=>none
  |v::vs=>match t with
   |.Name x _=>match sc.put ρ H x v with
    |some (qi,H')=>putAll sc ts qi H' vs
    |none=>none
   |_=>none
noncomputable def C6(sc:Sc)(ρ:ah)(H:List Ob)(t:Expr)(v:V):Option (ah×List Ob):=match t with
 |.Name x _=>sc.put ρ H x v
 |.Tuple ts _ _=>match v with
  |.tup vs=>putAll sc ts ρ H vs
  |_=>none
 |_=>none
noncomputable def eU(me:List V)(ps:List Str)(vs:List V):Option ah:=match vs with
 |[]=>match Nat.ble ps.length me.length with
  |true=>some (ps.zip (me.drop (me.length-ps.length)))
  |false=>none
 |v::vs=>match ps with
  |[]=>none
  |p::ps=>(eU me ps vs).map ((p,v):: ·)
termination_by structural vs
noncomputable def ax:List (Str×NameKind)->List Str->List Str
 |[],acc=>acc
 |(x,k)::r,acc=>match k with
  |.cell=>ax r (x::acc)
  |_=>ax r acc
noncomputable def cG(n:Nat):List Str->List (Str×Nat)
 |[]=>[]
 |x::r=>(x,n)::cG (n+1) r
noncomputable def cK(b:ah):List Str->List Ob
 |[]=>[]
 |x::r=>.cell (bT x b)::cK b r
noncomputable def bu(ns:List (Str×NameKind)):ah->ah
 |[]=>[]
 |(x,v)::r=>match bT x ns with
  |some .local=>(x,v)::bu ns r
  |_=>bu ns r
noncomputable def i9(sc:Sc):List (Str×NameKind)->List (Str×NameKind)
 |[]=>[]
 |(x,k)::r=>(x,match k with|.free=>(match bT x sc.ns with|some .cell=>.cell|_=>.free)|k=>k)::i9 sc r
noncomputable def vU(H:List Ob)(a:V)(lo hi:Option Int):aM V:=match a with
 |.tup vs=>match short vs with
  |false=>none
  |true=>match lo with
   |none=>match hi with
    |some (.ofNat n)=>bV (.tup (vs.take n)) H
    |_=>none
   |some (.ofNat n)=>match hi with
    |none=>match Nat.ble 1 n&&Nat.ble n vs.length with
     |true=>bV (.tup (vs.drop n)) H
     |false=>none
    |some _=>none
   |_=>none
 |.obj i=>match cJ H i with
  |some (.list vs)=>match short vs with
   |false=>none
   |true=>match lo with
    |none=>match hi with
     |some (.ofNat n)=>bV (.obj H.length) (H++[.list (vs.take n)])
     |_=>none
    |_=>none
  |_=>none
 |_=>none
noncomputable def nB(s:String):Value->Bool
 |.type a=>a==s
 |_=>false
noncomputable def Qm(s:String):Value->Bool
 |.builtin a=>a==s
 |_=>false
noncomputable def DG(s:String):V->Bool
 |.glob g=>nB s g
 |_=>false
noncomputable def FN(f:Value):Nat:=match Qm "len" f with
 |true=>1
 |false=>match nB "tuple" f with
  |true=>2
  |false=>match nB "list" f with
   |true=>3
   |false=>match nB "int" f with
    |true=>4
    |false=>0
theorem i5{s:String}{f:Value}(h:nB s f=true):f=.type s:=by
 induction f using Value.casesOn with
 |type a=>exact congrArg Value.type (eq_of_beq h)
 |_=>exact absurd h Bool.false_ne_true
theorem HD{s:String}{f:Value}(h:Qm s f=true):f=.builtin s:=by
 induction f using Value.casesOn with
 |builtin a=>exact congrArg Value.builtin (eq_of_beq h)
 |_=>exact absurd h Bool.false_ne_true
theorem vf{s:String}{f:V}(h:DG s f=true):f=.glob (.type s):=by
 induction f using V.casesOn with
 |glob a=>exact congrArg V.glob (i5 h)
 |_=>exact absurd h Bool.false_ne_true
structure BIs(f:Value)(k:Nat):Prop where
 a:k=1->f=.builtin "len"
 b:k=2->f=.type "tuple"
 c:k=3->f=.type "list"
 d:k=4->f=.type "int"
theorem sj(f:Value):BIs f (FN f):=by
 unfold FN
 cases q1:Qm "len" f with
 |true=>exact⟨λζ=>HD q1,nofun,nofun,nofun⟩
 |false=>
  cases q2:nB "tuple" f with
  |true=>exact⟨nofun,λζ=>i5 q2,nofun,nofun⟩
  |false=>
   cases q3:nB "list" f with
   |true=>exact⟨nofun,nofun,λζ=>i5 q3,nofun⟩
   |false=>
    cases q4:nB "int" f with
    |true=>exact⟨nofun,nofun,nofun,λζ=>i5 q4⟩
    |false=>exact⟨nofun,nofun,nofun,nofun⟩
noncomputable def tW(H:List Ob)(f:Value)(args:List V):aM V:=match args with
 |[v]=>match FN f with
  |1=>match v with
   |.tup vs=>match short vs with|true=>bV (.int (.ofNat vs.length)) H|false=>none
   |.obj i=>match cJ H i with
    |some (.list vs)=>match short vs with|true=>bV (.int (.ofNat vs.length)) H|false=>none
    |some (.c9 vs)=>bV (.int (.ofNat vs.length)) H
    |_=>none
   |_=>none
  |2=>match v with
   |.tup vs=>bV (.tup vs) H
   |.obj i=>match cJ H i with
    |some (.list vs)=>match short vs with|true=>bV (.tup vs) H|false=>none
    |_=>none
   |_=>none
  |3=>match v with
   |.obj i=>match cJ H i with
    |some (.list vs)=>match short vs with|true=>bV (.obj H.length) (H++[.list vs])|false=>none
    |_=>none
   |_=>none
  |4=>match v with
   |.int i=>bV (.int i) H
   |_=>none
  |_=>none
 |_=>none
noncomputable def sM(H:List Ob)(i:Nat)(xs:List V)(m:Str)(args:List V):aM V:=match short xs with
 |false=>none
 |true=>match du m "append" with
  |true=>match args with
   |[v]=>bV .none (dq H i (.list (xs++[v])))
   |_=>none
  |false=>match du m "extend" with
   |true=>match args with
    |[.tup vs]=>match short vs with|true=>bV .none (dq H i (.list (xs++vs)))|false=>none
    |[.obj j]=>match cJ H j with
     |some (.list vs)=>match Nat.beq i j with
      |false=>match short vs with|true=>bV .none (dq H i (.list (xs++vs)))|false=>none
      |true=>none
     |_=>none
    |_=>none
   |false=>none
noncomputable abbrev fi:=ah×Option V
noncomputable def bE{α β:Type}(o:Option α)(f:α->aM β):aM β:=match o with
 |some a=>f a
 |none=>none
noncomputable def litE:Option Expr->Option (Option Int)
 |none=>some none
 |some (.Constant (.int i) _ _)=>some (some i)
 |_=>none
structure Ih where
 E:Sc->Expr->ah->List Ob->aM V
 T:Sc->Expr->ah->List Ob->aM Bool
 Es:Sc->List Expr->ah->List Ob->aM (List V)
 D:Sc->List (Option Expr)->List Expr->ah->List Ob->aM (List (Str×V))
 I:Sc->Expr->ah->List Ob->aM It
 G:Sc->Expr->Expr->List Expr->It->Nat->ah->List Ob->aM Unit
 YN:Sc->List Expr->ah->List Ob->aM Bool
 C:V->List V->List Ob->aM V
 F:Addr->List V->List Ob->aM V
 Ss:Sc->List Stmt->ah->List Ob->aM fi
 S:Sc->Stmt->ah->List Ob->aM fi
 L:Sc->Expr->List Stmt->It->ah->List Ob->aM fi
 W:Sc->Expr->List Stmt->ah->List Ob->aM fi
noncomputable def isName:Expr->Bool
 |.Name .. =>true
 |.Attribute .. =>true
 |.Subscript .. =>true
 |_=>false
noncomputable def isSet:Expr->Bool
 |.Set .. =>true
 |_=>false
noncomputable def isStar:Expr->Bool
 |.Starred .. =>true
 |_=>false
noncomputable def noStar:List Expr->Bool
 |[]=>true
 |e::es=>match isStar e with
  |true=>false
  |false=>noStar es
noncomputable def gf:Expr->Bool
 |.ListComp .. =>true
 |.SetComp .. =>true
 |.DictComp .. =>true
 |_=>false
noncomputable def keysOk:List (Option Expr)->List Expr->Bool
 |[],[]=>true
 |some _::ks,_::es=>keysOk ks es
 |_,_=>false
noncomputable def isSlice:Expr->Bool
 |.Slice .. =>true
 |_=>false
noncomputable def xf(ns:List (Str×NameKind))(line:Nat):List Expr->Option (List Str)
 |[]=>some []
 |t::ts=>match t with
  |.Name x p=>match bT x ns with
   |some .local=>match Nat.beq p.line line with
    |true=>(xf ns line ts).map (x:: ·)
    |false=>none
   |_=>none
  |_=>none
noncomputable def xl:List Str->Bool
 |[]=>true
 |x::l=>(l.all λy=>!du y x)&&xl l
noncomputable def tc:List Expr->Nat
 |t::_=>t.pos.line
 |[]=>0
noncomputable def isTup:Expr->Option (List Expr)
 |.Tuple vs _ _=>some vs
 |_=>none
noncomputable def DA(sc:Sc)(ts:List Expr)(e:Expr):Option Bool:=match isTup e with
 |none=>some false
 |some vs=>match(Nat.beq ts.length 2||Nat.beq ts.length 3)&&Nat.beq vs.length ts.length with
  |false=>some false
  |true=>match noStar vs with
   |false=>none
   |true=>match xf sc.ns (tc ts) ts with
    |none=>some false
    |some names=>match xl names with
     |false=>none
     |true=>match vs.all (foldedForSure 8) with
      |true=>some false
      |false=>match vs.all (constantsAlone 8) with
       |true=>none
       |false=>some true
noncomputable def excOf(cf:Cf)(v:V):Option Addr:=match v with
 |.glob (.ref C)=>match cf.nH.any (Nat.beq C) with
  |true=>some C
  |false=>none
 |_=>none
noncomputable def callable(cf:Cf)(f:V)(k:Unit->aM V):aM V:=match f with
 |.glob (.ref a)=>match jL a cf.init with
  |some _=>k ()
  |none=>match jL a cf.fn with
   |some _=>k ()
   |none=>none
 |.glob f=>match FN f with
  |0=>none
  |_=>k ()
 |_=>none
noncomputable def Ma(H:List Ob)(f:V)(args:List Expr):Bool:=match args with
 |[]=>match f with
  |.obj i=>match cJ H i with
   |some (.lh ..)=>true
   |_=>false
  |_=>false
 |_::_=>false
noncomputable def eZ{α β:Type}(a:aM α)(f:α->List Ob->aM β):aM β:=match a with
 |none=>none
 |some r=>match r with
  |.ok v H=>f v H
  |.exc _ _=>none
noncomputable def iu:It->Bool
 |.dict .. =>true
 |_=>false
noncomputable def namesOk(all:List (Str×NameKind)):List (Str×NameKind)->Bool
 |[]=>true
 |(x,k)::r=>(match k with
  |.cell=>false
  |.local=>match bT x all with
   |some .local=>true
   |_=>false
  |_=>true)&&namesOk all r
noncomputable def Ba(s:Scope):Bool:=(match s.kind with|.function=>true|_=>false)&&namesOk s.names s.names
noncomputable def dz(sc:Sc):List (Str×NameKind)->Option (List (Str×Nat))
 |[]=>some []
 |(x,k)::r=>match k with
  |.free=>match bT x sc.cells with
   |some i=>(dz sc r).map ((x,i):: ·)
   |none=>none
  |_=>dz sc r
noncomputable def nO(sc:Sc)(scope:Scope)(fz:Expr)(a:Int)(ii:aM It)(iG:List (Str×Nat)->It->List Ob->aM Unit):aM V:=match Ba scope&&!(isSet fz)&&(a==0) with
 |false=>none
 |true=>bE (dz sc scope.names) λcells=>eZ ii λi H=>match iu i with
  |true=>none
  |false=>eZ (iG cells i (H++[.list []])) λζ H'=>bV (.obj H.length) H'
noncomputable def U'(v:V):Bool:=DG "zip" v
noncomputable def Ur:V->Option (List V)
 |.tup l=>some l
 |_=>none
noncomputable def Vj:V->Option Nat
 |.obj i=>some i
 |_=>none
noncomputable def Hy:V->Option Int
 |.int i=>some i
 |_=>none
noncomputable def GH{α:Type}:List α->Option α
 |[]=>none
 |a::l=>match l with
  |[]=>some a
  |_::_=>none
noncomputable def listAt(H:List Ob)(i:Nat):Option (List V):=match cJ H i with
 |none=>none
 |some o=>match o with
  |.list l=>some l
  |_=>none
noncomputable def xJ(H:List Ob):List V->Option (V×Nat×V)
 |[]=>none
 |x::r=>(GH r).bind λy=>(Ur x).bind λa=>(GH a).bind λv=>(Vj y).bind λj=>(listAt H j).bind λl=>(GH l).map λu=>(v,j,u)
noncomputable def Bv(sc:Sc)(scope:Scope)(p q:Str)(a:Int)(iN:aM V)(iA:List Ob->aM (List V))(iE:List (Str×Nat)->ah->List Ob->aM V):aM V:=match Ba scope&&(a==0) with
 |false=>none
 |true=>match bT p (i9 sc scope.names) with
  |some .local=>match bT q (i9 sc scope.names) with
   |some .local=>bE (dz sc scope.names) λcells=>eZ iN λfv H=>match U' fv with
    |false=>none
    |true=>eZ (iA H) λvs H=>bE (xJ H vs) λz=>eZ (iE cells (gm q z.2.2 (gm p z.1 [])) (H++[.list []])) λw H'=>bE (listAt H' H.length) λl=>match l with
     |[]=>bV (.obj H.length) (dq H' H.length (.list [w]))
     |_::_=>none
   |_=>none
  |_=>none
noncomputable def E1(t fz:Expr)(ifs:List Expr):Bool:=match t with
 |.Tuple ts _ _=>match ts with
  |[.Name ..,.Name ..]=>match fz with
   |.Call (.Name ..) args [] _=>match ifs with
    |[]=>noStar args
    |_=>false
   |_=>false
  |_=>false
 |_=>false
noncomputable def xM(k:Bool):Expr->Str
 |.Tuple [.Name p _,.Name q _] _ _=>match k with|false=>p|true=>q
 |_=> ""
noncomputable def qV:Expr->Expr×List Expr
 |.Call f args _ _=>(f,args)
 |e=>(e,[])
noncomputable def sd(ih:Ih)(sc:Sc)(elt t fz:Expr)(ifs:List Expr)(a:Int)(s:Scope)(ρ:ah)(H:List Ob):aM V:=match E1 t fz ifs with
 |true=>Bv sc s (xM false t) (xM true t) a (ih.E sc (qV fz).1 ρ H) (λH=>ih.Es sc (qV fz).2 ρ H) (λcells bj H₁=>ih.E ⟨i9 sc s.names,cells,none⟩ elt bj H₁)
 |false=>nO sc s fz a (ih.I sc fz ρ H) λcells i H₁=>ih.G ⟨i9 sc s.names,cells,none⟩ t elt ifs i (H₁.length-1) [] H₁
noncomputable def oY:List (Str×NameKind)->Bool
 |[]=>true
 |(_,k)::r=>(match k with
  |.cell=>false
  |.local=>false
  |_=>true)&&oY r
noncomputable def noParams(a:Arguments):Bool:=match a with
 |⟨[],[],none,[],[],none,[]⟩=>true
 |_=>false
noncomputable def rN(a:Arguments)(s:Scope):Bool:=noParams a&&(match s.kind with|.function=>true|_=>false)&&oY s.names&&!s.isCoroutine&&!s.isGenerator
noncomputable def tabAt(P:Addr):List Ob->Nat->Option (Nat×List (Nat×Nat))
 |[],_=>none
 |o::H,i=>match o with
  |.tab Q t l=>match Nat.beq P Q&&Nat.beq t i with
   |true=>some (i,l)
   |false=>tabAt P H (i+1)
  |_=>tabAt P H (i+1)
noncomputable def oA(p:Nat×Nat):List (Nat×Nat)->Bool
 |[]=>false
 |q::l=>(Nat.beq p.1 q.1&&Nat.beq p.2 q.2)||oA p l
noncomputable def C8(cf:Cf)(H:List Ob)(code:Option (Addr×Str))(p:Nat×Nat):Option (Str×List Ob):=match code with
 |none=>none
 |some (c,q)=>match jL c cf.codes with
  |none=>none
  |some P=>match tabAt P H 0 with
   |none=>none
   |some (t,l)=>match oA p l with
    |true=>none
    |false=>some (q++ "<lambda>",dq H t (.tab P t (l++[p])))
noncomputable def vV(il:It->List Ob->aM fi)(i:It)(H:List Ob):aM fi:=match i with
 |.dict d _ _=>match cJ H d with
  |some (.dict es)=>andThen (il i (dq H d (.ck es))) λr H=>match cJ H d with
   |some (.ck es)=>bV r (dq H d (.dict es))
   |_=>none
  |_=>none
 |i=>il i H
noncomputable def Di(cf:Cf)(ih:Ih)(sc:Sc)(f:Expr)(args:List Expr)(pos:Pos)(ρ:ah)(H:List Ob):aM V:=match noStar args with
 |false=>none
 |true=>match f with
  |.Attribute o m apos=>match isName o&&(apos.endLine==pos.line)&&Nat.blt args.length 30 with
   |false=>none
   |true=>andThen (ih.E sc o ρ H) λv H=>match v with
    |.obj i=>match cJ H i with
     |some (.list _)=>match du m "append" ||du m "extend" with
      |true=>andThen (ih.Es sc args ρ H) λvs H=>match cJ H i with
       |some (.list xs)=>sM H i xs m vs
       |_=>none
      |false=>none
     |some (.inst C d)=>match cJ H d with
      |some (.attrs es)=>match bT m es with
       |none=>bE (cf.method C m) λf=>andThen (ih.Es sc args ρ H) λvs H=>ih.F f (.obj i::vs) H
       |some _=>none
      |_=>none
     |_=>none
    |_=>none
  |.Name x p=>andThen (ih.E sc (.Name x p) ρ H) λfv H=>match Ma H fv args with
   |true=>ih.C fv [] H
   |false=>callable cf fv λζ=>andThen (ih.Es sc args ρ H) λvs H=>ih.C fv vs H
  |.Subscript a b p=>andThen (ih.E sc (.Subscript a b p) ρ H) λfv H=>callable cf fv λζ=>andThen (ih.Es sc args ρ H) λvs H=>ih.C fv vs H
  |_=>none
noncomputable def stE(cf:Cf)(ih:Ih)(sc:Sc)(e:Expr)(ρ:ah)(H:List Ob):aM V:=match e with
 |.Constant k _ _=>bE (ofConst k) λv=>bV v H
 |.Name x _=>bE (sc.get cf ρ H x) λv=>bV v H
 |.Tuple es _ _=>andThen (ih.Es sc es ρ H) λvs H=>match short vs with|true=>bV (.tup vs) H|false=>none
 |.List es _=>andThen (ih.Es sc es ρ H) λvs H=>match short vs with|true=>bV (.obj H.length) (H++[.list vs])|false=>none
 |.Dict ks es _=>match ks with
  |[]=>match es with
   |[]=>bV (.obj H.length) (H++[.dict []])
   |_::_=>none
  |k::ks=>match keysOk (k::ks) es&&Nat.ble ks.length 14 with
   |true=>andThen (ih.D sc (k::ks) es ρ (H++[.dict []])) λfs H'=>match cJ H' H.length with
    |some (.dict [])=>bV (.obj H.length) (dq H' H.length (.dict fs))
    |_=>none
   |false=>none
 |.Attribute e x _=>match isName e with
  |true=>andThen (ih.E sc e ρ H) λv H=>bE (getAttr cf H v x) λu=>match u with|.glob _=>none|u=>bV u H
  |false=>none
 |.Subscript e i _=>match i with
  |.Slice lo hi st _=>match st with
   |none=>andThen (ih.E sc e ρ H) λv H=>bE (litE lo) λlo=>bE (litE hi) λhi=>vU H v lo hi
   |some _=>none
  |i=>andThen (ih.E sc e ρ H) λv H=>andThen (ih.E sc i ρ H) λk H=>bE (item cf H v k) λu=>bV u H
 |.Compare l ops rs _=>match ops with
  |[op]=>match rs with
   |[r]=>match isSet r with
    |true=>none
    |false=>andThen (ih.E sc l ρ H) λa H=>andThen (ih.E sc r ρ H) λb H=>bE (cmp H op a b) λt=>bV (.bool t) H
   |_=>none
  |_=>none
 |.BoolOp op es p=>match es with
  |[]=>none
  |fW::r=>match r with
   |[]=>ih.E sc fW ρ H
   |jl::r=>andThen (ih.E sc fW ρ H) λv H=>bE (truth H v) λb=>match op with
    |.And=>match b with
     |true=>ih.E sc (.BoolOp op (jl::r) p) ρ H
     |false=>bV v H
    |.Or=>match b with
     |true=>bV v H
     |false=>ih.E sc (.BoolOp op (jl::r) p) ρ H
 |.IfExp t a b _=>andThen (ih.T sc t ρ H) λc H=>match c with
  |true=>ih.E sc a ρ H
  |false=>ih.E sc b ρ H
 |.UnaryOp op e _=>match op with
  |.USub=>andThen (ih.E sc e ρ H) λv H=>match v with
   |.int i=>bV (.int (-i)) H
   |_=>none
  |_=>none
 |.BinOp l op r _=>andThen (ih.E sc l ρ H) λa H=>andThen (ih.E sc r ρ H) λb H=>binop H op (ND r) a b
 |.Call f args kw pos=>match kw with
  |[]=>Di cf ih sc f args pos ρ H
  |_::_=>none
 |.Lambda la lb ls lp=>match rN la ls with
  |false=>none
  |true=>bE (dz sc ls.names) λcells=>bE (C8 cf H sc.code (lp.line,lp.col)) λ(q,H)=>bV (.obj (H.length+1)) (H++[.code q,.lh H.length q lb ls cells])
 |.ListComp elt gs s _=>match gs with
  |[g]=>match g with
   |⟨t,it,ifs,a⟩=>sd ih sc elt t it ifs a s ρ H
  |_=>none
 |_=>none
noncomputable def stT(cf:Cf)(ih:Ih)(sc:Sc)(e:Expr)(ρ:ah)(H:List Ob):aM Bool:=match e with
 |.UnaryOp op e _=>match op with
  |.Not=>andThen (ih.T sc e ρ H) λb H=>bV (!b) H
  |_=>none
 |.BoolOp op es p=>match es with
  |[]=>match op with
   |.And=>bV true H
   |.Or=>bV false H
  |fW::r=>andThen (ih.T sc fW ρ H) λb H=>match op with
   |.And=>match b with
    |true=>ih.T sc (.BoolOp op r p) ρ H
    |false=>bV false H
   |.Or=>match b with
    |true=>bV true H
    |false=>ih.T sc (.BoolOp op r p) ρ H
 |.Compare l ops rs _=>match ops with
  |[op]=>match rs with
   |[r]=>match isSet r with
    |true=>none
    |false=>andThen (ih.E sc l ρ H) λa H=>andThen (ih.E sc r ρ H) λb H=>bE (cmp H op a b) λt=>bV t H
   |_=>none
  |_=>none
 |.Name x p=>andThen (ih.E sc (.Name x p) ρ H) λv H=>bE (truth H v) λb=>bV b H
 |.Attribute o x p=>andThen (ih.E sc (.Attribute o x p) ρ H) λv H=>bE (truth H v) λb=>bV b H
 |.Call f a k p=>andThen (ih.E sc (.Call f a k p) ρ H) λv H=>bE (truth H v) λb=>bV b H
 |.Constant k n p=>andThen (ih.E sc (.Constant k n p) ρ H) λv H=>bE (truth H v) λb=>bV b H
 |_=>none
noncomputable def W3(cf:Cf)(ih:Ih)(sc:Sc)(es:List Expr)(ρ:ah)(H:List Ob):aM (List V):=match es with
 |[]=>bV [] H
 |e::es=>match isStar e with
  |true=>none
  |false=>andThen (ih.E sc e ρ H) λv H=>andThen (ih.Es sc es ρ H) λvs H=>bV (v::vs) H
noncomputable def stD(cf:Cf)(ih:Ih):Sc->List (Option Expr)->List Expr->ah->List Ob->aM (List (Str×V))
 |_,[],[],_,H=>bV [] H
 |sc,some (.Constant (.str x) _ _)::ks,e::es,ρ,H=>andThen (ih.E sc e ρ H) λv H=>andThen (ih.D sc ks es ρ H) λfs H=>match bT x fs with
  |none=>bV ((x,v)::fs) H
  |some _=>none
 |_,_,_,_,_=>none
noncomputable def BX(cf:Cf)(ih:Ih)(sc:Sc)(e:Expr)(ρ:ah)(H:List Ob):aM It:=andThen (ih.E sc e ρ H) λv H=>bE (Oo H v) λi=>bV i H
noncomputable def yq(t:Bool)(x y:Int):Int:=match t with
 |true=>x
 |false=>y
noncomputable def Pq(H:List Ob)(a b s:Int):aM It:=match eC a&&eC b&&Z.eqB s (-1) with
 |true=>bV (.rZ a (yq (Z.ltB b a) (a-b) 0) (-1)) H
 |false=>none
noncomputable def sk(H:List Ob)(vs:List V):aM It:=match vs with
 |[]=>none
 |x::r=>bE (Hy x) λa=>match r with
  |[]=>match eC a with
   |true=>bV (.rZ 0 (yq (Z.ltB 0 a) a 0) 1) H
   |false=>none
  |y::r=>bE (Hy y) λb=>match r with
   |[]=>none
   |z::r=>bE (Hy z) λs=>match r with
    |[]=>Pq H a b s
    |_::_=>none
noncomputable def yf(v:V):Bool:=DG "range" v
noncomputable def stI(cf:Cf)(ih:Ih)(sc:Sc)(e:Expr)(ρ:ah)(H:List Ob):aM It:=match isSet e with
 |true=>none
 |false=>match e with
  |.Call f args kw _=>match kw with
   |[]=>match f with
    |.Name x p=>match du x "range" with
     |true=>match noStar args with
      |false=>none
      |true=>andThen (ih.E sc (.Name x p) ρ H) λfv H=>match yf fv with
       |false=>none
       |true=>andThen (ih.Es sc args ρ H) λvs H=>sk H vs
     |false=>BX cf ih sc e ρ H
    |_=>BX cf ih sc e ρ H
   |_::_=>BX cf ih sc e ρ H
  |_=>BX cf ih sc e ρ H
noncomputable def sQ(sc:Sc)(ρ:ah)(t:Expr)(v:V):Option ah:=match t with
 |.Name x _=>match bT x sc.ns with
  |some .local=>some (gm x v ρ)
  |_=>none
 |_=>none
noncomputable def stG(cf:Cf)(ih:Ih)(sc:Sc)(t elt:Expr)(ifs:List Expr)(i:It)(j:Nat)(ρ:ah)(H:List Ob):aM Unit:=bE (kY H i) λr=>match r with
 |none=>bV () H
 |some (v,i')=>bE (sQ sc ρ t v) λρ=>eZ (ih.YN sc ifs ρ H) λb H=>match b with
  |false=>ih.G sc t elt ifs i' j ρ H
  |true=>eZ (ih.E sc elt ρ H) λu H=>match cJ H j with
   |some (.list xs)=>match short xs with
    |true=>ih.G sc t elt ifs i' j ρ (dq H j (.list (xs++[u])))
    |false=>none
   |_=>none
noncomputable def Lc(cf:Cf)(ih:Ih)(sc:Sc)(es:List Expr)(ρ:ah)(H:List Ob):aM Bool:=match es with
 |[]=>bV true H
 |e::es=>eZ (ih.T sc e ρ H) λb H=>match b with
  |true=>ih.YN sc es ρ H
  |false=>bV false H
noncomputable def stC(cf:Cf)(ih:Ih):V->List V->List Ob->aM V
 |f,vs,H=>match f with
  |.glob (.ref a)=>match jL a cf.init with
   |some D2=>andThen (ih.F D2 (.obj (H.length+1)::vs) (H++[.attrs [],.inst a H.length])) λv H'=>match v with|.none=>bV (.obj (H.length+1)) H'|_=>none
   |none=>ih.F a vs H
  |.glob f=>tW H f vs
  |.obj i=>match vs with
   |[]=>match cJ H i with
    |some (.lh cd q lb ls cells)=>match cJ H cd with
     |some (.code q')=>match du q q' with
      |true=>ih.E ⟨ls.names,cells,none⟩ lb [] H
      |false=>none
     |_=>none
    |_=>none
   |_::_=>none
  |_=>none
noncomputable def stF(cf:Cf)(ih:Ih):Addr->List V->List Ob->aM V
 |a,vs,H=>match cf.fU a vs H with
  |some r=>some r
  |none=>bE (jL a cf.fn) λf=>bE (eU f.me f.ps vs) λb=>
   andThen (ih.Ss ⟨f.scope.names,cG H.length (ax f.scope.names []),some (f.code,f.qual++ ".<locals>.")⟩ f.body (bu f.scope.names b) (H++cK b (ax f.scope.names []))) λr H=>match r.2 with
    |some v=>bV v H
    |none=>bV .none H
noncomputable def RR(cf:Cf)(ih:Ih):Sc->List Stmt->ah->List Ob->aM fi
 |_,[],ρ,H=>bV (ρ,none) H
 |sc,s::ss,ρ,H=>andThen (ih.S sc s ρ H) λr H=>match r.2 with
  |none=>ih.Ss sc ss r.1 H
  |some v=>bV r H
noncomputable def stS(cf:Cf)(ih:Ih):Sc->Stmt->ah->List Ob->aM fi
 |sc,s,ρ,H=>match s with
  |.Expr e _=>match gf e with
   |true=>none
   |false=>andThen (ih.E sc e ρ H) λζ H=>bV (ρ,none) H
  |.Assign ts e _=>match ts with
   |[t]=>match t with
    |.Attribute o x _=>andThen (ih.E sc e ρ H) λv H=>andThen (ih.E sc o ρ H) λa H=>bE (setAttr cf H a x v) λH=>bV (ρ,none) H
    |.Subscript o k _=>match isSlice k with
     |true=>none
     |false=>andThen (ih.E sc e ρ H) λv H=>andThen (ih.E sc o ρ H) λa H=>andThen (ih.E sc k ρ H) λk H=>bE (setItem H a k v) λH=>bV (ρ,none) H
    |.Name x _=>match gf e with
     |false=>andThen (ih.E sc e ρ H) λv H=>bE (sc.put ρ H x v) λ(ρ,H)=>bV (ρ,none) H
     |true=>match e with
      |.ListComp elt gs s _=>match gs with
       |[g]=>match g with
        |⟨t,it,ifs,a⟩=>andThen (sd ih sc elt t it ifs a s ρ H) λv H=>bE (sc.put ρ H x v) λ(ρ,H)=>bV (ρ,none) H
       |_=>none
      |_=>none
    |.Tuple ts _ _=>match gf e with
     |true=>none
     |false=>bE (DA sc ts e) λsw=>andThen (ih.E sc e ρ H) λv H=>match v with
      |.tup vs=>match sw with
       |false=>bE (putAll sc ts ρ H vs) λ(ρ,H)=>bV (ρ,none) H
       |true=>bE (putAll sc ts.reverse ρ H vs.reverse) λ(ρ,H)=>bV (ρ,none) H
      |_=>none
    |_=>none
   |_=>none
  |.If t a b _=>andThen (ih.T sc t ρ H) λc H=>match c with
   |true=>ih.Ss sc a ρ H
   |false=>ih.Ss sc b ρ H
  |.For t it body EP _=>match EP with
   |[]=>match isSet it with
    |true=>none
    |false=>andThen (ih.I sc it ρ H) λi H=>vV (λi H=>ih.L sc t body i ρ H) i H
   |_::_=>none
  |.While t body EP _=>match EP with
   |[]=>ih.W sc t body ρ H
   |_::_=>none
  |.Return (some e) _=>andThen (ih.E sc e ρ H) λv H=>bV (ρ,some v) H
  |.Return none _=>bV (ρ,some .none) H
  |.Raise ex cause _=>match cause with
   |some _=>none
   |none=>match ex with
    |none=>none
    |some e=>match e with
     |.Call f args kw _=>match kw with
      |_::_=>none
      |[]=>match f with
       |.Name c p=>match noStar args with
        |false=>none
        |true=>andThen (ih.E sc (.Name c p) ρ H) λcv H=>match excOf cf cv with
         |none=>none
         |some C=>andThen (ih.Es sc args ρ H) λvs H=>match vs with
          |[mv,sv]=>some (.exc ⟨C,H.length⟩ (H++[.attrs [("message",mv),("spot",sv)]]))
          |_=>none
       |_=>none
     |_=>none
  |_=>none
noncomputable def stL(cf:Cf)(ih:Ih)(sc:Sc)(t:Expr)(body:List Stmt)(i:It)(ρ:ah)(H:List Ob):aM fi:=bE (kY H i) λr=>match r with
  |none=>bV (ρ,none) H
  |some (v,i')=>bE (C6 sc ρ H t v) λ(ρ,H)=>andThen (ih.Ss sc body ρ H) λr H=>match r.2 with
   |none=>ih.L sc t body i' r.1 H
   |some v=>bV r H
noncomputable def stW(cf:Cf)(ih:Ih)(sc:Sc)(t:Expr)(body:List Stmt)(ρ:ah)(H:List Ob):aM fi:=andThen (ih.T sc t ρ H) λc H=>match c with
  |false=>bV (ρ,none) H
  |true=>andThen (ih.Ss sc body ρ H) λr H=>match r.2 with
   |none=>ih.W sc t body r.1 H
   |some v=>bV r H
noncomputable def Ih.nil:Ih:=⟨λζ ζ ζ ζ=>none,λζ ζ ζ ζ=>none,λζ ζ ζ ζ=>none,λζ ζ ζ ζ ζ=>none,λζ ζ ζ ζ=>none,λζ ζ ζ ζ ζ ζ ζ ζ=>none,λζ ζ ζ ζ=>none,λζ ζ ζ=>none,λζ ζ ζ=>none,λζ ζ ζ ζ=>none,λζ ζ ζ ζ=>none,λζ ζ ζ ζ ζ ζ=>none,λζ ζ ζ ζ ζ=>none⟩
noncomputable def ev(cf:Cf):Nat->Ih
 |0=>.nil
 |n+1=>⟨stE cf (ev cf n),stT cf (ev cf n),W3 cf (ev cf n),stD cf (ev cf n),stI cf (ev cf n),stG cf (ev cf n),Lc cf (ev cf n),stC cf (ev cf n),stF cf (ev cf n),RR cf (ev cf n),stS cf (ev cf n),stL cf (ev cf n),stW cf (ev cf n)⟩
end
section
structure Gc where
 K:Frag
 prog:Program
 w:World
 mg:Str->Option Value
 mb:Str->Option Value
 cf:Cf
noncomputable abbrev Gc.M(G:Gc):Model:=model G.prog G.w
theorem no{α:Type}{r:α}{p:Prop}(h:(none:Option α)=some r):p:=by cases h
theorem nf{p:Prop}(h:false=true):p:=by cases h
theorem ai{α:Type}{a r:α}(h:some a=some r):r=a:=by cases h;rfl
theorem VM{α:Type}{a r:α}{P:α->Prop}(h:some a=some r)(k:P a):P r:=ai h▸k
noncomputable def jv:List ((Nat×Nat)×Addr)->List Value
 |[]=>[]
 |(p,c)::l=>rawInt p.1::rawInt p.2::.ref c::jv l
inductive az(G:Gc)(ν:List Addr)(I:Led):Obj->Ob->Prop
 |list {xs:List Value} {n:Nat} {vs:List V} (h:ag G.K ν I xs vs):az G ν I (bI xs n) (.list vs)
 |inst {C dx:Addr} {d:Nat} (h:ν[d]?=some dx):az G ν I (instObj C dx) (.inst C d)
 |attrs {es:List DictEntry} {n:Nat} {fs:List (Str×V)} (h:cU (K:=G.K) G.w.params ν I es fs):az G ν I (dictOf es n) (.attrs fs)
 |dict {o:Obj} {cX:List (Str×Value)} {fs:List (Str×V)} (hd:o.IsDictOf (PySem.strKind G.prog G.w) cX) (h:bh G.K ν I cX fs):az G ν I o (.dict fs)
 |ck {o:Obj} {cX:List (Str×Value)} {fs:List (Str×V)} (hd:o.IsDictOf (PySem.strKind G.prog G.w) cX) (h:bh G.K ν I cX fs):az G ν I o (.ck fs)
 |c9 {xs:List Value} {n:Nat} {vs:List V} (h:ag G.K ν I xs vs) (hl:vs.length<=256):az G ν I (bI xs n) (.c9 vs)
 |cell {o:Obj} {x:Value} {v:V} (hd:o.data=.cell (some x)) (h:Rep G.K ν I x v):az G ν I o (.cell (some v))
 |mf {o:Obj} (hd:o.data=.cell none):az G ν I o (.cell none)
 |av {a b:Int} {t u:Tok} {n:Nat} {l:List Item} (h:aB a b l):az G ν I (bI [.int a t,.int b u] n) (.av l)
 |tab {P:Addr} {t:Nat} {l:List ((Nat×Nat)×Addr)} (h:ν[t]?=some P):az G ν I {cls:=.none,data:=.fields (jv l).toArray} (.tab P t (l.map (·.1)))
 |code {o:Obj} {vs:Array Value} {q:Str} {t:Tok} (hd:o.data=.fields vs) (hq:vs[1]?=some (.str q t)):az G ν I o (.code q)
 |lh {o:Obj} {fd:FuncData} {cd:Nat} {ca:Addr} {q:Str} {lb:Expr} {ls:Scope} {cells:List (Str×Nat)} (hd:o.data=.func fd) (hb:fd.body=.expr lb) (hs:fd.scope=ls) (hq:fd.qualname=q)
   (hg:fd.globals=mainGlobals) (yC:fd.builtins=builtinsNs) (hp:noParams fd.params=true) (yD:fd.defaults=.none) (yE:fd.kwdefaults=.none) (mS:fd.code=.ref ca) (cb:ν[cd]?=some ca)
   (qj:∀x i,bT x cells=some i->∃a,fd.closure.lookup x=some a/\ν[i]?=some a) (rX:rN fd.params ls=true):az G ν I o (.lh cd q lb ls cells)
 |other {o:Obj}:az G ν I o .other
theorem az.eG{G:Gc}{ν aa:List Addr}{I I':Led}(x:ν<+:aa)(y:cy I I'){o:Obj}{b:Ob}(h:az G ν I o b):az G aa I' o b:=
 az.rec (motive:=λo b ζ=>az G aa I' o b) (λh=>.list (h.eG x y)) (λh=>.inst (fh x h)) (λh=>.attrs (h.eG x y)) (λhd h=>.dict hd (h.eG x y)) (λhd h=>.ck hd (h.eG x y)) (λh hl=>.c9 (h.eG x y) hl)
  (λa h=>.cell a (h.eG x y)) (λa=>.mf a) (λh=>.av h) (λh=>.tab (fh x h)) (λa b=>.code a b)
  (λhd hb hs hq hg yC hp yD yE mS cb qj rX=>.lh hd hb hs hq hg yC hp yD yE mS (fh x cb) (λy i e=>let ⟨a,h1,h2⟩:=qj y i e;⟨a,h1,fh x h2⟩) rX) .other h
theorem az.grow{G:Gc}{ν aa:List Addr}{I I':Led}(x:ν<+:aa)(y:∀p∈I,p∈I'){o:Obj}{b:Ob}(h:az G ν I o b):az G aa I' o b:=h.eG x λζ ζ ζ q=>y _ q
theorem az.mono{G:Gc}{ν aa:List Addr}{I I':Led}(x:Ext ν aa I I'){o:Obj}{b:Ob}(h:az G ν I o b):az G aa I' o b:=h.grow x.pre x.sub
section
variable{K:Frag}{ν:List Addr}{I:Led}{u:Value}{G:Gc}{o:Obj}
noncomputable def Sj(K:Frag)(ν:List Addr)(I:Led)(u:Value):V->Prop
 |.none=>u=.none
 |.bool b=>u=.bool b
 |.int i=>∃t,u=.int i t
 |.str x=>∃t,u=.str x t
 |.tup vs=>∃a xs n,u=.ref a/\Im K I a (dw xs n)/\ag K ν I xs vs
 |.obj i=>∃a,u=.ref a/\ν[i]?=some a
 |.glob v=>u=v
 |.held d k s r=>Rep K ν I u (tree s r)/\k=ao r/\cj d r=true
 |.aL d k s l=>Rep K ν I u (.tup (trees s 0 l))/\k=kindB l/\bB d true l=true/\l.length<=3
 |.dN s r=>Rep K ν I u (fF s r)/\cj 1 r=true
 |.b9 s l=>Rep K ν I u (.tup (dG s 0 l))/\bB 1 true l=true/\l.length<=3
noncomputable def JI(K:Frag)(ν:List Addr)(I:Led)(us:List Value):List V->Prop
 |[]=>us=[]
 |v::vs=>∃x xs,us=x::xs/\Rep K ν I x v/\ag K ν I xs vs
theorem Rep.says{v:V}(r:Rep K ν I u v):Sj K ν I u v:=
 Rep.rec (motive_1:=λu v ζ=>Sj K ν I u v) (motive_2:=λζ ζ ζ=>True) rfl (λζ=>rfl) (λζ t=>⟨t,rfl⟩) (λζ t=>⟨t,rfl⟩) (λh hs ζ=>⟨_,_,_,rfl,h,hs⟩) (λh=>⟨_,rfl,h⟩) (λζ=>rfl)
  (λh hk hf ζ=>⟨h,hk,hf⟩) (λh hk hf hl ζ=>⟨h,hk,hf,hl⟩) (λh hf ζ=>⟨h,hf⟩) (λh hf hl ζ=>⟨h,hf,hl⟩) trivial (λζ ζ ζ ζ=>trivial) r
theorem ag.says{us:List Value}{vs:List V}(r:ag K ν I us vs):JI K ν I us vs:=
 ag.rec (motive_1:=λζ ζ ζ=>True) (motive_2:=λus vs ζ=>JI K ν I us vs) trivial (λζ=>trivial) (λζ ζ=>trivial) (λζ ζ=>trivial) (λζ ζ ζ=>trivial) (λζ=>trivial) (λζ=>trivial)
  (λζ ζ ζ ζ=>trivial) (λζ ζ ζ ζ ζ=>trivial) (λζ ζ ζ=>trivial) (λζ ζ ζ ζ=>trivial) rfl (λh hs ζ ζ=>⟨_,_,rfl,h,hs⟩) r
theorem Rep.Ds(r:Rep K ν I u .none):u=.none:=r.says
theorem Rep.BD{b:Bool}(r:Rep K ν I u (.bool b)):u=.bool b:=r.says
theorem Rep.Kc{i:Int}(r:Rep K ν I u (.int i)):∃t,u=.int i t:=r.says
theorem Rep.MH{x:Str}(r:Rep K ν I u (.str x)):∃t,u=.str x t:=r.says
theorem Rep.L7{vs:List V}(r:Rep K ν I u (.tup vs)):∃a xs n,u=.ref a/\Im K I a (dw xs n)/\ag K ν I xs vs:=r.says
theorem Rep.yd{i:Nat}(r:Rep K ν I u (.obj i)):∃a,u=.ref a/\ν[i]?=some a:=r.says
theorem Rep.gP{v:Value}(r:Rep K ν I u (.glob v)):u=v:=r.says
theorem ag.x8{us:List Value}(r:ag K ν I us []):us=[]:=r.says
theorem ag.kX{us:List Value}{v:V}{vs:List V}(r:ag K ν I us (v::vs)):∃x xs,us=x::xs/\Rep K ν I x v/\ag K ν I xs vs:=r.says
theorem ag.O2{x:Value}{xs:List Value}{v:V}{vs:List V}(r:ag K ν I (x::xs) (v::vs)):Rep K ν I x v/\ag K ν I xs vs:=by
 obtain⟨_,_,e,h,hs⟩:=r.kX
 cases e
 exact⟨h,hs⟩
theorem ag.Lx{vs:List V}(r:ag K ν I [] vs):vs=[]:=by
 induction vs using List.casesOn with
 |nil=>rfl
 |cons v vs=>obtain⟨_,_,e,_⟩:=r.kX;cases e
structure GK(ν:List Addr)(o:Obj)(cd:Nat)(q:Str)(lb:Expr)(ls:Scope)(cells:List (Str×Nat))(fd:FuncData)(ca:Addr):Prop where
 hd:o.data=.func fd
 hb:fd.body=.expr lb
 hs:fd.scope=ls
 hq:fd.qualname=q
 hg:fd.globals=mainGlobals
 yC:fd.builtins=builtinsNs
 hp:noParams fd.params=true
 yD:fd.defaults=.none
 yE:fd.kwdefaults=.none
 mS:fd.code=.ref ca
 cb:ν[cd]?=some ca
 qj:∀x i,bT x cells=some i->∃a,fd.closure.lookup x=some a/\ν[i]?=some a
 rX:rN fd.params ls=true
theorem GK.rep{G:Gc}{ν:List Addr}{I:Led}{o:Obj}{cd:Nat}{q:Str}{lb:Expr}{ls:Scope}{cells:List (Str×Nat)}{fd:FuncData}{ca:Addr}(h:GK ν o cd q lb ls cells fd ca):az G ν I o (.lh cd q lb ls cells):=
 .lh h.hd h.hb h.hs h.hq h.hg h.yC h.hp h.yD h.yE h.mS h.cb h.qj h.rX
noncomputable def ML(G:Gc)(ν:List Addr)(I:Led)(o:Obj):Ob->Prop
 |.list vs=>∃xs n,o=bI xs n/\ag G.K ν I xs vs
 |.inst C d=>∃dx,o=instObj C dx/\ν[d]?=some dx
 |.attrs fs=>∃es n,o=dictOf es n/\cU (K:=G.K) G.w.params ν I es fs
 |.dict fs=>∃cX,o.IsDictOf (PySem.strKind G.prog G.w) cX/\bh G.K ν I cX fs
 |.ck fs=>∃cX,o.IsDictOf (PySem.strKind G.prog G.w) cX/\bh G.K ν I cX fs
 |.c9 vs=>∃xs n,o=bI xs n/\ag G.K ν I xs vs/\vs.length<=256
 |.cell v=>(∃x w,v=some w/\o.data=.cell (some x)/\Rep G.K ν I x w)∨(v=none/\o.data=.cell none)
 |.av l=>∃a b t u n,o=bI [.int a t,.int b u] n/\aB a b l
 |.tab P t l=>∃l':List ((Nat×Nat)×Addr),o={cls:=.none,data:=.fields (jv l').toArray}/\l=l'.map (·.1)/\ν[t]?=some P
 |.code q=>∃vs t,o.data=.fields vs/\vs[1]?=some (.str q t)
 |.lh cd q lb ls cells=>∃fd ca,GK ν o cd q lb ls cells fd ca
 |.other=>True
theorem az.says{b:Ob}(r:az G ν I o b):ML G ν I o b:=
 az.rec (motive:=λo b ζ=>ML G ν I o b) (λh=>⟨_,_,rfl,h⟩) (λh=>⟨_,rfl,h⟩) (λh=>⟨_,_,rfl,h⟩) (λhd h=>⟨_,hd,h⟩) (λhd h=>⟨_,hd,h⟩) (λh hl=>⟨_,_,rfl,h,hl⟩)
  (λhd h=>.inl ⟨_,_,rfl,hd,h⟩) (λhd=>.inr ⟨rfl,hd⟩) (λh=>⟨_,_,_,_,_,rfl,h⟩) (λh=>⟨_,rfl,rfl,h⟩) (λa b=>⟨_,_,a,b⟩) (λh1 h2 h3 h4 h5 h6 h7 h8 h9 h10 h11 h12 h13=>⟨_,_,h1,h2,h3,h4,h5,h6,h7,h8,h9,h10,h11,h12,h13⟩) trivial r
theorem az.ju{vs:List V}(r:az G ν I o (.list vs)):∃xs n,o=bI xs n/\ag G.K ν I xs vs:=r.says
theorem az.nT{vs:List V}(r:az G ν I o (.c9 vs)):∃xs n,o=bI xs n/\ag G.K ν I xs vs/\vs.length<=256:=r.says
theorem az.B3{C:Addr}{d:Nat}(r:az G ν I o (.inst C d)):∃dx,o=instObj C dx/\ν[d]?=some dx:=r.says
theorem az.sD{fs:List (Str×V)}(r:az G ν I o (.attrs fs)):∃es n,o=dictOf es n/\cU (K:=G.K) G.w.params ν I es fs:=r.says
theorem az.jD{fs:List (Str×V)}(r:az G ν I o (.dict fs)):∃cX,o.IsDictOf (PySem.strKind G.prog G.w) cX/\bh G.K ν I cX fs:=r.says
theorem az.lX{fs:List (Str×V)}(r:az G ν I o (.ck fs)):∃cX,o.IsDictOf (PySem.strKind G.prog G.w) cX/\bh G.K ν I cX fs:=r.says
theorem az.NJ{l:List Item}(r:az G ν I o (.av l)):∃a b t u n,o=bI [.int a t,.int b u] n/\aB a b l:=r.says
theorem az.Si{P t:Nat}{l:List (Nat×Nat)}(r:az G ν I o (.tab P t l)):∃l':List ((Nat×Nat)×Addr),o={cls:=.none,data:=.fields (jv l').toArray}/\l=l'.map (·.1)/\ν[t]?=some P:=r.says
theorem az.Qe{q:Str}(r:az G ν I o (.code q)):∃vs t,o.data=.fields vs/\vs[1]?=some (.str q t):=r.says
theorem az.U9{cd:Nat}{q:Str}{lb:Expr}{ls:Scope}{cells:List (Str×Nat)}(r:az G ν I o (.lh cd q lb ls cells)):∃fd ca,GK ν o cd q lb ls cells fd ca:=r.says
theorem az.BI{v:Option V}(r:az G ν I o (.cell v)):(∃x w,v=some w/\o.data=.cell (some x)/\Rep G.K ν I x w)∨(v=none/\o.data=.cell none):=r.says
theorem az.DE{v:V}(r:az G ν I o (.cell (some v))):∃x,o.data=.cell (some x)/\Rep G.K ν I x v:=by
 rcases r.BI with⟨x,w,e,h1,h2⟩|⟨e,_⟩<;>cases e
 exact⟨x,h1,h2⟩
end
structure Based(G:Gc)(h:Heap):Prop where
 X:G.K.In h
 g:h.Ns mainGlobals G.mg
 b:h.Ns builtinsNs G.mb
 lim:h.NoLimit
theorem Based.keeps{G:Gc}{h h':Heap}(x:Based G h)(k:∀b o,h.get? b=some o->h'.get? b=some o):Based G h':=
 ⟨x.X.keeps k,x.g.keeps k,x.b.keeps k,x.lim.keeps k⟩
structure Fc where
 A:Around
 A₀:Around
 base:Heap
 h₀:Heap
 outer:List Env
 dK:Env
 env:Env
noncomputable abbrev Fc.L(c:Fc):Addr:=c.dK.locals
structure Fc.Ok(G:Gc)(c:Fc)(n:Nat):Prop where
 fr:c.A.frames=some (c.dK::c.outer)
 B:Below c.A₀ c.base c.outer c.h₀
 ff:c.dK.frame=some c.dK.locals
 fk:c.dK.scope.kind=.function
 ek:c.env.scope.kind=.function
 eg:c.env.globals=mainGlobals
 eb:c.env.builtins=builtinsNs
 yF:c.env.frame=c.dK.frame
 X:Based G c.h₀
 dep:c.A.depth+n<=900
 un:c.A.units+8*n<=9000
 hd:c.A.handled=none
theorem Fc.Ok.less{G:Gc}{c:Fc}{n m:Nat}(x:c.Ok G n)(h:m<=n):c.Ok G m:=
 {x with dep:=by have:=x.dep;exact om5 ‹_› ‹_›,un:=by have:=x.un;exact om6 ‹_› ‹_›}
structure St(G:Gc)(c:Fc)(h:Heap)(m:Str->Option Value)(ν:List Addr)(Mu:List Obj)(I:Led)(H:List Ob):Prop where
 F:Fr c.h₀ c.L h m
 N:News c.h₀ c.L h (ν.zip Mu++I)
 nd:ν.Nodup
 eP:∀p∈I,∀(i:Nat) (b:Ob),ν[i]?=some p.1->H[i]?=some b->b.fixed=true
 len:ν.length=Mu.length
 aT:ν.length=H.length
 ob:∀(i:Nat) (o:Obj) (b:Ob),Mu[i]?=some o->H[i]?=some b->az G ν I o b
 big:sysModules<c.h₀.objs.size
 low:∀a∈ν,sysModules<a
def cC(K:Frag)(m:Str->Option Value)(ν:List Addr)(I:Led)(ρ:ah):Prop:=∀x v,bT x ρ=some v->∃u,m x=some u/\Rep K ν I u v
theorem cC.mono{K:Frag}{m:Str->Option Value}{ν aa:List Addr}{I I':Led}{ρ:ah}(x:Ext ν aa I I')(k:cC K m ν I ρ):cC K m aa I' ρ:=λy v q=>
 let ⟨u,hu,r⟩:=k y v q;⟨u,hu,r.mono x⟩
def NsObj(o:Obj)(m:Str->Option Value):Prop:=∃es ep,o.data=.dict es ep/\StrKeys es/\∀name,nsFind es name=m name
inductive Loc(G:Gc)(c:Fc)(m:Str->Option Value)(ν:List Addr)(I:Led)(ρ:ah):Prop
 |top (h:c.env.locals=c.L) (k:cC G.K m ν I ρ)
 |comp (o:Obj) (m':Str->Option Value) (h:(c.env.locals,o)∈I) (hn:NsObj o m') (k:cC G.K m' ν I ρ)
theorem Loc.mono{G:Gc}{c:Fc}{m:Str->Option Value}{ν aa:List Addr}{I I':Led}{ρ:ah}(x:Ext ν aa I I'):Loc G c m ν I ρ->Loc G c m aa I' ρ
 |.top h k=>.top h (k.mono x)
 |.comp o m' h hn k=>.comp o m' (x.sub _ h) hn (k.mono x)
theorem Loc.ns{G:Gc}{c:Fc}{h:Heap}{m:Str->Option Value}{ν:List Addr}{Mu:List Obj}{I:Led}{H:List Ob}{ρ:ah}(l:Loc G c m ν I ρ)(S:St G c h m ν Mu I H):∃m',h.Ns c.env.locals m'/\cC G.K m' ν I ρ:=by
 cases l with
 |top e k=>exact⟨m,e▸S.F.ns,k⟩
 |comp o m' hm hn k=>
  obtain⟨es,ep,a,b,d⟩:=hn
  exact⟨m',⟨o,es,ep,(S.N _ (List.mem_append_right _ hm)).1,a,b,d⟩,k⟩
structure cM(c:Fc)(sc:Sc)(ν:List Addr):Prop where
 ns:∀x,c.env.scope.names.lookup x=bT x sc.ns
 cells:∀x i,bT x sc.cells=some i->∃a,c.env.cells.lookup x=some a/\ν[i]?=some a
 code:∀a q,sc.code=some (a,q)->c.env.code=.ref a/\c.env.qual=q
theorem cM.mono{c:Fc}{sc:Sc}{ν aa:List Addr}{I I':Led}(x:Ext ν aa I I')(s:cM c sc ν):cM c sc aa:=⟨s.ns,λy i q=>
 let ⟨a,h1,h2⟩:=s.cells y i q;⟨a,h1,x.at h2⟩,s.code⟩
def wN(B:Heap)(l:List Env)(e C d:Addr)(t:Option Value)(h:Heap):Prop:=
 B.StaysIn h/\B.get? e=none/\h.FunFrames B l/\∃oe vs v,h.get? e=some oe/\oe.cls=.ref C/\oe.dict=some d/\oe.data=.fields vs/\vs[1]?=some v/\
  (match t with
   |none=>v=.none
   |some fl=>∃T oT ts,v=.ref T/\B.get? T=none/\T≠e/\h.get? T=some oT/\oT.data=.fields ts/\ts[3]?=some fl)
def o7(L:Addr)(t:Option Value):Prop:=t=none∨t=some .none∨t=some (rawInt L)
structure nF(G:Gc)(c:Fc)(t:Option Value)(h:Heap)(ν:List Addr)(Mu:List Obj)(I:Led)(H:List Ob)(e:Addr)(x:Ex):Prop where
 nd:ν.Nodup
 eP:∀p∈I,∀(i:Nat) (b:Ob),ν[i]?=some p.1->H[i]?=some b->b.fixed=true
 len:ν.length=Mu.length
 aT:ν.length=H.length
 ob:∀(i:Nat) (o:Obj) (b:Ob),Mu[i]?=some o->H[i]?=some b->az G ν I o b
 big:sysModules<c.h₀.objs.size
 low:∀a∈ν,sysModules<a
 yG:∃B d,c.base.StaysIn B/\(∀p∈ν.zip Mu++I,B.get? p.1=some p.2/\c.base.get? p.1=none)/\ν[x.d]?=some d/\wN B (c.dK::c.outer) e x.C d t h
 fr:∃gp m,Fr c.h₀ c.L gp m/\gp.UpToSlots h
section
variable(G:Gc)
def ja(c:Fc)(m:Str->Option Value)(ν:List Addr)(I:Led)(Q:Value->Shared->Prop)(s:Shared)(v:V)(H':List Ob):Prop:=
 ∀h' ak aa aw I' u,Ext ν aa I I'->St G c h' m aa aw I' H'->Rep G.K aa I' u v->Q u {s with heap:=h',toks:=ak}
def cu(c:Fc)(ν:List Addr)(I:Led)(E:Value->Shared->Prop)(s:Shared)(x:Ex)(H':List Ob):Prop:=
 ∀h' ak aa aw I' e t,Ext ν aa I I'->o7 c.L t->nF G c t h' aa aw I' H' e x->E (.ref e) {s with heap:=h',toks:=ak}
noncomputable def d5(c:Fc)(m:Str->Option Value)(ν:List Addr)(I:Led)(s:Shared)(Q E:Value->Shared->Prop):Rs V->Prop
 |.ok v H'=>ja G c m ν I Q s v H'
 |.exc x H'=>cu G c ν I E s x H'
def iS(c:Fc)(m:Str->Option Value)(ν:List Addr)(Mu:List Obj)(I:Led)(s:Shared)(t:Sem Value)(r:Rs V):Prop:=
 ∀Q E,d5 G c m ν I s Q E r->wpAny G.M c.A t Q E s
def dA(n:Nat)(sc:Sc)(e:Expr)(ρ:ah)(H:List Ob)(r:Rs V):Prop:=
 ∀c s m ν Mu I,c.Ok G n->cM c sc ν->St G c s.heap m ν Mu I H->Loc G c m ν I ρ->iS G c m ν Mu I s (eval e c.env) r
def Xs(c:Fc)(m:Str->Option Value)(ν:List Addr)(I:Led)(Q:Bool->Shared->Prop)(s:Shared)(b:Bool)(H':List Ob):Prop:=
 ∀h' ak aa aw I',Ext ν aa I I'->St G c h' m aa aw I' H'->Q b {s with heap:=h',toks:=ak}
noncomputable def ng(c:Fc)(m:Str->Option Value)(ν:List Addr)(I:Led)(s:Shared)(Q:Bool->Shared->Prop)(E:Value->Shared->Prop):Rs Bool->Prop
 |.ok v H'=>Xs G c m ν I Q s v H'
 |.exc x H'=>cu G c ν I E s x H'
def oz(n:Nat)(sc:Sc)(e:Expr)(ρ:ah)(H:List Ob)(r:Rs Bool):Prop:=
 ∀c s m ν Mu I Q E,c.Ok G n->cM c sc ν->St G c s.heap m ν Mu I H->Loc G c m ν I ρ->ng G c m ν I s Q E r->wpAny G.M c.A (isTrue e c.env (eval e c.env)) Q E s
def O3(c:Fc)(m:Str->Option Value)(ν:List Addr)(I:Led)(Q:List Value->Shared->Prop)(s:Shared)(vs:List V)(H':List Ob):Prop:=
 ∀h' ak aa aw I' us,Ext ν aa I I'->St G c h' m aa aw I' H'->ag G.K aa I' us vs->Q us {s with heap:=h',toks:=ak}
noncomputable def PO(c:Fc)(m:Str->Option Value)(ν:List Addr)(I:Led)(s:Shared)(Q:List Value->Shared->Prop)(E:Value->Shared->Prop):Rs (List V)->Prop
 |.ok v H'=>O3 G c m ν I Q s v H'
 |.exc x H'=>cu G c ν I E s x H'
def hU(n:Nat)(sc:Sc)(es:List Expr)(ρ:ah)(H:List Ob)(r:Rs (List V)):Prop:=
 ∀c s m ν Mu I Q E pos,c.Ok G n->cM c sc ν->St G c s.heap m ν Mu I H->Loc G c m ν I ρ->PO G c m ν I s Q E r->wpAny G.M c.A (spliced (backTo pos (starEach es c.env))) Q E s
noncomputable def ik(c:Fc)(ν:List Addr)(I:Led)(s:Shared)(Q:Flow->Shared->Prop)(E:Value->Shared->Prop):Rs fi->Prop
 |.ok r H'=>∀h' ak m' aa aw I',Ext ν aa I I'->St G c h' m' aa aw I' H'->cC G.K m' aa I' r.1->
   (match r.2 with
    |none=>Q .next {s with heap:=h',toks:=ak}
    |some v=>∀u,Rep G.K aa I' u v->Q (.ret u) {s with heap:=h',toks:=ak})
 |.exc x H'=>cu G c ν I E s x H'
def gJ(n:Nat)(sc:Sc)(ss:List Stmt)(ρ:ah)(H:List Ob)(r:Rs fi):Prop:=
 ∀c s m ν Mu I Q E,c.Ok G n->c.env=c.dK->cM c sc ν->St G c s.heap m ν Mu I H->cC G.K m ν I ρ->ik G c ν I s Q E r->wpAny G.M c.A (execs ss c.env) Q E s
def qH(n:Nat)(sc:Sc)(st:Stmt)(ρ:ah)(H:List Ob)(r:Rs fi):Prop:=
 ∀c s m ν Mu I Q E,c.Ok G n->c.env=c.dK->cM c sc ν->St G c s.heap m ν Mu I H->cC G.K m ν I ρ->ik G c ν I s Q E r->wpAny G.M c.A (exec st c.env) Q E s
noncomputable def BP(c:Fc)(m:Str->Option Value)(ν:List Addr)(I:Led)(s:Shared)(R:Result->Shared->Prop):Rs V->Prop
 |.ok v H'=>∀h' ak aa aw I' u,Ext ν aa I I'->St G c h' m aa aw I' H'->Rep G.K aa I' u v->R (.ok (.ret u)) {s with heap:=h',toks:=ak}
 |.exc x H'=>∀h' ak aa aw I' e t,Ext ν aa I I'->o7 c.L t->nF G c t h' aa aw I' H' e x->R (.error (.ref e)) {s with heap:=h',toks:=ak}
def aW(n:Nat)(a:Addr)(vs:List V)(H:List Ob)(r:Rs V):Prop:=
 ∀c s m ν Mu I us R,c.Ok G n->St G c s.heap m ν Mu I H->ag G.K ν I us vs->BP G c m ν I s R r->codeAny G.M c.A (.call (.ref a) ⟨us,[]⟩) R s
def NR(n:Nat)(f:V)(vs:List V)(H:List Ob)(r:Rs V):Prop:=
 ∀c s m ν Mu I u us,c.Ok G n->St G c s.heap m ν Mu I H->Rep G.K ν I u f->ag G.K ν I us vs->iS G c m ν Mu I s (call u us) r
end
variable{G:Gc}
theorem cu.mono{c:Fc}{ν aa:List Addr}{I I':Led}{E:Value->Shared->Prop}{s:Shared}{x:Ex}{H':List Ob}{h:Heap}{tk:Tok}(e:Ext ν aa I I')(p:cu G c ν I E s x H'):cu G c aa I' E {s with heap:=h,toks:=tk} x H':=
 λh' ak aV aw dk a t q k f=>p h' ak aV aw dk a t (e.trans q) k f
theorem ja.mono{c:Fc}{m:Str->Option Value}{ν aa:List Addr}{I I':Led}{Q:Value->Shared->Prop}{s:Shared}{v:V}{H':List Ob}{h:Heap}{tk:Tok}(e:Ext ν aa I I')(p:ja G c m ν I Q s v H'):ja G c m aa I' Q {s with heap:=h,toks:=tk} v H':=
 λh' ak aV aw dk a q f r=>p h' ak aV aw dk a (e.trans q) f r
theorem d5.mono{c:Fc}{m:Str->Option Value}{ν aa:List Addr}{I I':Led}{Q E:Value->Shared->Prop}{s:Shared}{r:Rs V}{h:Heap}{tk:Tok}(e:Ext ν aa I I')(p:d5 G c m ν I s Q E r):d5 G c m aa I' {s with heap:=h,toks:=tk} Q E r:=by
 induction r with
 |ok v H'=>exact ja.mono e p
 |exc x H'=>exact cu.mono e p
theorem fb{α:Type}:∀(l:List α) (i:Nat),cJ l i=l[i]?
 |[],_=>by simp[cJ]
 |_::_,0=>rfl
 |_::l,n+1=>by simp[cJ,fb l n]
theorem fw{α:Type}:∀(l:List α) (i:Nat) (b:α),dq l i b=l.set i b
 |[],_,_=>rfl
 |_::_,0,_=>rfl
 |a::l,n+1,b=>by simp[dq,fw l n b]
theorem bf{α β:Type}{a:aM α}{f:α->List Ob->aM β}{r:Rs β}(h:andThen a f=some r):
  (∃v H,a=some (.ok v H)/\f v H=some r)∨ ∃x H,a=some (.exc x H)/\r=.exc x H:=by
 unfold andThen at h
 split at h
 ·exact no h
 ·split at h
  ·exact .inl ⟨_,_,rfl,h⟩
  ·obtain rfl:=ai h;exact .inr ⟨_,_,rfl,rfl⟩
theorem kW{α β:Type}{o:Option α}{f:α->aM β}{r:Rs β}(h:bE o f=some r):∃a,o=some a/\f a=some r:=by
 unfold bE at h
 split at h
 ·exact⟨_,rfl,h⟩
 ·exact no h
section
variable{K:Frag}{ν:List Addr}{I:Led}{u:Value}{us:List Value}{G:Gc}{P:Value->Prop}{Pl:List Value->Prop}{v:V}{C:Prop}
@[elab_as_elim] theorem Rep.cA{i:Int}(r:Rep K ν I u v)(e:v=.int i)(k:∀t,P (.int i t)):P u:=by subst e;obtain⟨t,rfl⟩:=r.Kc;exact k t
@[elab_as_elim] theorem Rep.m9{x:Str}(r:Rep K ν I u v)(e:v=.str x)(k:∀t,P (.str x t)):P u:=by subst e;obtain⟨t,rfl⟩:=r.MH;exact k t
@[elab_as_elim] theorem Rep.gc{vs:List V}(r:Rep K ν I u v)(e:v=.tup vs)(k:∀a xs n,Im K I a (dw xs n)->ag K ν I xs vs->P (.ref a)):P u:=by subst e;obtain⟨a,xs,n,rfl,h1,h2⟩:=r.L7;exact k a xs n h1 h2
@[elab_as_elim] theorem Rep.ba{i:Nat}(r:Rep K ν I u v)(e:v=.obj i)(k:∀a,ν[i]?=some a->P (.ref a)):P u:=by subst e;obtain⟨a,rfl,h⟩:=r.yd;exact k a h
@[elab_as_elim] theorem Rep.DY{w:Value}(r:Rep K ν I u v)(e:v=.glob w)(k:P w):P u:=by subst e;rw[r.gP];exact k
@[elab_as_elim] theorem Rep.tf{b:Bool}(r:Rep K ν I u v)(e:v=.bool b)(k:P (.bool b)):P u:=by subst e;rw[r.BD];exact k
@[elab_as_elim] theorem Rep.tB(r:Rep K ν I u v)(e:v=.none)(k:P .none):P u:=by subst e;rw[r.Ds];exact k
@[elab_as_elim] theorem ag.rL{vs:List V}(r:ag K ν I us vs)(e:vs=[])(k:Pl []):Pl us:=by subst e;rw[r.x8];exact k
@[elab_as_elim] theorem ag.dj{w:V}{vs ws:List V}(r:ag K ν I us ws)(e:ws=w::vs)(k:∀x xs,Rep K ν I x w->ag K ν I xs vs->Pl (x::xs)):Pl us:=by subst e;obtain⟨x,xs,rfl,h1,h2⟩:=r.kX;exact k x xs h1 h2
theorem cP{α β:Type}{o:Option α}{f:α->aM β}{r:Rs β}(h:bE o f=some r)(k:∀a,o=some a->f a=some r->C):C:=let ⟨a,h1,h2⟩:=kW h;k a h1 h2
theorem aJ{a b:Bool}(h:(a&&b)=true)(k:a=true->b=true->C):C:=let ⟨h1,h2⟩:=Bool.and_eq_true_iff.mp h;k h1 h2
end
theorem Jd{v:V}{l:List V}(h:Ur v=some l):v=.tup l:=by
 induction v using V.casesOn with
 |tup a=>exact congrArg V.tup (ai h).symm
 |_=>exact no h
theorem GS{v:V}{l:Nat}(h:Vj v=some l):v=.obj l:=by
 induction v using V.casesOn with
 |obj a=>exact congrArg V.obj (ai h).symm
 |_=>exact no h
theorem r7{v:V}{l:Int}(h:Hy v=some l):v=.int l:=by
 induction v using V.casesOn with
 |int a=>exact congrArg V.int (ai h).symm
 |_=>exact no h
theorem tA{α:Type}{l:List α}{a:α}(h:GH l=some a):l=[a]:=by
 induction l using List.casesOn with
 |nil=>exact no h
 |cons b l=>
  induction l using List.casesOn with
  |nil=>exact congrArg (λx=>[x]) (ai h).symm
  |cons=>exact no h
theorem ri{H:List Ob}{i:Nat}{l:List V}(h:listAt H i=some l):cJ H i=some (.list l):=by
 unfold listAt at h
 generalize cJ H i=x at*
 induction x with
 |none=>exact no h
 |some o=>
  induction o using Ob.casesOn with
  |list a=>exact congrArg (λx=>some (Ob.list x)) (ai h).symm
  |_=>exact no h
theorem pM{α β:Type}{o:Option α}{f:α->Option β}{r:β}{C:Prop}(h:o.bind f=some r)(k:∀a,o=some a->f a=some r->C):C:=by
 induction o with
 |none=>exact no h
 |some a=>exact k a rfl h
theorem wh{H:List Ob}{vs:List V}{z:V×Nat×V}(h:xJ H vs=some z):vs=[.tup [z.1],.obj z.2.1]/\cJ H z.2.1=some (.list [z.2.2]):=by
 induction vs using List.casesOn with
 |nil=>exact no h
 |cons x r=>
  refine pM h λy hy h=>pM h λa ha h=>pM h λv hv h=>pM h λj hj h=>pM h λl hl h=>?_
  refine ab (Option.map_eq_some_iff.mp h) λu hu e=>?_
  subst e
  exact⟨by rw[Jd ha,tA hv,tA hy,GS hj],by rw[ri hl,tA hu]⟩
end
section
variable{α:Type}{r:α}{P:Prop}
theorem n5{x0:Bool}{f1:Option α}(h:(match x0 with|.true=>none|.false=>f1)=some r)(k1:x0=.false->f1=some r->P):P:=by
 generalize e0:x0=y0 at h
 induction y0 with
 |true=>exact no h
 |false=>exact k1 e0 h
theorem sp1{x0:Option NameKind}{f1:NameKind->Option α}(h:(match x0 with|.none=>none|.some a0=>f1 a0)=some r)(k1:∀a0,x0=.some a0->f1 a0=some r->P):P:=by
 generalize e0:x0=y0 at h
 induction y0 with
 |none=>exact no h
 |some z1=>exact k1 _ e0 h
theorem sp2{x0:NameKind}{f0:Option α}{f1:Option α}{f2:Option α}{f3:Option α}(h:(match x0 with|.local=>f0|.globalImplicit=>f1|.cell=>f2|.free=>f3|_=>none)=some r)(k0:x0=.local->f0=some r->P)(k1:x0=.globalImplicit->f1=some r->P)(k2:x0=.cell->f2=some r->P)(k3:x0=.free->f3=some r->P):P:=by
 generalize e0:x0=y0 at h
 induction y0 with
 |«local»=>exact k0 e0 h
 |globalImplicit=>exact k1 e0 h
 |cell=>exact k2 e0 h
 |free=>exact k3 e0 h
 |_=>exact no h
theorem sp3{x0:Option Nat}{f1:Nat->Option α}(h:(match x0 with|.none=>none|.some a0=>f1 a0)=some r)(k1:∀a0,x0=.some a0->f1 a0=some r->P):P:=by
 generalize e0:x0=y0 at h
 induction y0 with
 |none=>exact no h
 |some z1=>exact k1 _ e0 h
theorem sp4{x0:Option Ob}{f0:V->Option α}(h:(match x0 with|.some (.cell (.some a0))=>f0 a0|_=>none)=some r)(k0:∀a0,x0=.some (.cell (.some a0))->f0 a0=some r->P):P:=by
 generalize e0:x0=y0 at h
 induction y0 with
 |some z1=>
  induction z1 using Ob.casesOn with
  |cell z2=>
   induction z2 with
   |some z3=>exact k0 _ e0 h
   |_=>exact no h
  |_=>exact no h
 |_=>exact no h
theorem EM{x0:Option DictEntry}{f0:DictEntry->Option α}{f1:Option α}(h:(match x0 with|.some a0=>f0 a0|.none=>f1)=some r)(k0:∀a0,x0=.some a0->f0 a0=some r->P)(k1:x0=.none->f1=some r->P):P:=by
 generalize e0:x0=y0 at h
 induction y0 with
 |some z1=>exact k0 _ e0 h
 |none=>exact k1 e0 h
theorem YI{x0:V}{f0:Nat->Option α}(h:(match x0 with|.obj a0=>f0 a0|_=>none)=some r)(k0:∀a0,x0=.obj a0->f0 a0=some r->P):P:=by
 generalize e0:x0=y0 at h
 induction y0 using V.casesOn with
 |obj z1=>exact k0 _ e0 h
 |_=>exact no h
theorem sp7{x0:Option Ob}{f0:Addr->Nat->Option α}(h:(match x0 with|.some (.inst a0 a1)=>f0 a0 a1|_=>none)=some r)(k0:∀a0 a1,x0=.some (.inst a0 a1)->f0 a0 a1=some r->P):P:=by
 generalize e0:x0=y0 at h
 induction y0 with
 |some z1=>
  induction z1 using Ob.casesOn with
  |inst z2 z3=>exact k0 _ _ e0 h
  |_=>exact no h
 |_=>exact no h
theorem ix{x0:Bool}{f0:Option α}(h:(match x0 with|.true=>f0|.false=>none)=some r)(k0:x0=.true->f0=some r->P):P:=by
 generalize e0:x0=y0 at h
 induction y0 with
 |true=>exact k0 e0 h
 |false=>exact no h
theorem sp9{x0:Option Ob}{f0:(List (Str×V))->Option α}(h:(match x0 with|.some (.attrs a0)=>f0 a0|_=>none)=some r)(k0:∀a0,x0=.some (.attrs a0)->f0 a0=some r->P):P:=by
 generalize e0:x0=y0 at h
 induction y0 with
 |some z1=>
  induction z1 using Ob.casesOn with
  |attrs z2=>exact k0 _ e0 h
  |_=>exact no h
 |_=>exact no h
theorem gB{x0:Bool}{f1:Option α}(h:(match x0 with|.false=>none|.true=>f1)=some r)(k1:x0=.true->f1=some r->P):P:=by
 generalize e0:x0=y0 at h
 induction y0 with
 |false=>exact no h
 |true=>exact k1 e0 h
theorem ab1{x0:V}{f0:Addr->Option α}{f1:(List V)->Option α}{f2:Nat->Option α}(h:(match x0 with|.glob (.ref a0)=>f0 a0|.tup a0=>f1 a0|.obj a0=>f2 a0|_=>none)=some r)(k0:∀a0,x0=.glob (.ref a0)->f0 a0=some r->P)(k1:∀a0,x0=.tup a0->f1 a0=some r->P)(k2:∀a0,x0=.obj a0->f2 a0=some r->P):P:=by
 generalize e0:x0=y0 at h
 induction y0 using V.casesOn with
 |glob z1=>
  induction z1 using Value.casesOn with
  |ref z2=>exact k0 _ e0 h
  |_=>exact no h
 |tup z3=>exact k1 _ e0 h
 |obj z4=>exact k2 _ e0 h
 |_=>exact no h
theorem Jf{x0:V}{f0:Str->Option α}(h:(match x0 with|.str a0=>f0 a0|_=>none)=some r)(k0:∀a0,x0=.str a0->f0 a0=some r->P):P:=by
 generalize e0:x0=y0 at h
 induction y0 using V.casesOn with
 |str z1=>exact k0 _ e0 h
 |_=>exact no h
theorem aa6{x0:Option (List (Str×V))}{f0:(List (Str×V))->Option α}(h:(match x0 with|.some a0=>f0 a0|.none=>none)=some r)(k0:∀a0,x0=.some a0->f0 a0=some r->P):P:=by
 generalize e0:x0=y0 at h
 induction y0 with
 |some z1=>exact k0 _ e0 h
 |none=>exact no h
theorem DX{x0:V}{f0:Int->Option α}(h:(match x0 with|.int a0=>f0 a0|_=>none)=some r)(k0:∀a0,x0=.int a0->f0 a0=some r->P):P:=by
 generalize e0:x0=y0 at h
 induction y0 using V.casesOn with
 |int z1=>exact k0 _ e0 h
 |_=>exact no h
theorem wx{x0:Option Nat}{f0:Nat->Option α}(h:(match x0 with|.some a0=>f0 a0|.none=>none)=some r)(k0:∀a0,x0=.some a0->f0 a0=some r->P):P:=by
 generalize e0:x0=y0 at h
 induction y0 with
 |some z1=>exact k0 _ e0 h
 |none=>exact no h
theorem acb{x0:Option Ob}{f0:(List V)->Option α}{f1:(List V)->Option α}{f2:(List (Str×V))->Option α}{f3:(List (Str×V))->Option α}(h:(match x0 with|.some (.list a0)=>f0 a0|.some (.c9 a0)=>f1 a0|.some (.dict a0)=>f2 a0|.some (.ck a0)=>f3 a0|_=>none)=some r)(k0:∀a0,x0=.some (.list a0)->f0 a0=some r->P)(k1:∀a0,x0=.some (.c9 a0)->f1 a0=some r->P)(k2:∀a0,x0=.some (.dict a0)->f2 a0=some r->P)(k3:∀a0,x0=.some (.ck a0)->f3 a0=some r->P):P:=by
 generalize e0:x0=y0 at h
 induction y0 with
 |some z1=>
  induction z1 using Ob.casesOn with
  |list z2=>exact k0 _ e0 h
  |c9 z3=>exact k1 _ e0 h
  |dict z4=>exact k2 _ e0 h
  |ck z5=>exact k3 _ e0 h
  |_=>exact no h
 |_=>exact no h
theorem abl{x0:Option PyData}{x1:Option PyData}{f0:PyData->PyData->Option α}(h:(match x0,x1 with|.some a0,.some a1=>f0 a0 a1|_,_=>none)=some r)(k0:∀a0 a1,x0=.some a0->x1=.some a1->f0 a0 a1=some r->P):P:=by
 generalize e0:x0=y0 at h;generalize e1:x1=y1 at h
 induction y0 with
 |some z1=>
  induction y1 with
  |some z2=>exact k0 _ _ e0 e1 h
  |_=>exact no h
 |_=>exact no h
theorem acr{x0:Option PyData}{f0:(List PyData)->Option α}{f1:(List PyData)->Option α}{f3:Option α}(h:(match x0 with|.some (.tuple a0)=>f0 a0|.some (.list a0)=>f1 a0|.some _=>none|.none=>f3)=some r)(k0:∀a0,x0=.some (.tuple a0)->f0 a0=some r->P)(k1:∀a0,x0=.some (.list a0)->f1 a0=some r->P)(k3:x0=.none->f3=some r->P):P:=by
 generalize e0:x0=y0 at h
 induction y0 with
 |some z1=>
  induction z1 using PyData.casesOn with
  |tuple z2=>exact k0 _ e0 h
  |list z3=>exact k1 _ e0 h
  |_=>exact no h
 |none=>exact k3 e0 h
theorem YM{x0:Option PyData}{f0:PyData->Option α}(h:(match x0 with|.some a0=>f0 a0|.none=>none)=some r)(k0:∀a0,x0=.some a0->f0 a0=some r->P):P:=by
 generalize e0:x0=y0 at h
 induction y0 with
 |some z1=>exact k0 _ e0 h
 |none=>exact no h
theorem NW{x0:Option Ob}{f0:(List (Str×V))->Option α}(h:(match x0 with|.some (.dict a0)=>f0 a0|_=>none)=some r)(k0:∀a0,x0=.some (.dict a0)->f0 a0=some r->P):P:=by
 generalize e0:x0=y0 at h
 induction y0 with
 |some z1=>
  induction z1 using Ob.casesOn with
  |dict z2=>exact k0 _ e0 h
  |_=>exact no h
 |_=>exact no h
theorem Cy{x0:V}{x1:V}{f0:Int->Int->Option α}(h:(match x0,x1 with|.int a0,.int a1=>f0 a0 a1|_,_=>none)=some r)(k0:∀a0 a1,x0=.int a0->x1=.int a1->f0 a0 a1=some r->P):P:=by
 generalize e0:x0=y0 at h;generalize e1:x1=y1 at h
 induction y0 using V.casesOn with
 |int z1=>
  induction y1 using V.casesOn with
  |int z2=>exact k0 _ _ e0 e1 h
  |_=>exact no h
 |_=>exact no h
theorem ado{x0:Operator}{f0:Option α}{f1:Option α}{f2:Option α}{f3:Option α}{f4:Option α}{f5:Option α}(h:(match x0 with|.Add=>f0|.Sub=>f1|.Mult=>f2|.Mod=>f3|.FloorDiv=>f4|.Pow=>f5|_=>none)=some r)(k0:x0=.Add->f0=some r->P)(k1:x0=.Sub->f1=some r->P)(k2:x0=.Mult->f2=some r->P)(k3:x0=.Mod->f3=some r->P)(k4:x0=.FloorDiv->f4=some r->P)(k5:x0=.Pow->f5=some r->P):P:=by
 generalize e0:x0=y0 at h
 induction y0 with
 |Add=>exact k0 e0 h
 |Sub=>exact k1 e0 h
 |Mult=>exact k2 e0 h
 |Mod=>exact k3 e0 h
 |FloorDiv=>exact k4 e0 h
 |Pow=>exact k5 e0 h
 |_=>exact no h
theorem ade{x0:V}{x1:V}{f0:Int->Int->Option α}{f1:Str->Str->Option α}{f2:(List V)->(List V)->Option α}{f3:Nat->Nat->Option α}(h:(match x0,x1 with|.int a0,.int a1=>f0 a0 a1|.str a0,.str a1=>f1 a0 a1|.tup a0,.tup a1=>f2 a0 a1|.obj a0,.obj a1=>f3 a0 a1|_,_=>none)=some r)(k0:∀a0 a1,x0=.int a0->x1=.int a1->f0 a0 a1=some r->P)(k1:∀a0 a1,x0=.str a0->x1=.str a1->f1 a0 a1=some r->P)(k2:∀a0 a1,x0=.tup a0->x1=.tup a1->f2 a0 a1=some r->P)(k3:∀a0 a1,x0=.obj a0->x1=.obj a1->f3 a0 a1=some r->P):P:=by
 generalize e0:x0=y0 at h;generalize e1:x1=y1 at h
 induction y0 using V.casesOn with
 |int z1=>
  induction y1 using V.casesOn with
  |int z2=>exact k0 _ _ e0 e1 h
  |_=>exact no h
 |str z3=>
  induction y1 using V.casesOn with
  |str z4=>exact k1 _ _ e0 e1 h
  |_=>exact no h
 |tup z5=>
  induction y1 using V.casesOn with
  |tup z6=>exact k2 _ _ e0 e1 h
  |_=>exact no h
 |obj z7=>
  induction y1 using V.casesOn with
  |obj z8=>exact k3 _ _ e0 e1 h
  |_=>exact no h
 |_=>exact no h
theorem adn{x0:Option Ob}{x1:Option Ob}{f0:(List V)->(List V)->Option α}(h:(match x0,x1 with|.some (.list a0),.some (.list a1)=>f0 a0 a1|_,_=>none)=some r)(k0:∀a0 a1,x0=.some (.list a0)->x1=.some (.list a1)->f0 a0 a1=some r->P):P:=by
 generalize e0:x0=y0 at h;generalize e1:x1=y1 at h
 induction y0 with
 |some z1=>
  induction z1 using Ob.casesOn with
  |list z2=>
   induction y1 with
   |some z3=>
    induction z3 using Ob.casesOn with
    |list z4=>exact k0 _ _ e0 e1 h
    |_=>exact no h
   |_=>exact no h
  |_=>exact no h
 |_=>exact no h
theorem acU{x0:V}{x1:V}{f0:Int->Int->Option α}{f1:Nat->Nat->Option α}(h:(match x0,x1 with|.int a0,.int a1=>f0 a0 a1|.obj a0,.int (.ofNat a1)=>f1 a0 a1|_,_=>none)=some r)(k0:∀a0 a1,x0=.int a0->x1=.int a1->f0 a0 a1=some r->P)(k1:∀a0 a1,x0=.obj a0->x1=.int (.ofNat a1)->f1 a0 a1=some r->P):P:=by
 generalize e0:x0=y0 at h;generalize e1:x1=y1 at h
 induction y0 using V.casesOn with
 |int z1=>
  induction y1 using V.casesOn with
  |int z2=>exact k0 _ _ e0 e1 h
  |_=>exact no h
 |obj z3=>
  induction y1 using V.casesOn with
  |int z4=>
   induction z4 using Int.casesOn with
   |ofNat z5=>exact k1 _ _ e0 e1 h
   |_=>exact no h
  |_=>exact no h
 |_=>exact no h
theorem pf{x0:Option Ob}{f0:(List V)->Option α}(h:(match x0 with|.some (.list a0)=>f0 a0|_=>none)=some r)(k0:∀a0,x0=.some (.list a0)->f0 a0=some r->P):P:=by
 generalize e0:x0=y0 at h
 induction y0 with
 |some z1=>
  induction z1 using Ob.casesOn with
  |list z2=>exact k0 _ e0 h
  |_=>exact no h
 |_=>exact no h
theorem NU{x0:V}{x1:V}{f0:Int->Nat->Option α}(h:(match x0,x1 with|.int a0,.int (.ofNat a1)=>f0 a0 a1|_,_=>none)=some r)(k0:∀a0 a1,x0=.int a0->x1=.int (.ofNat a1)->f0 a0 a1=some r->P):P:=by
 generalize e0:x0=y0 at h;generalize e1:x1=y1 at h
 induction y0 using V.casesOn with
 |int z1=>
  induction y1 using V.casesOn with
  |int z2=>
   induction z2 using Int.casesOn with
   |ofNat z3=>exact k0 _ _ e0 e1 h
   |_=>exact no h
  |_=>exact no h
 |_=>exact no h
theorem ac6{x0:UnaryOp}{f0:Option α}(h:(match x0 with|.USub=>f0|_=>none)=some r)(k0:x0=.USub->f0=some r->P):P:=by
 generalize e0:x0=y0 at h
 induction y0 with
 |USub=>exact k0 e0 h
 |_=>exact no h
theorem pC{x0:Bool}{f0:Option α}{f1:Option α}(h:(match x0 with|.true=>f0|.false=>f1)=some r)(k0:x0=.true->f0=some r->P)(k1:x0=.false->f1=some r->P):P:=by
 generalize e0:x0=y0 at h
 induction y0 with
 |true=>exact k0 e0 h
 |false=>exact k1 e0 h
theorem VN{x0:List V}{f0:V->Option α}(h:(match x0 with|.cons a0 .nil=>f0 a0|_=>none)=some r)(k0:∀a0,x0=.cons a0 .nil->f0 a0=some r->P):P:=by
 generalize e0:x0=y0 at h
 induction y0 using List.casesOn with
 |cons z1 z2=>
  induction z2 using List.casesOn with
  |nil=>exact k0 _ e0 h
  |_=>exact no h
 |_=>exact no h
theorem abz{x0:List V}{f0:(List V)->Option α}{f1:Nat->Option α}(h:(match x0 with|.cons (.tup a0) .nil=>f0 a0|.cons (.obj a0) .nil=>f1 a0|_=>none)=some r)(k0:∀a0,x0=.cons (.tup a0) .nil->f0 a0=some r->P)(k1:∀a0,x0=.cons (.obj a0) .nil->f1 a0=some r->P):P:=by
 generalize e0:x0=y0 at h
 induction y0 using List.casesOn with
 |cons z1 z2=>
  induction z1 using V.casesOn with
  |tup z3=>
   induction z2 using List.casesOn with
   |nil=>exact k0 _ e0 h
   |_=>exact no h
  |obj z4=>
   induction z2 using List.casesOn with
   |nil=>exact k1 _ e0 h
   |_=>exact no h
  |_=>exact no h
 |_=>exact no h
theorem ab6{x0:Bool}{f0:Option α}(h:(match x0 with|.false=>f0|.true=>none)=some r)(k0:x0=.false->f0=some r->P):P:=by
 generalize e0:x0=y0 at h
 induction y0 with
 |false=>exact k0 e0 h
 |true=>exact no h
theorem abN{x0:Option Expr}{f0:Option α}{f1:Int->Nat->Pos->Option α}(h:(match x0 with|.none=>f0|.some (.Constant (.int a0) a1 a2)=>f1 a0 a1 a2|_=>none)=some r)(k0:x0=.none->f0=some r->P)(k1:∀a0 a1 a2,x0=.some (.Constant (.int a0) a1 a2)->f1 a0 a1 a2=some r->P):P:=by
 generalize e0:x0=y0 at h
 induction y0 with
 |none=>exact k0 e0 h
 |some z1=>
  induction z1 using Expr.casesOn with
  |Constant z2 z3 z4=>
   induction z2 using Const.casesOn with
   |int z5=>exact k1 _ _ _ e0 h
   |_=>exact no h
  |_=>exact no h
theorem Fo{x0:V}{f0:(List V)->Option α}{f1:Nat->Option α}(h:(match x0 with|.tup a0=>f0 a0|.obj a0=>f1 a0|_=>none)=some r)(k0:∀a0,x0=.tup a0->f0 a0=some r->P)(k1:∀a0,x0=.obj a0->f1 a0=some r->P):P:=by
 generalize e0:x0=y0 at h
 induction y0 using V.casesOn with
 |tup z1=>exact k0 _ e0 h
 |obj z2=>exact k1 _ e0 h
 |_=>exact no h
theorem abM{x0:Option Int}{f0:Option α}{f1:Nat->Option α}(h:(match x0 with|.none=>f0|.some (.ofNat a0)=>f1 a0|_=>none)=some r)(k0:x0=.none->f0=some r->P)(k1:∀a0,x0=.some (.ofNat a0)->f1 a0=some r->P):P:=by
 generalize e0:x0=y0 at h
 induction y0 with
 |none=>exact k0 e0 h
 |some z1=>
  induction z1 using Int.casesOn with
  |ofNat z2=>exact k1 _ e0 h
  |_=>exact no h
theorem V3{x0:Option Int}{f0:Nat->Option α}(h:(match x0 with|.some (.ofNat a0)=>f0 a0|_=>none)=some r)(k0:∀a0,x0=.some (.ofNat a0)->f0 a0=some r->P):P:=by
 generalize e0:x0=y0 at h
 induction y0 with
 |some z1=>
  induction z1 using Int.casesOn with
  |ofNat z2=>exact k0 _ e0 h
  |_=>exact no h
 |_=>exact no h
theorem adx{x0:Option Int}{f0:Option α}(h:(match x0 with|.none=>f0|_=>none)=some r)(k0:x0=.none->f0=some r->P):P:=by
 generalize e0:x0=y0 at h
 induction y0 with
 |none=>exact k0 e0 h
 |_=>exact no h
theorem adp{x0:Option Ob}{f0:(List V)->Option α}{f1:(List V)->Option α}(h:(match x0 with|.some (.list a0)=>f0 a0|.some (.c9 a0)=>f1 a0|_=>none)=some r)(k0:∀a0,x0=.some (.list a0)->f0 a0=some r->P)(k1:∀a0,x0=.some (.c9 a0)->f1 a0=some r->P):P:=by
 generalize e0:x0=y0 at h
 induction y0 with
 |some z1=>
  induction z1 using Ob.casesOn with
  |list z2=>exact k0 _ e0 h
  |c9 z3=>exact k1 _ e0 h
  |_=>exact no h
 |_=>exact no h
theorem Yh{P:Prop}{x0:Bool}{f1:Bool}(h:(match x0 with|.true=>false|.false=>f1)=true)(k1:x0=.false->f1=true->P):P:=by
 generalize e0:x0=y0 at h
 induction y0 with
 |true=>exact nf h
 |false=>exact k1 e0 h
theorem adv{x0:V}{f0:Option α}(h:(match x0 with|.none=>f0|_=>none)=some r)(k0:x0=.none->f0=some r->P):P:=by
 generalize e0:x0=y0 at h
 induction y0 using V.casesOn with
 |none=>exact k0 e0 h
 |_=>exact no h
theorem aa0{P:Prop}{x0:Arguments}(h:(match x0 with|.mk .nil .nil .none .nil .nil .none .nil=>true|_=>false)=true)(k0:x0=.mk .nil .nil .none .nil .nil .none .nil->P):P:=by
 generalize e0:x0=y0 at h
 induction y0 using Arguments.casesOn with
 |mk z1 z2 z3 z4 z5 z6 z7=>
  induction z1 using List.casesOn with
  |nil=>
   induction z2 using List.casesOn with
   |nil=>
    induction z3 with
    |none=>
     induction z4 using List.casesOn with
     |nil=>
      induction z5 using List.casesOn with
      |nil=>
       induction z6 with
       |none=>
        induction z7 using List.casesOn with
        |nil=>exact k0 e0
        |_=>exact nf h
       |_=>exact nf h
      |_=>exact nf h
     |_=>exact nf h
    |_=>exact nf h
   |_=>exact nf h
  |_=>exact nf h
theorem HR{P:Prop}{x0:ScopeKind}(h:(match x0 with|.function=>true|_=>false)=true)(k0:x0=.function->P):P:=by
 generalize e0:x0=y0 at h
 induction y0 with
 |function=>exact k0 e0
 |_=>exact nf h
theorem acZ{x0:Option Ob}{f0:Nat->Str->Expr->Scope->(List (Str×Nat))->Option α}(h:(match x0 with|.some (.lh a0 a1 a2 a3 a4)=>f0 a0 a1 a2 a3 a4|_=>none)=some r)(k0:∀a0 a1 a2 a3 a4,x0=.some (.lh a0 a1 a2 a3 a4)->f0 a0 a1 a2 a3 a4=some r->P):P:=by
 generalize e0:x0=y0 at h
 induction y0 with
 |some z1=>
  induction z1 using Ob.casesOn with
  |lh z2 z3 z4 z5 z6=>exact k0 _ _ _ _ _ e0 h
  |_=>exact no h
 |_=>exact no h
theorem ac0{x0:Option Ob}{f0:Str->Option α}(h:(match x0 with|.some (.code a0)=>f0 a0|_=>none)=some r)(k0:∀a0,x0=.some (.code a0)->f0 a0=some r->P):P:=by
 generalize e0:x0=y0 at h
 induction y0 with
 |some z1=>
  induction z1 using Ob.casesOn with
  |code z2=>exact k0 _ e0 h
  |_=>exact no h
 |_=>exact no h
theorem abW{P:Prop}{x0:List Expr}{f0:Bool}(h:(match x0 with|.nil=>f0|.cons _ _=>false)=true)(k0:x0=.nil->f0=true->P):P:=by
 generalize e0:x0=y0 at h
 induction y0 using List.casesOn with
 |nil=>exact k0 e0 h
 |cons z1 z2=>exact nf h
theorem acA{P:Prop}{x0:V}{f0:Nat->Bool}(h:(match x0 with|.obj a0=>f0 a0|_=>false)=true)(k0:∀a0,x0=.obj a0->f0 a0=true->P):P:=by
 generalize e0:x0=y0 at h
 induction y0 using V.casesOn with
 |obj z1=>exact k0 _ e0 h
 |_=>exact nf h
theorem acw{P:Prop}{x0:Option Ob}(h:(match x0 with|.some (.lh _ _ _ _ _)=>true|_=>false)=true)(k0:∀a0 a1 a2 a3 a4,x0=.some (.lh a0 a1 a2 a3 a4)->P):P:=by
 generalize e0:x0=y0 at h
 induction y0 with
 |some z1=>
  induction z1 using Ob.casesOn with
  |lh z2 z3 z4 z5 z6=>exact k0 _ _ _ _ _ e0
  |_=>exact nf h
 |_=>exact nf h
theorem acQ{x0:Option Ob}{f0:(List V)->Option α}{f1:Addr->Nat->Option α}(h:(match x0 with|.some (.list a0)=>f0 a0|.some (.inst a0 a1)=>f1 a0 a1|_=>none)=some r)(k0:∀a0,x0=.some (.list a0)->f0 a0=some r->P)(k1:∀a0 a1,x0=.some (.inst a0 a1)->f1 a0 a1=some r->P):P:=by
 generalize e0:x0=y0 at h
 induction y0 with
 |some z1=>
  induction z1 using Ob.casesOn with
  |list z2=>exact k0 _ e0 h
  |inst z3 z4=>exact k1 _ _ e0 h
  |_=>exact no h
 |_=>exact no h
theorem OI{x0:Option V}{f0:Option α}(h:(match x0 with|.none=>f0|.some _=>none)=some r)(k0:x0=.none->f0=some r->P):P:=by
 generalize e0:x0=y0 at h
 induction y0 with
 |none=>exact k0 e0 h
 |some z1=>exact no h
theorem aaQ{x0:V}{x1:V}{f0:Nat->Str->Option α}{f1:Nat->Nat->Option α}(h:(match x0,x1 with|.obj a0,.str a1=>f0 a0 a1|.obj a0,.int (.ofNat a1)=>f1 a0 a1|_,_=>none)=some r)(k0:∀a0 a1,x0=.obj a0->x1=.str a1->f0 a0 a1=some r->P)(k1:∀a0 a1,x0=.obj a0->x1=.int (.ofNat a1)->f1 a0 a1=some r->P):P:=by
 generalize e0:x0=y0 at h;generalize e1:x1=y1 at h
 induction y0 using V.casesOn with
 |obj z1=>
  induction y1 using V.casesOn with
  |str z2=>exact k0 _ _ e0 e1 h
  |int z3=>
   induction z3 using Int.casesOn with
   |ofNat z4=>exact k1 _ _ e0 e1 h
   |_=>exact no h
  |_=>exact no h
 |_=>exact no h
theorem abb{x0:Option Ob}{f0:Option α}(h:(match x0 with|.some (.dict .nil)=>f0|_=>none)=some r)(k0:x0=.some (.dict .nil)->f0=some r->P):P:=by
 generalize e0:x0=y0 at h
 induction y0 with
 |some z1=>
  induction z1 using Ob.casesOn with
  |dict z2=>
   induction z2 using List.casesOn with
   |nil=>exact k0 e0 h
   |_=>exact no h
  |_=>exact no h
 |_=>exact no h
theorem acm{x0:Option NameKind}{f0:Option α}{f1:Option α}(h:(match x0 with|.some .local=>f0|.some .cell=>f1|_=>none)=some r)(k0:x0=.some .local->f0=some r->P)(k1:x0=.some .cell->f1=some r->P):P:=by
 generalize e0:x0=y0 at h
 induction y0 with
 |some z1=>
  induction z1 with
  |«local»=>exact k0 e0 h
  |cell=>exact k1 e0 h
  |_=>exact no h
 |_=>exact no h
theorem aa7{x0:Option Ob}{f0:(Option V)->Option α}(h:(match x0 with|.some (.cell a0)=>f0 a0|_=>none)=some r)(k0:∀a0,x0=.some (.cell a0)->f0 a0=some r->P):P:=by
 generalize e0:x0=y0 at h
 induction y0 with
 |some z1=>
  induction z1 using Ob.casesOn with
  |cell z2=>exact k0 _ e0 h
  |_=>exact no h
 |_=>exact no h
theorem X0{x0:Option (ah×List Ob)}{f0:ah->(List Ob)->Option α}(h:(match x0 with|.some (.mk a0 a1)=>f0 a0 a1|.none=>none)=some r)(k0:∀a0 a1,x0=.some (.mk a0 a1)->f0 a0 a1=some r->P):P:=by
 generalize e0:x0=y0 at h
 induction y0 with
 |some z1=>
  induction z1 with
  |mk z2 z3=>exact k0 _ _ e0 h
 |none=>exact no h
theorem Io{x0:Expr}{f0:Str->Pos->Option α}(h:(match x0 with|.Name a0 a1=>f0 a0 a1|_=>none)=some r)(k0:∀a0 a1,x0=.Name a0 a1->f0 a0 a1=some r->P):P:=by
 generalize e0:x0=y0 at h
 induction y0 using Expr.casesOn with
 |Name z1 z2=>exact k0 _ _ e0 h
 |_=>exact no h
theorem Bb{x0:Option NameKind}{f0:Option α}(h:(match x0 with|.some .local=>f0|_=>none)=some r)(k0:x0=.some .local->f0=some r->P):P:=by
 generalize e0:x0=y0 at h
 induction y0 with
 |some z1=>
  induction z1 with
  |«local»=>exact k0 e0 h
  |_=>exact no h
 |_=>exact no h
theorem BZ{x0:Bool}{f0:Option α}{f1:Option α}(h:(match x0 with|.false=>f0|.true=>f1)=some r)(k0:x0=.false->f0=some r->P)(k1:x0=.true->f1=some r->P):P:=by
 generalize e0:x0=y0 at h
 induction y0 with
 |false=>exact k0 e0 h
 |true=>exact k1 e0 h
theorem abK{x0:Option (List Str)}{f0:Option α}{f1:(List Str)->Option α}(h:(match x0 with|.none=>f0|.some a0=>f1 a0)=some r)(k0:x0=.none->f0=some r->P)(k1:∀a0,x0=.some a0->f1 a0=some r->P):P:=by
 generalize e0:x0=y0 at h
 induction y0 with
 |none=>exact k0 e0 h
 |some z1=>exact k1 _ e0 h
theorem PL{x0:V}{f0:(List V)->Option α}(h:(match x0 with|.tup a0=>f0 a0|_=>none)=some r)(k0:∀a0,x0=.tup a0->f0 a0=some r->P):P:=by
 generalize e0:x0=y0 at h
 induction y0 using V.casesOn with
 |tup z1=>exact k0 _ e0 h
 |_=>exact no h
theorem ack{x0:Option V}{f0:V->Option α}{f1:Option α}(h:(match x0 with|.some a0=>f0 a0|.none=>f1)=some r)(k0:∀a0,x0=.some a0->f0 a0=some r->P)(k1:x0=.none->f1=some r->P):P:=by
 generalize e0:x0=y0 at h
 induction y0 with
 |some z1=>exact k0 _ e0 h
 |none=>exact k1 e0 h
theorem Qn{x0:Option Ob}{f0:(List (Str×V))->Option α}(h:(match x0 with|.some (.ck a0)=>f0 a0|_=>none)=some r)(k0:∀a0,x0=.some (.ck a0)->f0 a0=some r->P):P:=by
 generalize e0:x0=y0 at h
 induction y0 with
 |some z1=>
  induction z1 using Ob.casesOn with
  |ck z2=>exact k0 _ e0 h
  |_=>exact no h
 |_=>exact no h
theorem XS{x0:Option (Str×V)}{f0:(Str×V)->Option α}{f1:Option α}(h:(match x0 with|.some a0=>f0 a0|.none=>f1)=some r)(k0:∀a0,x0=.some a0->f0 a0=some r->P)(k1:x0=.none->f1=some r->P):P:=by
 generalize e0:x0=y0 at h
 induction y0 with
 |some z1=>exact k0 _ e0 h
 |none=>exact k1 e0 h
theorem adT{x0:Expr}{f0:Str->Pos->Option α}{f1:(List Expr)->Nat->Pos->Option α}(h:(match x0 with|.Name a0 a1=>f0 a0 a1|.Tuple a0 a1 a2=>f1 a0 a1 a2|_=>none)=some r)(k0:∀a0 a1,x0=.Name a0 a1->f0 a0 a1=some r->P)(k1:∀a0 a1 a2,x0=.Tuple a0 a1 a2->f1 a0 a1 a2=some r->P):P:=by
 generalize e0:x0=y0 at h
 induction y0 using Expr.casesOn with
 |Name z1 z2=>exact k0 _ _ e0 h
 |Tuple z3 z4 z5=>exact k1 _ _ _ e0 h
 |_=>exact no h
theorem adg{x0:Option Ob}{f0:(List V)->Option α}{f1:(List (Str×V))->Option α}(h:(match x0 with|.some (.list a0)=>f0 a0|.some (.dict a0)=>f1 a0|_=>none)=some r)(k0:∀a0,x0=.some (.list a0)->f0 a0=some r->P)(k1:∀a0,x0=.some (.dict a0)->f1 a0=some r->P):P:=by
 generalize e0:x0=y0 at h
 induction y0 with
 |some z1=>
  induction z1 using Ob.casesOn with
  |list z2=>exact k0 _ e0 h
  |dict z3=>exact k1 _ e0 h
  |_=>exact no h
 |_=>exact no h
theorem adM{P:Prop}{x0:Bool}{f0:Bool}(h:(match x0 with|.true=>f0|.false=>false)=true)(k0:x0=.true->f0=true->P):P:=by
 generalize e0:x0=y0 at h
 induction y0 with
 |true=>exact k0 e0 h
 |false=>exact nf h
theorem S9{x0:Option Bool}{f0:Option α}{f1:Option α}(h:(match x0 with|.some .true=>f0|.some .false=>f1|.none=>none)=some r)(k0:x0=.some .true->f0=some r->P)(k1:x0=.some .false->f1=some r->P):P:=by
 generalize e0:x0=y0 at h
 induction y0 with
 |some z1=>
  induction z1 with
  |true=>exact k0 e0 h
  |false=>exact k1 e0 h
 |none=>exact no h
theorem ac'{x0:It}{f0:Option α}{f1:V->(List V)->Option α}{f2:Nat->Nat->Option α}{f3:Nat->Nat->Nat->Option α}{f4:Int->Int->Int->Option α}(h:(match x0 with|.tup .nil=>f0|.tup (.cons a0 a1)=>f1 a0 a1|.lst a0 a1=>f2 a0 a1|.dict a0 a1 a2=>f3 a0 a1 a2|.rZ a0 a1 a2=>f4 a0 a1 a2|.zip _ _=>none)=some r)(k0:x0=.tup .nil->f0=some r->P)(k1:∀a0 a1,x0=.tup (.cons a0 a1)->f1 a0 a1=some r->P)(k2:∀a0 a1,x0=.lst a0 a1->f2 a0 a1=some r->P)(k3:∀a0 a1 a2,x0=.dict a0 a1 a2->f3 a0 a1 a2=some r->P)(k4:∀a0 a1 a2,x0=.rZ a0 a1 a2->f4 a0 a1 a2=some r->P):P:=by
 generalize e0:x0=y0 at h
 induction y0 using It.casesOn with
 |tup z1=>
  induction z1 using List.casesOn with
  |nil=>exact k0 e0 h
  |cons z2 z3=>exact k1 _ _ e0 h
 |lst z4 z5=>exact k2 _ _ e0 h
 |dict z6 z7 z8=>exact k3 _ _ _ e0 h
 |rZ z9 YO z11=>exact k4 _ _ _ e0 h
 |zip z12 z13=>exact no h
theorem aa3{x0:NameKind}{f0:Option α}{f1:NameKind->Option α}(h:(match x0 with|.free=>f0|a0=>f1 a0)=some r)(k0:x0=.free->f0=some r->P)(k1:f1 x0=some r->P):P:=by
 generalize e0:x0=y0 at h
 induction y0 with
 |free=>exact k0 e0 h
 |_=>subst e0;exact k1 h
theorem Wn{P:Prop}{x0:Option NameKind}(h:(match x0 with|.some .local=>true|_=>false)=true)(k0:x0=.some .local->P):P:=by
 generalize e0:x0=y0 at h
 induction y0 with
 |some z1=>
  induction z1 with
  |«local»=>exact k0 e0
  |_=>exact nf h
 |_=>exact nf h
theorem ab4{P:Prop}{x0:Option Obj}{f0:Value->(Option Addr)->ClassData->(Array (Option Value))->Bool}(h:(match x0 with|.some (.mk a0 a1 (.cls a2) a3)=>f0 a0 a1 a2 a3|_=>false)=true)(k0:∀a0 a1 a2 a3,x0=.some (.mk a0 a1 (.cls a2) a3)->f0 a0 a1 a2 a3=true->P):P:=by
 generalize e0:x0=y0 at h
 induction y0 with
 |some z1=>
  induction z1 using Obj.casesOn with
  |mk z2 z3 z4 z5=>
   induction z4 using Data.casesOn with
   |cls z6=>exact k0 _ _ _ _ e0 h
   |_=>exact nf h
 |_=>exact nf h
theorem ac5{x0:V}{f0:Addr->Option α}(h:(match x0 with|.glob (.ref a0)=>f0 a0|_=>none)=some r)(k0:∀a0,x0=.glob (.ref a0)->f0 a0=some r->P):P:=by
 generalize e0:x0=y0 at h
 induction y0 using V.casesOn with
 |glob z1=>
  induction z1 using Value.casesOn with
  |ref z2=>exact k0 _ e0 h
  |_=>exact no h
 |_=>exact no h
theorem abd{x0:List V}{f0:V->V->Option α}(h:(match x0 with|.cons a0 (.cons a1 .nil)=>f0 a0 a1|_=>none)=some r)(k0:∀a0 a1,x0=.cons a0 (.cons a1 .nil)->f0 a0 a1=some r->P):P:=by
 generalize e0:x0=y0 at h
 induction y0 using List.casesOn with
 |cons z1 z2=>
  induction z2 using List.casesOn with
  |cons z3 z4=>
   induction z4 using List.casesOn with
   |nil=>exact k0 _ _ e0 h
   |_=>exact no h
  |_=>exact no h
 |_=>exact no h
theorem ad6{P:Prop}{x0:Expr}{f0:(List Expr)->Nat->Pos->Bool}(h:(match x0 with|.Tuple a0 a1 a2=>f0 a0 a1 a2|_=>false)=true)(k0:∀a0 a1 a2,x0=.Tuple a0 a1 a2->f0 a0 a1 a2=true->P):P:=by
 generalize e0:x0=y0 at h
 induction y0 using Expr.casesOn with
 |Tuple z1 z2 z3=>exact k0 _ _ _ e0 h
 |_=>exact nf h
theorem abk{P:Prop}{x0:List Expr}{f0:Str->Pos->Str->Pos->Bool}(h:(match x0 with|.cons (.Name a0 a1) (.cons (.Name a2 a3) .nil)=>f0 a0 a1 a2 a3|_=>false)=true)(k0:∀a0 a1 a2 a3,x0=.cons (.Name a0 a1) (.cons (.Name a2 a3) .nil)->f0 a0 a1 a2 a3=true->P):P:=by
 generalize e0:x0=y0 at h
 induction y0 using List.casesOn with
 |cons z1 z2=>
  induction z1 using Expr.casesOn with
  |Name z3 z4=>
   induction z2 using List.casesOn with
   |cons z5 z6=>
    induction z5 using Expr.casesOn with
    |Name z7 z8=>
     induction z6 using List.casesOn with
     |nil=>exact k0 _ _ _ _ e0 h
     |_=>exact nf h
    |_=>exact nf h
   |_=>exact nf h
  |_=>exact nf h
 |_=>exact nf h
theorem ad0{P:Prop}{x0:Expr}{f0:Str->Pos->(List Expr)->Pos->Bool}(h:(match x0 with|.Call (.Name a0 a1) a2 .nil a3=>f0 a0 a1 a2 a3|_=>false)=true)(k0:∀a0 a1 a2 a3,x0=.Call (.Name a0 a1) a2 .nil a3->f0 a0 a1 a2 a3=true->P):P:=by
 generalize e0:x0=y0 at h
 induction y0 using Expr.casesOn with
 |Call z1 z2 z3 z4=>
  induction z1 using Expr.casesOn with
  |Name z5 z6=>
   induction z3 using List.casesOn with
   |nil=>exact k0 _ _ _ _ e0 h
   |_=>exact nf h
  |_=>exact nf h
 |_=>exact nf h
theorem aaU{P:Prop}{x0:List Expr}{f0:Bool}(h:(match x0 with|.nil=>f0|_=>false)=true)(k0:x0=.nil->f0=true->P):P:=by
 generalize e0:x0=y0 at h
 induction y0 using List.casesOn with
 |nil=>exact k0 e0 h
 |_=>exact nf h
theorem abP{x0:Sc}{x1:List (Option Expr)}{x2:List Expr}{x3:ah}{x4:List Ob}{f0:Sc->ah->(List Ob)->Option α}{f1:Sc->Str->Nat->Pos->(List (Option Expr))->Expr->(List Expr)->ah->(List Ob)->Option α}(h:(match x0,x1,x2,x3,x4 with|a0,.nil,.nil,a1,a2=>f0 a0 a1 a2|a0,.cons (.some (.Constant (.str a1) a2 a3)) a4,.cons a5 a6,a7,a8=>f1 a0 a1 a2 a3 a4 a5 a6 a7 a8|_,_,_,_,_=>none)=some r)(k0:x1=.nil->x2=.nil->f0 x0 x3 x4=some r->P)(k1:∀a1 a2 a3 a4 a5 a6,x1=.cons (.some (.Constant (.str a1) a2 a3)) a4->x2=.cons a5 a6->f1 x0 a1 a2 a3 a4 a5 a6 x3 x4=some r->P):P:=by
 generalize e1:x1=y1 at h;generalize e2:x2=y2 at h
 induction y1 using List.casesOn with
 |nil=>
  induction y2 using List.casesOn with
  |nil=>exact k0 e1 e2 h
  |_=>exact no h
 |cons z1 z2=>
  induction z1 with
  |some z3=>
   induction z3 using Expr.casesOn with
   |Constant z4 z5 z6=>
    induction z4 using Const.casesOn with
    |str z7=>
     induction y2 using List.casesOn with
     |cons z8 z9=>exact k1 _ _ _ _ _ _ e1 e2 h
     |_=>exact no h
    |_=>exact no h
   |_=>exact no h
  |_=>exact no h
theorem acy{x0:Expr}{f0:Expr->(List Expr)->(List Keyword)->Pos->Option α}{f1:Expr->Option α}(h:(match x0 with|.Call a0 a1 a2 a3=>f0 a0 a1 a2 a3|a0=>f1 a0)=some r)(k0:∀a0 a1 a2 a3,x0=.Call a0 a1 a2 a3->f0 a0 a1 a2 a3=some r->P)(k1:f1 x0=some r->P):P:=by
 generalize e0:x0=y0 at h
 induction y0 using Expr.casesOn with
 |Call z1 z2 z3 z4=>exact k0 _ _ _ _ e0 h
 |_=>subst e0;exact k1 h
theorem ab9{x0:List Keyword}{f0:Option α}{f1:Keyword->(List Keyword)->Option α}(h:(match x0 with|.nil=>f0|.cons a0 a1=>f1 a0 a1)=some r)(k0:x0=.nil->f0=some r->P)(k1:∀a0 a1,x0=.cons a0 a1->f1 a0 a1=some r->P):P:=by
 generalize e0:x0=y0 at h
 induction y0 using List.casesOn with
 |nil=>exact k0 e0 h
 |cons z1 z2=>exact k1 _ _ e0 h
theorem aaN{x0:Expr}{f0:Str->Pos->Option α}{f1:Expr->Option α}(h:(match x0 with|.Name a0 a1=>f0 a0 a1|a0=>f1 a0)=some r)(k0:∀a0 a1,x0=.Name a0 a1->f0 a0 a1=some r->P)(k1:f1 x0=some r->P):P:=by
 generalize e0:x0=y0 at h
 induction y0 using Expr.casesOn with
 |Name z1 z2=>exact k0 _ _ e0 h
 |_=>subst e0;exact k1 h
theorem abD{x0:Ob}{f0:Addr->Nat->(List (Nat×Nat))->Option α}{f1:Ob->Option α}(h:(match x0 with|.tab a0 a1 a2=>f0 a0 a1 a2|a0=>f1 a0)=some r)(k0:∀a0 a1 a2,x0=.tab a0 a1 a2->f0 a0 a1 a2=some r->P)(k1:f1 x0=some r->P):P:=by
 generalize e0:x0=y0 at h
 induction y0 using Ob.casesOn with
 |tab z1 z2 z3=>exact k0 _ _ _ e0 h
 |_=>subst e0;exact k1 h
theorem acG{x0:Option (Addr×Str)}{f1:Addr->Str->Option α}(h:(match x0 with|.none=>none|.some (.mk a0 a1)=>f1 a0 a1)=some r)(k1:∀a0 a1,x0=.some (.mk a0 a1)->f1 a0 a1=some r->P):P:=by
 generalize e0:x0=y0 at h
 induction y0 with
 |none=>exact no h
 |some z1=>
  induction z1 with
  |mk z2 z3=>exact k1 _ _ e0 h
theorem acS{x0:Option Addr}{f1:Addr->Option α}(h:(match x0 with|.none=>none|.some a0=>f1 a0)=some r)(k1:∀a0,x0=.some a0->f1 a0=some r->P):P:=by
 generalize e0:x0=y0 at h
 induction y0 with
 |none=>exact no h
 |some z1=>exact k1 _ e0 h
theorem adU{x0:Option (Nat×List (Nat×Nat))}{f1:Nat->(List (Nat×Nat))->Option α}(h:(match x0 with|.none=>none|.some (.mk a0 a1)=>f1 a0 a1)=some r)(k1:∀a0 a1,x0=.some (.mk a0 a1)->f1 a0 a1=some r->P):P:=by
 generalize e0:x0=y0 at h
 induction y0 with
 |none=>exact no h
 |some z1=>
  induction z1 with
  |mk z2 z3=>exact k1 _ _ e0 h
theorem T1{x0:Option V}{f0:V->Option α}(h:(match x0 with|.some a0=>f0 a0|.none=>none)=some r)(k0:∀a0,x0=.some a0->f0 a0=some r->P):P:=by
 generalize e0:x0=y0 at h
 induction y0 with
 |some z1=>exact k0 _ e0 h
 |none=>exact no h
theorem Uk{x0:Option Ob}{f1:Ob->Option α}(h:(match x0 with|.none=>none|.some a0=>f1 a0)=some r)(k1:∀a0,x0=.some a0->f1 a0=some r->P):P:=by
 generalize e0:x0=y0 at h
 induction y0 with
 |none=>exact no h
 |some z1=>exact k1 _ e0 h
theorem abX{x0:List Bool}{f0:(List Bool)->Option α}{f1:(List Bool)->Option α}(h:(match x0 with|.cons .true a0=>f0 a0|a0=>f1 a0)=some r)(k0:∀a0,x0=.cons .true a0->f0 a0=some r->P)(k1:f1 x0=some r->P):P:=by
 generalize e0:x0=y0 at h
 induction y0 using List.casesOn with
 |cons z1 z2=>
  induction z1 with
  |true=>exact k0 _ e0 h
  |_=>subst e0;exact k1 h
 |_=>subst e0;exact k1 h
theorem ad5{P:Prop}{x0:Option Nat}(h:(match x0 with|.none=>true|.some _=>false)=true)(k0:x0=.none->P):P:=by
 generalize e0:x0=y0 at h
 induction y0 with
 |none=>exact k0 e0
 |some z1=>exact nf h
theorem TY{x0:aM V}{f1:(Rs V)->Option α}(h:(match x0 with|.none=>none|.some a0=>f1 a0)=some r)(k1:∀a0,x0=.some a0->f1 a0=some r->P):P:=by
 generalize e0:x0=y0 at h
 induction y0 with
 |none=>exact no h
 |some z1=>exact k1 _ e0 h
theorem YB{x0:Rs V}{f0:V->(List Ob)->Option α}{f1:Ex->(List Ob)->Option α}(h:(match x0 with|.ok a0 a1=>f0 a0 a1|.exc a0 a1=>f1 a0 a1)=some r)(k0:∀a0 a1,x0=.ok a0 a1->f0 a0 a1=some r->P)(k1:∀a0 a1,x0=.exc a0 a1->f1 a0 a1=some r->P):P:=by
 generalize e0:x0=y0 at h
 induction y0 with
 |ok z1 z2=>exact k0 _ _ e0 h
 |exc z3 z4=>exact k1 _ _ e0 h
theorem abJ{x0:Option V}{f1:V->Option α}(h:(match x0 with|.none=>none|.some a0=>f1 a0)=some r)(k1:∀a0,x0=.some a0->f1 a0=some r->P):P:=by
 generalize e0:x0=y0 at h
 induction y0 with
 |none=>exact no h
 |some z1=>exact k1 _ e0 h
theorem OZ{x0:Option (List Ob)}{f1:(List Ob)->Option α}(h:(match x0 with|.none=>none|.some a0=>f1 a0)=some r)(k1:∀a0,x0=.some a0->f1 a0=some r->P):P:=by
 generalize e0:x0=y0 at h
 induction y0 with
 |none=>exact no h
 |some z1=>exact k1 _ e0 h
theorem RX{x0:Option NameKind}{f0:Option α}(h:(match x0 with|.some .globalImplicit=>f0|_=>none)=some r)(k0:x0=.some .globalImplicit->f0=some r->P):P:=by
 generalize e0:x0=y0 at h
 induction y0 with
 |some z1=>
  induction z1 with
  |globalImplicit=>exact k0 e0 h
  |_=>exact no h
 |_=>exact no h
theorem WL{x0:Option V}{f0:Addr->Option α}(h:(match x0 with|.some (.glob (.ref a0))=>f0 a0|_=>none)=some r)(k0:∀a0,x0=.some (.glob (.ref a0))->f0 a0=some r->P):P:=by
 generalize e0:x0=y0 at h
 induction y0 with
 |some z1=>
  induction z1 using V.casesOn with
  |glob z2=>
   induction z2 using Value.casesOn with
   |ref z3=>exact k0 _ e0 h
   |_=>exact no h
  |_=>exact no h
 |_=>exact no h
theorem WV{x0:Expr}{f0:Expr->(List Expr)->(List Keyword)->Pos->Option α}{f1:Expr->(List CmpOp)->(List Expr)->Pos->Option α}{f2:BoolOp->(List Expr)->Pos->Option α}{f3:Expr->Option α}(h:(match x0 with|.Call a0 a1 a2 a3=>f0 a0 a1 a2 a3|.Compare a0 a1 a2 a3=>f1 a0 a1 a2 a3|.BoolOp a0 a1 a2=>f2 a0 a1 a2|a0=>f3 a0)=some r)(k0:∀a0 a1 a2 a3,x0=.Call a0 a1 a2 a3->f0 a0 a1 a2 a3=some r->P)(k1:∀a0 a1 a2 a3,x0=.Compare a0 a1 a2 a3->f1 a0 a1 a2 a3=some r->P)(k2:∀a0 a1 a2,x0=.BoolOp a0 a1 a2->f2 a0 a1 a2=some r->P)(k3:f3 x0=some r->P):P:=by
 generalize e0:x0=y0 at h
 induction y0 using Expr.casesOn with
 |Call z1 z2 z3 z4=>exact k0 _ _ _ _ e0 h
 |Compare z5 z6 z7 z8=>exact k1 _ _ _ _ e0 h
 |BoolOp z9 YO z11=>exact k2 _ _ _ e0 h
 |_=>subst e0;exact k3 h
theorem Sf{x0:List Keyword}{f1:Option α}(h:(match x0 with|.cons _ _=>none|.nil=>f1)=some r)(k1:x0=.nil->f1=some r->P):P:=by
 generalize e0:x0=y0 at h
 induction y0 using List.casesOn with
 |cons z1 z2=>exact no h
 |nil=>exact k1 e0 h
theorem Wk{x0:V}{f0:Value->Option α}(h:(match x0 with|.glob a0=>f0 a0|_=>none)=some r)(k0:∀a0,x0=.glob a0->f0 a0=some r->P):P:=by
 generalize e0:x0=y0 at h
 induction y0 using V.casesOn with
 |glob z1=>exact k0 _ e0 h
 |_=>exact no h
theorem Mn{x0:Value}{f0:Addr->Option α}(h:(match x0 with|.ref a0=>f0 a0|_=>none)=some r)(k0:∀a0,x0=.ref a0->f0 a0=some r->P):P:=by
 generalize e0:x0=y0 at h
 induction y0 using Value.casesOn with
 |ref z1=>exact k0 _ e0 h
 |_=>exact no h
theorem Mf{x0:Option nZ}{f1:nZ->Option α}(h:(match x0 with|.none=>none|.some a0=>f1 a0)=some r)(k1:∀a0,x0=.some a0->f1 a0=some r->P):P:=by
 generalize e0:x0=y0 at h
 induction y0 with
 |none=>exact no h
 |some z1=>exact k1 _ e0 h
theorem JJ{x0:List CmpOp}{f0:CmpOp->Option α}(h:(match x0 with|.cons a0 .nil=>f0 a0|_=>none)=some r)(k0:∀a0,x0=.cons a0 .nil->f0 a0=some r->P):P:=by
 generalize e0:x0=y0 at h
 induction y0 using List.casesOn with
 |cons z1 z2=>
  induction z2 using List.casesOn with
  |nil=>exact k0 _ e0 h
  |_=>exact no h
 |_=>exact no h
theorem MF{x0:List Expr}{f0:Expr->Option α}(h:(match x0 with|.cons a0 .nil=>f0 a0|_=>none)=some r)(k0:∀a0,x0=.cons a0 .nil->f0 a0=some r->P):P:=by
 generalize e0:x0=y0 at h
 induction y0 using List.casesOn with
 |cons z1 z2=>
  induction z2 using List.casesOn with
  |nil=>exact k0 _ e0 h
  |_=>exact no h
 |_=>exact no h
theorem Xa{x0:CmpOp}{f0:Option α}{f1:Option α}(h:(match x0 with|.Eq=>f0|.NotEq=>f1|_=>none)=some r)(k0:x0=.Eq->f0=some r->P)(k1:x0=.NotEq->f1=some r->P):P:=by
 generalize e0:x0=y0 at h
 induction y0 with
 |Eq=>exact k0 e0 h
 |NotEq=>exact k1 e0 h
 |_=>exact no h
theorem TU{x0:BoolOp}{f0:Option α}{f1:Option α}(h:(match x0 with|.Or=>f0|.And=>f1)=some r)(k0:x0=.Or->f0=some r->P)(k1:x0=.And->f1=some r->P):P:=by
 generalize e0:x0=y0 at h
 induction y0 with
 |Or=>exact k0 e0 h
 |And=>exact k1 e0 h
theorem TA{x0:List Expr}{f0:Expr->Expr->Option α}(h:(match x0 with|.cons a0 (.cons a1 .nil)=>f0 a0 a1|_=>none)=some r)(k0:∀a0 a1,x0=.cons a0 (.cons a1 .nil)->f0 a0 a1=some r->P):P:=by
 generalize e0:x0=y0 at h
 induction y0 using List.casesOn with
 |cons z1 z2=>
  induction z2 using List.casesOn with
  |cons z3 z4=>
   induction z4 using List.casesOn with
   |nil=>exact k0 _ _ e0 h
   |_=>exact no h
  |_=>exact no h
 |_=>exact no h
theorem Xm{x0:Option Bool}{f0:Option α}(h:(match x0 with|.some .true=>f0|_=>none)=some r)(k0:x0=.some .true->f0=some r->P):P:=by
 generalize e0:x0=y0 at h
 induction y0 with
 |some z1=>
  induction z1 with
  |true=>exact k0 e0 h
  |_=>exact no h
 |_=>exact no h
theorem R4{x0:Expr}{f0:UnaryOp->Expr->Pos->Option α}{f1:BoolOp->(List Expr)->Pos->Option α}{f2:Expr->(List CmpOp)->(List Expr)->Pos->Option α}{f3:Expr->Option α}(h:(match x0 with|.UnaryOp a0 a1 a2=>f0 a0 a1 a2|.BoolOp a0 a1 a2=>f1 a0 a1 a2|.Compare a0 a1 a2 a3=>f2 a0 a1 a2 a3|a0=>f3 a0)=some r)(k0:∀a0 a1 a2,x0=.UnaryOp a0 a1 a2->f0 a0 a1 a2=some r->P)(k1:∀a0 a1 a2,x0=.BoolOp a0 a1 a2->f1 a0 a1 a2=some r->P)(k2:∀a0 a1 a2 a3,x0=.Compare a0 a1 a2 a3->f2 a0 a1 a2 a3=some r->P)(k3:f3 x0=some r->P):P:=by
 generalize e0:x0=y0 at h
 induction y0 using Expr.casesOn with
 |UnaryOp z1 z2 z3=>exact k0 _ _ _ e0 h
 |BoolOp z4 z5 z6=>exact k1 _ _ _ e0 h
 |Compare z7 z8 z9 YO=>exact k2 _ _ _ _ e0 h
 |_=>subst e0;exact k3 h
theorem RG{x0:UnaryOp}{f0:Option α}(h:(match x0 with|.Not=>f0|_=>none)=some r)(k0:x0=.Not->f0=some r->P):P:=by
 generalize e0:x0=y0 at h
 induction y0 with
 |Not=>exact k0 e0 h
 |_=>exact no h
theorem XW{x0:BoolOp}{f0:Option α}(h:(match x0 with|.Or=>f0|.And=>none)=some r)(k0:x0=.Or->f0=some r->P):P:=by
 generalize e0:x0=y0 at h
 induction y0 with
 |Or=>exact k0 e0 h
 |And=>exact no h
theorem Yj{x0:List Expr}{f0:Option α}{f1:Expr->(List Expr)->Option α}(h:(match x0 with|.nil=>f0|.cons a0 a1=>f1 a0 a1)=some r)(k0:x0=.nil->f0=some r->P)(k1:∀a0 a1,x0=.cons a0 a1->f1 a0 a1=some r->P):P:=by
 generalize e0:x0=y0 at h
 induction y0 using List.casesOn with
 |nil=>exact k0 e0 h
 |cons z1 z2=>exact k1 _ _ e0 h
theorem Yy{x0:CmpOp}{f0:Option α}(h:(match x0 with|.NotEq=>f0|_=>none)=some r)(k0:x0=.NotEq->f0=some r->P):P:=by
 generalize e0:x0=y0 at h
 induction y0 with
 |NotEq=>exact k0 e0 h
 |_=>exact no h
theorem Vx{x0:Option Bool}{f0:Bool->Option α}(h:(match x0 with|.some a0=>f0 a0|.none=>none)=some r)(k0:∀a0,x0=.some a0->f0 a0=some r->P):P:=by
 generalize e0:x0=y0 at h
 induction y0 with
 |some z1=>exact k0 _ e0 h
 |none=>exact no h
theorem TF{x0:Stmt}{f0:Expr->Pos->Option α}{f1:(List Stmt)->(List ExceptHandler)->(List Stmt)->(List Stmt)->Pos->Option α}{f2:Expr->(List Stmt)->(List Stmt)->Pos->Option α}{f3:(List Expr)->Expr->Pos->Option α}{f4:Stmt->Option α}(h:(match x0 with|.Return (.some a0) a1=>f0 a0 a1|.Try a0 a1 a2 a3 a4=>f1 a0 a1 a2 a3 a4|.If a0 a1 a2 a3=>f2 a0 a1 a2 a3|.Assign a0 a1 a2=>f3 a0 a1 a2|a0=>f4 a0)=some r)(k0:∀a0 a1,x0=.Return (.some a0) a1->f0 a0 a1=some r->P)(k1:∀a0 a1 a2 a3 a4,x0=.Try a0 a1 a2 a3 a4->f1 a0 a1 a2 a3 a4=some r->P)(k2:∀a0 a1 a2 a3,x0=.If a0 a1 a2 a3->f2 a0 a1 a2 a3=some r->P)(k3:∀a0 a1 a2,x0=.Assign a0 a1 a2->f3 a0 a1 a2=some r->P)(k4:f4 x0=some r->P):P:=by
 generalize e0:x0=y0 at h
 induction y0 using Stmt.casesOn with
 |Return z1 z2=>
  induction z1 with
  |some z3=>exact k0 _ _ e0 h
  |_=>subst e0;exact k4 h
 |Try z4 z5 z6 z7 z8=>exact k1 _ _ _ _ _ e0 h
 |If z9 YO z11 z12=>exact k2 _ _ _ _ e0 h
 |Assign z13 z14 z15=>exact k3 _ _ _ e0 h
 |_=>subst e0;exact k4 h
theorem Ro{x0:List Stmt}{f0:Expr->Pos->Option α}(h:(match x0 with|.cons (.Return (.some a0) a1) .nil=>f0 a0 a1|_=>none)=some r)(k0:∀a0 a1,x0=.cons (.Return (.some a0) a1) .nil->f0 a0 a1=some r->P):P:=by
 generalize e0:x0=y0 at h
 induction y0 using List.casesOn with
 |cons z1 z2=>
  induction z1 using Stmt.casesOn with
  |Return z3 z4=>
   induction z3 with
   |some z5=>
    induction z2 using List.casesOn with
    |nil=>exact k0 _ _ e0 h
    |_=>exact no h
   |_=>exact no h
  |_=>exact no h
 |_=>exact no h
theorem WN{x0:List ExceptHandler}{f1:ExceptHandler->(List ExceptHandler)->Option α}(h:(match x0 with|.nil=>none|.cons a0 a1=>f1 a0 a1)=some r)(k1:∀a0 a1,x0=.cons a0 a1->f1 a0 a1=some r->P):P:=by
 generalize e0:x0=y0 at h
 induction y0 using List.casesOn with
 |nil=>exact no h
 |cons z1 z2=>exact k1 _ _ e0 h
theorem Mi{x0:List Stmt}{f1:Option α}(h:(match x0 with|.cons _ _=>none|.nil=>f1)=some r)(k1:x0=.nil->f1=some r->P):P:=by
 generalize e0:x0=y0 at h
 induction y0 using List.casesOn with
 |cons z1 z2=>exact no h
 |nil=>exact k1 e0 h
theorem WH{x0:Option Str}{f1:Str->Option α}(h:(match x0 with|.none=>none|.some a0=>f1 a0)=some r)(k1:∀a0,x0=.some a0->f1 a0=some r->P):P:=by
 generalize e0:x0=y0 at h
 induction y0 with
 |none=>exact no h
 |some z1=>exact k1 _ e0 h
theorem V7{x0:Option V}{f0:Int->Option α}(h:(match x0 with|.some (.int a0)=>f0 a0|_=>none)=some r)(k0:∀a0,x0=.some (.int a0)->f0 a0=some r->P):P:=by
 generalize e0:x0=y0 at h
 induction y0 with
 |some z1=>
  induction z1 using V.casesOn with
  |int z2=>exact k0 _ e0 h
  |_=>exact no h
 |_=>exact no h
theorem UO{x0:List Stmt}{f0:Stmt->(List Stmt)->Option α}{f1:Option α}(h:(match x0 with|.cons a0 a1=>f0 a0 a1|.nil=>f1)=some r)(k0:∀a0 a1,x0=.cons a0 a1->f0 a0 a1=some r->P)(k1:x0=.nil->f1=some r->P):P:=by
 generalize e0:x0=y0 at h
 induction y0 using List.casesOn with
 |cons z1 z2=>exact k0 _ _ e0 h
 |nil=>exact k1 e0 h
theorem RU{x0:List Expr}{f0:Str->Pos->Option α}(h:(match x0 with|.cons (.Name a0 a1) .nil=>f0 a0 a1|_=>none)=some r)(k0:∀a0 a1,x0=.cons (.Name a0 a1) .nil->f0 a0 a1=some r->P):P:=by
 generalize e0:x0=y0 at h
 induction y0 using List.casesOn with
 |cons z1 z2=>
  induction z1 using Expr.casesOn with
  |Name z3 z4=>
   induction z2 using List.casesOn with
   |nil=>exact k0 _ _ e0 h
   |_=>exact no h
  |_=>exact no h
 |_=>exact no h
theorem Xd{x0:Option (ah×List Ob)}{f1:(ah×List Ob)->Option α}(h:(match x0 with|.none=>none|.some a0=>f1 a0)=some r)(k1:∀a0,x0=.some a0->f1 a0=some r->P):P:=by
 generalize e0:x0=y0 at h
 induction y0 with
 |none=>exact no h
 |some z1=>exact k1 _ e0 h
theorem Xz{x0:Option ah}{f1:ah->Option α}(h:(match x0 with|.none=>none|.some a0=>f1 a0)=some r)(k1:∀a0,x0=.some a0->f1 a0=some r->P):P:=by
 generalize e0:x0=y0 at h
 induction y0 with
 |none=>exact no h
 |some z1=>exact k1 _ e0 h
theorem MM{x0:V}{f0:Bool->Option α}(h:(match x0 with|.bool a0=>f0 a0|_=>none)=some r)(k0:∀a0,x0=.bool a0->f0 a0=some r->P):P:=by
 generalize e0:x0=y0 at h
 induction y0 using V.casesOn with
 |bool z1=>exact k0 _ e0 h
 |_=>exact no h
theorem Ys{P:Prop}{x0:Option Bool}{f0:Bool}(h:(match x0 with|.some .true=>f0|_=>false)=true)(k0:x0=.some .true->f0=true->P):P:=by
 generalize e0:x0=y0 at h
 induction y0 with
 |some z1=>
  induction z1 with
  |true=>exact k0 e0 h
  |_=>exact nf h
 |_=>exact nf h
theorem Kl{x0:List Stmt}{f0:Stmt->Stmt->(List Stmt)->Option α}(h:(match x0 with|.cons a0 (.cons a1 a2)=>f0 a0 a1 a2|_=>none)=some r)(k0:∀a0 a1 a2,x0=.cons a0 (.cons a1 a2)->f0 a0 a1 a2=some r->P):P:=by
 generalize e0:x0=y0 at h
 induction y0 using List.casesOn with
 |cons z1 z2=>
  induction z2 using List.casesOn with
  |cons z3 z4=>exact k0 _ _ _ e0 h
  |_=>exact no h
 |_=>exact no h
theorem ya{x0:aM fi}{f0:ah->(List Ob)->Option α}(h:(match x0 with|.some (.ok (.mk a0 .none) a1)=>f0 a0 a1|_=>none)=some r)(k0:∀a0 a1,x0=.some (.ok (.mk a0 .none) a1)->f0 a0 a1=some r->P):P:=by
 generalize e0:x0=y0 at h
 induction y0 with
 |some z1=>
  induction z1 with
  |ok z2 z3=>
   induction z2 with
   |mk z4 z5=>
    induction z5 with
    |none=>exact k0 _ _ e0 h
    |_=>exact no h
  |_=>exact no h
 |_=>exact no h
theorem Uj{x0:Option (Rs V)}{f1:(Rs V)->Option α}(h:(match x0 with|.none=>none|.some a0=>f1 a0)=some r)(k1:∀a0,x0=.some a0->f1 a0=some r->P):P:=by
 generalize e0:x0=y0 at h
 induction y0 with
 |none=>exact no h
 |some z1=>exact k1 _ e0 h
theorem LZ{x0:aM V}{f0:(Rs V)->Option α}{f1:Option α}(h:(match x0 with|.some a0=>f0 a0|.none=>f1)=some r)(k0:∀a0,x0=.some a0->f0 a0=some r->P)(k1:x0=.none->f1=some r->P):P:=by
 generalize e0:x0=y0 at h
 induction y0 with
 |some z1=>exact k0 _ e0 h
 |none=>exact k1 e0 h
theorem VJ{P:Prop}{x0:Option NameKind}(h:(match x0 with|.some .local=>true|.some .cell=>true|_=>false)=true)(k0:x0=.some .local->P)(k1:x0=.some .cell->P):P:=by
 generalize e0:x0=y0 at h
 induction y0 with
 |some z1=>
  induction z1 with
  |«local»=>exact k0 e0
  |cell=>exact k1 e0
  |_=>exact nf h
 |_=>exact nf h
theorem Wy{P:Prop}{x0:Option NameKind}(h:(match x0 with|.some .cell=>true|_=>false)=true)(k0:x0=.some .cell->P):P:=by
 generalize e0:x0=y0 at h
 induction y0 with
 |some z1=>
  induction z1 with
  |cell=>exact k0 e0
  |_=>exact nf h
 |_=>exact nf h
end
section
variable{α β γ δ:Type}
structure Rd(α β:Type)where
 f:α->Option β
 g:β->α
 ok:∀a b,f a=some b->a=g b
noncomputable def pair(x:Option α)(y:Option β):Option (α×β):=match x with
 |none=>none
 |some a=>match y with
  |none=>none
  |some b=>some (a,b)
theorem Cx{x:Option α}{y:Option β}{z:α×β}(h:pair x y=some z):x=some z.1/\y=some z.2:=by
 induction x with
 |none=>exact no h
 |some a=>
  induction y with
  |none=>exact no h
  |some b=>obtain rfl:=ai h;exact⟨rfl,rfl⟩
noncomputable def sE(R:Rd α β):Rd (Option α) β:=⟨fun|none=>none|some a=>R.f a,λx=>some (R.g x),λa b h=>by
 induction a with
 |none=>exact no h
 |some v=>rw[R.ok v _ h]⟩
noncomputable def Tu(R:Rd α β):Rd (List α) β:=⟨fun|[v]=>R.f v|_=>none,λx=>[R.g x],λa b h=>by
 induction a using List.casesOn with
 |nil=>exact no h
 |cons v vs=>
  induction vs using List.casesOn with
  |nil=>rw[R.ok v _ h]
  |cons _ _=>exact no h⟩
noncomputable def Ry(R:Rd α β)(S:Rd α γ):Rd (List α) (β×γ):=⟨fun|[v,w]=>pair (R.f v) (S.f w)|_=>none,λx=>[R.g x.1,S.g x.2],λa b h=>by
 induction a using List.casesOn with
 |nil=>exact no h
 |cons v vs=>
  induction vs using List.casesOn with
  |nil=>exact no h
  |cons w ws=>
   induction ws using List.casesOn with
   |nil=>rw[R.ok v _ (Cx h).1,S.ok w _ (Cx h).2]
   |cons _ _=>exact no h⟩
noncomputable def te:Rd Expr (Str×Pos):=⟨fun|.Name x p=>some (x,p)|_=>none,λx=>.Name x.1 x.2,λa b h=>by(first|exact no a|exact nf a|subst a|obtain rfl:=ai a|induction a using Expr.casesOn)<;>first|exact no h|(obtain rfl:=ai h;rfl)⟩
set_option tactic.hygienic true in
noncomputable def Vm:Rd Expr (Str×Nat×Pos):=⟨fun|.Constant c k p=>(match c with|.str x=>some (x,k,p)|_=>none)|_=>none,λx=>.Constant (.str x.1) x.2.1 x.2.2,λa b h=>by
 induction a using Expr.casesOn<;>first|exact no h|skip
 rename_i c k p
 (first|exact no c|exact nf c|subst c|obtain rfl:=ai c|induction c using Const.casesOn)<;>first|exact no h|(obtain rfl:=ai h;rfl)⟩
noncomputable def with2(x:Option α)(b:β)(c:γ):Option (α×β×γ):=match x with
 |none=>none
 |some a=>some (a,b,c)
theorem j2{x:Option α}{b:β}{c:γ}{z:α×β×γ}(h:with2 x b c=some z):x=some z.1/\b=z.2.1/\c=z.2.2:=by
 induction x with
 |none=>exact no h
 |some a=>obtain rfl:=ai h;exact⟨rfl,rfl,rfl⟩
noncomputable def with1(x:Option α)(b:β):Option (α×β):=match x with
 |none=>none
 |some a=>some (a,b)
theorem xS{x:Option α}{b:β}{z:α×β}(h:with1 x b=some z):x=some z.1/\b=z.2:=by
 induction x with
 |none=>exact no h
 |some a=>obtain rfl:=ai h;exact⟨rfl,rfl⟩
set_option tactic.hygienic true in
noncomputable def Og(R:Rd Expr β):Rd Expr (β×Str×Pos):=⟨fun|.Attribute e x p=>with2 (R.f e) x p|_=>none,λx=>.Attribute (R.g x.1) x.2.1 x.2.2,λa b h=>by
 induction a using Expr.casesOn<;>first|exact no h|skip
 rename_i e x p
 rw[R.ok e _ (j2 h).1,(j2 h).2.1,(j2 h).2.2]⟩
set_option tactic.hygienic true in
noncomputable def EY(R:Rd (List Expr) β):Rd Expr (β×Nat×Pos):=⟨fun|.Tuple e x p=>with2 (R.f e) x p|_=>none,λx=>.Tuple (R.g x.1) x.2.1 x.2.2,λa b h=>by
 induction a using Expr.casesOn<;>first|exact no h|skip
 rename_i e x p
 rw[R.ok e _ (j2 h).1,(j2 h).2.1,(j2 h).2.2]⟩
set_option tactic.hygienic true in
noncomputable def Uz(R:Rd (Option Expr) β):Rd Stmt (β×Pos):=⟨fun|.Return e p=>with1 (R.f e) p|_=>none,λx=>.Return (R.g x.1) x.2,λa b h=>by
 induction a using Stmt.casesOn<;>first|exact no h|skip
 rename_i e p
 rw[R.ok e _ (xS h).1,(xS h).2]⟩
end
section
variable{G:Gc}{c:Fc}{h h':Heap}{m m':Str->Option Value}{ν:List Addr}{Mu:List Obj}{I:Led}{H:List Ob}
theorem fy{h₀ h:Heap}{L:Addr}{l l':Led}(N:News h₀ L h l)(hs:∀p∈l',p∈l):News h₀ L h l':=λp hp=>N p (hs p hp)
theorem ag.ind{K:Frag}{ν:List Addr}{I:Led}{P:List Value->List V->Prop}(n:P [] [])(c:∀{x v xs vs},Rep K ν I x v->ag K ν I xs vs->P xs vs->P (x::xs) (v::vs)){us:List Value}{vs:List V}(r:ag K ν I us vs):P us vs:=
 ag.rec (motive_1:=λζ ζ ζ=>True) (motive_2:=λus vs ζ=>P us vs) trivial (λζ=>trivial) (λζ ζ=>trivial) (λζ ζ=>trivial) (λζ ζ ζ=>trivial) (λζ=>trivial) (λζ=>trivial) (λζ ζ ζ ζ=>trivial) (λζ ζ ζ ζ ζ=>trivial) (λζ ζ ζ=>trivial) (λζ ζ ζ ζ=>trivial) n (λr rs ζ ih=>c r rs ih) r
theorem Rep.length{K:Frag}{ν:List Addr}{I:Led}{xs:List Value}{vs:List V}(r:ag K ν I xs vs):xs.length=vs.length:=ag.ind (P:=λxs vs=>xs.length=vs.length) rfl (λζ ζ ih=>congrArg (· +1) ih) r
theorem ag.cJ{K:Frag}{ν:List Addr}{I:Led}{xs:List Value}{vs:List V}{j:Nat}{v:V}(r:ag K ν I xs vs):cJ vs j=some v->∃u,xs[j]?=some u/\Rep K ν I u v:=
 ag.ind (P:=λxs vs=>∀j,Mine.cJ vs j=some v->∃u,xs[j]?=some u/\Rep K ν I u v) (λζ h=>no h) (λr ζ ih j=>Nat.casesOn j (λh=>⟨_,rfl,ai h▸r⟩) ih) r j
theorem ag.append{K:Frag}{ν:List Addr}{I:Led}{xs ys:List Value}{vs us:List V}(r:ag K ν I xs vs)(h:ag K ν I ys us):ag K ν I (xs++ys) (vs++us):=ag.ind (P:=λxs vs=>ag K ν I (xs++ys) (vs++us)) h (λr ζ ih=>.cons r ih) r
theorem ag.take{K:Frag}{ν:List Addr}{I:Led}{xs:List Value}{vs:List V}(n:Nat)(r:ag K ν I xs vs):ag K ν I (xs.take n) (vs.take n):=
 ag.ind (P:=λxs vs=>∀n,ag K ν I (xs.take n) (vs.take n)) (λn=>Nat.casesOn n .nil λζ=>.nil) (λr ζ ih n=>Nat.casesOn n .nil λn=>.cons r (ih n)) r n
theorem ag.drop{K:Frag}{ν:List Addr}{I:Led}{xs:List Value}{vs:List V}(n:Nat)(r:ag K ν I xs vs):ag K ν I (xs.drop n) (vs.drop n):=
 ag.ind (P:=λxs vs=>∀n,ag K ν I (xs.drop n) (vs.drop n)) (λn=>Nat.casesOn n .nil λζ=>.nil) (λr rs ih n=>Nat.casesOn n (.cons r rs) ih) r n
theorem dU{α β:Type}{l:List α}{r:List β}{i:Nat}{a:α}{b:β}(h1:l[i]?=some a)(h2:r[i]?=some b):(a,b)∈l.zip r:=List.mem_of_getElem? (List.getElem?_zip_eq_some.mpr ⟨h1,h2⟩)
theorem of_mem_zip{α β:Type}{l:List α}{r:List β}{p:α×β}(h:p∈l.zip r):p.1∈l:=(List.of_mem_zip (a:=p.1) (b:=p.2) h).1
theorem St.obj(S:St G c h m ν Mu I H){i:Nat}{a:Addr}{b:Ob}(cb:ν[i]?=some a)(hb:cJ H i=some b):
  ∃o,Mu[i]?=some o/\(a,o)∈ν.zip Mu++I/\h.get? a=some o/\az G ν I o b:=by
 have hl:i<Mu.length:=by rw[←S.len];exact(List.getElem?_eq_some_iff.mp cb).1
 have ho:Mu[i]?=some Mu[i]:=List.getElem?_eq_getElem hl
 have hm:(a,Mu[i])∈ν.zip Mu++I:=List.mem_append_left _ (dU cb ho)
 exact⟨_,ho,hm,(S.N _ hm).1,S.ob i _ _ ho (by rw[←fb];exact hb)⟩
theorem St.ba{C:Prop}(S:St G c h m ν Mu I H){i:Nat}{a:Addr}{b:Ob}(cb:ν[i]?=some a)(hb:cJ H i=some b)(k:∀o,Mu[i]?=some o->(a,o)∈ν.zip Mu++I->h.get? a=some o->az G ν I o b->C):C:=
 let ⟨o,h1,h2,h3,h4⟩:=S.obj cb hb;k o h1 h2 h3 h4
theorem St.fG{C:Prop}(S:St G c h m ν Mu I H){i:Nat}{a:Addr}{vs:List V}(cb:ν[i]?=some a)(hb:cJ H i=some (.list vs))(k:∀xs n,Mu[i]?=some (bI xs n)->h.get? a=some (bI xs n)->ag G.K ν I xs vs->C):C:=
 let ⟨o,h1,_,h3,h4⟩:=S.obj cb hb
 let ⟨xs,n,e,rs⟩:=h4.ju
 k xs n (e▸h1) (e▸h3) rs
theorem St.im(S:St G c h m ν Mu I H)(X:G.K.In c.h₀){a:Addr}{o:Obj}(hi:Im G.K I a o):h.get? a=some o:=by
 rcases hi with hi|hi
 ·exact(S.N _ (List.mem_append_right _ hi)).1
 ·exact S.F.keep _ _ (X _ _ hi)
theorem St.has(S:St G c h m ν Mu I H)(hb:cJ H i=some b):∃a,ν[i]?=some a:=by
 rw[fb] at hb
 have:i<ν.length:=by rw[S.aT];exact(List.getElem?_eq_some_iff.mp hb).1
 exact⟨_,List.getElem?_eq_getElem this⟩
theorem St.frame(S:St G c h m ν Mu I H)(F':Fr c.h₀ c.L h' m')(N':News c.h₀ c.L h' (ν.zip Mu++I)):St G c h' m' ν Mu I H:=
 ⟨F',N',S.nd,S.eP,S.len,S.aT,S.ob,S.big,S.low⟩
theorem St.nP{x:Addr}{o:Obj}(S:St G c h m ν Mu I H)(F':Fr c.h₀ c.L h' m')(N':News c.h₀ c.L h' ((x,o)::(ν.zip Mu++I)))(hx:x∉ν):
  St G c h' m' ν Mu ((x,o)::I) H/\Ext ν ν I ((x,o)::I):=by
 have e:Ext ν ν I ((x,o)::I):=⟨List.prefix_rfl,λp hp=>.tail _ hp,λi a hi ha=>by rw[List.getElem?_eq_none hi] at ha;exact no ha⟩
 refine⟨⟨F',fy N' λp hp=>?_,S.nd,λp hp i b hi hb=>?_,S.len,S.aT,λi o b q1 q2=>(S.ob i o b q1 q2).mono e,S.big,S.low⟩,e⟩
 ·rcases List.mem_append.mp hp with hp|hp
  ·exact .tail _ (List.mem_append_left _ hp)
  ·rcases List.mem_cons.mp hp with rfl|hp
   ·exact .head _
   ·exact .tail _ (List.mem_append_right _ hp)
 ·rcases List.mem_cons.mp hp with rfl|hp
  ·exact absurd (List.mem_of_getElem? hi) hx
  ·exact S.eP p hp i b hi hb
theorem St.fresh(S:St G c h m ν Mu I H):h.objs.size∉ν/\(∀p∈I,p.1≠h.objs.size)/\sysModules<h.objs.size:=by
 have key:∀p∈ν.zip Mu++I,p.1≠h.objs.size:=λp hp=>Nat.ne_of_lt (Heap.lt_size (S.N p hp).1)
 refine⟨λhm=>?_,λp hp=>key p (List.mem_append_right _ hp),Nat.lt_trans (Nat.lt_of_lt_of_le S.big S.F.above) S.F.ns.lt⟩
 obtain⟨i,hi,e⟩:=List.getElem_of_mem hm
 have h1:ν[i]?=some h.objs.size:=by rw[List.getElem?_eq_getElem hi,e]
 have h2:Mu[i]?=some (Mu[i]'(S.len▸hi)):=List.getElem?_eq_getElem (S.len▸hi)
 exact key _ (List.mem_append_left _ (dU h1 h2)) rfl
theorem St.new{x:Addr}{o:Obj}{b:Ob}(S:St G c h m ν Mu I H)(F':Fr c.h₀ c.L h' m')(N':News c.h₀ c.L h' ((x,o)::(ν.zip Mu++I)))(hx:x∉ν/\(∀p∈I,p.1≠x)/\sysModules<x)
  (r:az G (ν++[x]) I o b):St G c h' m' (ν++[x]) (Mu++[o]) I (H++[b])/\Ext ν (ν++[x]) I I:=by
 refine cZ hx ?_;clear hx;intro hx hI ad8
 have e:Ext ν (ν++[x]) I I:=Ext.one hI
 refine⟨⟨F',fy N' λp hp=>?_,?_,λp hp i b hi hb=>?_,by simp[S.len],by simp[S.aT],λi o' b' q1 q2=>?_,S.big,λa ha=>?_⟩,e⟩
 ·rw[List.zip_append S.len] at hp
  rcases List.mem_append.mp hp with hp|hp
  ·rcases List.mem_append.mp hp with hp|hp
   ·exact .tail _ (List.mem_append_left _ hp)
   ·simp at hp;subst hp;exact .head _
  ·exact .tail _ (List.mem_append_right _ hp)
 ·rw[List.nodup_append]
  refine⟨S.nd,by simp,λa ha b hb=>?_⟩
  simp at hb
  subst hb
  rintro rfl
  exact hx ha
 ·by_cases hl:i<ν.length
  ·rw[List.getElem?_append_left hl] at hi
   rw[List.getElem?_append_left (by rw[←S.aT];exact hl)] at hb
   exact S.eP p hp i b hi hb
  ·rw[List.getElem?_append_right (by exact O9 ‹_›)] at hi
   have:p.1∈[x]:=List.mem_of_getElem? hi
   simp at this
   exact absurd this (hI p hp)
 ·rcases Nat.lt_trichotomy i Mu.length with hi|hi|hi
  ·rw[List.getElem?_append_left hi] at q1
   rw[List.getElem?_append_left (by rw[←S.aT,S.len];exact hi)] at q2
   exact(S.ob i _ _ q1 q2).mono e
  ·subst hi
   simp at q1
   rw[show Mu.length=H.length from by rw[←S.len,S.aT]] at q2
   simp at q2
   subst q1;subst q2
   exact r
  ·rw[List.getElem?_eq_none (by simp;assumption)] at q1
   exact no q1
 ·rcases List.mem_append.mp ha with ha|ha
  ·exact S.low a ha
  ·simp at ha
   subst ha
   exact ad8
theorem Fw{I:Led}{a:Addr}{o o':Obj}(hI:∀p∈I,p.1≠a){ν:List Addr}{Mu:List Obj}{i:Nat}(nd:ν.Nodup)(h1:ν[i]?=some a)(h2:Mu[i]?=some o)(hl:ν.length=Mu.length):
  Upd a o o' (ν.zip Mu++I) (ν.zip (Mu.set i o')++I):=by
 induction ν generalizing Mu i with
 |nil=>exact no h1
 |cons x ν ih=>
  induction Mu using List.casesOn with
  |nil=>exact no h2
  |cons y Mu=>
   induction i using Nat.casesOn with
   |zero=>
    rw[show x=a from(ai h1).symm] at nd ⊢
    rw[show y=o from(ai h2).symm]
    refine .head λp hp=>?_
    rcases List.mem_append.mp hp with hp|hp
    ·exact λe=>(List.nodup_cons.mp nd).1 ((show p.1=a from e)▸of_mem_zip hp)
    ·exact hI p hp
   |succ i=>exact .tail (λe=>(List.nodup_cons.mp nd).1 ((show a=x from Eq.symm e)▸List.mem_of_getElem? h1)) (ih (List.nodup_cons.mp nd).2 h1 h2 (Nat.succ.inj hl))
theorem St.apart{i:Nat}{a:Addr}{b:Ob}(S:St G c h m ν Mu I H)(cb:ν[i]?=some a)(hx:cJ H i=some b)(hb:b.fixed=false):∀p∈I,p.1≠a:=λp hp e=>by
 have q:=S.eP p hp i b (e▸cb) (by rw[←fb,hx])
 rw[hb] at q
 exact nf q
theorem St.upd{i:Nat}{a:Addr}{o:Obj}(S:St G c h m ν Mu I H)(cb:ν[i]?=some a)(ho:Mu[i]?=some o)(ap:∀p∈I,p.1≠a)(o':Obj):Upd a o o' (ν.zip Mu++I) (ν.zip (Mu.set i o')++I):=
 Fw ap S.nd cb ho S.len
theorem St.set{i:Nat}{a:Addr}{o':Obj}{b':Ob}(S:St G c h m ν Mu I H)(cb:ν[i]?=some a)(ap:∀p∈I,p.1≠a)(F':Fr c.h₀ c.L h' m')(N':News c.h₀ c.L h' (ν.zip (Mu.set i o')++I))
  (r:az G ν I o' b'):St G c h' m' ν (Mu.set i o') I (dq H i b'):=by
 rw[fw]
 refine⟨F',N',S.nd,λp hp j b hj hb=>?_,by simp[S.len],by simp[S.aT],λj o b q1 q2=>?_,S.big,S.low⟩
 ·have e:i≠j:=λe=>by subst e;rw[cb] at hj;obtain rfl:=ai hj;exact ap p hp rfl
  rw[List.getElem?_set_ne e] at hb
  exact S.eP p hp j b hj hb
 by_cases e:i=j
 ·subst e
  have h1:i<Mu.length:=by
   have:=(List.getElem?_eq_some_iff.mp q1).1
   simpa using this
  have h2:i<H.length:=by rw[←S.aT,S.len];exact h1
  rw[List.getElem?_set_self h1] at q1
  rw[List.getElem?_set_self h2] at q2
  (first|exact no q1|exact nf q1|subst q1|obtain rfl:=ai q1);obtain rfl:=ai q2
  exact r
 ·rw[List.getElem?_set_ne e] at q1 q2
  exact S.ob j o b q1 q2
theorem E4{l:List Nat}:okN l=true->∀x∈l,x<1114112:=by
 induction l with
 |nil=>exact λζ ζ h=>nomatch h
 |cons a l ih=>
  intro h
  refine adM h ?_;clear h;intro q h
  exact List.forall_mem_cons.mpr ⟨Nat.le_of_ble_eq_true q,ih h⟩
theorem Cd{x:Str}(h:okN x.cps.toList=true):PyData.strOk x=true:=by
 unfold PyData.strOk
 rw[←Array.all_toList]
 exact List.all_eq_true.mpr λa ha=>decide_eq_true (E4 h a ha)
theorem v5{H:List Ob}{N:Nat}{l:List V}{ds:List PyData}{s:Int}(e:qB H N l=some ds):dat H (N+5) (.tup [aY,.int s,.tup l])=some (.tuple [my [98,108,111,99,107],.int s,.tuple ds]):=by
 change Option.map PyData.tuple (Option.map (my [98,108,111,99,107]:: ·) (Option.map (PyData.int s:: ·) (match Option.map PyData.tuple (qB H N l) with|some d=>some [d]|none=>none)))=_
 rw[e]
 rfl
mutual
theorem yn(H:List Ob):∀(d:Nat) (r:Row) (s:Int) (m:Nat),cj d r=true->dat H (m+14*(d+1)) (fF s r)=some (.tuple (qx s r))
 |d,.bad,s,m,h=>by rw[Nat.mul_succ];rfl
 |d,.dZ,s,m,h=>by rw[Nat.mul_succ];rfl
 |d,.fT,s,m,h=>by rw[Nat.mul_succ];rfl
 |d,.blank,s,m,h=>by rw[Nat.mul_succ];rfl
 |d,.call,s,m,h=>by rw[Nat.mul_succ];rfl
 |0,.dg l,s,m,h=>by exact nf h
 |d+1,.dg l,s,m,h=>by
  refine aJ h λh1 h2=>?_
  have hl:=Nat.le_of_ble_eq_true h1
  have e:=ma H d l true s 0 (m+8-l.length) h2
  rw[show m+8-l.length+l.length+1+14*(d+1)=(m+9+14*(d+1)) from by exact om1 ‹_› (by decide)] at e
  rw[show m+14*(d+1+1)=(m+9+14*(d+1))+5 from by exact SN (by decide)]
  exact v5 e
theorem ma(H:List Ob):∀(d:Nat) (l:List Row) (f:Bool) (s k:Int) (m:Nat),bB d f l=true->qB H (m+l.length+1+14*(d+1)) (dG s k l)=some (gg s k l)
 |d,[],f,s,k,m,h=>by rw[Nat.mul_succ];rfl
 |d,r::l,f,s,k,m,h=>by
  refine aJ h λh1 h2=>?_
  refine aJ h1 λh3 h4=>?_
  unfold dG gg
  split
  ·have:=ma H d l _ s (k+1) (m+1) h2
   rw[show m+1+l.length+1+14*(d+1)=m+(r::l).length+1+14*(d+1) from by simp only[List.length_cons];exact Tt] at this
   exact this
  ·have e1:=yn H d r (10*s+k) (m+l.length+1) h4
   have e2:=ma H d l _ s (k+1) m h2
   rw[show m+(r::l).length+1+14*(d+1)=(m+l.length+1+14*(d+1))+1 from by simp only[List.length_cons];exact SI]
   simp only[qB,e1,e2]
   rfl
end
structure rG(h:Heap)(u:Value)(d:PyData)(n:Nat):Prop where
 rd:∃as,Reads h u d as
 lay:d.canLay0=true
 dep:d.depth<=n
structure wH(h:Heap)(us:List Value)(ds:List PyData)(n:Nat):Prop where
 rd:∃as,ReadsAll h us ds as
 lay:PyData.canLayAll0 ds=true
 dep:PyData.depthAll ds<=n
def x6(K:Frag)(ν:List Addr)(I:Led)(H:List Ob)(h:Heap)(n:Nat):Prop:=∀v d u,dat H n v=some d->Rep K ν I u v->rG h u d n
def sR(K:Frag)(ν:List Addr)(I:Led)(H:List Ob)(h:Heap)(n:Nat):Prop:=∀vs ds us,qB H n vs=some ds->ag K ν I us vs->wH h us ds n
theorem yx{u:Value}{d:PyData}{n:Nat}(x:rG h u d n):rG h u d (n+1):=⟨x.rd,x.lay,Nat.le_succ_of_le x.dep⟩
theorem Cm{α β:Type}{f:α->β}{x:Option α}{y:β}(e:x.map f=some y):∃a,x=some a/\y=f a:=by
 induction x with
 |none=>exact no e
 |some a=>exact⟨a,rfl,ai e⟩
noncomputable def onB{α:Type}(b:Bool)(x:α):Option α:=match b with
 |true=>some x
 |false=>none
theorem DI{α:Type}{b:Bool}{x y:α}(e:onB b x=some y):b=true/\y=x:=by
 induction b with
 |true=>exact⟨rfl,ai e⟩
 |false=>exact no e
theorem BM{as:List Addr}{ds:List PyData}{us:List Value}{n k:Nat}{a:Addr}(hi:h.get? a=some (dw us k))(x:wH h us ds n):rG h (.ref a) (.tuple ds) (n+1):=by
 obtain⟨⟨as,ra⟩,hc,hd⟩:=x
 exact⟨⟨as,reads_tuple_at hi rfl rfl (by simpa using ra)⟩,by rw[PyData.canLay0];exact hc,by rw[PyData.depth];exact Nat.succ_le_succ ‹_›⟩
theorem AR{ds:List PyData}{us:List Value}{n k:Nat}{a:Addr}(hi:h.get? a=some (bI us k))(x:wH h us ds n):rG h (.ref a) (.list ds) (n+1):=by
 obtain⟨⟨as,ra⟩,hc,hd⟩:=x
 exact⟨⟨_,reads_list_at hi rfl rfl (by simpa using ra)⟩,by rw[PyData.canLay0];exact hc,by rw[PyData.depth];exact Nat.succ_le_succ ‹_›⟩
theorem BK(S:St G c h m ν Mu I H)(X:G.K.In c.h₀){n:Nat}(h1:x6 G.K ν I H h n)(h2:sR G.K ν I H h n):x6 G.K ν I H h (n+1):=λv d u e r=>by
 cases r with
 |none=>obtain rfl:=ai (show some (PyData.none)=some d from e);exact⟨⟨_,.none⟩,by simp[PyData.canLay0],by simp[PyData.depth]⟩
 |bool b=>obtain rfl:=ai (show some (PyData.bool b)=some d from e);exact⟨⟨_,.bool b⟩,by simp[PyData.canLay0],by simp[PyData.depth]⟩
 |int i t=>obtain rfl:=ai (show some (PyData.int i)=some d from e);exact⟨⟨_,.int i t⟩,by simp[PyData.canLay0],by simp[PyData.depth]⟩
 |str x t=>
  refine ae (DI (show onB (okN x.cps.toList) (PyData.str x)=some d from e)) λq aU=>?_;subst aU
  exact⟨⟨_,.str x t⟩,by simp[PyData.canLay0,Cd q],by simp[PyData.depth]⟩
 | @tup _ us _ vs hi hs=>exact ab (Cm (show(qB H n vs).map .tuple=some d from e)) λds he e1=>e1▸BM (as:=[]) (S.im X hi) (h2 _ _ _ he hs)
 | @obj i a hi=>exact pf e λvs q e=>ab (Cm e) λds he e1=>S.fG hi q λζ ζ ζ ho rs=>e1▸AR ho (h2 _ _ _ he rs)
 |glob v=>exact no e
 |held=>exact no e
 |aL=>exact no e
 | @dN _ s r h hf=>
  refine ae (DI (show onB (Nat.ble 28 n) (PyData.tuple (qx s r))=some d from e)) λq aU=>?_;subst aU
  have q:=Nat.le_of_ble_eq_true q
  have e':=yn H 1 r s (n-28) hf
  rw[show n-28+14*(1+1)=n from Nat.sub_add_cancel q] at e'
  exact yx (h1 _ _ _ e' h)
 | @b9 _ s l h hf hl=>
  refine ae (DI (show onB (Nat.ble 33 n) (PyData.tuple (gg s 0 l))=some d from e)) λq aU=>?_;subst aU
  have q:=Nat.le_of_ble_eq_true q
  induction n using Nat.casesOn with
  |zero=>exact absurd q (by decide)
  |succ n=>
   have e':=ma H 1 l true s 0 (n-29-l.length) hf
   rw[show n-29-l.length+l.length+1+14*(1+1)=n from by exact Tp (Nat.le_of_succ_le_succ ‹_›) ‹_›] at e'
   have e'':dat H (n+1) (.tup (dG s 0 l))=some (.tuple (gg s 0 l)):=congrArg (Option.map PyData.tuple) e'
   exact yx (h1 _ _ _ e'' h)
theorem zG{n:Nat}(h1:x6 G.K ν I H h n)(h2:sR G.K ν I H h n):sR G.K ν I H h (n+1):=λvs ds us e r=>by
 cases r with
 |nil=>obtain rfl:=ai (show some ([]:List PyData)=some ds from e);exact⟨⟨_,.nil⟩,by simp[PyData.canLayAll0],by simp[PyData.depthAll]⟩
 | @cons _ v _ vs r rs=>
  change(match dat H n v with
   |some d=>(qB H n vs).map (d:: ·)
   |none=>none)=some ds at e
  cases q:dat H n v with
  |none=>rw[q] at e;exact no e
  |some d=>
   rw[q] at e
   refine ab (Cm e) λds he aU=>?_;subst aU
   obtain⟨⟨as,ra⟩,hc,hd⟩:=h1 _ _ _ q r
   obtain⟨⟨bs,rb⟩,Qy,js⟩:=h2 _ _ _ he rs
   exact⟨⟨_,.cons ra rb⟩,by rw[PyData.canLayAll0,hc,Qy];rfl,by rw[PyData.depthAll];exact ab' ‹_› ‹_›⟩
theorem hV(S:St G c h m ν Mu I H)(X:G.K.In c.h₀):∀(n:Nat),x6 G.K ν I H h n/\sR G.K ν I H h n
 |0=>⟨λζ ζ ζ e ζ=>no e,λζ ζ ζ e ζ=>no e⟩
 |n+1=>⟨BK S X (hV S X n).1 (hV S X n).2,zG (hV S X n).1 (hV S X n).2⟩
theorem f9(S:St G c h m ν Mu I H)(X:G.K.In c.h₀)(n:Nat)(v:V)(d:PyData)(u:Value)(e:dat H n v=some d)(r:Rep G.K ν I u v):rG h u d n:=(hV S X n).1 v d u e r
theorem HT(i j:Int):(i==j)=Z.eqB i j:=by
 cases q:Z.eqB i j with
 |true=>simp[(Z.eqB_iff i j).mp q]
 |false=>
  have:i≠j:=λe=>by rw[(Z.eqB_iff i j).mpr e] at q;cases q
  simp[this]
theorem iQ(x y:Str):(x==y)=du x y:=by
 cases q:du x y with
 |true=>simp[aH.mp q]
 |false=>
  have:x≠y:=λe=>by rw[aH.mpr e] at q;cases q
  simp[this]
theorem Qp(x y:Bool):(x==y)=((x&&y)||(!x&&!y)):=by cases x<;>cases y<;>rfl
mutual
theorem lF:∀(n:Nat) (x y:PyData) (b:Bool),Bf n x y=some b->PyData.eqv x y=b
 |0,_,_,_,e=>no e
 |n+1,x,y,b,e=>by
  induction x using PyData.casesOn<;>induction y using PyData.casesOn<;>first
   |exact no e
   |exact ai e▸rfl
   |exact ai e▸HT _ _
   |exact ai e▸iQ _ _
   |exact uj n _ _ _ e
   |exact ai e▸Qp _ _
theorem uj:∀(n:Nat) (x y:List PyData) (b:Bool),Az n x y=some b->PyData.eqvAll x y=b
 |0,_,_,_,e=>no e
 |n+1,[],[],b,e=>ai e▸rfl
 |n+1,[],_::_,b,e=>ai e▸rfl
 |n+1,_::_,[],b,e=>ai e▸rfl
 |n+1,x::l,y::r,b,e=>by
  show(PyData.eqv x y&&PyData.eqvAll l r)=b
  refine S9 (x0:=Bf n x y) e ?_ ?_
  ·clear e;intro q e
   rw[lF n _ _ _ q,uj n _ _ _ e];rfl
  ·clear e;intro q e
   obtain rfl:=ai e
   rw[lF n _ _ _ q];rfl
end
theorem mO:∀(l:List PyData) (a:PyData) (b:Bool),xU a l=some b->(l.any λy=>PyData.eqv y a)=b
 |[],_,_,e=>ai e▸rfl
 |y::l,a,b,e=>by
  rw[List.any_cons]
  refine S9 (x0:=Bf 60 y a) e ?_ ?_
  ·clear e;intro q e
   obtain rfl:=ai e
   rw[lF _ _ _ _ q];rfl
  ·clear e;intro q e
   rw[lF _ _ _ _ q,mO l a b e];rfl
end
section
variable{G:Gc}{c:Fc}{s:Shared}{h h':Heap}{m m':Str->Option Value}{ν:List Addr}{Mu:List Obj}{I:Led}{ρ:ah}{H H':List Ob}{n:Nat}{sc:Sc}
theorem cg{α:Type}(x:Str):∀l:List (Str×α),bT x l=l.lookup x:=by
 intro l_
 induction l_ with
 |nil=>
  exact rfl
 |cons p_ l ih=>
  obtain⟨y,v⟩:=p_
  rw[bU,List.lookup_cons,ih]
  have e:(x==y)=du y x:=by
   rw[←iQ,Bool.eq_iff_iff,beq_iff_eq,beq_iff_eq]
   exact eq_comm
  rw[e]
  cases du y x<;>rfl
structure Ad(K:Frag)(a:Addr)(f:nZ):Prop where
 ex:∃oc od osl name qual params dV kV doc pm jt ct an,K.lookup a=some ⟨oc,od,.func (fnX name qual params f.body f.scope [] dV kV doc pm an jt ct),osl⟩/\codeIn K jt qual=true/\jt=.ref f.code/\qual=f.qual/\
  (∀(s:Shared) (vs:List Value) (us:List V) (b:ah) (ν:List Addr) (I:Led),K.In s.heap->ag K ν I vs us->eU f.me f.ps us=some b->
   ∃binds:List (Str×Value),BindsTo s (fnX name qual params f.body f.scope [] dV kV doc pm an jt ct) ⟨vs,[]⟩ binds/\binds.map (·.1)=b.map (·.1)/\ag K ν I (binds.map (·.2)) (b.map (·.2)))
 loc:∀x∈f.ps,f.scope.names.lookup x=some .local∨f.scope.names.lookup x=some .cell
 nd:f.ps.Nodup
 cnd:(ax f.scope.names []).Nodup
 cl:∀x∈ax f.scope.names [],f.scope.names.lookup x=some .cell
 co:f.scope.isCoroutine=false
 gen:f.scope.isGenerator=false
 kind:f.scope.kind=.function
structure ko(G:Gc):Prop where
 glob:∀x v,bT x G.cf.glob=some v->∃u,(G.mg x=some u∨(G.mg x=none/\G.mb x=some u))/\∀ν I,Rep G.K ν I u v
 attr:∀C x,G.cf.r9 C x=true->plainGet G.K C x=true/\hasDictIn G.K C=true/\findIn G.K (.ref C) x=some none/\findIn G.K (.ref C) "__setattr__" =some (some (.builtin "object.__setattr__"))/\plainOver G.K C=true/\takerIn G.K C x=some none
 Jm:∀C x f,G.cf.method C x=some f->plainGet G.K C x=true/\findIn G.K (.ref C) x=some (some (.ref f))/\isFn G.K (.ref f)=true/\keepIn G.K (.ref f)=true
 D2:∀C f,jL C G.cf.init=some f->makesIn G.K C=true/\findIn G.K (.ref C) "__init__" =some (some (.ref f))/\isFn G.K (.ref f)=true/\keepIn G.K (.ref C)=true
 fn:∀a f,jL a G.cf.fn=some f->Ad G.K a f/\keepIn G.K (.ref a)=true
 gd:∀a l,jL a G.cf.gd=some l->∃o cX,G.K.lookup a=some o/\o.IsDictOf (PySem.strKind G.prog G.w) cX/\∀ν I,bh G.K ν I cX l
theorem AK(c:Fc)(x:Str){k:NameKind}(e:c.env.scope.names.lookup x=some k):c.env.kindOf x=some k:=e
theorem ke{x y:Str}(e:du x y=false):(x==y)=false:=by rw[iQ];exact e
theorem Bn{k:Const}{a:Nat}{pos:Pos}{v:V}(hv:ofConst k=some v):dA G n sc (.Constant k a pos) ρ H (.ok v H):=by
 rintro c s m ν Mu I ok au S l Q E post
 refine wpAny_eval_const (by induction k using Const.casesOn<;>first|rfl|exact no hv) λu tk hu=>?_
 refine post s.heap tk ν Mu I u (Ext.refl _ _) S ?_
 induction k using Const.casesOn<;>first|(exact no hv;done)|skip
 ·(first|exact no hv|exact nf hv|subst hv|obtain rfl:=ai hv);subst hu;exact .none
 ·(first|exact no hv|exact nf hv|subst hv|obtain rfl:=ai hv);subst hu;exact .bool _
 ·obtain rfl:=ai hv;obtain⟨t,rfl⟩:=hu;exact .int _ _
 ·obtain rfl:=ai hv;obtain⟨t,rfl⟩:=hu;exact .str _ _
theorem St.cell(S:St G c s.heap m ν Mu I H)(au:cM c sc ν){x:Str}{i:Nat}{v:V}(h1:bT x sc.cells=some i)(h2:cJ H i=some (.cell (some v))):
  ∃a u,c.env.cells.lookup x=some a/\s.heap.IsCell a (some u)/\Rep G.K ν I u v:=by
 refine ab (au.cells x i h1) λa ha cb=>?_
 refine S.ba cb h2 λo y1 y2 ho r=>?_
 refine ab r.DE λy1 hd r=>?_
 exact⟨a,_,ha,⟨o,ho,hd⟩,r⟩
theorem Jg(g:ko G){x:Str}{pos:Pos}{v:V}(hv:sc.get G.cf ρ H x=some v):dA G n sc (.Name x pos) ρ H (.ok v H):=by
 rintro c s m ν Mu I ok au S l Q E post
 have fin:∀u,Rep G.K ν I u v->Q u s:=λu r=>post s.heap s.toks ν Mu I u (Ext.refl _ _) S r
 refine n5 hv ?_;clear hv;intro MU hv
 have MU:=ke MU
 refine sp1 hv ?_;clear hv;intro k hk hv
 have hk:=(au.ns x).trans hk
 refine sp2 hv ?_ ?_ ?_ ?_
 ·clear hv;intro ay hv;subst ay
  refine ab (l.ns S) λm' hn kn=>?_
  refine ab (kn x v hv) λu hu r=>?_
  exact wpAny_Name (wpAny_loadName_local ok.ek hk hn hu (fin u r)) MU
 ·clear hv;intro ay hv;subst ay
  refine ab (g.glob x v hv) λu hu r=>?_
  refine Name_function_global ok.ek hk ?_ MU
  have B:=ok.X.keeps S.F.keep
  rcases hu with hu|⟨h1,h2⟩
  ·exact loadGlobal_global (ok.eg▸B.g) hu (fin u (r _ _))
  ·exact loadGlobal_builtin (ok.eg▸B.g) h1 (ok.eb▸B.b) h2 (fin u (r _ _))
 ·clear hv;intro ay hv;subst ay
  refine sp3 hv ?_;clear hv;intro i hi hv
  refine sp4 hv ?_;clear hv;intro v' hc hv
  obtain rfl:=ai hv
  refine bP (S.cell au hi hc) λa u h1 h2 r=>?_
  exact wpAny_Name (wpAny_loadName_cell ok.ek hk h1 h2 (fin u r)) MU
 ·clear hv;intro ay hv;subst ay
  refine n5 hv ?_;clear hv;intro mS hv
  refine sp3 hv ?_;clear hv;intro i hi hv
  refine sp4 hv ?_;clear hv;intro v' hc hv
  obtain rfl:=ai hv
  refine bP (S.cell au hi hc) λa u h1 h2 r=>?_
  exact wpAny_Name (wpAny_loadName_free ok.ek hk h1 h2 (fin u r) (ke mS)) MU
theorem bN{α:Type}{l:List α}(e:short l=true):l.length<=900:=Nat.le_of_ble_eq_true e
theorem su{k:Nat}(h:k<=2000):k<=sizeLine:=by rw[sizeLine_eq];omega
theorem mZ{c:Fc}{us:List Value}{vs:List V}(S:St G c s.heap m ν Mu I H)(rs:ag G.K ν I us vs)(hz:short vs=true):iS G c m ν Mu I s (newTuple us) (.ok (.tup vs) H):=by
 rintro Q E post
 refine newTuple_N S.F S.N (λh' F' N'=>?_) (by rw[Rep.length rs];exact su (Nat.le_trans (bN hz) (by decide)))
 refine ae (S.nP F' N' S.fresh.1) λS' e=>?_
 exact post h' s.toks _ _ _ _ e S' (.tup (n:=0) (.inl (.head _)) (rs.mono e))
theorem ou{c:Fc}{us:List Value}{vs:List V}(S:St G c s.heap m ν Mu I H)(rs:ag G.K ν I us vs)(hz:short vs=true):iS G c m ν Mu I s (newList us) (.ok (.obj H.length) (H++[.list vs])):=by
 rintro Q E post
 refine newList_N S.F S.N (λh' F' N'=>?_) (by rw[Rep.length rs];exact su (Nat.le_trans (bN hz) (by decide)))
 have r:az G (ν++[s.heap.objs.size]) I (bI us 0) (.list vs):=.list (rs.grow ⟨_,rfl⟩ λζ h=>h)
 refine ae (S.new F' N' S.fresh r) λS' e=>?_
 refine post h' s.toks _ _ _ _ e S' (.obj ?_)
 rw[←S.aT];simp
theorem xR:hU G n sc [] ρ H (.ok [] H):=by
 rintro c s m ν Mu I Q E pos ok au S l post
 exact spliced_nil (post s.heap s.toks ν Mu I [] (Ext.refl _ _) S .nil)
theorem fY{e:Expr}{es:List Expr}{env:Env}{pos:Pos}(hs:isStar e=false):backTo pos (starEach (e::es) env)=(false,eval e env)::backTo pos (starEach es env):=by
 (first|exact no e|exact nf e|subst e|obtain rfl:=ai e|induction e using Expr.casesOn)<;>first|rfl|exact no hs|exact nf hs|cases hs
theorem lP{e:Expr}{es:List Expr}{v:V}{r:Rs (List V)}{H₁:List Ob}(hs:isStar e=false)(h1:dA G n sc e ρ H (.ok v H₁))(h2:hU G n sc es ρ H₁ r):
  hU G n sc (e::es) ρ H (match r with|.ok vs H'=>.ok (v::vs) H'|.exc x H'=>.exc x H'):=by
 rintro c s m ν Mu I Q E pos ok au S l post
 rw[fY hs]
 refine spliced_cons (h1 c s m ν Mu I ok au S l _ _ λh' ak aa aw I' u x S' ru=>?_)
 refine h2 c _ m aa aw I' _ _ pos ok (au.mono x) S' (l.mono x) ?_
 induction r with
 |ok vs H'=>exact λbw bY aV cF dk us x' d7 rs=>post bw bY aV cF dk (u::us) (x.trans x') d7 (.cons (ru.mono x') rs)
 |exc y H'=>exact cu.mono x post
theorem FI{e:Expr}{es:List Expr}{y:Ex}{H₁:List Ob}(hs:isStar e=false)(h1:dA G n sc e ρ H (.exc y H₁)):hU G n sc (e::es) ρ H (.exc y H₁):=by
 rintro c s m ν Mu I Q E pos ok au S l post
 rw[fY hs]
 exact spliced_cons (h1 c s m ν Mu I ok au S l _ _ post)
theorem vi{es:List Expr}{k:Nat}{pos:Pos}{r:Rs (List V)}(h:hU G n sc es ρ H r)(hz:∀vs H',r=.ok vs H'->short vs=true):
  dA G n sc (.Tuple es k pos) ρ H (match r with|.ok vs H'=>.ok (.tup vs) H'|.exc x H'=>.exc x H'):=by
 rintro c s m ν Mu I ok au S l Q E post
 refine Tuple_ (h c s m ν Mu I _ _ pos ok au S l ?_)
 induction r with
 |ok vs H'=>exact λh' ak aa aw I' us x S' rs=>mZ (s:={s with heap:=h',toks:=ak}) S' rs (hz _ _ rfl) Q E (ja.mono x post)
 |exc y H'=>exact post
theorem sr{es:List Expr}{pos:Pos}{r:Rs (List V)}(h:hU G n sc es ρ H r)(hz:∀vs H',r=.ok vs H'->short vs=true):
  dA G n sc (.List es pos) ρ H (match r with|.ok vs H'=>.ok (.obj H'.length) (H'++[.list vs])|.exc x H'=>.exc x H'):=by
 rintro c s m ν Mu I ok au S l Q E post
 refine List_ (h c s m ν Mu I _ _ pos ok au S l ?_)
 induction r with
 |ok vs H'=>exact λh' ak aa aw I' us x S' rs=>ou (s:={s with heap:=h',toks:=ak}) S' rs (hz _ _ rfl) Q E (ja.mono x post)
 |exc y H'=>exact post
end
section
variable{G:Gc}{c:Fc}{s:Shared}{h h':Heap}{m m':Str->Option Value}{ν:List Addr}{Mu:List Obj}{I:Led}{ρ:ah}{H H':List Ob}{n:Nat}{sc:Sc}
theorem pe{K:Frag}{P:Params}{x:Str}{es:List DictEntry}{fs:List (Str×V)}(R:cU (K:=K) P ν I es fs):∀{v:V},bT x fs=some v->∃u,getL x es=some (some u)/\Rep K ν I u v:=by
 induction R with
 |nil=>exact λh=>no h
 | @cons y t a v' es fs r rs ih=>
  intro v h
  change(match du y x with|true=>some v'|false=>bT x fs)=some v at h
  unfold getL
  rw[List.find?_cons]
  have e:(Value.str y t).isStr x=du y x:=iQ y x
  cases q:du y x with
  |true=>
   rw[q] at h
   obtain rfl:=ai h
   rw[e,q]
   exact⟨a,rfl,r⟩
  |false=>
   rw[q] at h
   refine ab (ih h) λu hu ru=>?_
   rw[e,q]
   refine⟨u,?_,ru⟩
   dsimp only at hu ⊢
   refine EM hu ?_ ?_
   ·clear hu;intro e' q' hu
    rw[q'];exact hu
   ·clear hu;intro _ hu
    split at hu
    ·exact no hu
    ·cases hu
theorem rO{K:Frag}{P:Params}{es:List DictEntry}{fs:List (Str×V)}(r:cU (K:=K) P ν I es fs):es.any (·.refKey)=false:=
 cU.rec (motive:=λes ζ ζ=>es.any (·.refKey)=false) rfl (λζ ζ ih=>ih) r
theorem qZ{K:Frag}{P:Params}{x:Str}:∀{es:List DictEntry} {fs:List (Str×V)},cU (K:=K) P ν I es fs->bT x fs=none->getL x es=some none:=by
 intro es fs r h
 have hk:=rO r
 have hf:es.find? (·.key.isStr x)=none:=by
  induction r with
  |nil=>rfl
  | @cons y t a v es fs r rs ih=>
   unfold bT at h
   rw[List.find?_cons]
   have e:(Value.str y t).isStr x=du y x:=iQ y x
   cases q:du y x with
   |true=>rw[q] at h;cases h
   |false=>
    rw[q] at h
    rw[e,q]
    exact ih h (rO rs)
 unfold getL
 rw[hf,hk]
 rfl
theorem Be{K:Frag}{P:Params}{x:Str}{u:Value}{v:V}{t:Tok}(r:Rep K ν I u v){es:List DictEntry}{fs:List (Str×V)}(R:cU (K:=K) P ν I es fs):cU (K:=K) P ν I (putL x (PyData.keyHash P x) (.str x t) u es) (gm x v fs):=by
 induction R with
 |nil=>exact .cons r .nil
 | @cons y t' a v' es fs r' rs ih=>
  have e:(Value.str y t').isStr x=du y x:=iQ y x
  change cU P ν I (if(Value.str y t').isStr x=true then _ else _) (match du y x with|true=>(y,v)::fs|false=>(y,v')::gm x v fs)
  rw[e]
  cases q:du y x with
  |true=>exact .cons r rs
  |false=>exact .cons r' ih
theorem Dw{K:Frag}{P:Params}{es:List DictEntry}{fs:List (Str×V)}(R:cU (K:=K) P ν I es fs):es.length=fs.length:=by
 induction R with
 |nil=>rfl
 |cons _ _ ih=>exact congrArg (· +1) ih
theorem pQ(x:Str)(k:Int)(a b:Value):∀es:List DictEntry,(putL x k a b es).length<=es.length+1
 |[]=>Nat.le_refl _
 |e::r=>by
  unfold putL
  split
  ·exact Nat.le_succ _
  ·exact Nat.succ_le_succ (pQ x k a b r)
theorem Bx(s:Int)(r:Row):∃l,tree s r=.tup l:=by
 induction r using Row.casesOn<;>exact⟨_,by rfl⟩
theorem H4(s:Int)(r:Row):(∃l,fF s r=.tup l)∨fF s r=.none:=by
 induction r using Row.casesOn<;>first|exact .inl ⟨_,by rfl⟩|exact .inr (by unfold fF;rfl)
theorem nM{K:Frag}{u:Value}{l:List V}(r:Rep K ν I u (.tup l)):∃a,u=.ref a:=by
 refine r.gc rfl λy1 y2 y3 y4 y5=>?_
 exact⟨_,rfl⟩
set_option tactic.hygienic true in
theorem pV{u:Value}{v:V}{K:Frag}(r:Rep K ν I u v)(hg:∀w,v≠ .glob w):handedIn u=true:=by
 cases r<;>first|rfl|exact absurd rfl (hg _)|skip
 ·rename_i d k s r hk hf h
  refine bF (Bx s r) λl e=>?_
  rw[e] at h
  refine bF (nM h) λa aU=>?_;subst aU
  rfl
 ·rename_i h
  refine bF (nM h) λa aU=>?_;subst aU
  rfl
 ·rename_i s r hf h
  rcases H4 s r with⟨l,e⟩|e
  ·rw[e] at h
   refine bF (nM h) λa aU=>?_;subst aU
   rfl
  ·rw[e] at h
   cases h
   rfl
 ·rename_i h
  refine bF (nM h) λa aU=>?_;subst aU
  rfl
theorem St.inst(S:St G c s.heap m ν Mu I H){i d:Nat}{C:Addr}{fs:List (Str×V)}{a:Addr}(cb:ν[i]?=some a)(h1:cJ H i=some (.inst C d))(h2:cJ H d=some (.attrs fs)):
  ∃dx es k,ν[d]?=some dx/\Mu[d]?=some (dictOf es k)/\(dx,dictOf es k)∈ν.zip Mu++I/\cU (K:=G.K) G.w.params ν I es fs/\W.InstAt s.heap a (instObj C dx) C (some (dictOf es k)):=by
 refine S.ba cb h1 λo y1 y2 ho r=>?_
 refine ab r.B3 λdx aU hd=>?_;subst aU
 refine S.ba hd h2 λod qP mU tL rd=>?_
 refine cz rd.sD λy1 y2 YP re=>?_;subst YP
 exact⟨dx,_,_,hd,qP,mU,re,⟨ho,rfl,rfl,tL⟩⟩
theorem wK(g:ko G)(ok:c.Ok G n)(S:St G c s.heap m ν Mu I H){u:Value}{a v:V}{x:Str}{e:Bool}(r:Rep G.K ν I u a)(hv:Mine.getAttr G.cf H a x=some v)(hg:∀w,v≠ .glob w):
  iS G c m ν Mu I s (PySem.getAttr u x e) (.ok v H):=by
 rintro Q E post
 refine YI hv ?_;clear hv;intro i ay hv
 refine sp7 hv ?_;clear hv;intro C d hi hv
 refine ix hv ?_;clear hv;intro ha hv
 refine sp9 hv ?_;clear hv;intro fs hd hv
 refine r.ba ay λy1 cb=>?_
 refine yl (S.inst cb hi hd) λdx es k y1 y2 y3 re IA=>?_
 refine ab (pe re hv) λu' hu ru=>?_
 refine dH (g.attr C x ha) λa1 a2 a3 y1=>?_
 exact get_own S.F ok.X.X IA a1 a2 a3 rfl hu (pV ru hg) (post s.heap _ ν Mu I u' (Ext.refl _ _) S ru)
theorem dF{e:Expr}{r:Rs V}{f:V->List Ob->aM V}{ih:aM V}(h:andThen ih f=some r)
  (h1:∀r,ih=some r->dA G n sc e ρ H r) (c:Fc) (s:Shared) (m:Str->Option Value) (ν:List Addr) (Mu:List Obj) (I:Led) (Q E:Value->Shared->Prop) (ok:c.Ok G n) (au:cM c sc ν) (S:St G c s.heap m ν Mu I H)
  (l:Loc G c m ν I ρ) (post:d5 G c m ν I s Q E r) (Q':Value->Shared->Prop)
  (k:∀v H₁,f v H₁=some r->∀h' ak aa aw I' u,Ext ν aa I I'->St G c h' m aa aw I' H₁->Rep G.K aa I' u v->Q' u {s with heap:=h',toks:=ak}):
  wpAny G.M c.A (eval e c.env) Q' E s:=by
 rcases bf h with⟨v,H₁,q1,q2⟩|⟨x,H₁,q1,rfl⟩
 ·exact h1 _ q1 c s m ν Mu I ok au S l _ _ λh' ak aa aw I' u x S' ru=>k v H₁ q2 h' ak aa aw I' u x S' ru
 ·exact h1 _ q1 c s m ν Mu I ok au S l _ _ post
theorem Hg(g:ko G){e:Expr}(hn:isName e=true){x:Str}{pos:Pos}{r:Rs V}{ih:aM V}(h1:∀r,ih=some r->dA G n sc e ρ H r)
  (h:(andThen ih λv H=>bE (Mine.getAttr G.cf H v x) λu=>match u with|.glob _=>none|u=>bV u H)=some r):dA G n sc (.Attribute e x pos) ρ H r:=by
 rintro c s m ν Mu I ok au S l Q E post
 refine Attribute_any_ (dF h h1 c s m ν Mu I Q E ok au S l post _ λv H₁ hf h' ak aa aw I' u x S' ru=>?_) (by(first|exact no e|exact nf e|subst e|obtain rfl:=ai e|induction e using Expr.casesOn)<;>first|with_unfolding_all rfl|exact nf hn)
 refine cP hf ?_;clear hf;intro w hw hf
 have e:r=.ok w H₁:=by(first|exact no w|exact nf w|subst w|obtain rfl:=ai w|induction w using V.casesOn)<;>first|(obtain rfl:=ai hf;rfl)|exact no hf
 subst e
 exact wK (s:={s with heap:=h',toks:=ak}) g ok S' ru hw (by intro y e;subst e;exact no hf) Q E (ja.mono x post)
theorem wg(g:ko G)(ok:c.Ok G n)(S:St G c s.heap m ν Mu I H){u uv:Value}{a v:V}{x:Str}(r:Rep G.K ν I u a)(rv:Rep G.K ν I uv v)(hv:Mine.setAttr G.cf H a x v=some H')(Q:Unit->Shared->Prop)(E:Value->Shared->Prop)
  (post:∀h' ak aw,St G c h' m ν aw I H'->Q () {s with heap:=h',toks:=ak}):wpAny G.M c.A (PySem.setAttr u x uv) Q E s:=by
 refine YI hv ?_;clear hv;intro i ay hv
 refine sp7 hv ?_;clear hv;intro C d hi hv
 refine ix hv ?_;clear hv;intro ha hv
 refine sp9 hv ?_;clear hv;intro fs hd hv
 refine ix hv ?_;clear hv;intro hz hv
 obtain rfl:=ai hv
 refine r.ba ay λy1 cb=>?_
 refine yl (S.inst cb hi hd) λdx es k hdx qP y1 re IA=>?_
 refine xI (g.attr C x ha) λa1 a2 a3 a4 a5 a6=>?_
 have hl:(getL x es).isSome=true:=by
  cases q:bT x fs with
  |some v'=>obtain⟨u',hu,_⟩:=pe re q;rw[hu];rfl
  |none=>rw[qZ re q];rfl
 refine set_dict S.F ok.X.X S.N IA rfl a4 a5 a6 a2 hl rfl (S.upd hdx qP (S.apart hdx hd rfl) _) (Nat.le_trans (pQ ..) ?_) λh' F' N'=>?_
 ·rw[Dw re]
  have:=bN hz
  first|omega|(show fs.length+1<=1000;omega)
 ·exact post h' _ _ (S.set hdx (S.apart hdx hd rfl) F' N' (.attrs (Be rv re)))
end
section
variable{G:Gc}{c:Fc}{s:Shared}{h h':Heap}{m m':Str->Option Value}{ν:List Addr}{Mu:List Obj}{I:Led}{ρ:ah}{H H':List Ob}{n:Nat}{sc:Sc}
theorem rJ{K:Frag}{x:Str}{es:List (Str×Value)}{fs:List (Str×V)}(R:bh K ν I es fs):∀{v:V},bT x fs=some v->∃u,valueAt es x=some u/\Rep K ν I u v:=by
 induction R with
 |nil=>exact λh=>no h
 | @cons y a v' es fs r rs ih=>
  intro v h
  change(match du y x with|true=>some v'|false=>bT x fs)=some v at h
  cases q:du y x with
  |true=>
   rw[q] at h
   obtain rfl:=ai h
   have:y=x:=aH.mp q
   exact⟨a,by simp[valueAt,this],r⟩
  |false=>
   rw[q] at h
   have:y≠x:=λe=>by rw[aH.mpr e] at q;exact nf q.symm
   have e:valueAt ((y,a)::es) x=valueAt es x:=by simp[valueAt,this]
   rw[e]
   exact ih h
theorem wy{K:Frag}{x:Str}{es:List (Str×Value)}{fs:List (Str×V)}(R:bh K ν I es fs):bT x fs=none->valueAt es x=none:=by
 induction R with
 |nil=>exact λζ=>rfl
 | @cons y a v' es fs r rs ih=>
  intro h
  change(match du y x with|true=>some v'|false=>bT x fs)=none at h
  cases q:du y x with
  |true=>rw[q] at h;exact no h.symm
  |false=>
   rw[q] at h
   have:y≠x:=λe=>by rw[aH.mpr e] at q;exact nf q.symm
   have e:valueAt ((y,a)::es) x=valueAt es x:=by simp[valueAt,this]
   rw[e]
   exact ih h
theorem mw{K:Frag}{es:List (Str×Value)}{fs:List (Str×V)}(R:bh K ν I es fs):es.length=fs.length:=by
 induction R with
 |nil=>rfl
 |cons _ _ ih=>exact congrArg (· +1) ih
theorem pz{K:Frag}{es:List (Str×Value)}{fs:List (Str×V)}(R:bh K ν I es fs):es.map (·.1)=fs.map (·.1):=by
 induction R with
 |nil=>rfl
 | @cons y _ _ _ _ _ _ ih=>exact congrArg (y:: ·) ih
theorem ig{i:Int}(e:eC i=true): -1000000000000000000<=i/\i<=1000000000000000000:=by
 unfold eC at e
 refine aJ e λa b=>?_
 exact⟨(Z.leB_iff _ _).mp a,(Z.leB_iff _ _).mp b⟩
theorem ph{k:Int}{n j:Nat}(e:place k n=some j): -1000000000000000000<=k/\k<=1000000000000000000/\seqIndex? k n=some j/\j<n/\(0<=k->k.toNat=j)/\(k<0-> -(n:Int)<=k/\(k+n).toNat=j):=by
 refine gB e ?_;clear e;intro hs e
 refine ae (ig hs) λa b=>?_
 induction k using Int.casesOn with
 |ofNat i=>
  refine ix e ?_;clear e;intro q e
  have ej:i=j:=Option.some.inj e
  subst ej
  have kf:i<n:=Nat.le_of_ble_eq_true q
  refine⟨a,b,?_,kf,λζ=>rfl,λh=>absurd h (by show¬((i:Int)<0);omega)⟩
  unfold seqIndex?
  have h1:¬(Int.ofNat i<0):=by show¬((i:Int)<0);omega
  simp only[h1,if_false]
  have h2:(0<=Int.ofNat i)/\Int.ofNat i<(n:Int):=⟨by show(0:Int)<=(i:Int);exact Int.ofNat_nonneg _,by show(i:Int)<n;exact abB ‹_›⟩
  simp[h2.1]
  exact kf
 |negSucc i=>
  refine ix e ?_;clear e;intro q e
  first|exact no e|exact nf e|subst e|obtain rfl:=ai e
  have kf:i<n:=Nat.le_of_ble_eq_true q
  refine⟨a,b,?_,by exact aa9 ‹_›,λh=>absurd h (by omega),λζ=>⟨by omega,by exact RP ‹_›⟩⟩
  unfold seqIndex?
  have h1:Int.negSucc i<0:=by exact Int.negSucc_lt_zero _
  simp only[h1,if_true]
  have h2:(0<=Int.negSucc i+(n:Int)):=by omega
  have h3:Int.negSucc i+(n:Int)<(n:Int):=by omega
  simp[h2,h3]
  exact RP ‹_›
theorem sG{slice:Expr}{o i:Value}(hs:∀a b d p,slice≠ .Slice a b d p):subscripted slice false o i=operate [o,i] (getItem o i):=by
 (first|exact no slice|exact nf slice|subst slice|obtain rfl:=ai slice|induction slice using Expr.casesOn)<;>first|rfl|exact absurd rfl (hs _ _ _ _)
theorem FH(g:ko G)(ok:c.Ok G n)(S:St G c s.heap m ν Mu I H){value slice:Expr}{u uk:Value}{a k v:V}(r:Rep G.K ν I u a)(rk:Rep G.K ν I uk k)(hv:item G.cf H a k=some v)(ER:∀a b d p,slice≠ .Slice a b d p):
  iS G c m ν Mu I s (subscriptTail value slice u uk) (.ok v H):=by
 rintro Q E post
 have fin:∀u' tk,Rep G.K ν I u' v->Q u' {s with toks:=tk}:=λu' tk r'=>post s.heap tk ν Mu I u' (Ext.refl _ _) S r'
 have dict:∀(d:Addr) (o:Obj) (cX:List (Str×Value)) (fs:List (Str×V)) (x:Str) (t:Tok),s.heap.get? d=some o->o.IsDictOf (PySem.strKind G.prog G.w) cX->bh G.K ν I cX fs->bT x fs=some v->
   wpAny G.M c.A (subscriptTail value slice (.ref d) (.str x t)) Q E s:=by
  intro d o cX fs x t ho hd rv hl
  have hD:s.heap.DictOf (PySem.strKind G.prog G.w) d cX:=Heap.dictOf_iff.mpr ⟨o,ho,hd⟩
  refine ab (rJ rv hl) λu' hu ru=>?_
  exact tail_any hD.typeIs slot_dict_getitem.lookup (wpAny_getItem_of (strKind_is _ _ _ _) hD.mapOf hu (fin u' _ ru)) (sG ER)
 have lst:∀(a:Addr) (xs:List Value) (k:Nat) (vs:List V) (i:Int) (t:Tok) (j':Nat),s.heap.get? a=some (bI xs k)->ag G.K ν I xs vs->place i vs.length=some j'->Mine.cJ vs j'=some v->wpAny G.M c.A (subscriptTail value slice (.ref a) (.int i t)) Q E s:=by
  intro a xs k vs i t j' ho rs hj hv
  refine xI (ph hj) λh1 h2 h3 kf h4 h5=>?_
  refine ab (rs.cJ hv) λu' hu ru=>?_
  have hl:s.heap.IsList _ xs.toArray:=⟨_,ho,rfl,_,rfl⟩
  refine tail_any hl.typeIs slot_list_getitem.lookup ?_ (sG ER)
  by_cases hi:0<=i
  ·exact wpAny_getItem_list hl hi (by exact Qu ‹_›) (by rw[h4 hi];simpa using hu) (fin u' s.toks ru)
  ·refine ae (h5 (by exact R6 ‹_›)) λh6 h7=>?_
   exact wpAny_getItem_list_neg hl (by exact R6 ‹_›) (by rw[List.size_toArray,Rep.length rs];exact h6) (by exact Rv ‹_›) (by rw[List.size_toArray,Rep.length rs,h7];simpa using hu) (fin u' s.toks ru)
 refine ab1 hv ?_ ?_ ?_
 ·clear hv;intro d ay hv
  refine Jf hv ?_;clear hv;intro x ay hv;subst ay
  refine aa6 hv ?_;clear hv;intro l hl hv
  refine rk.m9 rfl λt=>?_
  refine bP (g.gd d l hl) λo cX hK hd rv=>?_
  refine r.DY ay ?_
  exact dict d o cX l x t (S.F.keep _ _ (ok.X.X _ _ hK)) hd (rv ν I) hv
 ·clear hv;intro vs ay hv
  refine DX hv ?_;clear hv;intro i ay hv;subst ay
  refine wx hv ?_;clear hv;intro j hj hv
  refine dH (ph hj) λh1 h2 h3 y1=>?_
  refine rk.cA rfl λt=>?_
  refine r.gc ay λy1 y2 y3 hi rs=>?_
  refine ab (rs.cJ hv) λu' hu ru=>?_
  refine kba_turn (value':=.Name "_" ⟨0,0,0,0⟩) (λζ=>rfl) ?_
  exact item_tuple (items:=_) ⟨_,S.im ok.X.X hi,rfl,_,rfl⟩ (by exact Rv ‹_›) (by exact Qu ‹_›) (by rw[List.size_toArray,Rep.length rs];exact h3) (by simpa using hu) (fin u' s.toks ru) (sG ER) (λζ=>rfl)
 ·clear hv;intro j ay hv;subst ay
  refine acb hv ?_ ?_ ?_ ?_
  ·clear hv;intro vs hL hv
   refine DX hv ?_;clear hv;intro i ay hv
   refine wx hv ?_;clear hv;intro j' hj hv
   refine rk.cA ay λy1=>?_
   refine r.ba rfl λy1 cb=>?_
   refine S.fG cb hL λxs k y1 ho rs=>?_
   exact lst _ xs k vs i _ j' ho rs hj hv
  ·clear hv;intro vs hL hv
   refine DX hv ?_;clear hv;intro i ay hv
   refine wx hv ?_;clear hv;intro j' hj hv
   refine rk.cA ay λy1=>?_
   refine r.ba rfl λy1 cb=>?_
   refine S.ba cb hL λo y1 y2 ho ro=>?_
   refine bP ro.nT λxs k aU rs y2=>?_;subst aU
   exact lst _ xs k vs i _ j' ho rs hj hv
  ·clear hv;intro es hL hv
   refine Jf hv ?_;clear hv;intro x ay hv
   refine rk.m9 ay λt=>?_
   refine r.ba rfl λy1 cb=>?_
   refine S.ba cb hL λo y1 y2 ho ro=>?_
   refine ab ro.jD λy1 hd rv=>?_
   exact dict _ o _ es x t ho hd rv hv
  ·clear hv;intro es hL hv
   refine Jf hv ?_;clear hv;intro x ay hv
   refine rk.m9 ay λt=>?_
   refine r.ba rfl λy1 cb=>?_
   refine S.ba cb hL λo y1 y2 ho ro=>?_
   refine ab ro.lX λy1 hd rv=>?_
   exact dict _ o _ es x t ho hd rv hv
theorem HV(g:ko G){e i:Expr}{pos:Pos}{r:Rs V}{ie ii:List Ob->aM V}(ER:∀a b d p,i≠ .Slice a b d p)(h1:∀r,ie H=some r->dA G n sc e ρ H r)(h2:∀H₁ r,ii H₁=some r->dA G n sc i ρ H₁ r)
  (h:(andThen (ie H) λv H=>andThen (ii H) λk H=>bE (item G.cf H v k) λu=>bV u H)=some r):dA G n sc (.Subscript e i pos) ρ H r:=by
 rintro c s m ν Mu I ok au S l Q E post
 refine Subscript_ (dF h h1 c s m ν Mu I Q E ok au S l post _ λv H₁ hf h' ak aa aw I' u x S' ru=>?_)
 refine dF hf (h2 H₁) c {s with heap:=h',toks:=ak} m aa aw I' Q E ok (au.mono x) S' (l.mono x) (d5.mono x post) _ λk aQ hf bw bY aV cF dk uk x' d7 rk=>?_
 refine cP hf ?_;clear hf;intro w hw hf
 first|exact no hf|exact nf hf|subst hf|obtain rfl:=ai hf
 exact FH (s:={s with heap:=bw,toks:=bY}) g ok d7 (ru.mono x') rk hw ER Q E (ja.mono (x.trans x') post)
theorem MO(ok:c.Ok G n)(S:St G c s.heap m ν Mu I H){u w:Value}{a b:V}{t:Bool}(ra:Rep G.K ν I u a)(rb:Rep G.K ν I w b)(hv:p9 H a b=some t):
  iS G c m ν Mu I s (compareOp .Eq u w) (.ok (.bool t) H)/\iS G c m ν Mu I s (compareOp .NotEq u w) (.ok (.bool !t) H):=by
 refine abl hv ?_;clear hv;intro x y hx hy hv
 obtain⟨⟨as,r1⟩,c1,d1⟩:=f9 S ok.X.X _ _ _ _ hx ra
 obtain⟨⟨bs,r2⟩,c2,d2⟩:=f9 S ok.X.X _ _ _ _ hy rb
 have sh1:SeqAt.shaped x=true:=by unfold SeqAt.shaped;rw[c1];exact decide_eq_true (Nat.le_trans d1 (by decide))
 have sh2:SeqAt.shaped y=true:=by unfold SeqAt.shaped;rw[c2];exact decide_eq_true (Nat.le_trans d2 (by decide))
 have hu:c.A.units+64<cLine:=by have:=ok.un;unfold cLine;exact om8 ‹_›
 have e:=lF _ _ _ _ hv
 constructor
 ·rintro Q E post
  exact eq_dataH r1 r2 sh1 sh2 hu (by rw[e];exact post s.heap s.toks ν Mu I _ (Ext.refl _ _) S (.bool _))
 ·rintro Q E post
  exact ne_dataH r1 r2 sh1 sh2 hu (by rw[e];exact post s.heap s.toks ν Mu I _ (Ext.refl _ _) S (.bool _))
theorem Bt{P:Prop}{a b:V}{t:Bool}(h:Ot a b=some t)(k:∀i,a=.obj i->b=.obj i->t=true->P):P:=by
 induction a using V.casesOn with
 |obj i=>
  induction b using V.casesOn with
  |obj j=>exact ix (x0:=Nat.beq i j) h λhb h=>k i rfl (congrArg V.obj (Nat.eq_of_beq_eq_true hb).symm) (ai h)
  |_=>exact no h
 |_=>exact no h
theorem GB{P:Prop}{a b:V}{t:Bool}(h:isVal a b=some t)(k1:lN a=some true->lN b=some t->P)(k2:lN a=some false->lN b=some true->t=false->P)(k3:∀i,a=.obj i->b=.obj i->t=true->P):P:=by
 change(match lN a with
  |some true=>lN b
  |some false=>match lN b with
   |some true=>some false
   |_=>Ot a b
  |none=>none)=some t at h
 generalize lN a=x at*
 generalize lN b=y at*
 induction x with
 |none=>exact no h
 |some x=>
  induction x with
  |true=>exact k1 rfl h
  |false=>
   induction y with
   |none=>exact Bt h k3
   |some y=>
    induction y with
    |true=>exact k2 rfl rfl (ai h)
    |false=>exact Bt h k3
theorem w6{v:V}(h:lN v=some true):v=.none:=by
 induction v using V.casesOn with
 |none=>rfl
 |held|aL|dN|b9|glob=>exact no h
 |_=>exact nf (Option.some.inj h)
structure XX(u:Value):Prop where
 a:plainIs .none u=true
 b:plainIs u .none=true
 c:(Value.none==u)=false
 d:(u==Value.none)=false
theorem CD{K:Frag}{u:Value}{v:V}(r:Rep K ν I u v)(h:lN v=some false):XX u:=by
 induction v using V.casesOn with
 |none=>exact nf (Option.some.inj h).symm
 |bool b=>exact r.tf rfl ⟨rfl,rfl,rfl,rfl⟩
 |int b=>exact r.cA rfl λζ=>⟨rfl,rfl,rfl,rfl⟩
 |str b=>exact r.m9 rfl λζ=>⟨rfl,rfl,rfl,rfl⟩
 |tup b=>exact r.gc rfl λζ ζ ζ ζ ζ=>⟨rfl,rfl,rfl,rfl⟩
 |obj b=>exact r.ba rfl λζ ζ=>⟨rfl,rfl,rfl,rfl⟩
 |_=>exact no h
def BV(G:Gc)(c:Fc)(m:Str->Option Value)(ν:List Addr)(Mu:List Obj)(I:Led)(s:Shared)(H:List Ob)(u w:Value)(t:Bool):Prop:=
 iS G c m ν Mu I s (compareOp .Is u w) (.ok (.bool t) H)/\iS G c m ν Mu I s (compareOp .IsNot u w) (.ok (.bool !t) H)
theorem LV(ok:c.Ok G n)(S:St G c s.heap m ν Mu I H){u w:Value}{a b:V}{t:Bool}(ra:Rep G.K ν I u a)(rb:Rep G.K ν I w b)(hv:isVal a b=some t):BV G c m ν Mu I s H u w t:=by
 have fin:∀(Q:Value->Shared->Prop) (E:Value->Shared->Prop) (b:Bool),d5 G c m ν I s Q E (.ok (.bool b) H)->Q (.bool b) s:=λQ E b post=>post s.heap s.toks ν Mu I _ (Ext.refl _ _) S (.bool _)
 have plain:∀{u w:Value} {t:Bool},plainIs u w=true->(u==w)=t->BV G c m ν Mu I s H u w t:=λh1 h2=>
  ⟨λQ E post=>wpAny_is_plain h1 (h2▸fin Q E _ post),λQ E post=>wpAny_isNot_plain h1 (h2▸fin Q E _ post)⟩
 refine GB hv (λha hb=>?_) (λha hb ht=>?_) λi ha hb ht=>?_
 ·refine ra.tB (w6 ha) ?_
  induction t with
  |true=>exact rb.tB (w6 hb) (plain rfl rfl)
  |false=>have q:=CD rb hb;exact plain q.a q.c
 ·subst ht
  have q:=CD ra ha
  exact rb.tB (w6 hb) (plain q.b q.d)
 ·refine ra.ba ha λy1 hi=>?_
  refine rb.ba hb λy2 hj=>?_
  rw[hi] at hj
  obtain rfl:=ai hj
  subst ht
  exact⟨λQ E post=>wpAny_is_ref_self (fin Q E _ post),λQ E post=>wpAny_isNot_ref_self (fin Q E _ post)⟩
end
section
variable{G:Gc}{c:Fc}{s:Shared}{h h':Heap}{m m':Str->Option Value}{ν:List Addr}{Mu:List Obj}{I:Led}{ρ:ah}{H H':List Ob}{n:Nat}{sc:Sc}
theorem L6(ok:c.Ok G n)(S:St G c s.heap m ν Mu I H){u w:Value}{a b:V}{t:Bool}(ra:Rep G.K ν I u a)(rb:Rep G.K ν I w b)(hv:DV H a b=some t):
  iS G c m ν Mu I s (compareOp .In u w) (.ok (.bool t) H)/\iS G c m ν Mu I s (compareOp .NotIn u w) (.ok (.bool !t) H):=by
 have fin:∀(Q:Value->Shared->Prop) (E:Value->Shared->Prop) (b:Bool) (tk:Tok),d5 G c m ν I s Q E (.ok (.bool b) H)->Q (.bool b) {s with toks:=tk}:=λQ E b tk post=>post s.heap tk ν Mu I _ (Ext.refl _ _) S (.bool _)
 have hu:∀k,k<=60->c.A.units+1+k<cLine:=λk hk=>by have:=ok.un;unfold cLine;exact om7 ‹_› ‹_›
 refine acr hv ?_ ?_ ?_
 ·clear hv;intro xs hx hv
  refine YM hv ?_;clear hv;intro d hd hv
  obtain⟨⟨as,r1⟩,c1,d1⟩:=f9 S ok.X.X _ _ _ _ hx rb
  obtain⟨⟨bs,r2⟩,c2,d2⟩:=f9 S ok.X.X _ _ _ _ hd ra
  have e:=mO _ _ _ hv
  have YQ:PyData.canLayAll0 xs=true:=by simpa [PyData.canLay0] using c1
  have js:min (PyData.depthAll xs) d.depth<=60:=Nat.le_trans (Nat.min_le_right _ _) d2
  exact⟨λQ E post=>SeqAt.in_tuple_reads r1 r2 YQ c2 (hu _ js) (by rw[e];exact fin Q E _ s.toks post),λQ E post=>SeqAt.notIn_tuple_reads r1 r2 YQ c2 (hu _ js) (by rw[e];exact fin Q E _ s.toks post)⟩
 ·clear hv;intro xs hx hv
  refine YM hv ?_;clear hv;intro d hd hv
  obtain⟨⟨as,r1⟩,c1,d1⟩:=f9 S ok.X.X _ _ _ _ hx rb
  obtain⟨⟨bs,r2⟩,c2,d2⟩:=f9 S ok.X.X _ _ _ _ hd ra
  have e:=mO _ _ _ hv
  have YQ:PyData.canLayAll0 xs=true:=by simpa [PyData.canLay0] using c1
  have js:min (PyData.depthAll xs) d.depth<=60:=Nat.le_trans (Nat.min_le_right _ _) d2
  exact⟨λQ E post=>SeqAt.in_list_reads r1 r2 YQ c2 (hu _ js) (by rw[e];exact fin Q E _ s.toks post),λQ E post=>SeqAt.notIn_list_reads r1 r2 YQ c2 (hu _ js) (by rw[e];exact fin Q E _ s.toks post)⟩
 ·clear hv;intro _ hv
  refine YI hv ?_;clear hv;intro i ay hv
  refine NW hv ?_;clear hv;intro es hL hv
  refine Jf hv ?_;clear hv;intro x ay hv;subst ay
  obtain rfl:=ai hv
  refine ra.m9 rfl λt=>?_
  refine rb.ba ay λd cb=>?_
  refine S.ba cb hL λo y1 mU ho ro=>?_
  refine ab ro.jD λcX hd rv=>?_
  have hD:s.heap.DictOf (PySem.strKind G.prog G.w) d cX:=Heap.dictOf_iff.mpr ⟨o,ho,hd⟩
  have lo:(d==sysModules)=false:=by
   have:=S.low d (List.mem_of_getElem? cb)
   rw[beq_eq_false_iff_ne]
   exact Nat.ne_of_gt this
  have e:(valueAt cX x).isSome=(bT x es).isSome:=by
   cases hl:bT x es with
   |some v=>exact ab (rJ rv hl) λu' hu' ζ=>by rw[hu'];rfl
   |none=>rw[wy rv hl];rfl
  exact⟨λQ E post=>wpAny_in_of (strKind_is _ _ _ _) lo hD.mapOf (by rw[e];exact fin Q E _ _ post),λQ E post=>wpAny_notIn_of (strKind_is _ _ _ _) lo hD.mapOf (by rw[e];exact fin Q E _ _ post)⟩
theorem pU{o:Option Bool}{t:Bool}(h:o.map not=some t):∃b,o=some b/\t=!b:=by
 refine ab (Option.map_eq_some_iff.mp h) λb hb e=>?_
 exact⟨b,hb,e.symm⟩
theorem iP{p:Prop}[Decidable p]{b:Bool}(h:b=true↔p):decide p=b:=by
 induction b with
 |true=>exact decide_eq_true (h.mp rfl)
 |false=>exact decide_eq_false λq=>by have:=h.mpr q;exact nf this
theorem sm(ok:c.Ok G n)(S:St G c s.heap m ν Mu I H){op:CmpOp}{u w:Value}{a b:V}{t:Bool}(ra:Rep G.K ν I u a)(rb:Rep G.K ν I w b)(hv:Mine.cmp H op a b=some t):
  iS G c m ν Mu I s (compareOp op u w) (.ok (.bool t) H):=by
 have fin:∀(Q:Value->Shared->Prop) (E:Value->Shared->Prop) (b:Bool),d5 G c m ν I s Q E (.ok (.bool b) H)->Q (.bool b) s:=λQ E b post=>post s.heap s.toks ν Mu I _ (Ext.refl _ _) S (.bool _)
 induction op using CmpOp.casesOn
 ·exact(MO ok S ra rb hv).1
 ·refine ab (pU hv) λb hb aU=>?_;subst aU
  exact(MO ok S ra rb hb).2
 ·refine Cy hv ?_;clear hv;intro _ _ ay jS hv
  obtain rfl:=ai hv
  refine ra.cA ay λy1=>?_
  refine rb.cA jS λy1=>?_
  exact λQ E post=>lt_int (by rw[iP (Z.ltB_iff _ _)];exact fin Q E _ post)
 ·refine Cy hv ?_;clear hv;intro _ _ ay jS hv
  obtain rfl:=ai hv
  refine ra.cA ay λy1=>?_
  refine rb.cA jS λy1=>?_
  exact λQ E post=>le_int (by rw[iP (Z.leB_iff _ _)];exact fin Q E _ post)
 ·refine Cy hv ?_;clear hv;intro _ _ ay jS hv
  obtain rfl:=ai hv
  refine ra.cA ay λy1=>?_
  refine rb.cA jS λy1=>?_
  exact λQ E post=>gt_int (by rw[iP (Z.ltB_iff _ _)];exact fin Q E _ post)
 ·refine Cy hv ?_;clear hv;intro _ _ ay jS hv
  obtain rfl:=ai hv
  refine ra.cA ay λy1=>?_
  refine rb.cA jS λy1=>?_
  exact λQ E post=>ge_int (by rw[iP (Z.leB_iff _ _)];exact fin Q E _ post)
 ·exact(LV ok S ra rb hv).1
 ·refine ab (pU hv) λb hb aU=>?_;subst aU
  exact(LV ok S ra rb hb).2
 ·exact(L6 ok S ra rb hv).1
 ·refine ab (pU hv) λb hb aU=>?_;subst aU
  exact(L6 ok S ra rb hb).2
theorem l7{op:CmpOp}{r:Expr}(h:isSet r=false):behindInMarks op r=false:=by
 (first|exact no r|exact nf r|subst r|obtain rfl:=ai r|induction r using Expr.casesOn)<;>first|rfl|exact no h|exact nf h|cases h
theorem Oi{op:CmpOp}{a b:Expr}{pos:Pos}{r:Rs V}{ia ib:List Ob->aM V}(hs:isSet b=false)(h1:∀r,ia H=some r->dA G n sc a ρ H r)(h2:∀H₁ r,ib H₁=some r->dA G n sc b ρ H₁ r)
  (h:(andThen (ia H) λx H=>andThen (ib H) λy H=>bE (Mine.cmp H op x y) λt=>bV (.bool t) H)=some r):dA G n sc (.Compare a [op] [b] pos) ρ H r:=by
 rintro c s m ν Mu I ok au S l Q E post
 refine wpAny_Compare1 (dF h h1 c s m ν Mu I Q E ok au S l post _ λv H₁ hf h' ak aa aw I' u x S' ru=>?_) (l7 hs)
 refine dF hf (h2 H₁) c {s with heap:=h',toks:=ak} m aa aw I' Q E ok (au.mono x) S' (l.mono x) (d5.mono x post) _ λk aQ hf bw bY aV cF dk uk x' d7 rk=>?_
 refine cP hf ?_;clear hf;intro w hw hf
 obtain rfl:=ai hf
 exact sm (s:={s with heap:=bw,toks:=bY}) ok d7 (ru.mono x') rk hw Q E (ja.mono (x.trans x') post)
theorem FZ{op:CmpOp}{a b:Expr}{pos:Pos}{r:Rs Bool}{ia ib:List Ob->aM V}(hs:isSet b=false)(h1:∀r,ia H=some r->dA G n sc a ρ H r)(h2:∀H₁ r,ib H₁=some r->dA G n sc b ρ H₁ r)
  (h:(andThen (ia H) λx H=>andThen (ib H) λy H=>bE (Mine.cmp H op x y) λt=>bV t H)=some r):oz G n sc (.Compare a [op] [b] pos) ρ H r:=by
 rintro c s m ν Mu I Q E ok au S l post
 refine wpAny_isTrue_Compare1 ?_ (l7 hs)
 rcases bf h with⟨v,H₁,q1,hf⟩|⟨y,H₁,q1,rfl⟩
 ·refine h1 _ q1 c s m ν Mu I ok au S l _ _ λh' ak aa aw I' u x S' ru=>?_
  rcases bf hf with⟨k,aQ,q2,hf⟩|⟨y,aQ,q2,rfl⟩
  ·refine h2 H₁ _ q2 c {s with heap:=h',toks:=ak} m aa aw I' ok (au.mono x) S' (l.mono x) _ _ λbw bY aV cF dk uk x' d7 rk=>?_
   refine cP hf ?_;clear hf;intro w hw hf
   obtain rfl:=ai hf
   refine sm (s:={s with heap:=bw,toks:=bY}) ok d7 (ru.mono x') rk hw _ _ λa9 bq dd bM fq ub jm bZ rb=>?_
   refine rb.tf rfl ?_
   exact wpAny_truthy_bool (post a9 bq dd bM fq ((x.trans x').trans jm) bZ)
  ·exact h2 H₁ _ q2 c {s with heap:=h',toks:=ak} m aa aw I' ok (au.mono x) S' (l.mono x) _ _ (cu.mono x post)
 ·exact h1 _ q1 c s m ν Mu I ok au S l _ _ post
theorem iq{u:Value}{v:V}{b:Bool}{Q:Bool->Shared->Prop}{E:Value->Shared->Prop}(r:Rep G.K ν I u v)(hv:truth H v=some b)(h:Q b s):wpAny G.M c.A (truthy u) Q E s:=by
 cases r with
 |none=>obtain rfl:=ai hv;exact truthy_none h
 |bool b=>obtain rfl:=ai hv;exact wpAny_truthy_bool h
 |_=>exact no hv
noncomputable def plainT:Expr->Bool
 |.Name .. =>true
 |.Attribute .. =>true
 |.Call .. =>true
 |.Constant .. =>true
 |_=>false
theorem j5{e:Expr}{r:Rs Bool}{ie:List Ob->aM V}(hp:plainT e=true)(h1:∀r,ie H=some r->dA G n sc e ρ H r)
  (h:(andThen (ie H) λv H=>bE (truth H v) λb=>bV b H)=some r):oz G n sc e ρ H r:=by
 rintro c s m ν Mu I Q E ok au S l post
 refine isTrue_plain ?_ (by(first|exact no e|exact nf e|subst e|obtain rfl:=ai e|induction e using Expr.casesOn)<;>first|rfl|exact nf hp)
 rcases bf h with⟨v,H₁,q1,hf⟩|⟨y,H₁,q1,rfl⟩
 ·refine h1 _ q1 c s m ν Mu I ok au S l _ _ λh' ak aa aw I' u x S' ru=>?_
  refine cP hf ?_;clear hf;intro b hb hf
  obtain rfl:=ai hf
  exact iq (s:={s with heap:=h',toks:=ak}) (H:=H₁) ru hb (post h' ak aa aw I' x S')
 ·exact h1 _ q1 c s m ν Mu I ok au S l _ _ post
theorem Ji{e:Expr}{pos:Pos}{r:Rs Bool}{it:List Ob->aM Bool}(h1:∀r,it H=some r->oz G n sc e ρ H r)(h:(andThen (it H) λb H=>bV (!b) H)=some r):oz G n sc (.UnaryOp .Not e pos) ρ H r:=by
 rintro c s m ν Mu I Q E ok au S l post
 refine wpAny_isTrue_Not ?_
 rcases bf h with⟨b,H₁,q1,hf⟩|⟨y,H₁,q1,rfl⟩
 ·obtain rfl:=ai hf
  exact h1 _ q1 c s m ν Mu I _ _ ok au S l λh' ak aa aw I' x S'=>post h' ak aa aw I' x S'
 ·exact h1 _ q1 c s m ν Mu I _ _ ok au S l post
theorem ng.mono{c:Fc}{I I':Led}{ν aa:List Addr}{Q:Bool->Shared->Prop}{E:Value->Shared->Prop}{r:Rs Bool}{h:Heap}{tk:Tok}(e:Ext ν aa I I')(p:ng G c m ν I s Q E r):ng G c m aa I' {s with heap:=h,toks:=tk} Q E r:=by
 induction r with
 |ok v H'=>exact λh' ak aV aw dk q f=>p h' ak aV aw dk (e.trans q) f
 |exc x H'=>exact cu.mono e p
theorem IE{e:Expr}{es:List Expr}{pos:Pos}{r:Rs Bool}{it ir:List Ob->aM Bool}(h1:∀r,it H=some r->oz G n sc e ρ H r)(h2:∀H₁ r,ir H₁=some r->oz G n sc (.BoolOp .And es pos) ρ H₁ r)
  (h:(andThen (it H) λb H=>match b with|true=>ir H|false=>bV false H)=some r):oz G n sc (.BoolOp .And (e::es) pos) ρ H r:=by
 rintro c s m ν Mu I Q E ok au S l post
 refine isTrue_and ?_
 rcases bf h with⟨b,H₁,q1,hf⟩|⟨y,H₁,q1,rfl⟩
 ·refine h1 _ q1 c s m ν Mu I _ _ ok au S l λh' ak aa aw I' x S'=>?_
  induction b with
  |true=>exact h2 H₁ _ hf c {s with heap:=h',toks:=ak} m aa aw I' _ _ ok (au.mono x) S' (l.mono x) (ng.mono x post)
  |false=>obtain rfl:=ai hf;exact post h' ak aa aw I' x S'
 ·exact h1 _ q1 c s m ν Mu I _ _ ok au S l post
theorem OW{e:Expr}{es:List Expr}{pos:Pos}{r:Rs Bool}{it ir:List Ob->aM Bool}(h1:∀r,it H=some r->oz G n sc e ρ H r)(h2:∀H₁ r,ir H₁=some r->oz G n sc (.BoolOp .Or es pos) ρ H₁ r)
  (h:(andThen (it H) λb H=>match b with|true=>bV true H|false=>ir H)=some r):oz G n sc (.BoolOp .Or (e::es) pos) ρ H r:=by
 rintro c s m ν Mu I Q E ok au S l post
 refine isTrue_or ?_
 rcases bf h with⟨b,H₁,q1,hf⟩|⟨y,H₁,q1,rfl⟩
 ·refine h1 _ q1 c s m ν Mu I _ _ ok au S l λh' ak aa aw I' x S'=>?_
  induction b with
  |false=>exact h2 H₁ _ hf c {s with heap:=h',toks:=ak} m aa aw I' _ _ ok (au.mono x) S' (l.mono x) (ng.mono x post)
  |true=>obtain rfl:=ai hf;exact post h' ak aa aw I' x S'
 ·exact h1 _ q1 c s m ν Mu I _ _ ok au S l post
theorem Bk{pos:Pos}:oz G n sc (.BoolOp .And [] pos) ρ H (.ok true H):=by
 rintro c s m ν Mu I Q E ok au S l post
 exact isTrue_and_nil (post s.heap s.toks ν Mu I (Ext.refl _ _) S)
theorem IC{pos:Pos}:oz G n sc (.BoolOp .Or [] pos) ρ H (.ok false H):=by
 rintro c s m ν Mu I Q E ok au S l post
 exact isTrue_or_nil (post s.heap s.toks ν Mu I (Ext.refl _ _) S)
theorem FD{op:BoolOp}{fW jl:Expr}{es:List Expr}{pos:Pos}{r:Rs V}{ie ir:List Ob->aM V}(h1:∀r,ie H=some r->dA G n sc fW ρ H r)(h2:∀H₁ r,ir H₁=some r->dA G n sc (.BoolOp op (jl::es) pos) ρ H₁ r)
  (h:(andThen (ie H) λv H=>bE (truth H v) λb=>match op with
    |.And=>match b with
     |true=>ir H
     |false=>bV v H
    |.Or=>match b with
     |true=>bV v H
     |false=>ir H)=some r):dA G n sc (.BoolOp op (fW::jl::es) pos) ρ H r:=by
 rintro c s m ν Mu I ok au S l Q E post
 have key:∀v H₁ h' ak aa aw I' u b,Ext ν aa I I'->St G c h' m aa aw I' H₁->Rep G.K aa I' u v->truth H₁ v=some b->(bV v H₁=some r->Q u {s with heap:=h',toks:=ak})/\(ir H₁=some r->wpAny G.M c.A (eval (.BoolOp op (jl::es) pos) c.env) Q E {s with heap:=h',toks:=ak}):=
  λv H₁ h' ak aa aw I' u b x S' ru hb=>⟨λe=>by obtain rfl:=ai e;exact post h' ak aa aw I' u x S' ru,λe=>h2 H₁ _ e c {s with heap:=h',toks:=ak} m aa aw I' ok (au.mono x) S' (l.mono x) Q E (d5.mono x post)⟩
 induction op with
 |And=>
  refine BoolOp_and (dF h h1 c s m ν Mu I Q E ok au S l post _ λv H₁ hf h' ak aa aw I' u x S' ru=>?_)
  refine cP hf ?_;clear hf;intro b hb hf
  refine iq (s:={s with heap:=h',toks:=ak}) (H:=H₁) ru hb ?_
  induction b with
  |true=>exact(key v H₁ h' ak aa aw I' u _ x S' ru hb).2 hf
  |false=>exact(key v H₁ h' ak aa aw I' u _ x S' ru hb).1 hf
 |Or=>
  refine BoolOp_or (dF h h1 c s m ν Mu I Q E ok au S l post _ λv H₁ hf h' ak aa aw I' u x S' ru=>?_)
  refine cP hf ?_;clear hf;intro b hb hf
  refine iq (s:={s with heap:=h',toks:=ak}) (H:=H₁) ru hb ?_
  induction b with
  |true=>exact(key v H₁ h' ak aa aw I' u _ x S' ru hb).1 hf
  |false=>exact(key v H₁ h' ak aa aw I' u _ x S' ru hb).2 hf
theorem Va{t a b:Expr}{pos:Pos}{r:Rs V}{it:List Ob->aM Bool}{ia ib:List Ob->aM V}(h1:∀r,it H=some r->oz G n sc t ρ H r)(h2:∀H₁ r,ia H₁=some r->dA G n sc a ρ H₁ r)(h3:∀H₁ r,ib H₁=some r->dA G n sc b ρ H₁ r)
  (h:(andThen (it H) λc H=>match c with|true=>ia H|false=>ib H)=some r):dA G n sc (.IfExp t a b pos) ρ H r:=by
 rintro c s m ν Mu I ok au S l Q E post
 refine wpAny_IfExp ?_
 rcases bf h with⟨v,H₁,q1,hf⟩|⟨y,H₁,q1,rfl⟩
 ·refine h1 _ q1 c s m ν Mu I _ _ ok au S l λh' ak aa aw I' x S'=>?_
  induction v with
  |true=>exact h2 H₁ _ hf c {s with heap:=h',toks:=ak} m aa aw I' ok (au.mono x) S' (l.mono x) Q E (d5.mono x post)
  |false=>exact h3 H₁ _ hf c {s with heap:=h',toks:=ak} m aa aw I' ok (au.mono x) S' (l.mono x) Q E (d5.mono x post)
 ·exact h1 _ q1 c s m ν Mu I _ _ ok au S l post
end
section
variable{G:Gc}{c:Fc}{s:Shared}{h h':Heap}{m m':Str->Option Value}{ν:List Addr}{Mu:List Obj}{I:Led}{ρ:ah}{H H':List Ob}{n:Nat}{sc:Sc}
theorem St.iV{bg:Heap}{x:Addr}{o:Obj}{b:Ob}(S:St G c bg m ν Mu I H){h':Heap}(F':Fr c.h₀ c.L h' m)(N':News c.h₀ c.L h' ((x,o)::(ν.zip Mu++I)))(key:∀p∈ν.zip Mu++I,p.1<x)(hs:sysModules<x)(r:az G (ν++[x]) I o b):
  St G c h' m (ν++[x]) (Mu++[o]) I (H++[b])/\Ext ν (ν++[x]) I I/\(ν++[x])[H.length]?=some x:=by
 have cb:x∉ν:=λhm=>by
  obtain⟨i,hi,e⟩:=List.getElem_of_mem hm
  have h1:ν[i]?=some x:=by rw[List.getElem?_eq_getElem hi,e]
  have h2:Mu[i]?=some (Mu[i]'(S.len▸hi)):=List.getElem?_eq_getElem (S.len▸hi)
  exact Nat.lt_irrefl _ (key _ (List.mem_append_left _ (dU h1 h2)))
 refine ae (S.new F' N' ⟨cb,λp hp=>Nat.ne_of_lt (key p (List.mem_append_right _ hp)),hs⟩ r) λa b=>?_
 exact⟨a,b,by rw[←S.aT];simp⟩
theorem St.newObj{x:Addr}{o:Obj}{b:Ob}(S:St G c s.heap m ν Mu I H){h':Heap}(F':Fr c.h₀ c.L h' m)(N':News c.h₀ c.L h' ((x,o)::(ν.zip Mu++I)))(hx:s.heap.objs.size<=x)(r:az G (ν++[x]) I o b):
  St G c h' m (ν++[x]) (Mu++[o]) I (H++[b])/\Ext ν (ν++[x]) I I/\(ν++[x])[H.length]?=some x:=
 S.iV F' N' (λp hp=>Nat.lt_of_lt_of_le (Heap.lt_size (S.N p hp).1) hx) (Nat.lt_of_lt_of_le S.fresh.2.2 hx) r
theorem St.vS{x:Addr}{us:List Value}{k:Nat}(S:St G c s.heap m ν Mu I H){h':Heap}(F':Fr c.h₀ c.L h' m)(N':News c.h₀ c.L h' ((x,dw us k)::(ν.zip Mu++I)))(hx:s.heap.objs.size<=x){vs:List V}(rs:ag G.K ν I us vs):
  St G c h' m ν Mu ((x,dw us k)::I) H/\Ext ν ν I ((x,dw us k)::I)/\Rep G.K ν ((x,dw us k)::I) (.ref x) (.tup vs):=by
 have key:∀p∈ν.zip Mu++I,p.1<x:=λp hp=>Nat.lt_of_lt_of_le (Heap.lt_size (S.N p hp).1) hx
 have cb:x∉ν:=λhm=>by
  obtain⟨i,hi,e⟩:=List.getElem_of_mem hm
  have h1:ν[i]?=some x:=by rw[List.getElem?_eq_getElem hi,e]
  have h2:Mu[i]?=some (Mu[i]'(S.len▸hi)):=List.getElem?_eq_getElem (S.len▸hi)
  exact Nat.lt_irrefl _ (key _ (List.mem_append_left _ (dU h1 h2)))
 refine ae (S.nP F' N' cb) λa b=>?_
 exact⟨a,b,.tup (.inl (.head _)) (rs.mono b)⟩
theorem H8(f:List V):∀n,rep1 f n=(List.replicate n f).flatten
 |0=>rfl
 |n+1=>by rw[rep1,List.replicate_succ,List.flatten_cons,H8 f n]
theorem ag.rep{K:Frag}{us:List Value}{vs:List V}(r:ag K ν I us vs):∀n,ag K ν I (List.replicate n us).flatten (rep1 vs n)
 |0=>by simp[rep1];exact .nil
 |n+1=>by rw[List.replicate_succ,List.flatten_cons,rep1];exact r.append (ag.rep r n)
theorem BS(ok:c.Ok G n)(S:St G c s.heap m ν Mu I H){op:Operator}{lit:Bool}{u w:Value}{a b:V}{r:Rs V}(ra:Rep G.K ν I u a)(rb:Rep G.K ν I w b)(hv:binop H op lit a b=some r):
  iS G c m ν Mu I s (binaryOp op u w) r:=by
 have fin:∀(Q:Value->Shared->Prop) (E:Value->Shared->Prop) (v:V) (u:Value) (tk:Tok),Rep G.K ν I u v->d5 G c m ν I s Q E (.ok v H)->Q u {s with toks:=tk}:=λQ E v u tk r post=>post s.heap tk ν Mu I _ (Ext.refl _ _) S r
 refine ado hv ?_ ?_ ?_ ?_ ?_ ?_
 ·clear hv;intro ay hv;subst ay
  refine ade hv ?_ ?_ ?_ ?_
  ·clear hv;intro _ _ ay jS hv;subst jS
   obtain rfl:=ai hv
   refine ra.cA ay λy1=>?_;refine rb.cA rfl λy1=>?_
   exact λQ E post=>add_int (fin Q E _ _ _ (.int _ _) post)
  ·clear hv;intro _ _ ay jS hv;subst jS
   refine ix hv ?_;clear hv;intro q hv
   refine aJ q λq1 q2=>?_
   obtain rfl:=ai hv
   refine ra.m9 ay λy1=>?_;refine rb.m9 rfl λy1=>?_
   refine λQ E post=>add_str (λt' tk=>fin Q E _ _ _ (.str _ _) post) ?_
   have h1:=bN q1
   have h2:=bN q2
   rw[sizeLine_eq]
   rw[Array.length_toList] at h1 h2
   unfold Str.length
   exact F0 rfl rfl ‹_› ‹_› (by decide)
  ·clear hv;intro _ _ ay jS hv
   refine ix hv ?_;clear hv;intro q hv
   refine aJ q λq1 q2=>?_
   obtain rfl:=ai hv
   refine ra.gc ay λt xs k hi rs=>?_
   refine rb.gc jS λt' ys k' MV yH=>?_
   intro Q E post
   have l1:=Rep.length rs
   have l2:=Rep.length yH
   refine add_tuples S.F S.N ⟨_,S.im ok.X.X hi,rfl,_,rfl⟩ ⟨_,S.im ok.X.X MV,rfl,_,rfl⟩ (λe=>?_) (λζ e=>?_) (λζ ζ h' F' N'=>?_) ?_
   ·subst e
    obtain rfl:=ag.Lx rs
    exact fin Q E _ _ s.toks (.tup MV yH) post
   ·subst e
    obtain rfl:=ag.Lx yH
    simp only[List.append_nil] at post
    exact fin Q E _ _ s.toks (.tup hi rs) post
   ·refine cZ (S.vS F' N' (Nat.le_refl _) (rs.append yH)) λS' e r=>?_
    exact post h' s.toks _ _ _ _ e S' r
   ·have h1:=bN q1
    have h2:=bN q2
    rw[sizeLine_eq];exact F0 ‹_› ‹_› ‹_› ‹_› (by decide)
  ·clear hv;intro _ _ ay jS hv
   refine adn hv ?_;clear hv;intro xs ys hx hy hv
   refine ix hv ?_;clear hv;intro q hv
   refine aJ q λq1 q2=>?_
   obtain rfl:=ai hv
   refine ra.ba ay λy1 hi=>?_
   refine rb.ba jS λy1 hj=>?_
   refine S.ba hi hx λo1 y1 y2 kC r1=>?_
   refine S.ba hj hy λo2 y1 y2 nI r2=>?_
   refine cz r1.ju λus k aU rs=>?_;subst aU
   refine cz r2.ju λus' k' aU yH=>?_;subst aU
   intro Q E post
   have l1:=Rep.length rs
   have l2:=Rep.length yH
   have h1:=bN q1
   have h2:=bN q2
   refine add_arrays S.F S.N ⟨_,kC,rfl,_,rfl⟩ ⟨_,nI,rfl,_,rfl⟩ (λh' F' N'=>?_) (by rw[List.size_toArray,List.size_toArray,sizeLine_eq];exact F0 ‹_› ‹_› ‹_› ‹_› (by decide))
   have ro:az G (ν++[s.heap.objs.size]) I (bI (us.toArray.toList++us'.toArray.toList) 0) (.list (xs++ys)):=.list ((rs.append yH).grow ⟨_,rfl⟩ λζ h=>h)
   refine cZ (S.newObj F' N' (Nat.le_refl _) ro) λS' e D3=>?_
   exact post h' s.toks _ _ _ _ e S' (.obj D3)
 ·clear hv;intro ay hv;subst ay
  refine Cy hv ?_;clear hv;intro _ _ ay jS hv;subst jS
  obtain rfl:=ai hv
  refine ra.cA ay λy1=>?_;refine rb.cA rfl λy1=>?_
  exact λQ E post=>sub_int (fin Q E _ _ _ (.int _ _) post)
 ·clear hv;intro ay hv;subst ay
  refine acU hv ?_ ?_
  ·clear hv;intro _ _ ay jS hv;subst jS
   refine ix hv ?_;clear hv;intro q hv
   obtain rfl:=ai hv
   refine ra.cA ay λy1=>?_;refine rb.cA rfl λy1=>?_
   refine λQ E post=>mul_int (fin Q E _ _ _ (.int _ _) post) ?_
   induction lit with
   |true=>
    have:=ig (show eC _=true from q)
    exact IntMulOk.of_right (intBits_le_64 (by exact Vd ‹_/\_›.1) (by exact Tz ‹_/\_›.2))
   |false=>
    have:=ig (show eC _=true from q)
    exact IntMulOk.of_left (intBits_le_64 (by exact Vd ‹_/\_›.1) (by exact Tz ‹_/\_›.2))
  ·clear hv;intro i k ay jS hv
   refine pf hv ?_;clear hv;intro xs hx hv
   refine ix hv ?_;clear hv;intro q hv
   refine aJ q λq1 q2=>?_
   obtain rfl:=ai hv
   refine ra.ba ay λy1 hi=>?_
   refine rb.cA jS λt=>?_
   refine S.fG hi hx λus k' y1 kC rs=>?_
   intro Q E post
   have l1:=Rep.length rs
   have h1:xs.length*k<=256:=Nat.le_of_ble_eq_true q1
   have h2:k<=256:=Nat.le_of_ble_eq_true q2
   have ek:(Int.ofNat k).toNat=k:=rfl
   refine KMa.mul S.F S.N ⟨_,kC,rfl,_,rfl⟩ (by show-(2^63:Int)<=(k:Int);exact Int.ofNat_nonneg _) (by show(k:Int)<2^63;exact UG ‹_› ‹_›) (by rw[ek,l1];exact h1) rfl λD h' F' N' lo=>?_
   have ro:az G (ν++[D]) I (bI (List.replicate k us).flatten 0) (.list (rep1 xs k)):=.list ((rs.rep k).grow ⟨_,rfl⟩ λζ h=>h)
   refine bH (S.obj hi hx) λo' qk hm' y1=>?_
   refine cZ (S.iV F' N' lo (Nat.lt_trans (S.low _ (List.mem_of_getElem? hi)) (lo _ hm')) ro) λS' e D3=>?_
   exact post h' s.toks _ _ _ _ e S' (.obj D3)
 ·clear hv;intro ay hv;subst ay
  refine NU hv ?_;clear hv;intro _ _ ay jS hv;subst jS
  refine ix hv ?_;clear hv;intro q hv
  have q:=Nat.le_of_ble_eq_true q
  obtain rfl:=ai hv
  refine ra.cA ay λy1=>?_;refine rb.cA rfl λy1=>?_
  exact λQ E post=>mod_int (by intro e;(first|exact no e|exact nf e|subst e|refine VM e ?_|cases e);omega) (fin Q E _ _ _ (.int _ _) post)
 ·clear hv;intro ay hv;subst ay
  refine NU hv ?_;clear hv;intro _ _ ay jS hv;subst jS
  refine ix hv ?_;clear hv;intro q hv
  refine aJ q λq1 q2=>?_
  have q1:=Nat.le_of_ble_eq_true q1
  have q2:=Nat.le_of_ble_eq_true q2
  obtain rfl:=ai hv
  refine ra.cA ay λy1=>?_;refine rb.cA rfl λy1=>?_
  exact λQ E post=>floordiv_int (by intro e;(first|exact no e|exact nf e|subst e|refine VM e ?_|cases e);omega) (fin Q E _ _ _ (.int _ _) post) (.inl (PyProof.noPylong_small (by simp;assumption)))
 ·clear hv;intro ay hv;subst ay
  refine NU hv ?_;clear hv;intro _ _ ay jS hv;subst jS
  refine ix hv ?_;clear hv;intro q hv
  refine aJ q λq1 q2=>?_
  have q1:=ig q1
  have q2:=Nat.le_of_ble_eq_true q2
  first|exact no hv|exact nf hv|subst hv|refine VM hv ?_
  refine ra.cA ay λy1=>?_;refine rb.cA rfl λy1=>?_
  exact λQ E post=>pow_int_small (Int.natCast_nonneg _) (by simp;exact abi ‹_›) (by exact acB ‹_/\_›.1 ‹_/\_›.2) (fin Q E _ _ _ (.int _ _) post)
theorem C7{op:Operator}{lit:Bool}{a b:Expr}{pos:Pos}{r:Rs V}{ia ib:List Ob->aM V}(h1:∀r,ia H=some r->dA G n sc a ρ H r)(h2:∀H₁ r,ib H₁=some r->dA G n sc b ρ H₁ r)
  (h:(andThen (ia H) λx H=>andThen (ib H) λy H=>binop H op lit x y)=some r):dA G n sc (.BinOp a op b pos) ρ H r:=by
 rintro c s m ν Mu I ok au S l Q E post
 refine wpAny_BinOp (dF h h1 c s m ν Mu I Q E ok au S l post _ λv H₁ hf h' ak aa aw I' u x S' ru=>?_)
 refine dF hf (h2 H₁) c {s with heap:=h',toks:=ak} m aa aw I' Q E ok (au.mono x) S' (l.mono x) (d5.mono x post) _ λk aQ hf bw bY aV cF dk uk x' d7 rk=>?_
 exact BS (s:={s with heap:=bw,toks:=bY}) ok d7 (ru.mono x') rk hf Q E (d5.mono (s:=s) (x.trans x') post)
theorem N6{op:UnaryOp}{a:Expr}{pos:Pos}{r:Rs V}{ia:List Ob->aM V}(h1:∀r,ia H=some r->dA G n sc a ρ H r)
  (h:(match op with
   |.USub=>andThen (ia H) λv H=>match v with
    |.int i=>bV (.int (-i)) H
    |_=>none
   |_=>none)=some r):dA G n sc (.UnaryOp op a pos) ρ H r:=by
 rintro c s m ν Mu I ok au S l Q E post
 refine ac6 h ?_;clear h;intro ay h;subst ay
 refine UnaryOp_ (dF h h1 c s m ν Mu I Q E ok au S l post _ λv H₁ hf h' ak aa aw I' u x S' ru=>?_)
 refine DX hf ?_;clear hf;intro _ ay hf
 first|exact no hf|exact nf hf|subst hf|refine VM hf ?_|obtain rfl:=ai hf
 refine ru.cA ay λy1=>?_
 exact neg_int (s:={s with heap:=h',toks:=ak}) (post h' _ aa aw I' _ x S' (.int _ _))
theorem mM(ok:c.Ok G n)(S:St G c s.heap m ν Mu I H){i:Nat}{a:Addr}{u:Value}{xs:List V}{v:V}(hi:ν[i]?=some a)(hx:cJ H i=some (.list xs))(hz:short xs=true)(rv:Rep G.K ν I u v):
  iS G c m ν Mu I s (call (.builtin "list.append") [.ref a,u]) (.ok .none (dq H i (.list (xs++[v])))):=by
 refine S.fG hi hx λus k qP ho rs=>?_
 intro Q E post
 have h1:=bN hz
 have l1:=Rep.length rs
 have e:us.toArray.push u=(us++[u]).toArray:=by simp
 refine append_K (its:=us.toArray) (n:=k) S.F S.N (S.upd hi qP (S.apart hi hx rfl) (bI (us++[u]) (k+1))|>λx=>by rw[e];exact x) (λh' F' N'=>?_) (by rw[List.size_toArray,l1,sizeLine_eq];exact XH ‹_›)
 exact post h' s.toks ν _ I .none (Ext.refl _ _) (S.set hi (S.apart hi hx rfl) F' N' (.list (rs.append (.cons rv .nil)))) .none
theorem uS{h₀ h:Heap}{L d:Addr}{m:Str->Option Value}{news news':Led}{o o':Obj}{f:Obj->Obj}(F:Fr h₀ L h m)(N:News h₀ L h news)(U:Upd d o o' news news')(e:f o=o')(hf:o'.isFreed=false):
  Fr h₀ L (h.update d f) m/\News h₀ L (h.update d f) news':=by
 refine gr U.split λpre post aU fH a b=>?_;subst aU;subst fH
 exact news_upd F N a b e hf
theorem rU(ok:c.Ok G n)(S:St G c s.heap m ν Mu I H){i:Nat}{a b:Addr}{xs ys:List V}{us:List Value}{k:Nat}{cl:String}(hi:ν[i]?=some a)(hx:cJ H i=some (.list xs))(hz:short xs=true)(Qz:short ys=true)
  (hb:s.heap.get? b=some {cls:=.type cl,data:=.seq us.toArray k}) (hc:cl= "list" ∨cl= "tuple") (yH:ag G.K ν I us ys):
  iS G c m ν Mu I s (call (.builtin "list.extend") [.ref a,.ref b]) (.ok .none (dq H i (.list (xs++ys)))):=by
 refine S.fG hi hx λws k' qP ho rs=>?_
 intro Q E post
 have h1:=bN hz
 have h2:=bN Qz
 have l1:=Rep.length rs
 have l2:=Rep.length yH
 have e:Obj.mapSeq (λx=>x++us.toArray) (bI ws k')=bI (ws++us) (if(ws++us).length=ws.length then k' else k'+1):=by
  simp[Obj.mapSeq,bI]
 refine ae (uS S.F S.N (S.upd hi qP (S.apart hi hx rfl) (bI (ws++us) (if(ws++us).length=ws.length then k' else k'+1))) e rfl) λF' N'=>?_
 have fin:=post _ s.toks ν _ I .none (Ext.refl _ _) (S.set hi (S.apart hi hx rfl) F' N' (.list (rs.append yH))) .none
 have hd:¬(!ws.toArray.isEmpty&&Builtin.List.listTooLong (ws.toArray.size+us.toArray.size))=true:=by
  have:Builtin.List.listTooLong (ws.toArray.size+us.toArray.size)=false:=by
   rw[List.size_toArray,List.size_toArray]
   first|exact decide_eq_false (by rw[sizeLine_eq];omega)|(simp;omega)
  rw[this];simp
 have hs1:ws.toArray.size<=sizeLine:=by rw[List.size_toArray,sizeLine_eq];exact zX ‹_› ‹_›
 have Rg:ws.toArray.size+us.toArray.size<=sizeLine+1:=by rw[List.size_toArray,List.size_toArray,sizeLine_eq];exact F0 ‹_› ‹_› ‹_› ‹_› (by decide)
 rcases hc with rfl|rfl
 ·exact call_meets PySem.F.slot_list_extend ⟨_,ho,rfl⟩ PySem.F.entry_list_extend (PySem.F.args_list_extend_2 _ _) (PySem.AutoSeq1.list_extend_list_list_0 a ws.toArray k' b us.toArray k hd hs1 Rg) ⟨ho,hb,fin⟩
 ·exact call_meets PySem.F.slot_list_extend ⟨_,ho,rfl⟩ PySem.F.entry_list_extend (PySem.F.args_list_extend_2 _ _) (PySem.AutoSeq1.list_extend_list_tuple_0 a ws.toArray k' b us.toArray k hd hs1 Rg) ⟨ho,hb,fin⟩
theorem wc(ok:c.Ok G n)(S:St G c s.heap m ν Mu I H){i:Nat}{a:Addr}{xs:List V}{x:Str}{vs:List V}{us:List Value}{r:Rs V}(hi:ν[i]?=some a)(hx:cJ H i=some (.list xs))(rs:ag G.K ν I us vs)
  (hv:sM H i xs x vs=some r):iS G c m ν Mu I s (call (.builtin (if du x "append" then "list.append" else "list.extend")) (.ref a::us)) r:=by
 refine gB hv ?_;clear hv;intro hz hv
 refine pC hv ?_ ?_
 ·clear hv;intro hq hv
  rw[hq]
  refine VN hv ?_;clear hv;intro _ ay hv;subst ay
  obtain rfl:=ai hv
  refine ag.dj rs rfl λy1 y2 ru rs=>?_
  refine ag.rL rs rfl ?_;exact mM ok S hi hx hz ru
 ·clear hv;intro hq hv
  rw[hq]
  refine ix hv ?_;clear hv;intro _ hv
  refine abz hv ?_ ?_
  ·clear hv;intro _ ay hv;subst ay
   refine ix hv ?_;clear hv;intro Qz hv
   obtain rfl:=ai hv
   refine ag.dj rs rfl λy1 y2 ru rs=>?_
   refine ag.rL rs rfl ?_
   refine ru.gc rfl λy1 y2 y3 hI yH=>?_
   exact rU ok S hi hx hz Qz (S.im ok.X.X hI) (.inr rfl) yH
  ·clear hv;intro j ay hv;subst ay
   refine pf hv ?_;clear hv;intro ys hy hv
   refine ab6 hv ?_;clear hv;intro _ hv
   refine ix hv ?_;clear hv;intro Qz hv
   obtain rfl:=ai hv
   refine ag.dj rs rfl λy1 y2 ru rs=>?_
   refine ag.rL rs rfl ?_
   refine ru.ba rfl λy1 hj=>?_
   refine S.fG hj hy λy1 y2 y3 ho yH=>?_
   exact rU ok S hi hx hz Qz ho (.inl rfl) yH
end
section
section
variable{prog:Program}{w:World}{A:Around}{E:Value->Shared->Prop}{s:Shared}
theorem vq(b n:Nat):Builtin.Slice.sliceAdjust none (some (b:Int)) 1 (n:Int)=(0,((min b n:Nat):Int)):=by
 unfold Builtin.Slice.sliceAdjust
 have h1:¬((1:Int)<0):=by decide
 have h2:¬((b:Int)<0):=by omega
 simp only[h1,h2,if_false]
 congr 1
 omega
theorem vw(b n:Nat):Builtin.Slice.slicePlaces 0 ((min b n:Nat):Int) 1=min b n:=by
 unfold Builtin.Slice.slicePlaces
 have h1:(1:Int)>0:=by exact Int.ofNat_nonneg _
 simp only[h1,if_true,Int.ediv_one]
 split<;>omega
theorem lE{sl:Addr}{b n:Nat}{u:Tok}{Q:Int×Int×Nat->Shared->Prop}(hs:s.heap.IsSliceOf sl .none (.int b u) .none)(h:Q (0,1,min b n) s):
  wpAny (model prog w) A (Builtin.Slice.sliceApplied (.ref sl) (pure (n:Int))) Q E s:=by
 refine bH (id hs) λos YR hcs hds=>?_
 unfold Builtin.Slice.sliceApplied Builtin.Slice.sliceFields
 refine wpAny_bind (wpAny_bind (wpAny_field YR hds (x:=.none) rfl (wpAny_bind (wpAny_field YR hds (x:=.int b u) rfl (wpAny_bind (wpAny_field YR hds (x:=.none) rfl (wpAny_pure ?_)))))))
 refine wpAny_bind (slicePart_none ?_)
 show wpAny _ _ (if((1:Int)==0)=true then _ else _) _ _ s
 rw[if_neg (by decide)]
 refine wpAny_bind (slicePart_none (wpAny_bind (slicePart_int (wpAny_bind (wpAny_pure ?_)))))
 show wpAny _ _ (match Builtin.Slice.sliceAdjust none (some (b:Int)) 1 (n:Int) with|(lo,hi)=>pure (lo,(1:Int),Builtin.Slice.slicePlaces lo hi 1)) _ _ s
 rw[vq b n]
 show wpAny _ _ (pure ((0:Int),(1:Int),Builtin.Slice.slicePlaces 0 ((min b n:Nat):Int) 1)) _ _ s
 rw[vw b n]
 exact wpAny_pure h
theorem Ah(xs:Array Value)(k:Nat):((List.range k).filterMap λ(i:Nat)=>xs[((0:Int)+(i:Int)*1).toNat]?).toArray=(xs.toList.take k).toArray:=by
 have e:(λ(i:Nat)=>xs[((0:Int)+(i:Int)*1).toNat]?)=(λx=>xs[x]?)∘(0+ ·):=by
  funext i
  have:((0:Int)+(i:Int)*1).toNat=0+i:=by exact Nat.add_comm _ _
  show xs[((0:Int)+(i:Int)*1).toNat]?=xs[0+i]?
  rw[this]
 rw[e,←List.filterMap_map,pick_run xs 0 k,List.drop_zero]
theorem kT{t sl:Addr}{items:Array Value}{b:Nat}{u:Tok}{Q:Value->Shared->Prop}(ht:IsTup s.heap t items)(hs:s.heap.IsSliceOf sl .none (.int b u) .none)
  (h0:items.size<=b->Q (.ref t) s) (h:b<items.size->Q (.ref s.heap.objs.size) {s with heap:=s.heap.push {cls:=.type "tuple",data:=.seq (items.toList.take b).toArray}})
  (yI:items.size<=sizeLine):wpAny (model prog w) A (getItem (.ref t) (.ref sl)) Q E s:=by
 have vy:sizeOk (.seq (items.toList.take (min b items.size)).toArray):=by
  show(items.toList.take (min b items.size)).toArray.size<=sizeLine
  rw[List.size_toArray,List.length_take,Array.length_toList]
  omega
 refine bH (id hs) λos YR hcs hds=>?_
 have hTs:s.TypeIs (.ref sl) "slice" :=⟨os,YR,hcs⟩
 unfold getItem
 try with_reducible refine wpAny_holding ?_
 first|refine wpAny_bind (wpAny_pure ?_)|skip
 refine wpAny_bind (wpAny_sequenceKey ht.typeIs (by decide) ?_)
 refine wpAny_bind (wpAny_callSpecial?_slot (name:=Str.ofString "__getitem__") ht.typeIs slot_tuple_getitem
  (wpAny_call_entry slot_tuple_getitem ht.typeIs entry_tuple_getitem ?_ (args_tuple_getitem _ _)))
 show wpAny _ _ (Builtin.Tuple.tupleItemsOf (.ref t)>>=_) _ _ s
 refine wpAny_bind (tupleItemsOf_ ht ?_)
 refine wpAny_bind (wpAny_typeOf hTs ?_)
 rw[if_pos (by decide)]
 refine wpAny_bind (lE hs ?_)
 show wpAny _ _ (if((0:Int)==0&&(1:Int)==1&&(min b items.size)==items.size)=true then _ else _) _ _ s
 by_cases hb:items.size<=b
 ·have aea:((0:Int)==0&&(1:Int)==1&&(min b items.size)==items.size)=true:=by
   rw[Nat.min_eq_right hb];simp
  rw[if_pos aea]
  refine wpAny_bind (m:=Builtin.Tuple.tupleIsExact _) ?_
  unfold Builtin.Tuple.tupleIsExact
  refine wpAny_bind (wpAny_typeOf ht.typeIs ?_)
  refine wpAny_pure ?_
  rw[if_pos (by decide)]
  exact wpAny_bind (wpAny_rule (wpAny_pure ⟨_,rfl,wpAny_pure (h0 hb)⟩))
 ·have hno:¬(((0:Int)==0&&(1:Int)==1&&(min b items.size)==items.size)=true):=by
   rw[Nat.min_eq_left (by exact X8 ‹_›)]
   simp
   omega
  have e:min b items.size=b:=Nat.min_eq_left (by exact X8 ‹_›)
  rw[if_neg hno,Ah items]
  rw[e] at vy ⊢
  have h:=h (by exact Nat.lt_of_not_le ‹_›)
  first
   |exact wpAny_bind (m:=Builtin.Tuple.tupleExact _) (wpAny_newObj_type (wpAny_pure ⟨_,rfl,wpAny_pure h⟩) vy)
   |exact wpAny_bind (m:=Builtin.Tuple.tupleExact _) (wpAny_newObj_type (wpAny_bind (wpAny_pure (wpAny_pure ⟨_,rfl,wpAny_pure h⟩))) vy)
   |exact wpAny_bind (wpAny_bind (m:=Builtin.Tuple.tupleExact _) (wpAny_newObj_type (wpAny_pure (wpAny_pure ⟨_,rfl,wpAny_pure h⟩)) vy))
   |exact wpAny_bind (wpAny_bind (m:=Builtin.Tuple.tupleExact _) (wpAny_newObj_type (wpAny_pure ⟨_,rfl,wpAny_pure h⟩) vy))
end
variable{G:Gc}{c:Fc}{s:Shared}{h h':Heap}{m m':Str->Option Value}{ν:List Addr}{Mu:List Obj}{I:Led}{ρ:ah}{H H':List Ob}{n:Nat}{sc:Sc}
theorem part_of{o:Option Expr}{k:Option Int}{env:Env}{A:Around}{Q:Value->Shared->Prop}{E:Value->Shared->Prop}{M:Model}(h:litE o=some k)(hq:∀v tk,IsPart v k->Q v {s with toks:=tk}):wpAny M A (evalPart o env) Q E s:=by
 refine abN h ?_ ?_
 ·clear h;intro ay h;subst ay
  obtain rfl:=ai h
  exact wpAny_pure (hq .none s.toks .none)
 ·clear h;intro _ _ _ ay h;subst ay
  obtain rfl:=ai h
  rw[evalPart_some]
  refine wpAny_eval_const rfl λv tk hv=>?_
  refine bF hv ?_;clear hv;intro t aU;subst aU
  exact hq _ tk (.int _ _)
theorem Kf{u:Value}{i:Int}(h:IsPart u (some i)):∃t,u=.int i t:=by cases h;exact⟨_,rfl⟩
set_option tactic.hygienic true in
theorem Cz(ok:c.Ok G n)(S:St G c s.heap m ν Mu I H){value lower upper:_}{p:Pos}{u vl vu:Value}{a:V}{lo hi:Option Int}{r:Rs V}(ra:Rep G.K ν I u a)(pl:IsPart vl lo)(pu:IsPart vu hi)(hv:vU H a lo hi=some r):
  ∀Q E,d5 G c m ν I s Q E r->wpAny G.M c.A (subscriptTail value (.Slice lower upper none p) u (.ref s.heap.objs.size)) Q E {s with heap:=s.heap.push {cls:=.type "slice",data:=.fields #[vl,vu,.none]}}:=by
 intro Q E post
 have hs:∀x,subscripted (.Slice lower upper none p) false (.ref x) (.ref s.heap.objs.size)=operate [.ref s.heap.objs.size,.ref x] (getItem (.ref x) (.ref s.heap.objs.size)):=λζ=>rfl
 have kg:∀b o,s.heap.get? b=some o->(s.heap.push {cls:=.type "slice",data:=.fields #[vl,vu,.none]}).get? b=some o:=λζ ζ e=>Heap.get?_push_of_some _ e
 refine Fo hv ?_ ?_
 ·clear hv;intro _ ay hv
  refine gB hv ?_;clear hv;intro hz hv
  have h1:=bN hz
  refine ra.gc ay λt xs k hI rs=>?_
  have l1:=Rep.length rs
  have ht:IsTup s.heap t xs.toArray:=⟨_,S.im ok.X.X hI,rfl,_,rfl⟩
  refine abM hv ?_ ?_
  ·clear hv;intro ay hv;subst ay
   refine V3 hv ?_;clear hv;intro b ay hv;subst ay
   obtain rfl:=ai hv
   cases pl
   refine bF (Kf pu) λtk aU=>?_;subst aU
   have YS:=IsTup.keeps ht kg
   refine tail_any (s:={s with heap:=s.heap.push {cls:=.type "slice",data:=.fields #[.none,.int (Int.ofNat b) tk,.none]}}) YS.typeIs slot_tuple_getitem.lookup ?_ (hs t)
   refine kT (items:=xs.toArray) (b:=b) YS (Heap.IsSliceOf.new ..) (λhle=>?_) (λkf=>?_) (by rw[List.size_toArray,sizeLine_eq];exact zX ‹_› ‹_›)
   ·rw[List.size_toArray] at hle
    have N':News c.h₀ c.L (s.heap.push {cls:=.type "slice",data:=.fields #[.none,.int (Int.ofNat b) tk,.none]}) (ν.zip Mu++I):=λp hp=>⟨kg _ _ (S.N p hp).1,(S.N p hp).2⟩
    have S':=S.frame (S.F.push _) N'
    refine post _ s.toks ν Mu I _ (Ext.refl _ _) S' ?_
    rw[List.take_of_length_le (by exact Vh ‹_› ‹_›)]
    exact .tup hI rs
   ·have N1:=News.push (S.F.push {cls:=.type "slice",data:=.fields #[.none,.int (Int.ofNat b) tk,.none]}) (S.N.grown kg) {cls:=.type "tuple",data:=.seq (xs.toArray.toList.take b).toArray}
    obtain⟨S',e,r⟩:=S.vS ((S.F.push _).push _) N1 (by rw[Heap.size_push];exact Nat.le_succ _) (rs.take b)
    exact post _ s.toks _ _ _ _ e S' r
  ·clear hv;intro _ ay hv;subst ay
   split at hv
   ·split at hv
    ·rename_i q
     refine aJ q λq1 q2=>?_
     obtain rfl:=ai hv
     cases pu
     refine bF (Kf pl) λtk aU=>?_;subst aU
     rename_i b _ _
     have nk:1<=b:=Nat.le_of_ble_eq_true q1
     have QA:=Nat.le_of_ble_eq_true q2
     have YS:=IsTup.keeps ht kg
     refine tail_any (s:={s with heap:=s.heap.push {cls:=.type "slice",data:=.fields #[.int (Int.ofNat b) tk,.none,.none]}}) YS.typeIs slot_tuple_getitem.lookup ?_ (hs t)
     refine getItem_tuple_from (items:=xs.toArray) (a:=b) YS (Heap.IsSliceOf.new ..) nk (by rw[List.size_toArray];exact adI ‹_› ‹_›) ?_ (by rw[List.size_toArray,sizeLine_eq];exact zX ‹_› ‹_›)
     have N1:=News.push (S.F.push {cls:=.type "slice",data:=.fields #[.int (Int.ofNat b) tk,.none,.none]}) (S.N.grown kg) {cls:=.type "tuple",data:=.seq (xs.toArray.toList.drop b).toArray}
     obtain⟨S',e,r⟩:=S.vS ((S.F.push _).push _) N1 (by rw[Heap.size_push];exact Nat.le_succ _) (rs.drop b)
     exact post _ s.toks _ _ _ _ e S' r
    ·exact no hv
   ·exact no hv
 ·clear hv;intro i ay hv
  refine pf hv ?_;clear hv;intro vs hx hv
  refine gB hv ?_;clear hv;intro hz hv
  have h1:=bN hz
  refine adx hv ?_;clear hv;intro ay hv;subst ay
  refine V3 hv ?_;clear hv;intro b ay hv;subst ay
  obtain rfl:=ai hv
  refine ra.ba ay λt hi=>?_
  refine S.fG hi hx λxs k y1 ho rs=>?_
  have l1:=Rep.length rs
  refine kba_turn (value':=.Name "_" ⟨0,0,0,0⟩) (λζ=>rfl) ?_
  refine slice_listK (items:=xs.toArray) ⟨_,ho,rfl,_,rfl⟩ pl pu ?_ (hs t) (λr=>rfl) (by rw[List.size_toArray,sizeLine_eq];exact zX ‹_› ‹_›)
  ·rw[show slicePick xs.toArray none (some (Int.ofNat b)) none=(xs.toArray.toList.take b).toArray from slicePick_upto' _ _]
   have N1:=News.push (S.F.push {cls:=.type "slice",data:=.fields #[vl,vu,.none]}) (S.N.grown kg) {cls:=.type "list",data:=.seq (xs.toArray.toList.take b).toArray}
   have ro:az G (ν++[(s.heap.push {cls:=.type "slice",data:=.fields #[vl,vu,.none]}).objs.size]) I (bI (xs.toArray.toList.take b) 0) (.list (vs.take b)):=.list ((rs.take b).grow ⟨_,rfl⟩ λζ h=>h)
   obtain⟨S',e,D3⟩:=S.newObj ((S.F.push _).push _) N1 (by rw[Heap.size_push];exact Nat.le_succ _) ro
   have:=post _ s.toks _ _ _ _ e S' (.obj D3)
   rw[Heap.size_push] at this
   exact this
theorem Dp{e:Expr}{lo hi:Option Expr}{p pos:Pos}{r:Rs V}{ie:List Ob->aM V}(h1:∀r,ie H=some r->dA G n sc e ρ H r)
  (h:(andThen (ie H) λv H=>bE (litE lo) λlo=>bE (litE hi) λhi=>vU H v lo hi)=some r):dA G n sc (.Subscript e (.Slice lo hi none p) pos) ρ H r:=by
 rintro c s m ν Mu I ok au S l Q E post
 refine Subscript_ (dF h h1 c s m ν Mu I Q E ok au S l post _ λv H₁ hf h' ak aa aw I' u x S' ru=>?_)
 refine cP hf ?_;clear hf;intro a ha hf
 refine cP hf ?_;clear hf;intro b hb hf
 refine wpAny_Slice (part_of ha λvl tk pl=>part_of hb λvu QB pu=>wpAny_pure ?_)
 exact Cz (s:={s with heap:=h',toks:=QB}) ok S' ru pl pu hf Q E (d5.mono (s:=s) x post)
theorem wJ(ok:c.Ok G n)(S:St G c s.heap m ν Mu I H){f:Value}{us:List Value}{vs:List V}{r:Rs V}(rs:ag G.K ν I us vs)(hv:tW H f vs=some r):iS G c m ν Mu I s (call f us) r:=by
 refine VN hv ?_;clear hv;intro v ay hv;subst ay
 refine ag.dj rs rfl λy1 y2 ru rs=>?_
 cases rs
 split at hv
 ·rename_i hB
  have ef:f=.builtin "len" :=(sj f).a hB
  subst ef
  refine Fo hv ?_ ?_
  ·clear hv;intro _ ay hv
   refine ix hv ?_;clear hv;intro hz hv
   obtain rfl:=ai hv
   have h1:=bN hz
   refine ru.gc ay λt xs k hI rs=>?_
   have l1:=Rep.length rs
   intro Q E post
   refine PyProof.Rows.len_tuple (items:=xs.toArray) ⟨_,S.im ok.X.X hI,rfl,_,rfl⟩ (by rw[List.size_toArray];exact VW ‹_› ‹_›) ?_
   rw[List.size_toArray,l1]
   exact post s.heap _ ν Mu I _ (Ext.refl _ _) S (.int _ _)
  ·clear hv;intro _ ay hv;subst ay
   refine adp hv ?_ ?_
   ·clear hv;intro _ hx hv
    refine ix hv ?_;clear hv;intro hz hv
    obtain rfl:=ai hv
    have h1:=bN hz
    refine ru.ba rfl λy1 hi=>?_
    refine S.fG hi hx λxs k y1 ho rs=>?_
    have l1:=Rep.length rs
    intro Q E post
    refine call_len_list (items:=xs.toArray) ⟨_,ho,rfl,_,rfl⟩ (by rw[List.size_toArray];exact VW ‹_› ‹_›) ?_
    rw[List.size_toArray,l1]
    exact post s.heap _ ν Mu I _ (Ext.refl _ _) S (.int _ _)
   ·clear hv;intro _ hx hv
    obtain rfl:=ai hv
    refine ru.ba rfl λy1 hi=>?_
    refine S.ba hi hx λo y1 y2 ho ro=>?_
    refine bP ro.nT λxs k aU rs h1=>?_;subst aU
    have l1:=Rep.length rs
    intro Q E post
    refine call_len_list (items:=xs.toArray) ⟨_,ho,rfl,_,rfl⟩ (by rw[List.size_toArray];exact UG ‹_› ‹_›) ?_
    rw[List.size_toArray,l1]
    exact post s.heap _ ν Mu I _ (Ext.refl _ _) S (.int _ _)
 ·rename_i hB
  have ef:f=.type "tuple" :=(sj f).b hB
  subst ef
  refine Fo hv ?_ ?_
  ·clear hv;intro _ ay hv
   obtain rfl:=ai hv
   refine ru.gc ay λy1 y2 y3 hI rs=>?_
   intro Q E post
   exact call_tuple_tup ⟨_,S.im ok.X.X hI,rfl,_,rfl⟩ (post s.heap s.toks ν Mu I _ (Ext.refl _ _) S (.tup hI rs))
  ·clear hv;intro _ ay hv
   refine pf hv ?_;clear hv;intro _ hx hv
   refine ix hv ?_;clear hv;intro hz hv
   obtain rfl:=ai hv
   have h1:=bN hz
   refine ru.ba ay λy1 hi=>?_
   refine S.fG hi hx λxs k y1 ho rs=>?_
   have l1:=Rep.length rs
   intro Q E post
   refine call_tuple_list (items:=xs.toArray) ⟨_,ho,rfl,_,rfl⟩ (λh' hk=>?_) (by rw[List.size_toArray,sizeLine_eq];exact zX ‹_› ‹_›)
   have F':=S.F.keeps hk
   have N':News c.h₀ c.L h' (ν.zip Mu++I):=λp hp=>⟨hk _ _ (S.N p hp).1,(S.N p hp).2⟩
   have jT:=S.frame F' N'
   refine ae (jT.nP (F'.push _) (N'.push F' {cls:=.type "tuple",data:=.seq xs.toArray}) jT.fresh.1) λS' e=>?_
   exact post _ s.toks _ _ _ _ e S' (.tup (n:=0) (.inl (.head _)) (rs.mono e))
 ·rename_i hB
  have ef:f=.type "list" :=(sj f).c hB
  subst ef
  refine YI hv ?_;clear hv;intro _ ay hv
  refine pf hv ?_;clear hv;intro _ hx hv
  refine ix hv ?_;clear hv;intro hz hv
  obtain rfl:=ai hv
  have h1:=bN hz
  refine ru.ba ay λy1 hi=>?_
  refine JQ (S.obj hi hx) λo qk hm' ho ro=>?_
  refine cz ro.ju λxs k aU rs=>?_;subst aU
  have l1:=Rep.length rs
  intro Q E post
  refine list_copyK (items:=xs.toArray) S.F S.N ⟨_,ho,rfl,_,rfl⟩ (λD cc h' F' N' lo=>?_) (by rw[List.size_toArray,sizeLine_eq];exact zX ‹_› ‹_›)
  have ro:az G (ν++[D]) I (bI xs cc) (.list _):=.list (rs.grow ⟨_,rfl⟩ λζ h=>h)
  refine cZ (S.iV F' N' lo (Nat.lt_trans (S.low _ (List.mem_of_getElem? hi)) (lo _ hm')) ro) λS' e D3=>?_
  exact post _ s.toks _ _ _ _ e S' (.obj D3)
 ·rename_i hB
  have ef:f=.type "int" :=(sj f).d hB
  subst ef
  refine DX hv ?_;clear hv;intro _ ay hv
  obtain rfl:=ai hv
  refine ru.cA ay λy1=>?_
  intro Q E post
  exact call_int_int (post s.heap s.toks ν Mu I _ (Ext.refl _ _) S (.int _ _))
 ·exact no hv
end
section
section
variable{M:Model}{A:Around}{E:Value->Shared->Prop}{s:Shared}{B:Heap}{env:Env}{outer l:List Env}{L e C d:Addr}{t:Option Value}{Q:Unit->Shared->Prop}
theorem rz{oe:Obj}{vs:Array Value}{head:Value}{had:Bool}(hfr:A.frames=some (env::outer))(hf:env.frame=some L)(hB:B.StaysIn s.heap)(ES:B.get? e=none)(hl:s.heap.FunFrames B (env::outer))
  (he:s.heap.get? e=some oe) (hc:oe.cls=.ref C) (A6:oe.dict=some d) (hd:oe.data=.fields vs) (yI:1<vs.size)
  (hQ:∀h',wN B (env::outer) e C d (some (rawInt L)) h'->s.heap.UpToSlots h'->Q () {s with heap:=h'}):
  wpAny M A (do let a←frameOf env;let pl←entryPlaceOf L had;let b←EntryCells.newEntry head a .none (rawInt L) .none pl;setField (.ref e) 1 b) Q E s:=by
 have aeb:e∉(env::outer).filterMap (·.frame):=λhm=>by
  obtain⟨_,o,ho,Jn⟩:=hl.mem hm
  rw[he] at ho;injection ho with ho;subst ho;exact Jn vs hd
 refine wpAny_bind (wpAny_frameOf_fun hfr hl hf λbg fK=>?_)
 refine wpAny_bind (wpAny_entryPlaceOf λpl hpl=>?_)
 unfold EntryCells.newEntry newFields
 refine wpAny_bind (wpAny_newObj_type ?_ (hpl.sizeOk5 _ _ _ _ _))
 have qa:bg.get? e=some oe:=(fK.2.1 e aeb).trans he
 have MW:B.StaysIn bg:=λb o ql=>(fK.2.1 b λhm=>by rw[(hl.mem hm).1] at ql;exact no ql).trans (hB b o ql)
 generalize htb:({cls:=.type "traceback",dict:=none,data:=.fields ([head,.ref L,.none,rawInt L,.none]++(if pl.isEmpty then List.replicate 6 Value.none else pl)).toArray}:Obj)=YT
 have otd:YT.data=.fields ([head,.ref L,.none,rawInt L,.none]++(if pl.isEmpty then List.replicate 6 Value.none else pl)).toArray:=by rw[←htb]
 have otf:YT.isFreed=false:=Obj.isFreed_of_fields otd
 have vz:=Heap.get?_push_of_some (h:=bg) YT qa
 refine wpAny_setField vz hd yI (hQ _ ?_ ?_)
 ·have Jo:bg.objs.size≠e:=Nat.ne_of_gt (Heap.lt_size qa)
  have MX:=Obj.data_mapFields hd (·.setIfInBounds 1 (Value.ref bg.objs.size))
  have vA:=Heap.get?_update_self (Obj.mapFields (·.setIfInBounds 1 (Value.ref bg.objs.size))) vz (Obj.isFreed_of_fields MX)
  have keep:∀b o,b≠e->bg.get? b=some o->((bg.push YT).update e (Obj.mapFields (·.setIfInBounds 1 (Value.ref bg.objs.size)))).get? b=some o:=λb o MY hb=>by
   rw[Heap.get?_update_other _ _ (Ne.symm MY)]
   exact Heap.get?_push_of_some _ hb
  refine⟨λb o ql=>keep b o (λq=>by rw[q,ES] at ql;exact no ql) (MW b o ql),ES,hl.of_keeps λb o hb Jn=>?_,?_⟩
  ·refine bF (fK.2.2 b o hb) λsl hs=>?_
   have MY:b≠e:=λq=>by rw[q,he] at hb;injection hb with hb;subst hb;exact Jn vs hd
   exact⟨_,keep b _ MY hs,rfl⟩
  ·refine⟨_,_,.ref bg.objs.size,vA,by rw[Obj.cls_mapFields];exact hc,?_,MX,by simp[yI],bg.objs.size,YT,_,rfl,MW.fresh,Jo,?_,otd,by first|simp|(rcases hpl with rfl|⟨_,_,_,_,_,_,_,rfl⟩<;>simp)⟩
   ·obtain⟨_,_,_,_⟩:=oe
    subst hd
    exact A6
   ·rw[Heap.get?_update_other _ _ (Ne.symm Jo)]
    exact Heap.get?_push_size bg otf
 ·intro b o hb Jn
  refine bF (fK.2.2 b o hb) λsl hs=>?_
  refine⟨sl,?_⟩
  have MY:b≠e:=λq=>by rw[q,he] at hb;injection hb with hb;subst hb;exact Jn vs hd
  rw[Heap.get?_update_other _ _ (Ne.symm MY)]
  exact Heap.get?_push_of_some _ hs
theorem jd{h:Heap}{T:Addr}{oT:Obj}{ts:Array Value}{f:Obj->Obj}(hT:h.get? T=some oT)(hd:oT.data=.fields ts):h.UpToSlots (h.update T f):=λb o hb hn=>by
 have:b≠T:=λq=>by rw[q,hT] at hb;injection hb with hb;subst hb;exact hn ts hd
 exact⟨o.slots,(Heap.get?_update_other _ _ (Ne.symm this)).trans hb⟩
theorem om(hfr:A.frames=some (env::outer))(hf:env.frame=some L)(a:wN B (env::outer) e C d t s.heap)(ht:o7 L t)
  (hQ:∀h',wN B (env::outer) e C d (some (rawInt L)) h'->s.heap.UpToSlots h'->Q () {s with heap:=h'}):wpAny M A (noteFrame (.ref e) env) Q E s:=by
 have aed:=a
 obtain⟨hB,ES,hl,oe,vs,v,he,hc,A6,hd,h1,hv⟩:=a
 have yI:1<vs.size:=(Array.getElem?_eq_some_iff.mp h1).1
 unfold noteFrame
 simp only[hf]
 refine wpAny_bind (wpAny_field he hd h1 ?_)
 rcases ht with rfl|rfl|rfl
 ·subst hv
  rw[if_neg (by decide)]
  exact rz hfr hf hB ES hl he hc A6 hd yI hQ
 ·refine LK hv ?_;clear hv;intro T oT ts aU Rh Jo hT AY h3;subst aU
  rw[if_pos (show(Value.ref T !=Value.none)=true from by simp)]
  refine wpAny_bind (wpAny_field hT AY h3 ?_)
  rw[if_neg (show¬((Value.none==rawInt L)=true) from by simp[rawInt])]
  refine wpAny_bind (wpAny_setField hT AY (Array.getElem?_eq_some_iff.mp h3).1 ?_)
  have other:∀b,b≠T->(s.heap.update T (Obj.mapFields (·.setIfInBounds 3 Value.none))).get? b=s.heap.get? b:=λb hb=>Heap.get?_update_other _ _ (Ne.symm hb)
  have U:=jd (f:=Obj.mapFields (·.setIfInBounds 3 Value.none)) hT AY
  refine rz (s:={s with heap:=s.heap.update T (Obj.mapFields (·.setIfInBounds 3 Value.none))}) hfr hf (λb o ql=>(other b λq=>by rw[q,Rh] at ql;exact no ql).trans (hB b o ql)) ES
   (hl.of_keeps λb o hb Jn=>?_) ((other e (Ne.symm Jo)).trans he) hc A6 hd yI λh' x y=>hQ h' x (U.trans y)
  have:b≠T:=λq=>by rw[q,hT] at hb;injection hb with hb;subst hb;exact Jn ts AY
  exact⟨o,(other b this).trans hb,rfl⟩
 ·refine LK hv ?_;clear hv;intro T oT ts aU Rh Jo hT AY h3;subst aU
  rw[if_pos (show(Value.ref T !=Value.none)=true from by simp)]
  refine wpAny_bind (wpAny_field hT AY h3 ?_)
  rw[if_pos (show(rawInt L==rawInt L)=true from by simp)]
  exact wpAny_pure (hQ s.heap aed (.refl _))
theorem iU{fl:Option Addr}{f:Value}(a:wN B l e C d (some f) s.heap)(hQ:∀h',wN B l e C d (some (fl.elim .none λx=>rawInt x)) h'->s.heap.UpToSlots h'->Q () {s with heap:=h'}):
  wpAny M A (setFlight (.ref e) fl) Q E s:=by
 obtain⟨hB,ES,hl,oe,vs,v,he,hc,A6,hd,h1,T,oT,ts,rfl,Rh,Jo,hT,AY,h3⟩:=a
 have YU:3<ts.size:=(Array.getElem?_eq_some_iff.mp h3).1
 unfold setFlight
 refine wpAny_bind (wpAny_field he hd h1 ?_)
 rw[if_pos (show(Value.ref T !=Value.none)=true from by simp)]
 have other:∀b,b≠T->(s.heap.update T (Obj.mapFields (·.setIfInBounds 3 (fl.elim Value.none λx=>rawInt x)))).get? b=s.heap.get? b:=λb hb=>Heap.get?_update_other _ _ (Ne.symm hb)
 refine wpAny_setField hT AY YU (hQ _ ?_ (jd hT AY))
 refine⟨λb o ql=>(other b λq=>by rw[q,Rh] at ql;exact no ql).trans (hB b o ql),ES,hl.of_keeps λb o hb Jn=>?_,oe,vs,_,(other e (Ne.symm Jo)).trans he,hc,A6,hd,h1,T,_,_,rfl,Rh,Jo,
  Heap.get?_update_self _ hT (Obj.isFreed_of_fields (Obj.data_mapFields AY _)),Obj.data_mapFields AY _,by simp[YU]⟩
 have:b≠T:=λq=>by rw[q,hT] at hb;injection hb with hb;subst hb;exact Jn ts AY
 exact⟨o,(other b this).trans hb,rfl⟩
theorem rI(hfr:A.frames=some (env::outer))(hf:env.frame=some L)(a:wN B (env::outer) e C d t s.heap)(ht:o7 L t)
  (hQ:∀h',wN B outer e C d (some .none) h'->s.heap.UpToSlots h'->Q () {s with heap:=h'}):wpAny M A («leaving» env (.ref e)) Q E s:=by
 unfold «leaving»
 refine wpAny_bind (om hfr hf a ht λbg QC QD=>?_)
 refine iU (s:={s with heap:=bg}) QC λbt Jp xm=>hQ bt ?_ (QD.trans xm)
 obtain⟨hB,ES,⟨_,_,hl⟩,r⟩:=Jp
 exact⟨hB,ES,hl,r⟩
end
variable{G:Gc}{c:Fc}{s:Shared}{h h':Heap}{m m':Str->Option Value}{ν:List Addr}{Mu:List Obj}{I:Led}{ρ:ah}{H H':List Ob}{n:Nat}{sc:Sc}
theorem nF.again{t t':Option Value}{e:Addr}{x:Ex}(f:nF G c t h ν Mu I H e x)(k:∀B d,wN B (c.dK::c.outer) e x.C d t h->wN B (c.dK::c.outer) e x.C d t' h')(u:h.UpToSlots h'):nF G c t' h' ν Mu I H e x:=by
 refine gr f.yG λB d a1 a2 a3 a4=>?_
 refine cz f.fr λgp m b1 b2=>?_
 exact{f with yG:=⟨B,d,a1,a2,a3,k B d a4⟩,fr:=⟨gp,m,b1,b2.trans u⟩}
end
section
variable{G:Gc}{c:Fc}{s:Shared}{h h':Heap}{m m':Str->Option Value}{ν:List Addr}{Mu:List Obj}{I:Led}{ρ:ah}{H H':List Ob}{n:Nat}{sc:Sc}
theorem d9:∀(l:List (Str×NameKind)) (n:Nat) (acc:List (Str×Addr)),(cellsFrom n l acc).map (·.1)=ax l (acc.map (·.1))
 |[],_,_=>rfl
 |(x,k)::r,n,acc=>by
  induction k<;>first|exact d9 r _ _|exact d9 r (n+1) ((x,n)::acc)
theorem gH:∀(l:List (Str×NameKind)) (n:Nat) (acc:List (Str×Addr)),(acc.map (·.2)).Nodup->(∀p∈acc,p.2<n)->((cellsFrom n l acc).map (·.2)).Nodup/\∀p∈cellsFrom n l acc,p∈acc∨n<=p.2:=by
 intro l_
 induction l_ with
 |nil=>
  intro _ _ h _
  exact⟨h,λp hp=>.inl hp⟩
 |cons p_ r ih=>
  obtain⟨x,k⟩:=p_
  intro n acc h hl
  unfold cellsFrom
  cases hk:(k==NameKind.cell) with
  |true=>
   simp only[if_true]
   obtain⟨a,b⟩:=ih (n+1) ((x,n)::acc) (by
    rw[List.map_cons,List.nodup_cons]
    refine⟨λhm=>?_,h⟩
    obtain⟨p,hp,e⟩:=List.mem_map.mp hm
    have q:=hl p hp
    have e':p.2=n:=e
    rw[e'] at q
    exact Nat.lt_irrefl _ q) (λp hp=>by
    rcases List.mem_cons.mp hp with rfl|hp
    ·exact Nat.lt_succ_self _
    ·exact Nat.lt_succ_of_lt (hl p hp))
   refine⟨a,λp hp=>?_⟩
   rcases b p hp with q|q
   ·rcases List.mem_cons.mp q with rfl|q
    ·exact .inr (Nat.le_refl _)
    ·exact .inl q
   ·exact .inr (Nat.le_of_succ_le q)
  |false=>
   simp only[Bool.false_eq_true,if_false]
   exact ih n acc h hl
theorem wC{x:Str}{i:Nat}:∀(cf:List (Str×Addr)) (n:Nat),bT x (cG n (cf.map (·.1)))=some i->∃a,cf.lookup x=some a/\n<=i/\(cf.map (·.2))[i-n]?=some a:=by
 intro l_
 induction l_ with
 |nil=>
  intro _ h
  simp[cG,bT] at h
 |cons p_ r ih=>
  obtain⟨y,a⟩:=p_
  intro n h
  rw[List.map_cons] at h
  unfold cG bT at h
  dsimp only at h
  rw[List.lookup_cons]
  cases q:du y x with
  |true=>
   rw[q] at h
   obtain rfl:=ai h
   have e:(x==y)=true:=by rw[aH.mp q];simp
   rw[e]
   exact⟨a,rfl,Nat.le_refl _,by simp⟩
  |false=>
   rw[q] at h
   have e:(x==y)=false:=by
    rw[beq_eq_false_iff_ne]
    rintro rfl
    rw[aH.mpr rfl] at q;cases q
   rw[e]
   refine bH (ih (n+1) h) λb h1 h2 h3=>?_
   refine⟨b,h1,by exact Mm ‹_›,?_⟩
   have:i-n=(i-(n+1))+1:=by exact WW ‹_›
   rw[this,List.map_cons,List.getElem?_cons_succ]
   exact h3
theorem gN:∀(l:List (Str×NameKind)) (acc:List Str) {x:Str},(x∈acc∨l.lookup x=some .cell)->x∈ax l acc:=by
 intro l_
 induction l_ with
 |nil=>
  intro acc x h
  rcases h with h|h
  ·exact h
  ·simp at h
 |cons p_ r ih=>
  obtain⟨y,k⟩:=p_
  intro acc x h
  rw[List.lookup_cons] at h
  cases e:(x==y) with
  |true=>
   rw[e] at h
   have e':x=y:=beq_iff_eq.mp e
   subst e'
   rcases h with h|h
   ·induction k<;>first|exact ih _ (.inl h)|exact ih _ (.inl (.tail _ h))
   ·obtain rfl:=ai h
    exact ih _ (.inl (.head _))
  |false=>
   rw[e] at h
   rcases h with h|h
   ·induction k<;>first|exact ih _ (.inl h)|exact ih _ (.inl (.tail _ h))
   ·induction k<;>exact ih _ (.inr h)
theorem dv{α:Type}{x:Str}:∀{l:List (Str×α)},x∈l.map (·.1)->(l.lookup x).isSome=true:=by
 intro l_
 induction l_ with
 |nil=>
  exact λh=>nomatch h
 |cons p_ r ih=>
  obtain⟨y,a⟩:=p_
  intro h
  rw[List.lookup_cons]
  cases e:(x==y) with
  |true=>rfl
  |false=>
   rw[List.map_cons] at h
   rcases List.mem_cons.mp h with h|h
   ·rw[h] at e;simp at e
   ·exact ih h
theorem rV{k:Str->Option NameKind}{x:Str}:∀(l:List (Str×Value)) (m:Str->Option Value),x∉l.map (·.1)->bindL k l m x=m x
 |[],_,_=>rfl
 |(y,v)::r,m,h=>by
  rw[List.map_cons,List.mem_cons] at h
  refine(rV r _ λq=>h (.inr q)).trans ?_
  by_cases q:k y=some .local
  ·rw[if_pos q];exact if_neg λe=>h (.inl e)
  ·rw[if_neg q]
theorem lB{k:Str->Option NameKind}{x:Str}{v:Value}:∀(l:List (Str×Value)) (m:Str->Option Value),(l.map (·.1)).Nodup->(x,v)∈l->k x=some .local->bindL k l m x=some v
 |(y,u)::r,m,h,hm,hk=>by
  rw[List.map_cons,List.nodup_cons] at h
  rcases List.mem_cons.mp hm with e|hm
  ·cases e
   refine(rV r _ h.1).trans ?_
   rw[if_pos hk]
   exact if_pos rfl
  ·exact lB r _ h.2 hm hk
theorem j0{k:Str->Option NameKind}{x:Str}:∀(l:List (Str×Value)) (m:Str->Option Value),x∉l.map (·.1)->bindC k l m x=m x:=by
 intro l_
 induction l_ with
 |nil=>
  intro _ _
  exact rfl
 |cons p_ r ih=>
  obtain⟨y,v⟩:=p_
  intro m h
  rw[List.map_cons,List.mem_cons] at h
  refine(ih _ λq=>h (.inr q)).trans ?_
  by_cases q:k y=some .local
  ·rw[if_pos q]
  ·rw[if_neg q];exact if_neg λe=>h (.inl e)
theorem lM{k:Str->Option NameKind}{x:Str}{v:Value}:∀(l:List (Str×Value)) (m:Str->Option Value),(l.map (·.1)).Nodup->(x,v)∈l->k x≠some .local->bindC k l m x=some v
 |(y,u)::r,m,h,hm,hk=>by
  rw[List.map_cons,List.nodup_cons] at h
  rcases List.mem_cons.mp hm with e|hm
  ·cases e
   refine(j0 r _ h.1).trans ?_
   rw[if_neg hk]
   exact if_pos rfl
  ·exact lM r _ h.2 hm hk
theorem jZ{K:Frag}{ν:List Addr}{I:Led}{x:Str}{v:V}{l:List (Str×Value)}{b:ah}(e:l.map (·.1)=b.map (·.1))(r:ag K ν I (l.map (·.2)) (b.map (·.2)))(h:bT x b=some v):∃u,(x,u)∈l/\Rep K ν I u v:=by
 induction l generalizing b with
 |nil=>
  induction b using List.casesOn with
  |nil=>exact no h
  |cons=>cases e
 |cons p l ih=>
  induction b using List.casesOn with
  |nil=>cases e
  |cons p' b=>
   refine ae (List.cons.inj e) λe1 e2=>?_
   refine ae (ag.O2 r) λr rs=>?_
   have h:(match du p'.1 x with|true=>some p'.2|false=>bT x b)=some v:=h
   cases q:du p'.1 x with
   |true=>
    rw[q] at h
    rw[ai h,←aH.mp q,←show p.1=p'.1 from e1]
    exact⟨_,.head _,r⟩
   |false=>
    rw[q] at h
    exact ab (ih e2 rs h) λu' h1 h2=>⟨u',.tail _ h1,h2⟩
theorem lL{α:Type}{x:Str}:∀{b:List (Str×α)},bT x b=none->x∉b.map (·.1):=by
 intro l_
 induction l_ with
 |nil=>
  intro _ h
  simp at h
 |cons p_ b ih=>
  obtain⟨y,v⟩:=p_
  intro e h
  rw[bU] at e
  cases q:du y x with
  |true=>rw[q] at e;cases e
  |false=>
   rw[q] at e
   rw[List.map_cons] at h
   rcases List.mem_cons.mp h with h|h
   ·rw[h,aH.mpr rfl] at q;cases q
   ·exact ih e h
theorem kZ{ns:List (Str×NameKind)}{x:Str}{v:V}:∀{b:ah},bT x (bu ns b)=some v->bT x b=some v/\bT x ns=some .local:=by
 intro l_
 induction l_ with
 |nil=>
  intro h
  exact no h
 |cons p_ b ih=>
  obtain⟨y,w⟩:=p_
  intro h
  rw[bU]
  by_cases q:bT y ns=some .local
  ·have h:bT x ((y,w)::bu ns b)=some v:=by
    rw[←h];show _=bT x (match bT y ns with|some .local=>(y,w)::bu ns b|_=>bu ns b)
    rw[q]
   rw[bU] at h
   cases e:du y x with
   |true=>rw[e] at h;obtain rfl:=ai h;exact⟨rfl,by rw[←aH.mp e];exact q⟩
   |false=>
    rw[e] at h
    exact ih h
  ·have h:bT x (bu ns b)=some v:=by
    change bT x (match bT y ns with|some .local=>(y,w)::bu ns b|_=>bu ns b)=some v at h
    generalize bT y ns=z at*
    induction z with
    |none=>exact h
    |some z=>induction z<;>first|exact h|exact absurd rfl q
   have ih:=ih h
   refine⟨?_,ih.2⟩
   cases e:du y x with
   |true=>rw[aH.mp e] at q;exact absurd ih.2 q
   |false=>exact ih.1
theorem St.many{G:Gc}{c:Fc}{h:Heap}{m:Str->Option Value}{I:Led}(cells:Led)(obs:List Ob){ν:List Addr}{Mu:List Obj}{H:List Ob}(S:St G c h m ν Mu I H)(hN:∀p∈cells,h.get? p.1=some p.2/\p.1≠c.L/\c.h₀.get? p.1=none)
  (nd:(cells.map (·.1)).Nodup) (hf:∀p∈cells,p.1∉ν/\(∀q∈I,q.1≠p.1)/\sysModules<p.1) (hr:∀(i:Nat) (p:Addr×Obj) (b:Ob),cells[i]?=some p->obs[i]?=some b->az G ν I p.2 b) (e:cells.length=obs.length):
  St G c h m (ν++cells.map (·.1)) (Mu++cells.map (·.2)) I (H++obs):=by
 induction cells generalizing obs ν Mu H with
 |nil=>
  rw[List.length_eq_zero_iff.mp e.symm,List.map_nil,List.map_nil,List.append_nil,List.append_nil,List.append_nil]
  exact S
 |cons p cells ih=>
  induction obs using List.casesOn with
  |nil=>cases e
  |cons b obs=>
   rw[List.map_cons,List.nodup_cons] at nd
   refine ae (S.new (x:=p.1) (o:=p.2) (b:=b) S.F (λq hq=>?_) (hf p (.head _)) ((hr 0 p b rfl rfl).grow ⟨[p.1],rfl⟩ λζ h=>h)) λS' x=>?_
   ·exact(List.mem_cons.mp hq).elim (λe=>e▸hN p (.head _)) (S.N q)
   have z:=ih obs S' (λq hq=>hN q (.tail _ hq)) nd.2 (λq hq=>⟨λhm=>?_,(hf q (.tail _ hq)).2⟩) (λi q b' h1 h2=>(hr (i+1) q b' h1 h2).mono x) (Nat.succ.inj e)
   ·rw[List.append_assoc,List.append_assoc,List.append_assoc] at z
    exact z
   ·rcases List.mem_append.mp hm with hm|hm
    ·exact(hf q (.tail _ hq)).1 hm
    ·exact nd.1 (List.mem_singleton.mp hm▸List.mem_map_of_mem hq)
theorem mB{cm:Str->Option Value}{cf:List (Str×Addr)}{cells:Led}(R:CellsAre cm cf cells):cells.map (·.1)=cf.map (·.2)/\cells.length=cf.length/\∀(i:Nat) (p:Addr×Obj) (x:Str),cells[i]?=some p->(cf.map (·.1))[i]?=some x->p.2.data=.cell (cm x):=by
 induction R with
 |nil=>exact⟨rfl,rfl,λζ ζ ζ h=>no h⟩
 |cons hd r ih=>
  refine cZ ih λa b d=>?_
  refine⟨by rw[List.map_cons,List.map_cons,a],by rw[List.length_cons,List.length_cons,b],λi p x h1 h2=>?_⟩
  induction i using Nat.casesOn with
  |zero=>obtain rfl:=ai h1;obtain rfl:=ai h2;exact hd
  |succ i=>exact d i p x h1 h2
theorem sV(b:ah):∀(l:List Str) (i:Nat) (o:Ob),(cK b l)[i]?=some o->∃x,l[i]?=some x/\o=.cell (bT x b)
 |[],_,_,h=>no h
 |x::r,0,o,h=>⟨x,rfl,ai h⟩
 |x::r,i+1,o,h=>sV b r i o h
theorem nY(b:ah):∀l:List Str,(cK b l).length=l.length
 |[]=>rfl
 |_::r=>congrArg (· +1) (nY b r)
end
section
variable{G:Gc}{c:Fc}{s:Shared}{h h':Heap}{m m':Str->Option Value}{ν:List Addr}{Mu:List Obj}{I:Led}{ρ:ah}{H H':List Ob}{n:Nat}{sc:Sc}
theorem iX{vs:List V}{me:List V}{ps:List Str}{b:ah}(h:eU me ps vs=some b):b.map (·.1)=ps:=by
 induction vs generalizing ps b with
 |nil=>
  refine ix (x0:=Nat.ble ps.length me.length) h ?_;clear h;intro q h
  rw[ai h]
  exact List.map_fst_zip (Nat.le_of_eq ((abY (Nat.le_of_ble_eq_true q)).trans List.length_drop.symm))
 |cons v vs ih=>
  induction ps using List.casesOn with
  |nil=>exact no h
  |cons p ps=>
   refine ab (Option.map_eq_some_iff.mp (show(eU me ps vs).map ((p,v):: ·)=some b from h)) λb' h' e1=>?_
   rw[←e1]
   exact congrArg (p:: ·) (ih h')
theorem Iv{α:Type}{x:Str}{v:α}:∀{b:List (Str×α)},bT x b=some v->(x,v)∈b:=by
 intro l_
 induction l_ with
 |nil=>
  intro h
  exact no h
 |cons p_ b ih=>
  obtain⟨y,w⟩:=p_
  intro h
  rw[bU] at h
  cases q:du y x with
  |true=>rw[q] at h;obtain rfl:=ai h;rw[aH.mp q];exact .head _
  |false=>rw[q] at h;exact .tail _ (ih h)
noncomputable def VO:Rs fi->Rs V
 |.ok r H=>.ok (match r.2 with|some v=>v|none=>.none) H
 |.exc x H=>.exc x H
noncomputable abbrev inner(c:Fc)(g:Heap)(e:Env):Fc:=⟨c.A.deeper e,c.A,c.base,g,c.dK::c.outer,e,e⟩
theorem sg(gk:ko G){a:Addr}{f:nZ}{vs:List V}{b:ah}{r:Rs fi}(hf:jL a G.cf.fn=some f)(hb:eU f.me f.ps vs=some b)
  (h:gJ G n ⟨f.scope.names,cG H.length (ax f.scope.names []),some (f.code,f.qual++ ".<locals>.")⟩ f.body (bu f.scope.names b) (H++cK b (ax f.scope.names [])) r):aW G (n+1) a vs H (VO r):=by
 rintro c s m ν Mu I us R ok S rs post
 refine ae (gk.fn a f hf) λFO y1=>?_
 obtain⟨oc,od,osl,name,qual,params,dV,kV,doc,pm,jt,ct,an,ho,mS,YV,eq,YW⟩:=FO.ex
 have X:=ok.X.X.keeps S.F.keep
 refine bH (YW s us vs b ν I X rs hb) λbinds mh vB MZ=>?_
 have M0:=iX hb
 have vC:∀k,(cellsFrom k f.scope.names []).map (·.1)=ax f.scope.names []:=λk=>d9 f.scope.names k []
 have M1:(binds.map (·.1)).Nodup:=by rw[vB,M0];exact FO.nd
 refine callX_cells (outer:=c.outer) ok.B S.F S.N ok.X.lim ok.fr ok.ff ok.fk (X _ _ ho) rfl (codeRec_of X mS) (Nat.lt_of_le_of_lt (m:=900) (by have:=ok.dep;exact Mm ‹_›) (by decide)) mh (λk x hx=>?_) (by rw[vC];exact FO.cnd)
  (λg L' bg tk cells kD gj jn Y Jq st kf=>?_) FO.co FO.gen FO.kind
 ·have qQ:x.1∈f.ps:=by rw[←M0,←vB];exact List.mem_map_of_mem hx
  rcases FO.loc x.1 qQ with q|q
  ·exact .inl q
  ·exact .inr ⟨q,dv (by rw[vC];exact gN _ _ (.inr q))⟩
 ·let e:Env:=envOfC qual f.scope L' a jt
  let c':Fc:=inner c g e
  have hL:sysModules<L':=Nat.lt_of_lt_of_le (Nat.lt_trans (Nat.lt_of_lt_of_le S.big kD.above) kD.ns.lt) gj.above
  have M3:sysModules<g.objs.size:=Nat.lt_trans (Nat.lt_of_lt_of_le S.big kD.above) kD.ns.lt
  have qn:c'.Ok G n:={
   fr:=Around.frames_deeper ok.fr
   B:=Jq
   ff:=rfl
   fk:=FO.kind
   ek:=FO.kind
   eg:=rfl
   eb:=rfl
   yF:=rfl
   X:=ok.X.keeps st
   dep:=by have:=ok.dep;show c.A.depth+1+n<=900;exact om2 ‹_›
   un:=by have:=ok.un;show c.A.units+3+8*n<=9000;exact om4 ‹_› (by decide)
   hd:=ok.hd}
  have jT:St G c' bg _ ν Mu I H:=⟨gj,λp hp=>jn p (List.mem_append_right _ hp),S.nd,S.eP,S.len,S.aT,S.ob,M3,S.low⟩
  refine cZ (mB Y) λy1 y2 y3=>?_
  have cs:=gH f.scope.names (L'+1) [] .nil (λζ hp=>nomatch hp)
  have yJ:∀p∈cells,L'+1<=p.1:=λp hp=>by
   have hm:p.1∈(cellsFrom (L'+1) f.scope.names []).map (·.2):=by rw[←y1];exact List.mem_map_of_mem hp
   refine ab (List.mem_map.mp hm) λq hq e=>?_
   rcases cs.2 q hq with q'|q'
   ·cases q'
   ·rw[←e];exact q'
  have dR:=jT.many cells (cK b (ax f.scope.names [])) (λp hp=>jn p (List.mem_append_left _ hp)) (by rw[y1];exact cs.1) (λp hp=>⟨λhm=>?_,λq hq e=>?_,Nat.lt_trans hL (yJ p hp)⟩)
   (λi p o hp Jr=>?_) (by rw[y2,nY,←vC (L'+1),List.length_map])
  rotate_left
  ·obtain⟨i,hi,e⟩:=List.getElem_of_mem hm
   have h1:ν[i]?=some p.1:=by rw[List.getElem?_eq_getElem hi,e]
   have h2:Mu[i]?=some (Mu[i]'(S.len▸hi)):=List.getElem?_eq_getElem (S.len▸hi)
   exact Nat.lt_irrefl _ (Nat.lt_trans (kf _ (List.mem_append_left _ (dU h1 h2))) (yJ p hp))
  ·have h1:=kf q (List.mem_append_right _ hq)
   have h2:=yJ p hp
   rw[e] at h1
   exact Nat.lt_irrefl _ (Nat.lt_trans h1 h2)
  ·refine ab (sV b _ i o Jr) λx hx aU=>?_;subst aU
   have qQ:((cellsFrom (L'+1) f.scope.names []).map (·.1))[i]?=some x:=by rw[vC];exact hx
   have hd:=y3 i p x hp qQ
   have hk:(envOfC qual f.scope L' a jt).kindOf x=some .cell:=FO.cl x (List.mem_of_getElem? hx)
   cases q:bT x b with
   |some v=>
    refine ab (jZ vB MZ q) λu hu ru=>?_
    rw[lM binds _ M1 hu (by rw[hk];simp)] at hd
    exact .cell hd ru
   |none=>
    rw[j0 binds _ (by rw[vB];exact lL q)] at hd
    exact .mf hd
  have vD:cells.map (·.1)=(cellsFrom (L'+1) f.scope.names []).map (·.2):=y1
  have jU:Ext ν (ν++cells.map (·.1)) I I:=⟨⟨_,rfl⟩,λζ h=>h,λi a hi ha p hp e=>by
   rw[List.getElem?_append_right hi] at ha
   refine ab (List.mem_map.mp (List.mem_of_getElem? ha)) λq hq eq=>?_
   have h1:=kf p (List.mem_append_right _ hp)
   have h2:=yJ q hq
   rw[eq,←e] at h2
   exact Nat.lt_irrefl _ (Nat.lt_trans h1 h2)⟩
  have au:cM c' ⟨f.scope.names,cG H.length (ax f.scope.names []),some (f.code,f.qual++ ".<locals>.")⟩ (ν++cells.map (·.1)):=by
   refine⟨λx=>(cg x _).symm,λx i hi=>?_,λa q e=>by cases e;exact⟨YV,by rw[←eq];rfl⟩⟩
   have MV:bT x (cG H.length ((cellsFrom (L'+1) f.scope.names []).map (·.1)))=some i:=by rw[vC];exact hi
   refine bH (wC _ _ MV) λad h1 h2 h3=>?_
   refine⟨ad,h1,?_⟩
   rw[←S.aT] at h2 h3
   rw[List.getElem?_append_right h2,vD]
   exact h3
  have kn:cC G.K (bindL (envOfC qual f.scope L' a jt).kindOf binds λζ=>none) (ν++cells.map (·.1)) I (bu f.scope.names b):=λx v q=>by
   refine ae (kZ q) λq1 q2=>?_
   refine ab (jZ vB MZ q1) λu hu ru=>?_
   exact⟨u,lB binds _ M1 hu ((cg x _).symm.trans q2),ru.mono jU⟩
  refine h c' {s with heap:=bg,toks:=tk} _ _ _ I _ _ qn rfl au dR kn ?_
  induction r with
  |ok r H'=>
   intro h' ak m' aa aw I' x S' k'
   have x':=jU.trans x
   have fin:∀v u,Rep G.K aa I' u v->(∀bw bY aV cF dk u,Ext ν aV I dk->St G c bw m aV cF dk H'->Rep G.K aV dk u v->R (.ok (.ret u)) {s with heap:=bw,toks:=bY})->LeaveK c.h₀ c.L m g R u {s with heap:=h',toks:=ak}:=λv u ru p=>
    leaveK_ S'.F S'.N λF' N'=>p h' ak aa aw I' u x' ⟨F',N',S'.nd,S'.eP,S'.len,S'.aT,S'.ob,S.big,S'.low⟩ ru
   obtain⟨qi,o⟩:=r
   induction o with
   |none=>exact fin .none .none .none post
   |some v=>exact λu ru=>fin v u ru post
  |exc x H'=>
   intro h' ak aa aw I' ea t xx ht fl
   refine gr fl.yG λBB d b1 b2 b3 b4=>?_
   refine cz fl.fr λgp m₂ f1 f2=>?_
   refine rI (hfr:=Around.frames_deeper ok.fr) (hf:=rfl) b4 ht λbw a' u'=>?_
   refine post bw ak aa aw I' ea (some .none) (jU.trans xx) (.inr (.inl rfl)) ⟨fl.nd,fl.eP,fl.len,fl.aT,fl.ob,S.big,fl.low,⟨BB,d,b1,b2,b3,a'⟩,gp,m,⟨?_,λy o q=>f1.keep y o (kD.keep y o q),kD.above⟩,f2.trans u'⟩
   refine hW kD.ns λoL es ep z1 z2 z3 z4=>?_
   exact⟨oL,es,ep,f1.keep _ _ z1,z2,z3,z4⟩
end
section
variable{G:Gc}{c:Fc}{s:Shared}{h h':Heap}{m m':Str->Option Value}{ν:List Addr}{Mu:List Obj}{I:Led}{ρ:ah}{H H':List Ob}{n:Nat}{sc:Sc}
set_option tactic.hygienic true in
theorem jC{e:Expr}{es:List Expr}(h:noStar (e::es)=true):isStar e=false/\noStar es=true:=by
 refine Yh h ?_;clear h;intro _ h
 rename_i q;exact⟨q,h⟩
theorem iM{env:Env}{pos:Pos}:∀{es:List Expr},noStar es=true->(backTo pos (starEach es env)).any (·.1)=false
 |[],_=>rfl
 |e::es,h=>by
  refine ae (jC h) λh1 h2=>?_
  rw[fY h1,List.any_cons,iM h2]
  rfl
section
variable{M:Model}{A:Around}{E:Value->Shared->Prop}{env:Env}{pos:Pos}{f:Value}{first:List Value}{Q:Value->Shared->Prop}
theorem sA{es:List Expr}{Q:Args->Shared->Prop}(hs:noStar es=true)(h:wpAny M A (spliced (backTo pos (starEach es env))) (λvs s'=>Q ⟨vs,[]⟩ s') E s):
  wpAny M A (evalArgs f true (backTo pos (starEach es env)) []) Q E s:=by
 induction es using List.casesOn with
 |nil=>
  show wpAny M A (evalArgs f true [] []) Q E s
  show wpAny M A (spliced []>>=_) Q E s
  refine wpAny_bind (wpAny_mono h (λvs s' h'=>wpAny_bind (wpAny_pure ?_)) λζ ζ x=>x)
  refine wpAny_holding ?_
  exact wpAny_bind (wpAny_pure (wpAny_bind (wpAny_pure (wpAny_pure h'))))
 |cons e es=>
  rw[fY (jC hs).1] at h ⊢
  exact evalArgs_plain h
theorem bX{es:List Expr}{P:Heap->Prop}(hs:noStar es=true)(hk:∀h,P h->∃k,(k=Keeper.frame∨k=Keeper.machine∨k=Keeper.boundFrame)/\Looks M h (keeperOf f) k)
  (h:wpAny M A (spliced (backTo pos (starEach es env))) (λvs dC=>P dC.heap/\wpAny M A (call f (first++vs)) Q E dC) E s):wpAny M A (callWith pos f first (backTo pos (starEach es env)) []) Q E s:=
 callWith_of (by rw[iM hs];rfl) hk (sA hs h)
theorem tn{f:Value}(hf:FN f≠0∨ ∃x,f=.builtin x)(h:Heap):∃k,(k=Keeper.frame∨k=Keeper.machine∨k=Keeper.boundFrame)/\Looks M h (keeperOf f) k:=by
 refine⟨.machine,.inr (.inl rfl),.of_pure ?_⟩
 induction f using Value.casesOn<;>first|rfl|exact hf.elim (λhf=>absurd rfl hf) λ⟨_,hf⟩=>nomatch hf
end
noncomputable abbrev under(c:Fc)(C:Addr)(us:List Value):Fc:={c with A:=c.A.under (.builtin "type.__call__" ⟨.ref C::us,[]⟩)}
theorem zP(C:Addr)(us:List Value):Code.weight (.builtin "type.__call__" ⟨.ref C::us,[]⟩)=1:=by
 rfl
theorem Fc.Ok.under(ok:c.Ok G (n+1))(C:Addr)(us:List Value):(Mine.under c C us).Ok G n where
 fr:=ok.fr
 B:=ok.B
 ff:=ok.ff
 fk:=ok.fk
 ek:=ok.ek
 eg:=ok.eg
 eb:=ok.eb
 yF:=ok.yF
 X:=ok.X
 dep:=by
  have h:=ok.dep
  show c.A.depth+Code.weight (.builtin "type.__call__" ⟨.ref C::us,[]⟩)+n<=900
  rw[zP];exact om2 ‹_›
 un:=by
  have h:=ok.un
  show c.A.units+1+8*n<=9000
  exact om4 ‹_› (by decide)
 hd:=ok.hd
theorem St.under{C:Addr}{us:List Value}(S:St G c h m ν Mu I H):St G (Mine.under c C us) h m ν Mu I H:=⟨S.F,S.N,S.nd,S.eP,S.len,S.aT,S.ob,S.big,S.low⟩
theorem St.over{C:Addr}{us:List Value}(S:St G (Mine.under c C us) h m ν Mu I H):St G c h m ν Mu I H:=⟨S.F,S.N,S.nd,S.eP,S.len,S.aT,S.ob,S.big,S.low⟩
theorem nF.over{C:Addr}{us:List Value}{t:Option Value}{e:Addr}{x:Ex}(f:nF G (Mine.under c C us) t h ν Mu I H e x):nF G c t h ν Mu I H e x:=⟨f.nd,f.eP,f.len,f.aT,f.ob,f.big,f.low,f.yG,f.fr⟩
theorem oJ{Q E:Value->Shared->Prop}{r:Rs V}(p:d5 G c m ν I s Q E r):BP G c m ν I s (λr s'=>match r with|.ok (.ret v)=>Q v s'|.ok _=>False|.error e=>E e s') r:=by
 induction r with
 |ok v H=>exact p
 |exc x H=>exact p
theorem uY(gk:ko G){C fI:Addr}{vs:List V}{r:Rs V}(hi:jL C G.cf.init=some fI){iF:aM V}
  (hF:∀r,iF=some r->aW G n fI (.obj (H.length+1)::vs) (H++[.attrs [],.inst C H.length]) r)
  (h:(andThen iF λv H'=>match v with|.none=>bV (.obj (H.length+1)) H'|_=>none)=some r)
  (c:Fc) (s:Shared) (m:Str->Option Value) (ν:List Addr) (Mu:List Obj) (I:Led) (us:List Value) (ok:c.Ok G (n+1)) (S:St G c s.heap m ν Mu I H) (rs:ag G.K ν I us vs):iS G c m ν Mu I s (call (.ref C) us) r:=by
 intro Q E post
 obtain⟨a1,a2,a3,a4⟩:=gk.D2 C fI hi
 have X:=ok.X.X.keeps S.F.keep
 have big:sysModules<s.heap.objs.size:=S.fresh.2.2
 obtain⟨hh,g,d,t,os⟩:=s
 dsimp only at X S big
 refine wpAny_call (make_core (makes_of X a1) (looks_findIn X a2) (λself=>bind_fn X self (beq_iff_eq.mp a3)) (.inl rfl) ?_)
 have F1:=S.F.push emptyDict
 have N1:=S.N.push S.F emptyDict
 have N2:=N1.push F1 (instObj C hh.objs.size)
 rw[Heap.size_push] at N2
 have F2:=F1.push (instObj C hh.objs.size)
 have x0:az G (ν++[hh.objs.size]) I emptyDict (.attrs []):=.attrs (es:=[]) (n:=0) .nil
 have xn:∀p∈ν.zip Mu++I,p.1<hh.objs.size:=λp hp=>Heap.lt_size (S.N p hp).1
 obtain⟨S1,e1,i1⟩:=S.iV F1 N1 xn big x0
 have eqz:(ν++[hh.objs.size]).zip (Mu++[emptyDict])++I=ν.zip Mu++((hh.objs.size,emptyDict)::I):=by
  rw[List.zip_append S.len];simp
 have x1:az G ((ν++[hh.objs.size])++[hh.objs.size+1]) I (instObj C hh.objs.size) (.inst C H.length):=.inst ((fh ⟨_,rfl⟩ i1))
 obtain⟨S2,e2,i2⟩:=S1.iV (x:=hh.objs.size+1) F2 (fy N2 λp hp=>by
   rw[eqz] at hp
   rcases List.mem_cons.mp hp with rfl|hp
   ·exact .head _
   ·refine .tail _ ?_
    rcases List.mem_append.mp hp with hp|hp
    ·exact .tail _ (List.mem_append_left _ hp)
    ·rcases List.mem_cons.mp hp with rfl|hp
     ·exact .head _
     ·exact .tail _ (List.mem_append_right _ hp)) (λp hp=>by
   rw[eqz] at hp
   rcases List.mem_append.mp hp with hp|hp
   ·exact Nat.lt_succ_of_lt (xn p (List.mem_append_left _ hp))
   ·rcases List.mem_cons.mp hp with rfl|hp
    ·exact Nat.lt_succ_self _
    ·exact Nat.lt_succ_of_lt (xn p (List.mem_append_right _ hp))) (Nat.lt_succ_of_lt big) x1
 have e12:=e1.trans e2
 rw[show H++[Ob.attrs []]++[Ob.inst C H.length]=H++[Ob.attrs [],Ob.inst C H.length] from by simp] at S2
 have i2':(ν++[hh.objs.size]++[hh.objs.size+1])[H.length+1]?=some (hh.objs.size+1):=by
  have:(H++[Ob.attrs []]).length=H.length+1:=by simp
  rw[this] at i2;exact i2
 rcases bf h with⟨v,H₁,q1,q2⟩|⟨x,H₁,q1,rfl⟩
 ·refine adv q2 ?_;clear q2;intro ay q2
  obtain rfl:=ai q2
  refine hF _ q1 (under c C us) ⟨_,g,d,t,os⟩ m _ _ I (.ref (hh.objs.size+1)::us) _ (ok.under C us) S2.under (.cons (.obj i2') (rs.mono e12)) ?_
  intro h' ak aa aw I' u x S' ru
  refine ru.tB ay ?_
  exact⟨rfl,post h' ak aa aw I' _ (e12.trans x) S'.over (.obj (x.at i2'))⟩
 ·refine hF _ q1 (under c C us) ⟨_,g,d,t,os⟩ m _ _ I (.ref (hh.objs.size+1)::us) _ (ok.under C us) S2.under (.cons (.obj i2') (rs.mono e12)) ?_
  intro h' ak aa aw I' ea t' x ht f
  exact post h' ak aa aw I' ea t' (e12.trans x) ht f.over
theorem m7{a:Arguments}(h:noParams a=true):a=⟨[],[],none,[],[],none,[]⟩:=by
 obtain⟨p1,p2,p3,p4,p5,p6,p7⟩:=a
 refine aa0 h ?_;clear h;intro e
 exact e
theorem uK:∀{l:List (Str×NameKind)},oY l=true->∀x∈l,x.2≠ .cell:=by
 intro l_
 induction l_ with
 |nil=>
  intro _
  exact λζ h=>(nomatch h)
 |cons p_ r ih=>
  obtain⟨y,k⟩:=p_
  intro h
  refine aJ h λh1 h2=>?_
  intro x hx
  rcases List.mem_cons.mp hx with rfl|hx
  ·rintro e
   subst e
   exact nf h1
  ·exact ih h2 x hx
theorem bind_none{fd:FuncData}(hp:noParams fd.params=true)(yD:fd.defaults=.none)(yE:fd.kwdefaults=.none):bindArgs fd ⟨[],[]⟩=pure []:=by
 obtain⟨n,q,ps,b,sc,g,cl,de,kd,d,m,an,cd,ct,bi⟩:=fd
 dsimp only at hp yD yE
 have:=m7 hp
 subst this yD yE
 rfl
theorem Bc{i cd:Nat}{q:Str}{lb:Expr}{ls:Scope}{cells:List (Str×Nat)}{r:Rs V}(hx:cJ H i=some (.lh cd q lb ls cells))(D4:cJ H cd=some (.code q))(h1:dA G n ⟨ls.names,cells,none⟩ lb [] H r)
  (c:Fc) (s:Shared) (m:Str->Option Value) (ν:List Addr) (Mu:List Obj) (I:Led) (a:Addr) (R:Result->Shared->Prop) (ok:c.Ok G (n+1)) (S:St G c s.heap m ν Mu I H) (cb:ν[i]?=some a) (post:BP G c m ν I s R r):
  codeAny G.M c.A (.call (.ref a) ⟨[],[]⟩) R s:=by
 refine S.ba cb hx λo y1 y2 ho ro=>?_
 cases ro with
 | @lh _ fd _ ca _ _ _ _ hd hb hs hq hg yC hp yD yE mS aef qj rX=>
  refine S.ba aef D4 λoc y1 y2 hoc rc=>?_
  cases rc with
  | @code _ vs _ t hdc hqc=>
   unfold rN at rX
   simp only[Bool.and_eq_true,Bool.not_eq_true'] at rX
   obtain⟨⟨⟨⟨_,hk⟩,QE⟩,D5⟩,D6⟩:=rX
   have hk:ls.kind=.function:=by
    refine HR hk ?_;clear hk;intro _
    assumption
   refine dH (groundX (R:=R) ok.B S.F S.N ok.fr ok.ff ok.fk) λFG BG st lv=>?_
   refine PySem.W.kla_callFunE (Nat.lt_of_le_of_lt (m:=900) (by have:=ok.dep;exact Mm ‹_›) (by decide)) ho hd (by rw[hs];exact D5) (by rw[hs];exact D6) hb ⟨ca,oc,vs,t,mS,hoc,hdc,by rw[hq];exact hqc⟩ ?_
   rw[bind_none hp yD yE]
   refine wpAny_pure (wpAny_newFunctionEnv (by rw[hs];exact uK QE) (by intro y hy;simp at hy) (λbg hns hsb=>⟨(ok.X.lim.keeps S.F.keep).fresh _ hsb,?_⟩) (by rw[hs];exact hk))
   rw[hs,hq,hg,yC]
   let e:Env:=newEnv ls s.heap.objs.size mainGlobals fd.closure (q++ ".<locals>.") (some a) fd.code none builtinsNs
   have nq:∀b o,s.heap.get? b=some o->bg.get? b=some o:=λb o e=>hsb.extBut b o (Nat.ne_of_lt (Heap.lt_size e)) (Heap.get?_push_of_some _ e)
   generalize hgg:hideAll s.heap ((ν.zip Mu++I).map (·.1))=g at FG BG st lv
   have gj:Fr g s.heap.objs.size bg (λy=>([]:List (Str×Value)).reverse.lookup y):=⟨hns,λb o e=>nq b o (by rw[←hgg] at e;exact of_hideAll _ e),by rw[←hgg];exact Nat.le_of_eq (hideAll_size _ _)⟩
   have jn:News g s.heap.objs.size bg (ν.zip Mu++I):=λp hp=>⟨nq _ _ (S.N p hp).1,Nat.ne_of_lt (Heap.lt_size (S.N p hp).1),by rw[←hgg];exact hideAll_none _ (List.mem_map_of_mem hp)⟩
   let c':Fc:=inner c g e
   have M3:sysModules<g.objs.size:=Nat.lt_trans (Nat.lt_of_lt_of_le S.big FG.above) FG.ns.lt
   have qn:c'.Ok G n:={
    fr:=Around.frames_deeper ok.fr
    B:=BG
    ff:=rfl
    fk:=hk
    ek:=hk
    eg:=rfl
    eb:=rfl
    yF:=rfl
    X:=ok.X.keeps st
    dep:=by have:=ok.dep;show c.A.depth+1+n<=900;exact om2 ‹_›
    un:=by have:=ok.un;show c.A.units+3+8*n<=9000;exact om4 ‹_› (by decide)
    hd:=ok.hd}
   have jT:St G c' bg (λy=>([]:List (Str×Value)).reverse.lookup y) ν Mu I H:=⟨gj,jn,S.nd,S.eP,S.len,S.aT,S.ob,M3,S.low⟩
   have au:cM c' ⟨ls.names,cells,none⟩ ν:=⟨λx=>(cg x _).symm,λx i hi=>qj x i hi,λζ ζ e=>by exact no e⟩
   refine PySem.W.kla_codeExpr (h1 c' {s with heap:=bg,toks:=_} _ ν Mu I qn au jT (.top rfl λx v q=>by exact no q) _ _ ?_)
   induction r with
   |ok v H'=>
    intro h' ak aa aw I' u x S' ru
    exact lv _ _ (leaveK_ S'.F S'.N λF' N'=>post h' ak aa aw I' u x ⟨F',N',S'.nd,S'.eP,S'.len,S'.aT,S'.ob,S.big,S'.low⟩ ru)
   |exc x H'=>
    intro h' ak aa aw I' ea t xx ht fl
    refine gr fl.yG λBB d b1 b2 b3 b4=>?_
    refine cz fl.fr λgp m₂ f1 f2=>?_
    refine rI (hfr:=Around.frames_deeper ok.fr) (hf:=rfl) b4 ht λbw a' u'=>?_
    refine post bw ak aa aw I' ea (some .none) xx (.inr (.inl rfl)) ⟨fl.nd,fl.eP,fl.len,fl.aT,fl.ob,S.big,fl.low,⟨BB,d,b1,b2,b3,a'⟩,gp,m,⟨?_,λy o q=>f1.keep y o (FG.keep y o q),FG.above⟩,f2.trans u'⟩
    refine hW FG.ns λoL es ep z1 z2 z3 z4=>?_
    exact⟨oL,es,ep,f1.keep _ _ z1,z2,z3,z4⟩
set_option tactic.hygienic true in
theorem adi(gk:ko G){ih:Ih}(hE:∀sc e ρ H r,ih.E sc e ρ H=some r->dA G n sc e ρ H r)(hF:∀a vs H r,ih.F a vs H=some r->aW G n a vs H r){f:V}{vs:List V}{r:Rs V}(h:stC G.cf ih f vs H=some r):NR G (n+1) f vs H r:=by
 rintro c s m ν Mu I u us ok S ru rs
 induction f using V.casesOn<;>first|exact no h|skip
 ·refine ru.ba rfl λy1 cb=>?_
  induction vs using List.casesOn with
  |cons _ _=>exact no h
  |nil=>
   refine ag.rL rs rfl ?_
   refine acZ h ?_;clear h;intro _ _ _ _ _ hx h
   refine ac0 h ?_;clear h;intro _ hc h
   refine ix h ?_;clear h;intro hq h
   rw[←aH.mp hq] at hc
   exact λQ E post=>wpAny_call (Bc hx hc (hE _ _ _ _ _ h) c s m ν Mu I _ _ ok S cb (oJ post))
 obtain rfl:=ru.gP
 induction u using Value.casesOn<;>first|exact wJ ok S rs h|skip
 rename_i a
 change(match jL a G.cf.init with|some D2=>(andThen (ih.F D2 (.obj (H.length+1)::vs) (H++[.attrs [],.inst a H.length])) λv H'=>(match v with|.none=>bV (.obj (H.length+1)) H'|_=>none))|none=>ih.F a vs H)=some r at h
 cases hi:jL a G.cf.init with
 |some D2=>
  rw[hi] at h
  exact uY gk hi (λr q=>hF _ _ _ _ q) h c s m ν Mu I us ok S rs
 |none=>
  rw[hi] at h
  exact λQ E post=>wpAny_call (hF _ _ _ _ h c s m ν Mu I us _ (ok.less (Nat.le_succ _)) S rs (oJ post))
end
section
variable{G:Gc}{c:Fc}{s:Shared}{h h':Heap}{m m':Str->Option Value}{ν:List Addr}{Mu:List Obj}{I:Led}{ρ:ah}{H H':List Ob}{n:Nat}{sc:Sc}
theorem md{es:List Expr}{r:Rs V}{f:List V->List Ob->aM V}{ih:aM (List V)}(h:andThen ih f=some r)(h1:∀r,ih=some r->hU G n sc es ρ H r)
  (c:Fc) (s:Shared) (m:Str->Option Value) (ν:List Addr) (Mu:List Obj) (I:Led) (Q E:Value->Shared->Prop) (pos:Pos) (ok:c.Ok G n) (au:cM c sc ν) (S:St G c s.heap m ν Mu I H)
  (l:Loc G c m ν I ρ) (post:d5 G c m ν I s Q E r) (Q':List Value->Shared->Prop)
  (k:∀vs H₁,f vs H₁=some r->∀h' ak aa aw I' us,Ext ν aa I I'->St G c h' m aa aw I' H₁->ag G.K aa I' us vs->Q' us {s with heap:=h',toks:=ak}):
  wpAny G.M c.A (spliced (backTo pos (starEach es c.env))) Q' E s:=by
 rcases bf h with⟨v,H₁,q1,q2⟩|⟨x,H₁,q1,rfl⟩
 ·exact h1 _ q1 c s m ν Mu I _ _ pos ok au S l λh' ak aa aw I' us x S' rs=>k v H₁ q2 h' ak aa aw I' us x S' rs
 ·exact h1 _ q1 c s m ν Mu I _ _ pos ok au S l post
set_option tactic.hygienic true in
theorem m5(gk:ko G){f:V}{k:Unit->aM V}{r:Rs V}(h:callable G.cf f k=some r):k ()=some r/\∃v,f=.glob v/\∀h,G.K.In h->∃k,(k=Keeper.frame∨k=Keeper.machine∨k=Keeper.boundFrame)/\Looks G.M h (keeperOf v) k:=by
 induction f using V.casesOn<;>first|exact no h|skip
 rename_i v
 have builtin:∀v:Value,(match FN v with|0=>none|_=>k ())=some r->k ()=some r/\FN v≠0:=λv q=>by
  cases hb:FN v with
  |zero=>rw[hb] at q;exact no q
  |succ b=>rw[hb] at q;exact⟨q,nofun⟩
 have other:(∀a,v≠ .ref a)->callable G.cf (.glob v) k=(match FN v with|0=>none|_=>k ()):=λq=>by
  induction v using Value.casesOn<;>first|rfl|exact absurd rfl (q _)
 by_cases hr:∃a,v=.ref a
 rotate_left
 ·rw[other λa e=>hr ⟨a,e⟩] at h
  refine ae (builtin v h) λa b=>?_
  exact⟨a,_,rfl,λh ζ=>tn (.inl b) h⟩
 refine bF hr ?_;clear hr;intro a aU;subst aU
 change(match jL a G.cf.init with|some _=>k ()|none=>match jL a G.cf.fn with|some _=>k ()|none=>none)=some r at h
 cases hi:jL a G.cf.init with
 |some D2=>
  rw[hi] at h
  exact⟨h,_,rfl,keeps_K (gk.D2 _ _ hi).2.2.2⟩
 |none=>
  rw[hi] at h
  dsimp only at h
  cases hf:jL a G.cf.fn with
  |some f=>
   rw[hf] at h
   exact⟨h,_,rfl,keeps_K (gk.fn _ _ hf).2⟩
  |none=>rw[hf] at h;exact no h
theorem uF(gk:ko G){fe:Expr}{args:List Expr}{pos:Pos}{r:Rs V}{ie:aM V}{ies:List Ob->aM (List V)}{ic:V->List V->List Ob->aM V}(hs:noStar args=true)
  (hn:∀env:Env,eval (.Call fe args [] pos) env=(do callWith pos (←eval fe env) [] (backTo pos (starEach args env)) (backToKw pos (keywordEach [] env))))
  (h1:∀r,ie=some r->dA G n sc fe ρ H r) (h2:∀H₁ r,ies H₁=some r->hU G n sc args ρ H₁ r) (h3:∀f vs H₁ r,ic f vs H₁=some r->NR G n f vs H₁ r)
  (h:(andThen ie λfv H=>callable G.cf fv λζ=>andThen (ies H) λvs H=>ic fv vs H)=some r):dA G n sc (.Call fe args [] pos) ρ H r:=by
 rintro c s m ν Mu I ok au S l Q E post
 refine Call_ (dF h h1 c s m ν Mu I Q E ok au S l post _ λfv H₁ hf h' ak aa aw I' u x S' ru=>?_) (hn _)
 obtain⟨hf,v,ev,hk⟩:=m5 gk hf
 subst ev
 have eu:u=v:=ru.gP
 subst eu
 refine bX (P:=λh=>G.K.In h) hs hk (md hf (h2 H₁) c _ m aa aw I' Q E pos ok (au.mono x) S' (l.mono x) (d5.mono x post) _ λvs aQ hc bw bY aV cF dk us x' d7 rs=>⟨ok.X.X.keeps d7.F.keep,?_⟩)
 exact h3 _ _ _ _ hc c {s with heap:=bw,toks:=bY} m aV cF dk u us ok d7 (.glob u) rs Q E (d5.mono x' (d5.mono x post))
theorem tx(gk:ko G){fe:Expr}{args:List Expr}{pos:Pos}{r:Rs V}{ie:aM V}{ies:List Ob->aM (List V)}{ic:V->List V->List Ob->aM V}(hs:noStar args=true)
  (hn:∀env:Env,eval (.Call fe args [] pos) env=(do callWith pos (←eval fe env) [] (backTo pos (starEach args env)) (backToKw pos (keywordEach [] env))))
  (h1:∀r,ie=some r->dA G n sc fe ρ H r) (h2:∀H₁ r,ies H₁=some r->hU G n sc args ρ H₁ r) (h3:∀f vs H₁ r,ic f vs H₁=some r->NR G n f vs H₁ r)
  (h:(andThen ie λfv H=>match Ma H fv args with
   |true=>ic fv [] H
   |false=>callable G.cf fv λζ=>andThen (ies H) λvs H=>ic fv vs H)=some r):dA G n sc (.Call fe args [] pos) ρ H r:=by
 rintro c s m ν Mu I ok au S l Q E post
 refine Call_ (dF h h1 c s m ν Mu I Q E ok au S l post _ λfv H₁ hf h' ak aa aw I' u x S' ru=>?_) (hn _)
 refine pC hf ?_ ?_
 ·clear hf;intro vE hf
  refine abW vE ?_;clear vE;intro ay vE;subst ay
  refine acA vE ?_;clear vE;intro _ ay vE;subst ay
  refine acw vE ?_;clear vE;intro _ _ _ _ _ hx
  refine ru.ba rfl λa cb=>?_
  refine S'.ba cb hx λo y1 y2 ho ro=>?_
  have qk:∃fd,o.data=.func fd:=by cases ro;exact⟨_,by assumption⟩
  refine bF qk ?_;clear qk;intro fd hd
  refine bX (P:=λh=>h.get? a=some o) hs (λh e=>⟨.frame,.inl rfl,?_⟩) (spliced_nil ⟨ho,?_⟩)
  ·refine(Looks.ld (part:=none) e).andThen ?_
   rw[hd]
   exact .now
  ·exact h3 _ _ _ _ hf c {s with heap:=h',toks:=ak} m aa aw I' _ [] ok S' (.obj cb) .nil Q E (d5.mono x post)
 ·clear hf;intro _ hf
  obtain⟨hf,v,ev,hk⟩:=m5 gk hf
  subst ev
  have eu:u=v:=ru.gP
  subst eu
  refine bX (P:=λh=>G.K.In h) hs hk (md hf (h2 H₁) c _ m aa aw I' Q E pos ok (au.mono x) S' (l.mono x) (d5.mono x post) _ λvs aQ hc bw bY aV cF dk us x' d7 rs=>⟨ok.X.X.keeps d7.F.keep,?_⟩)
  exact h3 _ _ _ _ hc c {s with heap:=bw,toks:=bY} m aV cF dk u us ok d7 (.glob u) rs Q E (d5.mono x' (d5.mono x post))
theorem Hr{es:List Expr}{env:Env}{pos:Pos}(hs:noStar es=true)(hl:es.length<30):methodCallForm (es.length+([]:List (Option Str×Expr)).length) (backTo pos (starEach es env)) []=true:=by
 have h:(backTo pos (starEach es env)).all (!·.1)=true:=by
  have q:=iM (env:=env) (pos:=pos) hs
  rw[List.any_eq_false] at q
  rw[List.all_eq_true]
  intro x hx
  have:=q x hx
  simpa using this
 unfold methodCallForm
 rw[h]
 simp[hl]
theorem xV{o:Expr}{x:Str}{apos pos:Pos}{args:List Expr}{env:Env}(hn:isName o=true)(hs:noStar args=true)(hp:(apos.endLine==pos.line)=true)(hl:args.length<30):
  eval (.Call (.Attribute o x apos) args [] pos) env=(do
   let ov←eval o env
   standAt apos.atName
   let (f,first)←holding [ov] (getMethod ov x (do return (←importBound o env).getD true))
   callWith pos f first (backTo pos (starEach args env)) []):=by
 have key:methodCall o x apos pos env=λov n a k=>(do
   let (f,first)←holding [ov] (calleeOf (methodCallForm n a k) o env ov x)
   let Js←methodCallPos (methodCallForm n a k) o env apos pos
   callWith Js f first a k):=rfl
 have e:eval (.Call (.Attribute o x apos) args [] pos) env=(do
   let ov←eval o env
   standAt apos.atName
   methodCall o x apos pos env ov (args.length+([]:List (Option Str×Expr)).length) (backTo pos (starEach args env)) []):=by
  induction o using Expr.casesOn<;>first|rfl|exact no hn|exact nf hn|cases hn
 rw[e]
 have e2:∀ov,methodCall o x apos pos env ov (args.length+([]:List (Option Str×Expr)).length) (backTo pos (starEach args env)) []=(do
   let (f,first)←holding [ov] (getMethod ov x (do return (←importBound o env).getD true))
   callWith pos f first (backTo pos (starEach args env)) []):=λov=>by
  unfold methodCall
  rw[Hr hs hl]
  unfold calleeOf methodCallPos
  simp only[Bool.not_true,Bool.false_or,hp,if_true]
  rfl
 simp only[e2]
theorem sO(gk:ko G){o:Expr}{x:Str}{apos pos:Pos}{args:List Expr}{r:Rs V}{ie:aM V}{ies:List Ob->aM (List V)}{iF:Addr->List V->List Ob->aM V}(hs:noStar args=true)(hn:isName o=true)(hp:(apos.endLine==pos.line)=true)(hl:args.length<30)
  (h1:∀r,ie=some r->dA G n sc o ρ H r) (h2:∀H₁ r,ies H₁=some r->hU G n sc args ρ H₁ r) (h3:∀a vs H₁ r,iF a vs H₁=some r->aW G n a vs H₁ r)
  (h:(andThen ie λv H=>match v with
    |.obj i=>match cJ H i with
     |some (.list _)=>match du x "append" ||du x "extend" with
      |true=>andThen (ies H) λvs H=>match cJ H i with
       |some (.list xs)=>sM H i xs x vs
       |_=>none
      |false=>none
     |some (.inst C d)=>match cJ H d with
      |some (.attrs es)=>match bT x es with
       |none=>bE (G.cf.method C x) λf=>andThen (ies H) λvs H=>iF f (.obj i::vs) H
       |some _=>none
      |_=>none
     |_=>none
    |_=>none)=some r):dA G n sc (.Call (.Attribute o x apos) args [] pos) ρ H r:=by
 rintro c s m ν Mu I ok au S l Q E post
 refine MethodCall_ (dF h h1 c s m ν Mu I Q E ok au S l post _ λv H₁ hv h' ak aa aw I' u e S' ru=>?_) (xV hn hs hp hl)
 refine YI hv ?_;clear hv;intro i ay hv
 refine ru.ba ay λa hi=>?_
 refine acQ hv ?_ ?_
 ·clear hv;intro agt YX hv
  refine ix hv ?_;clear hv;intro hq hv
  refine S'.ba hi YX λob y1 y2 ho ro=>?_
  have:∃us k,ob=bI us k:=let ⟨us,k,e,_⟩:=ro.ju;⟨us,k,e⟩
  refine uo this ?_;clear this;intro us k aU;subst aU
  have rest:∀id,id=(if du x "append" then "list.append" else "list.extend")->wpAny G.M c.A (callWith pos (.builtin id) [.ref a] (backTo pos (starEach args c.env)) []) Q E {s with heap:=h',toks:=ak}:=by
   rintro _ rfl
   refine bX (P:=λζ=>True) hs (λh ζ=>tn (.inr ⟨_,rfl⟩) h) (md hv (h2 H₁) c _ m aa aw I' Q E pos ok (au.mono e) S' (l.mono e) (d5.mono e post) _ λvs aQ hc bw bY aV cF dk us' e' d7 rs=>⟨trivial,?_⟩)
   refine pf hc ?_;clear hc;intro xs hx hc
   exact wc (s:={s with heap:=bw,toks:=bY}) ok d7 (e'.at hi) hx rs hc Q E (d5.mono e' (d5.mono e post))
  cases ha:du x "append" with
  |true=>
   rw[ha] at rest
   rw[aH.mp ha]
   exact getMethod_list_of PySem.F.slot_list_append PySem.F.type_list_append ⟨_,ho,rfl,_,rfl⟩ ⟨_,ho,rfl⟩ (rest _ rfl)
  |false=>
   rw[ha] at hq rest
   rw[aH.mp (show du x "extend" =true from hq)]
   exact getMethod_list_of PySem.F.slot_list_extend PySem.F.type_list_extend ⟨_,ho,rfl,_,rfl⟩ ⟨_,ho,rfl⟩ (rest _ rfl)
 ·clear hv;intro C d hx hv
  refine sp9 hv ?_;clear hv;intro es hd hv
  refine OI hv ?_;clear hv;intro hz hv
  refine cP hv ?_;clear hv;intro f hf hv
  refine yl (St.inst (s:={s with heap:=h',toks:=ak}) S' hi hx hd) λdx AZ k y1 y2 y3 re IA=>?_
  refine dH (gk.Jm C x f hf) λm1 m2 m3 m4=>?_
  refine method_inst S'.F ok.X.X IA m1 m2 m3 (qZ re hz) ?_
  refine bX (P:=λh=>G.K.In h) hs (keeps_K m4) (md hv (h2 H₁) c _ m aa aw I' Q E pos ok (au.mono e) S' (l.mono e) (d5.mono e post) _ λvs aQ hc bw bY aV cF dk us' e' d7 rs=>⟨ok.X.X.keeps d7.F.keep,?_⟩)
  exact wpAny_call (h3 _ _ _ _ hc c {s with heap:=bw,toks:=bY} m aV cF dk (.ref a::us') _ ok d7 (.cons (.obj (e'.at hi)) rs) (oJ (d5.mono e' (d5.mono e post))))
end
section
variable{G:Gc}{c:Fc}{s:Shared}{h h':Heap}{m m':Str->Option Value}{ν:List Addr}{Mu:List Obj}{I:Led}{ρ:ah}{H H':List Ob}{n:Nat}{sc:Sc}
theorem o9{I:Led}{a:Addr}{o:Obj}(hI:∀p∈I,p.1≠a){ν:List Addr}{Mu:List Obj}{i:Nat}(nd:ν.Nodup)(h1:ν[i]?=some a)(h2:Mu[i]?=some o)(hl:ν.length=Mu.length):
  UpdF a o (ν.zip Mu++I) (λo'=>ν.zip (Mu.set i o')++I):=by
 induction ν generalizing Mu i with
 |nil=>exact no h1
 |cons x ν ih=>
  induction Mu using List.casesOn with
  |nil=>exact no h2
  |cons y Mu=>
   induction i using Nat.casesOn with
   |zero=>
    rw[show x=a from(ai h1).symm] at nd ⊢
    rw[show y=o from(ai h2).symm]
    refine .head λp hp=>?_
    rcases List.mem_append.mp hp with hp|hp
    ·exact λe=>(List.nodup_cons.mp nd).1 ((show p.1=a from e)▸of_mem_zip hp)
    ·exact hI p hp
   |succ i=>exact .tail (λe=>(List.nodup_cons.mp nd).1 ((show a=x from Eq.symm e)▸List.mem_of_getElem? h1)) (ih (List.nodup_cons.mp nd).2 h1 h2 (Nat.succ.inj hl))
theorem any_false{cX:List (Str×Value)}{x:Str}(h:x∉cX.map (·.1)):(cX.any λkv=>decide (kv.1=x))=false:=by
 rw[List.any_eq_false]
 intro p hp e
 exact h (of_decide_eq_true e▸List.mem_map_of_mem hp)
theorem any_true{cX:List (Str×Value)}{x:Str}(h:x∈cX.map (·.1)):(cX.any λkv=>decide (kv.1=x))=true:=by
 rw[List.any_eq_true]
 refine ab (List.mem_map.mp h) λp hp e=>?_
 exact⟨p,hp,decide_eq_true e⟩
theorem Bq{cX:List (Str×Value)}{x:Str}{u:Value}(h:x∉cX.map (·.1)):(cX.map λkv=>if kv.1=x then(kv.1,u) else kv)=cX:=by
 conv=>rhs;rw[←List.map_id cX]
 refine List.map_congr_left λp hp=>?_
 have e:p.1≠x:=λe=>h (e▸List.mem_map_of_mem (f:=(·.1)) hp)
 rw[if_neg e]
 rfl
theorem z0{K:Frag}{x:Str}{u:Value}{v:V}(ru:Rep K ν I u v){cX:List (Str×Value)}{fs:List (Str×V)}(R:bh K ν I cX fs):(cX.map (·.1)).Nodup->x∈cX.map (·.1)->
  bh K ν I (cX.map λkv=>if kv.1=x then(kv.1,u) else kv) (gm x v fs):=by
 induction R with
 |nil=>exact λζ h=>nomatch h
 | @cons y a v' es fs r rs ih=>
  intro nd h
  rw[List.map_cons,List.nodup_cons] at nd
  unfold gm
  rw[List.map_cons]
  dsimp only
  cases q:du y x with
  |true=>
   have e:=aH.mp q
   rw[if_pos e,Bq (e▸nd.1)]
   exact .cons ru rs
  |false=>
   have e:y≠x:=λe=>by rw[aH.mpr e] at q;cases q
   rw[if_neg e]
   refine .cons r (ih nd.2 ?_)
   rw[List.map_cons] at h
   rcases List.mem_cons.mp h with h|h
   ·exact absurd h.symm e
   ·exact h
theorem zk{K:Frag}{x:Str}{u:Value}{v:V}(ru:Rep K ν I u v){cX:List (Str×Value)}{fs:List (Str×V)}(r:bh K ν I cX fs):x∉cX.map (·.1)->bh K ν I (cX++[(x,u)]) (gm x v fs):=by
 induction r with
 |nil=>exact λζ=>.cons ru .nil
 | @cons y a w es fs r rs ih=>
  intro h
  show bh K ν I ((y,a)::(es++[(x,u)])) (match du y x with|true=>(y,v)::fs|false=>(y,w)::gm x v fs)
  cases q:du y x with
  |true=>exact absurd (aH.mp q▸ .head _) h
  |false=>exact .cons r (ih λhm=>h (.tail _ hm))
theorem zx{K:Frag}{x:Str}{u:Value}{v:V}(ru:Rep K ν I u v){cX:List (Str×Value)}{fs:List (Str×V)}(r:bh K ν I cX fs)(nd:(cX.map (·.1)).Nodup):bh K ν I (stored cX x u) (gm x v fs):=by
 unfold stored
 by_cases h:x∈cX.map (·.1)
 ·rw[any_true h];exact z0 ru r nd h
 ·rw[any_false h];exact zk ru r h
theorem xk:∀(cX acc:List (Str×Value)),((acc++cX).map (·.1)).Nodup->merged acc cX=acc++cX:=by
 intro l_
 induction l_ with
 |nil=>
  intro acc _
  simp[merged]
 |cons p_ cX ih=>
  obtain⟨x,u⟩:=p_
  intro acc nd
  have hx:x∉acc.map (·.1):=by
   rw[List.map_append,List.map_cons,List.nodup_append] at nd
   exact λh=>nd.2.2 x h x (.head _) rfl
  have e:merged acc ((x,u)::cX)=merged (stored acc x u) cX:=rfl
  have e2:stored acc x u=acc++[(x,u)]:=by unfold stored;rw[any_false hx];rfl
  rw[e,e2,ih _ (by rw[List.append_assoc];exact nd),List.append_assoc]
  rfl
theorem IsDict.nodup{p:Program}{w:World}{o:Obj}{cX:List (Str×Value)}(hd:o.IsDictOf (PySem.strKind p w) cX):(cX.map (·.1)).Nodup:=by
 refine xH hd ?_;clear hd;intro y1 y2 y3 y4 y5 y6 h
 exact h
theorem ag.set{K:Frag}{u:Value}{v:V}{xs:List Value}{vs:List V}{j:Nat}(rs:ag K ν I xs vs)(r:Rep K ν I u v):ag K ν I (xs.set j u) (vs.set j v):=
 ag.ind (P:=λxs vs=>∀j,ag K ν I (xs.set j u) (vs.set j v)) (λζ=>.nil) (λr' rs ih j=>Nat.casesOn j (.cons r rs) λj=>.cons r' (ih j)) rs j
theorem wi(ok:c.Ok G n)(S:St G c s.heap m ν Mu I H){u uk uv:Value}{a k v:V}(r:Rep G.K ν I u a)(rk:Rep G.K ν I uk k)(rv:Rep G.K ν I uv v)(hv:Mine.setItem H a k v=some H')(Q:Unit->Shared->Prop)(E:Value->Shared->Prop)
  (post:∀h' ak aw,St G c h' m ν aw I H'->Q () {s with heap:=h',toks:=ak}):wpAny G.M c.A (PySem.setItem u uk uv) Q E s:=by
 refine aaQ hv ?_ ?_
 ·clear hv;intro d x ay jS hv
  refine NW hv ?_;clear hv;intro fs hd hv
  refine ix hv ?_;clear hv;intro hz hv
  obtain rfl:=ai hv
  refine r.ba ay λda A7=>?_
  refine rk.m9 jS λt=>?_
  refine S.ba A7 hd λo qP hm ho ro=>?_
  refine ab ro.jD λcX ET rkv=>?_
  have ap:=S.apart A7 hd rfl
  refine kda_set (knd:=PySem.strKind G.prog G.w) S.F S.N (o9 ap S.nd A7 qP S.len) ET (strKind_is _ _ _ _) ?_ λh' o' F' N' js=>?_
  ·rw[mw rkv]
   have:=bN hz
   rw[sizeLine_eq];exact XH ‹_›
  ·exact post h' _ _ (S.set A7 ap F' N' (.dict js (zx rv rkv (IsDict.nodup ET))))
 ·clear hv;intro d k ay jS hv
  refine pf hv ?_;clear hv;intro vs hx hv
  refine wx hv ?_;clear hv;intro j hj hv
  obtain rfl:=ai hv
  refine xI (ph hj) λp1 p2 p3 p4 p5 y1=>?_
  refine r.ba ay λda A7=>?_
  refine rk.cA jS λt=>?_
  refine S.fG A7 hx λxs n qP ho rs=>?_
  have ap:=S.apart A7 hx rfl
  have l1:=Rep.length rs
  have e63:(2:Int)^63=9223372036854775808:=by decide
  have hk:(Int.ofNat k).toNat=j:=p5 (Int.natCast_nonneg _)
  have hb:k<xs.length:=by
   have:(Int.ofNat k).toNat=k:=rfl
   omega
  have upd:Obj.mapSeq (λa:Array Value=>a.setIfInBounds (Int.ofNat k).toNat uv) (bI xs n)=bI (xs.set j uv) n:=by
   rw[hk]
   simp[Obj.mapSeq]
  refine ae (uS S.F S.N (S.upd A7 qP ap (bI (xs.set j uv) n)) upd rfl) λF' N'=>?_
  refine ki_setAt (items:=xs.toArray) (n:=n) ho (Int.natCast_nonneg _) (by rw[e63];exact Qu ‹_›) (by rw[List.size_toArray];exact Int.ofNat_lt.mpr hb) (post _ s.toks _ (S.set A7 ap F' N' (.list ?_)))
  rw[fw]
  exact ag.set rs rv
noncomputable def pairsOf(env:Env)(pos:Pos):List (Option Expr)->List Expr->List (Sem Value×Sem Value)
 |some k::ks,e::es=>(eval k env,do let x←eval e env;standAt pos;pure x)::pairsOf env pos ks es
 |_,_=>[]
theorem pairs_len{env:Env}{pos:Pos}{ks:List (Option Expr)}{es:List Expr}(h:keysOk ks es=true):(pairsOf env pos ks es).length=ks.length:=by
 induction ks generalizing es with
 |nil=>induction es using List.casesOn<;>first|rfl|exact nf h
 |cons k ks ih=>
  induction k with
  |none=>exact nf h
  |some k=>induction es using List.casesOn<;>first|exact nf h|exact congrArg (· +1) (ih h)
theorem m6{env:Env}{pos:Pos}:∀{ks:List (Option Expr)} {es:List Expr},keysOk ks es=true->
  (evalEachOpt ks env).zip ((evalEach es env).map λv=>do let x←v;standAt pos;pure x)=(pairsOf env pos ks es).map λp=>(some p.1,p.2)
 |[],[],_=>rfl
 |some k::ks,e::es,h=>by
  have ih:=m6 (env:=env) (pos:=pos) (ks:=ks) (es:=es) h
  show(some (eval k env),_)::(evalEachOpt ks env).zip ((evalEach es env).map λv=>do let x←v;standAt pos;pure x)=_
  rw[ih]
  rfl
 |none::ks,_,h=>by exact nf h
 |[],_::_,h=>by exact nf h
 |some _::_,[],h=>by exact nf h
variable(G) in
noncomputable def WU(c:Fc)(m:Str->Option Value)(ν:List Addr)(I:Led)(s:Shared)(Q:List (Value×Value)->Shared->Prop)(E:Value->Shared->Prop):Rs (List (Str×V))->Prop
 |.ok fs H'=>∀h' ak aa aw I' vs cX,Ext ν aa I I'->St G c h' m aa aw I' H'->Carries (PySem.strKind G.prog G.w) vs cX->bh G.K aa I' cX fs->(fs.map (·.1)).Nodup->vs.length=fs.length->Q vs {s with heap:=h',toks:=ak}
 |.exc x H'=>cu G c ν I E s x H'
variable(G) in
def GX(n:Nat)(sc:Sc)(ks:List (Option Expr))(es:List Expr)(ρ:ah)(H:List Ob)(r:Rs (List (Str×V))):Prop:=
 ∀c s m ν Mu I Q E pos,c.Ok G n->cM c sc ν->St G c s.heap m ν Mu I H->Loc G c m ν I ρ->WU G c m ν I s Q E r->wpAny G.M c.A (evalPairs (pairsOf c.env pos ks es)) Q E s
theorem Ff:GX G n sc [] [] ρ H (.ok [] H):=by
 rintro c s m ν Mu I Q E pos ok au S l post
 exact evalPairs_nil (post s.heap s.toks ν Mu I [] [] (Ext.refl _ _) S trivial .nil .nil rfl)
theorem DB{x:Str}{kn:Nat}{kp:Pos}{ks:List (Option Expr)}{e:Expr}{es:List Expr}{ie:aM V}{id:List Ob->aM (List (Str×V))}{r:Rs (List (Str×V))}
  (h1:∀r,ie=some r->dA G n sc e ρ H r) (h2:∀H₁ r,id H₁=some r->GX G n sc ks es ρ H₁ r)
  (h:(andThen ie λv H=>andThen (id H) λfs H=>match bT x fs with
   |none=>bV ((x,v)::fs) H
   |some _=>none)=some r):GX G n sc (some (.Constant (.str x) kn kp)::ks) (e::es) ρ H r:=by
 rintro c s m ν Mu I Q E pos ok au S l post
 refine evalPairs_cons (wpAny_eval_const rfl λu tk hu=>?_)
 refine bF hu ?_;clear hu;intro t aU;subst aU
 rcases bf h with⟨v,H₁,q1,q2⟩|⟨y,H₁,q1,rfl⟩
 ·refine wpAny_bind (h1 _ q1 c {s with toks:=tk} m ν Mu I ok au S l _ _ λh' ak aa aw I' u e' S' ru=>?_)
  refine wpAny_bind (wpAny_standAt (wpAny_pure ?_))
  rcases bf q2 with⟨fs,aQ,q3,q4⟩|⟨y,aQ,q3,rfl⟩
  ·refine h2 _ _ q3 c {s with heap:=h',toks:=ak} m aa aw I' _ _ pos ok (au.mono e') S' (l.mono e') λbw bY aV cF dk vs cX e'' d7 ca rk nd hl=>?_
   refine OI q4 ?_;clear q4;intro hx q4
   obtain rfl:=ai q4
   exact post bw bY aV cF dk (_::vs) ((x,u)::cX) (e'.trans e'') d7 ⟨strKind_is _ _ _ _,rfl,ca⟩ (.cons (ru.mono e'') rk) (List.nodup_cons.mpr ⟨lL hx,nd⟩) (congrArg (· +1) hl)
  ·exact h2 _ _ q3 c {s with heap:=h',toks:=ak} m aa aw I' _ _ pos ok (au.mono e') S' (l.mono e') (cu.mono e' post)
 ·exact wpAny_bind (h1 _ q1 c {s with toks:=tk} m ν Mu I ok au S l _ _ (cu.mono (Ext.refl _ _) post))
theorem lK:Obj.IsDictOf (PySem.strKind G.prog G.w) ({cls:=.type "dict",data:=.dict #[]}:Obj) []:=by
 refine ab (Heap.dictOf_iff.mp (Heap.DictOf.new (knd:=PySem.strKind G.prog G.w) ({}:Heap))) λo ho hd=>?_
 rw[Heap.get?_push_size _ rfl] at ho
 exact(Option.some.inj ho)▸hd
theorem BF{pos:Pos}:dA G n sc (.Dict [] [] pos) ρ H (.ok (.obj H.length) (H++[.dict []])):=by
 rintro c s m ν Mu I ok au S l Q E post
 refine wpAny_Dict_empty ?_
 refine cZ (S.newObj (b:=.dict []) (S.F.push _) (News.push S.F S.N _) (Nat.le_refl _) (.dict lK .nil)) λS' e D3=>?_
 exact post _ s.toks _ _ _ _ e S' (.obj D3)
theorem HU{ks:List (Option Expr)}{es:List Expr}{pos:Pos}{r:Rs V}{id:List Ob->aM (List (Str×V))}(hk:keysOk ks es=true)(h0:ks≠[])(hl:ks.length<=15)
  (h1:∀H₁ r,id H₁=some r->GX G n sc ks es ρ H₁ r)
  (h:(andThen (id (H++[.dict []])) λfs H'=>match cJ H' H.length with
    |some (.dict [])=>bV (.obj H.length) (dq H' H.length (.dict fs))
    |_=>none)=some r):dA G n sc (.Dict ks es pos) ρ H r:=by
 rintro c s m ν Mu I ok au S l Q E post
 have hlen:=pairs_len (env:=c.env) (pos:=pos) hk
 refine wpAny_Dict_pairs (knd:=PySem.strKind G.prog G.w) (pairs:=pairsOf c.env pos ks es) (m6 hk) (λe=>?_) (by exact abu ‹_› ‹_›) ?_
 ·rw[e] at hlen
  exact h0 (List.length_eq_zero_iff.mp hlen.symm)
 refine cZ (S.newObj (b:=.dict []) (S.F.push _) (News.push S.F S.N _) (Nat.le_refl _) (.dict lK .nil)) λS' e D3=>?_
 rcases bf h with⟨fs,H₁,q1,q2⟩|⟨y,H₁,q1,rfl⟩
 ·refine abb q2 ?_;clear q2;intro hd q2
  obtain rfl:=ai q2
  refine h1 _ _ q1 c {s with heap:=_} m _ _ _ _ _ pos ok (au.mono e) S' (l.mono e) λh' ak aa aw I' vs cX e' d7 ca rk nd hl'=>?_
  have D7:=e'.at D3
  refine d7.ba D7 hd λo qP mU ho ro=>?_
  refine ab ro.jD λkv0 ET rk0=>?_
  cases rk0
  refine⟨cX,ca,Heap.dictOf_iff.mpr ⟨o,ho,ET⟩,λbt hm hs=>?_⟩
  have nd':(cX.map (·.1)).Nodup:=by rw[pz rk];exact nd
  rw[xk cX [] nd',List.nil_append] at hm
  refine ab (Heap.dictOf_iff.mp hm) λo' qk js=>?_
  have ap:=d7.apart D7 hd rfl
  have U:=o9 ap d7.nd D7 qP d7.len
  have hN:=d7.N _ mU
  have F':=d7.F.change hs hN.2.1 hN.2.2
  have N':News c.h₀ c.L bt (aa.zip (aw.set H.length o')++I'):=by
   have N0:=d7.N
   refine gr U.split λpre po D8 hg a b=>?_
   rw[D8] at N0
   have:=N0.setIn a b hs qk
   rw[←hg o'] at this
   exact this
  exact post bt _ aa _ I' _ (e.trans e') (d7.set D7 ap F' N' (.dict js rk)) (.obj D7)
 ·exact h1 _ _ q1 c {s with heap:=_} m _ _ _ _ _ pos ok (au.mono e) S' (l.mono e) (cu.mono e post)
end
section
variable{G:Gc}{c:Fc}{s:Shared}{h h':Heap}{m m':Str->Option Value}{ν:List Addr}{Mu:List Obj}{I:Led}{ρ:ah}{H H':List Ob}{n:Nat}{sc:Sc}
theorem ik.mono{ν aa:List Addr}{I I':Led}{Q:Flow->Shared->Prop}{E:Value->Shared->Prop}{r:Rs fi}{h:Heap}{tk:Tok}(e:Ext ν aa I I')(p:ik G c ν I s Q E r):ik G c aa I' {s with heap:=h,toks:=tk} Q E r:=by
 induction r with
 |ok v H'=>exact λh' ak m' aV aw dk q f k=>p h' ak m' aV aw dk (e.trans q) f k
 |exc x H'=>exact cu.mono e p
theorem ik.px{Q:Flow->Shared->Prop}{E:Value->Shared->Prop}{r:Rs fi}(p:ik G c ν I s Q E r):∀x H',r=.exc x H'->cu G c ν I E s x H':=by
 rintro x H' rfl;exact p
theorem ey{α:Type}{e:Expr}{r:Rs α}{f:V->List Ob->aM α}{ih:aM V}(h:andThen ih f=some r)(h1:∀r,ih=some r->dA G n sc e ρ H r)
  (c:Fc) (s:Shared) (m:Str->Option Value) (ν:List Addr) (Mu:List Obj) (I:Led) (E:Value->Shared->Prop) (ok:c.Ok G n) (au:cM c sc ν) (S:St G c s.heap m ν Mu I H)
  (l:Loc G c m ν I ρ) (px:∀x H',r=.exc x H'->cu G c ν I E s x H') (Q':Value->Shared->Prop)
  (k:∀v H₁,f v H₁=some r->∀h' ak aa aw I' u,Ext ν aa I I'->St G c h' m aa aw I' H₁->Rep G.K aa I' u v->Q' u {s with heap:=h',toks:=ak}):
  wpAny G.M c.A (eval e c.env) Q' E s:=by
 rcases bf h with⟨v,H₁,q1,q2⟩|⟨x,H₁,q1,rfl⟩
 ·exact h1 _ q1 c s m ν Mu I ok au S l _ _ λh' ak aa aw I' u x S' ru=>k v H₁ q2 h' ak aa aw I' u x S' ru
 ·exact h1 _ q1 c s m ν Mu I ok au S l _ _ (px _ _ rfl)
theorem cu.xG{ν aa:List Addr}{I I':Led}{E:Value->Shared->Prop}{α:Type}{r:Rs α}{h:Heap}{tk:Tok}(e:Ext ν aa I I')(p:∀x H',r=.exc x H'->cu G c ν I E s x H'):
  ∀x H',r=.exc x H'->cu G c aa I' E {s with heap:=h,toks:=tk} x H':=λx H' q=>cu.mono e (p x H' q)
theorem bO(hc:c.env=c.dK)(k:cC G.K m ν I ρ):Loc G c m ν I ρ:=.top (by rw[hc]) k
theorem D1:gJ G n sc [] ρ H (.ok (ρ,none) H):=by
 rintro c s m ν Mu I Q E ok hc au S k post
 exact wpAny_execs_nil (post s.heap s.toks m ν Mu I (Ext.refl _ _) S k)
theorem rS{st:Stmt}{ss:List Stmt}{r:Rs fi}{is:aM fi}{iss:ah->List Ob->aM fi}(h1:∀r,is=some r->qH G n sc st ρ H r)(h2:∀bj H₁ r,iss bj H₁=some r->gJ G n sc ss bj H₁ r)
  (h:(andThen is λr H=>match r.2 with
   |none=>iss r.1 H
   |some v=>bV r H)=some r):gJ G n sc (st::ss) ρ H r:=by
 rintro c s m ν Mu I Q E ok hc au S k post
 refine wpAny_execs_cons ?_
 rcases bf h with⟨⟨bj,o⟩,H₁,q1,q2⟩|⟨x,H₁,q1,rfl⟩
 ·refine h1 _ q1 c s m ν Mu I _ _ ok hc au S k λh' ak m' aa aw I' x S' k'=>?_
  induction o with
  |none=>exact h2 _ _ _ q2 c {s with heap:=h',toks:=ak} m' aa aw I' _ _ ok hc (au.mono x) S' k' (ik.mono x post)
  |some v=>
   obtain rfl:=ai q2
   exact λu ru=>post h' ak m' aa aw I' x S' k' u ru
 ·exact h1 _ q1 c s m ν Mu I _ _ ok hc au S k post
theorem Bm(ok:c.Ok G n):interactive c.env=false:=by
 unfold interactive
 rw[ok.ek]
 rfl
theorem eD{e:Expr}{t:Option Expr}{line:Nat}{env:Env}(h:gf e=false):swapsWith e t line env=pure false:=by
 (first|exact no e|exact nf e|subst e|obtain rfl:=ai e|induction e using Expr.casesOn)<;>first|rfl|exact no h|exact nf h|cases h
theorem CC{e:Expr}{pos:Pos}{r:Rs fi}{ie:aM V}(hn:gf e=false)(h1:∀r,ie=some r->dA G n sc e ρ H r)(h:(andThen ie λζ H=>bV (ρ,none) H)=some r):qH G n sc (.Expr e pos) ρ H r:=by
 rintro c s m ν Mu I Q E ok hc au S k post
 refine wpAny_Expr_any (ey h h1 c s m ν Mu I E ok au S (bO hc k) post.px _ λv H₁ hf h' ak aa aw I' u x S' ru=>?_) (Bm ok) (eD hn)
 obtain rfl:=ai hf
 exact post h' ak m aa aw I' x S' (k.mono x)
theorem pB{e:Expr}{pos:Pos}{r:Rs fi}{ie:aM V}(h1:∀r,ie=some r->dA G n sc e ρ H r)(h:(andThen ie λv H=>bV (ρ,some v) H)=some r):qH G n sc (.Return (some e) pos) ρ H r:=by
 rintro c s m ν Mu I Q E ok hc au S k post
 refine wpAny_Return_some (ey h h1 c s m ν Mu I E ok au S (bO hc k) post.px _ λv H₁ hf h' ak aa aw I' u x S' ru=>?_)
 obtain rfl:=ai hf
 exact post h' ak m aa aw I' x S' (k.mono x) u ru
theorem vd{pos:Pos}:qH G n sc (.Return none pos) ρ H (.ok (ρ,some .none) H):=by
 rintro c s m ν Mu I Q E ok hc au S k post
 exact wpAny_Return_none (post s.heap s.toks m ν Mu I (Ext.refl _ _) S k .none .none)
theorem Pw{t:Expr}{a b:List Stmt}{pos:Pos}{r:Rs fi}{it:aM Bool}{ia ib:List Ob->aM fi}(h1:∀r,it=some r->oz G n sc t ρ H r)(h2:∀H₁ r,ia H₁=some r->gJ G n sc a ρ H₁ r)(h3:∀H₁ r,ib H₁=some r->gJ G n sc b ρ H₁ r)
  (h:(andThen it λc H=>match c with
   |true=>ia H
   |false=>ib H)=some r):qH G n sc (.If t a b pos) ρ H r:=by
 rintro c s m ν Mu I Q E ok hc au S k post
 refine wpAny_If ?_
 rcases bf h with⟨v,H₁,q1,hf⟩|⟨y,H₁,q1,rfl⟩
 ·refine h1 _ q1 c s m ν Mu I _ _ ok au S (bO hc k) λh' ak aa aw I' x S'=>?_
  induction v with
  |true=>exact h2 H₁ _ hf c {s with heap:=h',toks:=ak} m aa aw I' Q E ok hc (au.mono x) S' (k.mono x) (ik.mono x post)
  |false=>exact h3 H₁ _ hf c {s with heap:=h',toks:=ak} m aa aw I' Q E ok hc (au.mono x) S' (k.mono x) (ik.mono x post)
 ·exact h1 _ q1 c s m ν Mu I _ _ ok au S (bO hc k) post
theorem nL{α:Type}(x y:Str)(v:α):∀l:List (Str×α),bT y (gm x v l)=if y=x then some v else bT y l:=by
 intro l_
 induction l_ with
 |nil=>
  unfold gm
  rw[bU]
  cases q:du x y with
  |true=>rw[if_pos (aH.mp q).symm]
  |false=>rw[if_neg λe=>by rw[e,aH.mpr rfl] at q;cases q]
 |cons p_ l ih=>
  obtain⟨z,w⟩:=p_
  unfold gm
  dsimp only
  cases q:du z x with
  |true=>
   have e:=aH.mp q
   rw[bU,bU]
   cases q':du z y with
   |true=>rw[if_pos ((aH.mp q').symm.trans e)]
   |false=>
    rw[if_neg λe'=>by rw[e',←e,aH.mpr rfl] at q';cases q']
  |false=>
   rw[bU,bU,ih]
   cases q':du z y with
   |true=>
    dsimp only
    rw[if_neg λe=>by rw[aH.mp q',e,aH.mpr rfl] at q;cases q]
   |false=>rfl
theorem kK(ok:c.Ok G n)(hc:c.env=c.dK)(au:cM c sc ν)(S:St G c s.heap m ν Mu I H)(k:cC G.K m ν I ρ){qi:ah}{x:Str}{u:Value}{v:V}(hv:sc.put ρ H x v=some (qi,H'))(ru:Rep G.K ν I u v){Q:Unit->Shared->Prop}{E:Value->Shared->Prop}
  (post:∀h' ak m' aw,St G c h' m' ν aw I H'->cC G.K m' ν I qi->Q () {s with heap:=h',toks:=ak}):wpAny G.M c.A (storeName c.env x u) Q E s:=by
 have hL:c.env.locals=c.L:=by rw[hc]
 refine acm hv ?_ ?_
 ·clear hv;intro hk hv
  cases hv
  refine wpAny_storeName_local ((au.ns x).trans hk) (hL▸S.F.ns) (λh' hn hs=>?_) (by rw[ok.ek];rfl)
  rw[hL] at hn hs
  refine post h' _ _ Mu (S.frame (S.F.set hn hs) (S.N.set hs)) λy w q=>?_
  rw[nL] at q
  split at q
  ·rename_i e
   obtain rfl:=ai q
   exact⟨u,if_pos e,ru⟩
  ·rename_i e
   refine ab (k y w q) λu' h1 h2=>?_
   exact⟨u',by rw[if_neg e];exact h1,h2⟩
 ·clear hv;intro hk hv
  refine wx hv ?_;clear hv;intro i hi hv
  refine aa7 hv ?_;clear hv;intro b hb hv
  cases hv
  refine ab (au.cells x i hi) λa ha cb=>?_
  refine S.ba cb hb λo qP mU ho ro=>?_
  have D9:∃YY,s.heap.IsCell a YY:=by
   cases ro with
   |cell hd _=>exact⟨_,o,ho,hd⟩
   |mf hd=>exact⟨_,o,ho,hd⟩
  obtain⟨YY,D9⟩:=D9
  have ap:=S.apart cb hb rfl
  have hN:=S.N _ mU
  refine wpAny_storeName_cell ok.ek ((au.ns x).trans hk) ha D9 λh' hv' hs=>?_
  refine ab hv' ?_;clear hv';intro o' qk js
  have F':=S.F.change hs hN.2.1 hN.2.2
  have N':News c.h₀ c.L h' (ν.zip (Mu.set i o')++I):=by
   have N0:=S.N
   refine gr ((o9 ap S.nd cb qP S.len).split) λpre po D8 hg a1 b1=>?_
   rw[D8] at N0
   have:=N0.setIn a1 b1 hs qk
   rw[←hg o'] at this
   exact this
  exact post h' s.toks m _ (S.set cb ap F' N' (.cell js ru)) k
inductive Stores(env:Env):List Expr->List (Value->Sem Unit)->Prop
 |nil:Stores env [] []
 |cons {x:Str} {p:Pos} {ts:List Expr} {fs:List (Value->Sem Unit)} {f:Value->Sem Unit} (hf:f=bindName env x∨f=assign (.Name x p) env) (h:Stores env ts fs):Stores env (.Name x p::ts) (f::fs)
theorem mP{n:Nat}{sc:Sc}(hc:c.env=c.dK)(ok:c.Ok G n){Q:Unit->Shared->Prop}{E:Value->Shared->Prop}{ts:List Expr}{fs:List (Value->Sem Unit)}(hs:Stores c.env ts fs):
  ∀{us:List Value} {vs:List V} {ρ qi:ah} {H H':List Ob} {s:Shared} {m:Str->Option Value} {ν:List Addr} {Mu:List Obj} {I:Led},
  cM c sc ν->St G c s.heap m ν Mu I H->cC G.K m ν I ρ->putAll sc ts ρ H vs=some (qi,H')->ag G.K ν I us vs->
  (∀h' ak m' aw,St G c h' m' ν aw I H'->cC G.K m' ν I qi->Q () {s with heap:=h',toks:=ak})->wpAny G.M c.A (assignInOrder fs us) Q E s:=by
 induction hs with
 |nil=>
  intro us vs ρ qi H H' s m ν Mu I au S k hv rs post
  induction vs using List.casesOn with
  |nil=>cases hv;exact assignInOrder_nil (post s.heap s.toks m Mu S k)
  |cons v vs=>exact no hv
 | @cons x p ts fs f hf hs ih=>
  intro us vs ρ qi H H' s m ν Mu I au S k hv rs post
  induction vs using List.casesOn with
  |nil=>exact no hv
  |cons v vs=>
   cases rs with
   | @cons u _ us _ ru rs=>
    refine X0 hv ?_;clear hv;intro bj H₁ h1 hv
    refine assignInOrder_cons ?_
    have key:wpAny G.M c.A (storeName c.env x u) (λζ dC=>wpAny G.M c.A (assignInOrder fs us) Q E dC) E s:=kK ok hc au S k h1 ru λh' ak m' aw S' k'=>
     ih (s:={s with heap:=h',toks:=ak}) au S' k' hv rs post
    rcases hf with rfl|rfl
    ·exact λΓ p hΓ=>by rw[Sem.wp_bindName];exact key Γ p hΓ
    ·exact PyProof.Rows.assign_Name key
end
section
variable{G:Gc}{c:Fc}{s:Shared}{h h':Heap}{m m':Str->Option Value}{ν:List Addr}{Mu:List Obj}{I:Led}{ρ:ah}{H H':List Ob}{n:Nat}{sc:Sc}
theorem nE(gk:ko G){e o:Expr}{x:Str}{ap pos:Pos}{r:Rs fi}{ie:aM V}{io:List Ob->aM V}(h1:∀r,ie=some r->dA G n sc e ρ H r)(h2:∀H₁ r,io H₁=some r->dA G n sc o ρ H₁ r)
  (h:(andThen ie λv H=>andThen (io H) λa H=>bE (Mine.setAttr G.cf H a x v) λH=>bV (ρ,none) H)=some r):qH G n sc (.Assign [.Attribute o x ap] e pos) ρ H r:=by
 rintro c s m ν Mu I Q E ok hc au S k post
 refine plainObj_wpAny_Assign_Attribute (ey h h1 c s m ν Mu I E ok au S (bO hc k) post.px _ λv H₁ hf h' ak aa aw I' u x' S' ru=>?_) (by induction e using Expr.casesOn<;>rfl)
 refine ey hf (h2 H₁) c {s with heap:=h',toks:=ak} m aa aw I' E ok (au.mono x') S' (bO hc (k.mono x')) (cu.xG x' post.px) _ λa aQ hf bw bY aV cF dk ua EU d7 ra=>?_
 refine cP hf ?_;clear hf;intro vF hw hf
 obtain rfl:=ai hf
 exact wg (s:={s with heap:=bw,toks:=bY}) gk ok d7 ra (ru.mono EU) hw _ _ λa9 bq bM bZ=>post a9 bq m aV bM dk (x'.trans EU) bZ (k.mono (x'.trans EU))
theorem oR(gk:ko G){e o i:Expr}{ap pos:Pos}{r:Rs fi}{ie:aM V}{io ii:List Ob->aM V}(h1:∀r,ie=some r->dA G n sc e ρ H r)(h2:∀H₁ r,io H₁=some r->dA G n sc o ρ H₁ r)
  (h3:∀H₁ r,ii H₁=some r->dA G n sc i ρ H₁ r)
  (h:(andThen ie λv H=>andThen (io H) λa H=>andThen (ii H) λk H=>bE (Mine.setItem H a k v) λH=>bV (ρ,none) H)=some r):qH G n sc (.Assign [.Subscript o i ap] e pos) ρ H r:=by
 rintro c s m ν Mu I Q E ok hc au S k post
 refine wpAny_Assign_Subscript (ey h h1 c s m ν Mu I E ok au S (bO hc k) post.px _ λv H₁ hf h' ak aa aw I' u x' S' ru=>?_) (by induction e using Expr.casesOn<;>rfl)
 refine ey hf (h2 H₁) c {s with heap:=h',toks:=ak} m aa aw I' E ok (au.mono x') S' (bO hc (k.mono x')) (cu.xG x' post.px) _ λa aQ hf bw bY aV cF dk ua EU d7 ra=>?_
 refine ey hf (h3 aQ) c {s with heap:=bw,toks:=bY} m aV cF dk E ok (au.mono (x'.trans EU)) d7 (bO hc (k.mono (x'.trans EU))) (cu.xG (x'.trans EU) post.px) _ λkey vF hf a9 bq dd bM fq uk jm bZ rk=>?_
 refine cP hf ?_;clear hf;intro QF hw hf
 obtain rfl:=ai hf
 exact wi (s:={s with heap:=a9,toks:=bq}) ok bZ (ra.mono jm) rk (ru.mono (EU.trans jm)) hw _ _ λdh vG M4 eJ=>post dh vG m dd M4 fq ((x'.trans EU).trans jm) eJ (k.mono ((x'.trans EU).trans jm))
theorem nD{e:Expr}{x:Str}{ap pos:Pos}{r:Rs fi}{ie:aM V}(hn:gf e=false)(h1:∀r,ie=some r->dA G n sc e ρ H r)
  (h:(andThen ie λv H=>bE (sc.put ρ H x v) λ(ρ,H)=>bV (ρ,none) H)=some r):qH G n sc (.Assign [.Name x ap] e pos) ρ H r:=by
 rintro c s m ν Mu I Q E ok hc au S k post
 refine wpAny_Assign_Name (ey h h1 c s m ν Mu I E ok au S (bO hc k) post.px _ λv H₁ hf h' ak aa aw I' u x' S' ru=>?_) (eD hn)
 obtain⟨⟨eh,aQ⟩,hw,hf⟩:=kW hf
 obtain rfl:=ai hf
 exact kK (s:={s with heap:=h',toks:=ak}) ok hc (au.mono x') S' (k.mono x') hw ru λa9 bq iy bM bZ gQ=>post a9 bq iy aa bM I' x' bZ gQ
theorem jR{env:Env}{ts:List Expr}{sc:Sc}{ρ qi:ah}{H H':List Ob}{vs:List V}(h:putAll sc ts ρ H vs=some (qi,H')):Stores env ts ((assignEach ts env).map (·.2))/\ts.length=vs.length/\(assignEach ts env).findIdx? (·.1)=none/\(assignEach ts env).length=ts.length:=by
 induction ts generalizing ρ H vs with
 |nil=>
  induction vs using List.casesOn with
  |nil=>exact⟨.nil,rfl,rfl,rfl⟩
  |cons=>exact no h
 |cons t ts ih=>
  induction vs using List.casesOn with
  |nil=>exact no h
  |cons v vs=>
   refine Io (x0:=t) h λx p e h=>X0 h λbj H₁ h1 h=>dH (ih h) λa b d e1=>?_
   rw[e]
   refine⟨.cons (.inr rfl) a,congrArg (· +1) b,?_,congrArg (· +1) e1⟩
   show List.findIdx? (·.1) ((false,_)::assignEach ts env)=none
   rw[List.findIdx?_cons,d]
   rfl
theorem ti{env:Env}{line:Nat}{ns:List (Str×NameKind)}:∀{ts:List Expr} {names:List Str},xf ns line ts=some names->Stores env ts (names.map λx=>bindName env x):=by
 intro l_
 induction l_ with
 |nil=>
  intro names h
  obtain rfl:=ai h;exact .nil
 |cons t ts ih=>
  intro names h
  refine Io h ?_;clear h;intro _ _ ay h;subst ay
  refine Bb h ?_;clear h;intro _ h
  refine ix h ?_;clear h;intro _ h
  refine ab (Option.map_eq_some_iff.mp h) λl hl aU=>?_;subst aU
  exact .cons (.inl rfl) (ih hl)
theorem Stores.append{env:Env}{ts ts':List Expr}{fs fs':List (Value->Sem Unit)}(h:Stores env ts fs)(h':Stores env ts' fs'):Stores env (ts++ts') (fs++fs'):=by
 induction h with
 |nil=>exact h'
 |cons hf _ ih=>exact .cons hf ih
theorem Stores.reverse{env:Env}{ts:List Expr}{fs:List (Value->Sem Unit)}(h:Stores env ts fs):Stores env ts.reverse fs.reverse:=by
 induction h with
 |nil=>exact .nil
 |cons hf _ ih=>
  rw[List.reverse_cons,List.reverse_cons]
  exact ih.append (.cons hf .nil)
theorem ag.reverse{K:Frag}{us:List Value}{vs:List V}(h:ag K ν I us vs):ag K ν I us.reverse vs.reverse:=by
 induction us generalizing vs with
 |nil=>cases h;exact .nil
 |cons u us ih=>
  cases h with
  |cons r rs=>
   rw[List.reverse_cons,List.reverse_cons]
   exact(ih rs).append (.cons r .nil)
theorem xc(a b:Nat):Nat.beq a b=(a==b):=by
 cases h:Nat.beq a b with
 |true=>rw[Nat.eq_of_beq_eq_true h];simp
 |false=>simp[Nat.ne_of_beq_eq_false h]
structure Tg(ns:List (Str×NameKind))(line:Nat)(g:Expr->Option Str):Prop where
 name:∀x p,g (.Name x p)=if bT x ns==some .local&&p.line==line then some x else none
 other:∀t,(∀x p,t≠ .Name x p)->g t=none
theorem zR{g:Expr->Option Str}{ns:List (Str×NameKind)}{line:Nat}(hg:Tg ns line g):∀{ts:List Expr} {names:List Str},xf ns line ts=some names->
  ts.filterMap g=names/\names.length=ts.length:=by
 intro l_
 induction l_ with
 |nil=>
  intro names h
  obtain rfl:=ai h;exact⟨rfl,rfl⟩
 |cons t ts ih=>
  intro names h
  refine Io h ?_;clear h;intro x p ay h;subst ay
  refine Bb h ?_;clear h;intro hx h
  refine ix h ?_;clear h;intro hl h
  refine ab (Option.map_eq_some_iff.mp h) λl hl' aU=>?_;subst aU
  refine ae (ih hl') λa b=>?_
  refine⟨?_,congrArg (· +1) b⟩
  have e:p.line=line:=Nat.eq_of_beq_eq_true hl
  have:g (.Name x p)=some x:=by rw[hg.name,hx,e];simp
  rw[List.filterMap_cons,this,a]
theorem sh{α β:Type}(f:α->Option β):∀l:List α,(l.filterMap f).length<=l.length:=by
 intro l_
 induction l_ with
 |nil=>
  exact Nat.le_refl _
 |cons a l ih=>
  rw[List.filterMap_cons]
  cases f a with
  |none=>exact Nat.le_succ_of_le (ih)
  |some _=>exact Nat.succ_le_succ (ih)
theorem zW{g:Expr->Option Str}{ns:List (Str×NameKind)}{line:Nat}(hg:Tg ns line g):∀{ts:List Expr},xf ns line ts=none->(ts.filterMap g).length<ts.length:=by
 intro l_
 induction l_ with
 |nil=>
  intro h
  cases h
 |cons t ts ih=>
  intro h
  have le:=sh g ts
  rw[List.filterMap_cons]
  by_cases hN:∃x p,t=.Name x p
  ·obtain⟨x,p,rfl⟩:=hN
   change(match bT x ns with|some .local=>(match Nat.beq p.line line with|true=>(xf ns line ts).map (x:: ·)|false=>none)|_=>none)=none at h
   by_cases q:(bT x ns==some .local&&p.line==line)=true
   ·rw[hg.name,if_pos q]
    refine aJ q λq1 q2=>?_
    have hx:bT x ns=some .local:=by
     cases hh:bT x ns with
     |none=>rw[hh] at q1;exact nf q1
     |some k=>rw[hh] at q1;(first|exact no k|exact nf k|subst k|obtain rfl:=ai k|induction k)<;>first|rfl|exact no q1|exact nf q1|cases q1
    rw[hx] at h
    have hl:Nat.beq p.line line=true:=by rw[xc];exact q2
    rw[hl] at h
    have:=ih (Option.map_eq_none_iff.mp h)
    exact Nat.succ_lt_succ this
   ·rw[hg.name,if_neg q]
    exact Nat.lt_succ_of_le le
  ·rw[hg.other _ λx p e=>hN ⟨x,p,e⟩]
   exact Nat.lt_succ_of_le le
theorem vX:∀{l:List Str},xl l=true->l.Nodup:=by
 intro l_
 induction l_ with
 |nil=>
  intro _
  exact .nil
 |cons x l ih=>
  intro h
  refine aJ h λa b=>?_
  refine List.nodup_cons.mpr ⟨λhm=>?_,ih b⟩
  have:=List.all_eq_true.mp a x hm
  rw[aH.mpr rfl] at this
  exact nf this
theorem tl{l:List Str}(h:l.Nodup):l.eraseDups=l:=by
 induction l with
 |nil=>rfl
 |cons x l ih=>
  refine ae (List.nodup_cons.mp h) λa b=>?_
  rw[List.eraseDups_cons]
  have:(l.filter λy=>!y==x)=l:=List.filter_eq_self.mpr λy hy=>by
   have:y≠x:=λe=>a (e▸hy)
   simp[this]
  rw[this,ih b]
theorem Aq(ts:List Expr):(ts.head?.map (·.pos.line)).getD 0=tc ts:=by induction ts using List.casesOn<;>rfl
theorem BL{vs:List Expr}(h:noStar vs=true){p:Expr->Bool}(hp:∀e,isStar e=false->p e=false):vs.any p=false:=by
 induction vs with
 |nil=>rfl
 |cons e es ih=>
  refine ae (jC h) λa b=>?_
  rw[List.any_cons,ih b,hp e a]
  rfl
set_option tactic.hygienic true in
theorem Bh{e:Expr}{vs:List Expr}(h:isTup e=some vs):∃k p,e=.Tuple vs k p:=by
 induction e using Expr.casesOn<;>first|exact no h|(obtain rfl:=ai h;exact⟨_,_,rfl⟩)
theorem Oy{e:Expr}{ts:List Expr}{k:Nat}{tp:Pos}{env:Env}(h:isTup e=none):swappedStores [.Tuple ts k tp] e env=pure none:=by
 induction e using Expr.casesOn<;>first|rfl|cases h
theorem A9{x:Option (List Expr)}{f:List Expr->Option Bool}{b:Bool}{P:Prop}(h:(match x with|none=>some false|some vs=>f vs)=some b)(k0:x=none->b=false->P)(k1:∀vs,x=some vs->f vs=some b->P):P:=by
 generalize e0:x=y0 at h
 induction y0 with
 |none=>exact k0 e0 (ai (show some false=some b from h))
 |some z1=>exact k1 _ e0 h
noncomputable def sw(ts vs:List Expr)(c:Bool)(st:Expr->Bool)(g:Expr->Option Str):Sem (Option (List Str)):=
 if c=true then pure none else if vs.any st=true then pure none else
 if((ts.filterMap g).length !=ts.length||(ts.filterMap g).eraseDups.length !=(ts.filterMap g).length)=true then pure none else
 if vs.all (foldedForSure 8)=true then pure none else if vs.all (constantsAlone 8)=true then(do unsupported "assign.tuple-of-constant-expressions:order-of-the-stores";pure (some (ts.filterMap g))) else pure (some (ts.filterMap g))
theorem T6(ts vs:List Expr)(k k2:Nat)(tp p2:Pos)(env:Env):∃st g,swappedStores [.Tuple ts k tp] (.Tuple vs k2 p2) env=sw ts vs (!(ts.length==2||ts.length==3)||vs.length !=ts.length||env.blockKind !=.function) st g/\
  (∀e,isStar e=false->st e=false)/\(∀x p,g (.Name x p)=if env.kindOf x==some .local&&p.line==(ts.head?.map (·.pos.line)).getD 0 then some x else none)/\(∀t,(∀x p,t≠ .Name x p)->g t=none):=
 ⟨_,_,rfl,(λe h=>by induction e using Expr.casesOn<;>first|rfl|exact nf h.symm),λζ ζ=>rfl,λt hn=>(by induction t using Expr.casesOn<;>first|rfl|exact absurd rfl (hn _ _))⟩
theorem wZ(ok:c.Ok G n)(au:cM c sc ν){ts:List Expr}{k:Nat}{tp:Pos}{e:Expr}{b:Bool}(h:DA sc ts e=some b):
  (b=false/\swappedStores [.Tuple ts k tp] e c.env=pure none)∨(b=true/\∃names,swappedStores [.Tuple ts k tp] e c.env=pure (some names)/\xf sc.ns (tc ts) ts=some names/\names.length=ts.length):=by
 refine A9 h (λq e=>.inl ⟨e,Oy q⟩) ?_;clear h;intro vs q h
 refine uo (Bh q) λk2 p2 e1=>?_
 rw[e1]
 refine gr (T6 ts vs k k2 tp p2 c.env) λst g es hst hg ho=>?_
 rw[es,show c.env.blockKind=.function from by unfold Env.blockKind;rw[ok.ek];rfl]
 have tg:Tg sc.ns (tc ts) g:=⟨λx p=>by rw[hg,Aq,show c.env.kindOf x=bT x sc.ns from au.ns x],ho⟩
 clear hg ho es
 refine BZ h ?_ ?_
 ·clear h;intro q h
  refine .inl ⟨ai h,if_pos ?_⟩
  have q':((ts.length==2||ts.length==3)&&(vs.length==ts.length))=false:=by rw[←xc,←xc,←xc];exact q
  cases h1:(ts.length==2||ts.length==3)
  ·rfl
  ·rw[h1] at q'
   have q'':(vs.length==ts.length)=false:=q'
   simp[bne,q'']
 ·clear h;intro q h
  have q':((ts.length==2||ts.length==3)&&(vs.length==ts.length))=true:=by rw[←xc,←xc,←xc];exact q
  refine aJ q' λq1 q2=>?_
  have e1:(!(ts.length==2||ts.length==3)||vs.length !=ts.length||(ScopeKind.function !=ScopeKind.function))=false:=by
   rw[q1]
   simp[bne,q2]
  rw[e1]
  refine gB h ?_;clear h;intro hs h
  have e2:=BL hs hst
  have step:∀X,((if((ts.filterMap g).length !=ts.length||(ts.filterMap g).eraseDups.length !=(ts.filterMap g).length)=true then pure none else
   if vs.all (foldedForSure 8)=true then pure none else if vs.all (constantsAlone 8)=true then(do unsupported "assign.tuple-of-constant-expressions:order-of-the-stores";pure (some (ts.filterMap g))) else pure (some (ts.filterMap g))):Sem (Option (List Str)))=X->sw ts vs false st g=X:=λX e=>by
   unfold sw
   rw[if_neg (by decide),e2,if_neg (by decide)]
   exact e
  refine abK h ?_ ?_
  ·clear h;intro ht h
   refine .inl ⟨ai h,step _ (if_pos ?_)⟩
   rw[Bool.or_eq_true_iff,bne_iff_ne]
   exact .inl (Nat.ne_of_lt (zW tg ht))
  ·clear h;intro names ht h
   refine gB h ?_;clear h;intro ha h
   refine ae (zR tg ht) λe3 e4=>?_
   have e5:names.eraseDups.length=names.length:=by rw[tl (vX ha)]
   rw[e3,e4,e5,e4,bne_self_eq_false,Bool.or_false,if_neg (by decide)] at step
   refine pC h ?_ ?_
   ·clear h;intro hfo h
    exact .inl ⟨ai h,step _ (if_pos hfo)⟩
   ·clear h;intro hfo h
    refine n5 h ?_;clear h;intro D5 h
    exact .inr ⟨ai h,names,step _ ((if_neg (by rw[hfo];decide)).trans (if_neg (by rw[D5];decide))),ht,e4⟩
theorem mL{e:Expr}{ts:List Expr}{tk:Nat}{tp pos:Pos}{r:Rs fi}{ie:aM V}(hn:gf e=false)(h1:∀r,ie=some r->dA G n sc e ρ H r)
  (h:(bE (DA sc ts e) λsw=>andThen ie λv H=>match v with
      |.tup vs=>match sw with
       |false=>bE (putAll sc ts ρ H vs) λ(ρ,H)=>bV (ρ,none) H
       |true=>bE (putAll sc ts.reverse ρ H vs.reverse) λ(ρ,H)=>bV (ρ,none) H
      |_=>none)=some r):qH G n sc (.Assign [.Tuple ts tk tp] e pos) ρ H r:=by
 rintro c s m ν Mu I Q E ok hc au S k post
 refine cP h ?_;clear h;intro sw hsw h
 rcases wZ (k:=tk) (tp:=tp) ok au hsw with⟨rfl,hs⟩|⟨rfl,names,hs,QE,hlen⟩
 ·refine Assign_Tuple (ey h h1 c s m ν Mu I E ok au S (bO hc k) post.px _ λv H₁ hf h' ak aa aw I' u x' S' ru=>?_) (by unfold swapsWithSole;exact eD hn) hs
  refine PL hf ?_;clear hf;intro _ ay hf
  obtain⟨⟨eh,aQ⟩,hw,hf⟩:=kW hf
  obtain rfl:=ai hf
  refine dH (jR (env:=c.env) hw) λst hl hfi hle=>?_
  refine ru.gc ay λt xs kk hI rs=>?_
  have QG:=Rep.length rs
  refine unpackN_ (s:={s with heap:=h',toks:=ak}) S'.F S'.N (items:=xs.toArray) ⟨_,S'.im ok.X.X hI,rfl,_,rfl⟩ ok.hd (by rw[hle,hl,List.size_toArray,QG]) hfi λbt mi tH=>?_
  exact mP hc ok (s:={s with heap:=bt,toks:=ak}) st (au.mono x') (S'.frame mi tH) (k.mono x') hw rs λa9 bq iy bM bZ gQ=>post a9 bq iy aa bM I' x' bZ gQ
 ·refine Assign_Tuple_swapped (ey h h1 c s m ν Mu I E ok au S (bO hc k) post.px _ λv H₁ hf h' ak aa aw I' u x' S' ru=>?_) (by unfold swapsWithSole;exact eD hn) hs
  refine PL hf ?_;clear hf;intro _ ay hf
  obtain⟨⟨eh,aQ⟩,hw,hf⟩:=kW hf
  obtain rfl:=ai hf
  refine dH (jR (env:=c.env) hw) λy1 hl y2 y3=>?_
  rw[List.length_reverse,List.length_reverse] at hl
  refine ru.gc ay λt xs kk hI rs=>?_
  have QG:=Rep.length rs
  refine unpackItemsN_ (s:={s with heap:=h',toks:=ak}) S'.F S'.N (items:=xs.toArray) ⟨_,S'.im ok.X.X hI,rfl,_,rfl⟩ ok.hd (by rw[hlen,hl,List.size_toArray,QG]) λbt mi tH=>?_
  have st:=(ti (env:=c.env) QE).reverse
  rw[←List.map_reverse] at st
  exact mP hc ok (s:={s with heap:=bt,toks:=ak}) st (au.mono x') (S'.frame mi tH) (k.mono x') hw (by simpa using rs.reverse) λa9 bq iy bM bZ gQ=>post a9 bq iy aa bM I' x' bZ gQ
end
section
section
variable{prog:Program}{w:World}{A:Around}{R:Result->Shared->Prop}{s:Shared}{env:Env}
theorem wo{test:Expr}{body orelse:List Stmt}
  (h:wpAny (model prog w) A (isTrue test env (eval test env)) (λb dC=>if b=true then wpAny (model prog w) A (execs body env) (λf kE=>match f with
    |.next|.cont=>codeAny (model prog w) A (.whileLoop test body orelse env) R kE
    |.brk=>R (.ok .next) kE
    |.ret v=>R (.ok (.ret v)) kE) (notedBy (model prog w) A env λe s'=>R (.error e) s') dC
   else wpAny (model prog w) A (execs orelse env) (λf kE=>R (.ok f) kE) (notedBy (model prog w) A env λe s'=>R (.error e) s') dC) (notedBy (model prog w) A env λe s'=>R (.error e) s') s):
  codeAny (model prog w) A (.whileLoop test body orelse env) R s:=by
 refine codeAny_of_tree ?_
 show wpAny _ A ((whileTurn test body orelse env).onRaise (λx=>do noteFrame x env;theTreesLotGoes x)) _ _ s
 refine wpAny_noted ?_
 simp only[whileTurn]
 refine wpAny_bind (wpAny_mono h (λb dC bg=>?_) λζ ζ h'=>h')
 induction b with
 |true=>
  rw[if_pos rfl] at bg ⊢
  refine wpAny_bind (wpAny_mono bg (λf kE bt=>?_) λζ ζ h'=>h')
  induction f using Flow.casesOn with
  |next=>exact wpAny_pure ⟨rfl,bt⟩
  |cont=>exact wpAny_pure ⟨rfl,bt⟩
  |brk=>exact wpAny_pure bt
  |ret v=>exact wpAny_pure bt
 |false=>
  rw[if_neg (by decide)] at bg ⊢
  exact wpAny_bind (wpAny_mono bg (λf kE bt=>wpAny_pure bt) λζ ζ h'=>h')
theorem Dd{target:Expr}{it:Value}{body:List Stmt}
  (h:wpAny (model prog w) A (pyNext it) (λr dC=>match r with
   |none=>R (.ok .next) dC
   |some v=>wpAny (model prog w) A (letOwnedTupleGo target it v) (λζ vH=>
     wpAny (model prog w) A (assign target env v) (λζ kE=>wpAny (model prog w) A (execs body env) (λf jo=>match f with
      |.next|.cont=>codeAny (model prog w) A (.forLoop target it body [] env) R jo
      |.brk=>R (.ok .next) jo
      |.ret v=>R (.ok (.ret v)) jo) (notedBy (model prog w) A env λe s'=>R (.error e) s') kE) (notedBy (model prog w) A env λe s'=>R (.error e) s') vH) (notedBy (model prog w) A env λe s'=>R (.error e) s') dC) (notedBy (model prog w) A env λe s'=>R (.error e) s') s):
  codeAny (model prog w) A (.forLoop target it body [] env) R s:=by
 refine codeAny_of_tree ?_
 show wpAny _ A ((forTurn target it body [] env).onRaise (λx=>do noteFrame x env;theTreesLotGoes x)) _ _ s
 refine wpAny_noted ?_
 simp only[forTurn]
 refine wpAny_bind (wpAny_standAt (wpAny_bind (wpAny_onRaise (wpAny_mono h (λr dC bg=>?_) λζ ζ h'=>wpAny_standAt h'))))
 induction r with
 |none=>exact wpAny_pure ⟨rfl,codeAny_block (wpAny_execs_nil bg)⟩
 |some v=>
  refine wpAny_bind (wpAny_mono bg (λζ vH Ea=>?_) λζ ζ h'=>h')
  refine wpAny_bind (wpAny_mono Ea (λζ kE bt=>wpAny_bind (wpAny_mono bt (λf jo a9=>?_) λζ ζ h'=>h')) λζ ζ h'=>h')
  induction f using Flow.casesOn with
  |next=>exact wpAny_pure ⟨rfl,a9⟩
  |cont=>exact wpAny_pure ⟨rfl,a9⟩
  |brk=>exact wpAny_pure a9
  |ret v=>exact wpAny_pure a9
end
variable{G:Gc}{c:Fc}{s:Shared}{h h':Heap}{m m':Str->Option Value}{ν:List Addr}{Mu:List Obj}{I:Led}{ρ:ah}{H H':List Ob}{n:Nat}{sc:Sc}
theorem B0(ok:c.Ok G n)(hc:c.env=c.dK){t:Option Value}{e:Addr}{x:Ex}(f:nF G c t s.heap ν Mu I H e x)(ht:o7 c.L t){Q:Unit->Shared->Prop}{E:Value->Shared->Prop}
  (hQ:∀h',nF G c (some (rawInt c.L)) h' ν Mu I H e x->Q () {s with heap:=h'}):wpAny G.M c.A (noteFrame (.ref e) c.env) Q E s:=by
 refine gr f.yG λB d a1 a2 a3 a4=>?_
 refine cz f.fr λgp m b1 b2=>?_
 rw[hc]
 exact om ok.fr ok.ff a4 ht λh' a' u=>hQ h' {f with yG:=⟨B,d,a1,a2,a3,a'⟩,fr:=⟨gp,m,b1,b2.trans u⟩}
theorem BJ(ok:c.Ok G n){f:Value}{e:Addr}{x:Ex}(fl:nF G c (some f) s.heap ν Mu I H e x){E:Value->Shared->Prop}
  (hE:∀h',nF G c (some (rawInt c.L)) h' ν Mu I H e x->E (.ref e) {s with heap:=h'}):cameBackBy G.M c.A c.env E (.ref e) s:=by
 refine gr fl.yG λB d a1 a2 a3 a4=>?_
 refine cz fl.fr λgp m b1 b2=>?_
 obtain⟨hB,ES,hl,oe,vs,v,he,hc,A6,hd,h1,T,oT,ts,rfl,Rh,Jo,hT,AY,h3⟩:=id a4
 refine wpAny_bind (wpAny_field he hd h1 ?_)
 rw[if_neg (show¬((Value.ref T==Value.none)=true) from by simp)]
 rw[ok.yF,ok.ff]
 exact iU (fl:=some c.L) a4 λh' a' u=>hE h' {fl with yG:=⟨B,d,a1,a2,a3,a'⟩,fr:=⟨gp,m,b1,b2.trans u⟩}
variable(G) in
noncomputable def hJ(c:Fc)(ν:List Addr)(I:Led)(s:Shared)(R:Result->Shared->Prop):Rs fi->Prop
 |.ok r H'=>∀h' ak m' aa aw I',Ext ν aa I I'->St G c h' m' aa aw I' H'->cC G.K m' aa I' r.1->
   (match r.2 with
    |none=>R (.ok .next) {s with heap:=h',toks:=ak}
    |some v=>∀u,Rep G.K aa I' u v->R (.ok (.ret u)) {s with heap:=h',toks:=ak})
 |.exc x H'=>∀h' ak aa aw I' e,Ext ν aa I I'->nF G c (some (rawInt c.L)) h' aa aw I' H' e x->R (.error (.ref e)) {s with heap:=h',toks:=ak}
theorem hJ.mono{ν aa:List Addr}{I I':Led}{R:Result->Shared->Prop}{r:Rs fi}{h:Heap}{tk:Tok}(e:Ext ν aa I I')(p:hJ G c ν I s R r):hJ G c aa I' {s with heap:=h,toks:=tk} R r:=by
 induction r with
 |ok v H'=>exact λh' ak m' aV aw dk q f k=>p h' ak m' aV aw dk (e.trans q) f k
 |exc x H'=>exact λh' ak aV aw dk a q f=>p h' ak aV aw dk a (e.trans q) f
theorem uC{Q:Flow->Shared->Prop}{E:Value->Shared->Prop}{r:Rs fi}(ok:c.Ok G n)(p:ik G c ν I s Q E r):
  hJ G c ν I s (λr s'=>match r with|.ok f=>Q f s'|.error e=>cameBackBy G.M c.A c.env E e s') r:=by
 induction r with
 |ok v H'=>exact p
 |exc x H'=>exact λh' ak aa aw I' e q f=>BJ ok (s:={s with heap:=h',toks:=ak}) f λbw f'=>p bw ak aa aw I' e _ q (.inr (.inr rfl)) f'
theorem pE(ok:c.Ok G n)(hc:c.env=c.dK){R:Result->Shared->Prop}{x:Ex}(p:hJ G c ν I s R (.exc x H')):cu G c ν I (notedBy G.M c.A c.env λe s'=>R (.error e) s') s x H':=
 λh' ak aa aw I' e t q ht f=>B0 ok hc (s:={s with heap:=h',toks:=ak}) f ht λbw f'=>p bw ak aa aw I' e q f'
variable(G) in
def Mx(n:Nat)(sc:Sc)(t:Expr)(body:List Stmt)(ρ:ah)(H:List Ob)(r:Rs fi):Prop:=
 ∀c s m ν Mu I R,c.Ok G n->c.env=c.dK->cM c sc ν->St G c s.heap m ν Mu I H->cC G.K m ν I ρ->hJ G c ν I s R r->codeAny G.M c.A (.whileLoop t body [] c.env) R s
theorem zo{t:Expr}{body:List Stmt}{pos:Pos}{r:Rs fi}(h:Mx G n sc t body ρ H r):qH G n sc (.While t body [] pos) ρ H r:=by
 rintro c s m ν Mu I Q E ok hc au S k post
 exact wpAny_While (h c s m ν Mu I _ ok hc au S k (uC ok post))
theorem Dj{t:Expr}{body:List Stmt}{r:Rs fi}{it:aM Bool}{ib:List Ob->aM fi}{iw:ah->List Ob->aM fi}(h1:∀r,it=some r->oz G n sc t ρ H r)(h2:∀H₁ r,ib H₁=some r->gJ G n sc body ρ H₁ r)
  (h3:∀bj H₁ r,iw bj H₁=some r->Mx G n sc t body bj H₁ r)
  (h:(andThen it λc H=>match c with
   |false=>bV (ρ,none) H
   |true=>andThen (ib H) λr H=>match r.2 with
    |none=>iw r.1 H
    |some v=>bV r H)=some r):Mx G n sc t body ρ H r:=by
 rintro c s m ν Mu I R ok hc au S k post
 refine wo ?_
 rcases bf h with⟨v,H₁,q1,hf⟩|⟨y,H₁,q1,rfl⟩
 ·refine h1 _ q1 c s m ν Mu I _ _ ok au S (bO hc k) λh' ak aa aw I' x S'=>?_
  induction v with
  |false=>
   obtain rfl:=ai hf
   rw[if_neg (by decide)]
   exact wpAny_execs_nil (post h' ak m aa aw I' x S' (k.mono x))
  |true=>
   rw[if_pos rfl]
   rcases bf hf with⟨⟨bj,o⟩,aQ,q2,hf⟩|⟨y,aQ,q2,rfl⟩
   ·refine h2 _ _ q2 c {s with heap:=h',toks:=ak} m aa aw I' _ _ ok hc (au.mono x) S' (k.mono x) λbt fL m₂ aR jV bS jU dR k₂=>?_
    induction o with
    |none=>exact h3 _ _ _ hf c {s with heap:=bt,toks:=fL} m₂ aR jV bS _ ok hc (au.mono (x.trans jU)) dR k₂ (hJ.mono (x.trans jU) post)
    |some v=>
     obtain rfl:=ai hf
     exact λu ru=>post bt fL m₂ aR jV bS (x.trans jU) dR k₂ u ru
   ·exact h2 _ _ q2 c {s with heap:=h',toks:=ak} m aa aw I' _ _ ok hc (au.mono x) S' (k.mono x) (pE ok hc (hJ.mono x post))
 ·exact h1 _ q1 c s m ν Mu I _ _ ok au S (bO hc k) (pE ok hc post)
end
section
variable{G:Gc}{c:Fc}{s:Shared}{h h':Heap}{m m':Str->Option Value}{ν:List Addr}{Mu:List Obj}{I:Led}{ρ:ah}{H H':List Ob}{n:Nat}{sc:Sc}
inductive vQ(G:Gc)(ν:List Addr)(I:Led)(h:Heap):It->Obj->Prop
 |tup {t:Addr} {k n:Nat} {xs:List Value} {all:List V} {o:Obj} (hc:o.cls=.type "tuple_iterator") (hd:o.data=.fields #[.ref t,.int k 0]) (hI:Im G.K I t (dw xs n)) (hs:ag G.K ν I xs all):vQ G ν I h (.tup (all.drop k)) o
 |lst {i k:Nat} {a:Addr} {o:Obj} (hc:o.cls=.type "list_iterator") (hd:o.data=.fields #[.ref a,.int k 0]) (cb:ν[i]?=some a):vQ G ν I h (.lst i k) o
 |dict {i k n ep:Nat} {d:Addr} {o od:Obj} {es:Array DictEntry} (hc:o.cls=.type "dict_keyiterator") (hd:o.data=.fields #[.ref d,.int k 0,.int n 0,.int ep 0]) (cb:ν[i]?=some d) (ho:h.get? d=some od) (tL:od.data=.dict es ep):vQ G ν I h (.dict i k n) o
 |rZ {a n st:Int}:vQ G ν I h (.rZ a n st) {cls:=.type "range_iterator",dict:=none,data:=.fields #[rawInt a,rawInt n,rawInt st],slots:= #[]}
structure nv(G:Gc)(c:Fc)(ν:List Addr)(I:Led)(h:Heap)(i:It)(x:Addr)(o:Obj):Prop where
 get:h.get? x=some o
 i7:x≠c.L
 base:c.h₀.get? x=none
 ids:x∉ν
 led:∀p∈I,p.1≠x
 it:vQ G ν I h i o
theorem vQ.names{i:It}{o:Obj}(x:vQ G ν I h i o):∃(t:String) (vs:Array Value),o.cls=.type t/\o.data=.fields vs/\["enumerate","zip","dict_itemiterator","dict_reverseitemiterator","odict_iterator","itertools.zip_longest","itertools.pairwise"].contains t=false:=by
 cases x with
 |tup hc hd _ _=>exact⟨_,_,hc,hd,by decide⟩
 |lst hc hd _=>exact⟨_,_,hc,hd,by decide⟩
 |dict hc hd _ _ _=>exact⟨_,_,hc,hd,by decide⟩
 |rZ=>exact⟨_,_,rfl,rfl,by decide⟩
set_option backward.match.sparseCases true in
theorem CS{M:Model}{A:Around}{E:Value->Shared->Prop}{t:Expr}{x:Addr}{u:Value}{o:Obj}{T:String}{vs:Array Value}{Q:Unit->Shared->Prop}(ho:s.heap.get? x=some o)(hc:o.cls=.type T)(hd:o.data=.fields vs)
  (hn:["enumerate","zip","dict_itemiterator","dict_reverseitemiterator","odict_iterator","itertools.zip_longest","itertools.pairwise"].contains T=false) (hQ:Q () s):wpAny M A (letOwnedTupleGo t (.ref x) u) Q E s:=by
 have two:∀t:Expr,(letOwnedTupleGo t (.ref x) u=(do
   let (.ref r,.ref a):=(Value.ref x,u)|return
   let o←load r
   match o.cls,o.data with
   |.type n,.fields vs=>
    if["enumerate","zip","dict_itemiterator","dict_reverseitemiterator","odict_iterator","itertools.zip_longest","itertools.pairwise"].contains n&&vs[0]?==some (rawInt a) then
     rule "for.unpacks-the-owned-tuple"
     updateField r 0 .none
   |_,_=>pure ()))->wpAny M A (letOwnedTupleGo t (.ref x) u) Q E s:=by
  intro t e
  rw[e]
  induction u using Value.casesOn<;>first|exact wpAny_pure hQ|skip
  refine wpAny_bind (wpAny_load ho ?_)
  rw[hc,hd]
  dsimp only
  rw[hn,Bool.false_and,if_neg (by decide)]
  exact wpAny_pure hQ
 induction t using Expr.casesOn<;>first|exact two _ rfl|exact wpAny_pure hQ
theorem St.but{x:Addr}(S:St G c h m ν Mu I H)(i7:x≠c.L)(base:c.h₀.get? x=none)(ids:x∉ν)(led:∀p∈I,p.1≠x)(he:Heap.ExtBut x h h'):St G c h' m ν Mu I H:=by
 refine hW S.F.ns λoL es ep h1 h2 h3 h4=>?_
 refine S.frame ⟨⟨oL,es,ep,he _ _ (Ne.symm i7) h1,h2,h3,h4⟩,λb o q=>he _ _ (λe=>by rw[e,base] at q;exact no q) (S.F.keep b o q),S.F.above⟩ λp hp=>⟨he _ _ ?_ (S.N p hp).1,(S.N p hp).2⟩
 rcases List.mem_append.mp hp with hp|hp
 ·exact λe=>ids (e▸of_mem_zip hp)
 ·exact led p hp
theorem nv.but{i:It}{x:Addr}{o:Obj}(A:nv G c ν I h i x o)(S:St G c h m ν Mu I H)(he:Heap.ExtBut x h h'):St G c h' m ν Mu I H:=S.but A.i7 A.base A.ids A.led he
variable(G) in
noncomputable def YG(c:Fc)(m:Str->Option Value)(ν:List Addr)(Mu:List Obj)(I:Led)(H:List Ob)(x:Addr)(s:Shared)(Q:Option Value->Shared->Prop):Option (V×It)->Prop
 |none=>∀h' ak,St G c h' m ν Mu I H->Q none {s with heap:=h',toks:=ak}
 |some (v,i')=>∀h' ak u o',St G c h' m ν Mu I H->Rep G.K ν I u v->nv G c ν I h' i' x o'->Q (some u) {s with heap:=h',toks:=ak}
set_option tactic.hygienic true in
theorem xY(ok:c.Ok G n)(S:St G c s.heap m ν Mu I H){i:It}{x:Addr}{o:Obj}(A:nv G c ν I s.heap i x o){r:Option (V×It)}(hv:kY H i=some r){Q:Option Value->Shared->Prop}{E:Value->Shared->Prop}
  (hQ:YG G c m ν Mu I H x s Q r):wpAny G.M c.A (pyNext (.ref x)) Q E s:=by
 have A₀:=A
 obtain⟨get,i7,base,ids,led,it⟩:=A
 cases it with
 | @tup t k nn xs all _ hc hd hI hs=>
  have hit:s.heap.IsTupleIter x t k:=⟨o,get,hc,hd⟩
  have ht:s.heap.IsTuple t xs.toArray:=⟨_,S.im ok.X.X hI,rfl,_,rfl⟩
  have Eb:t≠x:=by
   rcases hI with hI|hI
   ·exact λe=>led _ hI e
   ·intro e
    have:=ok.X.X _ _ hI
    rw[e,base] at this
    exact no this
  cases hq:all.drop k with
  |nil=>
   rw[hq] at hv
   obtain rfl:=ai hv
   have:all.length<=k:=List.drop_eq_nil_iff.mp hq
   refine wpAny_pyNext_tuple_end ok.hd hit ht (by rw[Array.getElem?_eq_none];rw[List.size_toArray,Rep.length hs];exact this) λh' he=>hQ h' s.toks (A₀.but S he)
  |cons v vs=>
   rw[hq] at hv
   obtain rfl:=ai hv
   have hk:cJ all k=some v:=by
    rw[fb]
    have:=congrArg (λl=>l[0]?) hq
    simpa using this
   have hvs:vs=all.drop (k+1):=by
    have:=congrArg List.tail hq
    simpa using this.symm
   refine ab (ag.cJ hs hk) λu hu ru=>?_
   refine wpAny_pyNext_tuple_item hit ht (x:=u) (by simpa using hu) λh' qR M5=>?_
   refine bH qR ?_;clear qR;intro o' qk Qy js
   rw[hvs] at hQ
   exact hQ h' s.toks u o' (A₀.but S M5.extBut) ru ⟨qk,i7,base,ids,led,.tup Qy js hI hs⟩
 | @lst j k a _ hc hd cb=>
  have hit:s.heap.IsListIter x a k:=⟨o,get,hc,hd⟩
  refine pf hv ?_;clear hv;intro vs hx hv
  refine S.fG cb hx λxs nn y1 Jt rs=>?_
  have hl:s.heap.IsList a xs.toArray:=⟨_,Jt,rfl,_,rfl⟩
  refine ack hv ?_ ?_
  ·clear hv;intro v hk hv
   obtain rfl:=ai hv
   refine ab (ag.cJ rs hk) λu hu ru=>?_
   refine wpAny_pyNext_list_item hit hl (x:=u) (by simpa using hu) λh' qR M5=>?_
   refine bH qR ?_;clear qR;intro o' qk Qy js
   exact hQ h' s.toks u o' (A₀.but S M5.extBut) ru ⟨qk,i7,base,ids,led,.lst Qy js cb⟩
  ·clear hv;intro hk hv
   obtain rfl:=ai hv
   rw[fb] at hk
   have:vs.length<=k:=List.getElem?_eq_none_iff.mp hk
   refine wpAny_pyNext_list_end ok.hd hit hl (by rw[Array.getElem?_eq_none];rw[List.size_toArray,Rep.length rs];exact this) λh' he=>hQ h' s.toks (A₀.but S he)
 | @dict j k nn ep d _ od es hc hd cb ho tL=>
  refine Qn hv ?_;clear hv;intro fs hx hv
  refine ix hv ?_;clear hv;intro hl hv
  have hl:=Nat.eq_of_beq_eq_true hl
  refine S.ba cb hx λod' y1 mU YZ ro=>?_
  rw[ho] at YZ
  cases YZ
  refine ab ro.lX λcX ET rk=>?_
  have hlen:=mw rk
  refine xH ET ?_;clear ET;intro AZ Ri e1 e2 e3 e4 e5
  rw[tL] at e2
  cases e2
  have hm:s.heap.DictAt (PySem.strKind G.prog G.w) d cX ep:=⟨od,es,ho,e1,tL,e3,e4,e5⟩
  have hit:s.heap.IsKeyIter x d k cX.length ep:=⟨o,get,hc,by rw[hd,hlen,hl]⟩
  have keys:=pz rk
  refine XS hv ?_ ?_
  ·clear hv;intro e hk hv
   obtain rfl:=ai hv
   rw[fb] at hk
   have h1:(cX.map (·.1))[k]?=some e.1:=by rw[keys,List.getElem?_map,hk];rfl
   rw[List.getElem?_map] at h1
   obtain⟨⟨key,val⟩,h2,h3⟩:=Option.map_eq_some_iff.mp h1
   subst h3
   refine wpAny_pyNext_dict_item hit hm h2 λky h' Y0 qR M5=>?_
   refine bH qR ?_;clear qR;intro o' qk Qy js
   have Eb:d≠x:=λe=>ids (e▸List.mem_of_getElem? cb)
   have ru:Rep G.K ν I ky (.str e.1):=by
    induction ky using Value.casesOn<;>first|(simp[PySem.strKind,Value.isStrOf] at Y0;done)|skip
    rename_i y t
    have:y=e.1:=by simpa [PySem.strKind,Value.isStrOf] using Y0
    rw[this]
    exact .str _ _
   refine hQ h' s.toks ky o' (A₀.but S M5.extBut) ru ⟨qk,i7,base,ids,led,.dict Qy (by rw[js,hlen,hl]) cb (M5.extBut d od Eb ho) tL⟩
  ·clear hv;intro hk hv
   obtain rfl:=ai hv
   rw[fb] at hk
   have:fs.length<=k:=List.getElem?_eq_none_iff.mp hk
   exact wpAny_pyNext_dict_end ok.hd hit hm (List.getElem?_eq_none_iff.mpr (by rw[hlen];exact this)) λh' he=>hQ h' s.toks (A₀.but S he)
 | @rZ a nn st=>
  have hit:IsRangeIter s.heap x a nn st:=get
  refine pC hv ?_ ?_
  ·clear hv;intro hl hv
   obtain rfl:=ai hv
   refine wpAny_pyNext_range_item hit ((Z.ltB_iff _ _).mp hl) λh' qR M5=>?_
   exact hQ h' _ _ _ (A₀.but S M5.extBut) (.int _ _) ⟨qR,i7,base,ids,led,.rZ⟩
  ·clear hv;intro hl hv
   obtain rfl:=ai hv
   have:nn<=0:=by
    by_cases q:0<nn
    ·rw[(Z.ltB_iff _ _).mpr q] at hl;cases hl
    ·exact adS ‹_›
   exact wpAny_pyNext_range_end ok.hd hit this λh' he=>hQ h' s.toks (A₀.but S he)
theorem AJ(ok:c.Ok G n)(hc:c.env=c.dK)(au:cM c sc ν)(S:St G c s.heap m ν Mu I H)(k:cC G.K m ν I ρ){qi:ah}{t:Expr}{u:Value}{v:V}(hv:C6 sc ρ H t v=some (qi,H'))(ru:Rep G.K ν I u v){Q:Unit->Shared->Prop}{E:Value->Shared->Prop}
  (post:∀h' ak m' aw,St G c h' m' ν aw I H'->cC G.K m' ν I qi->Q () {s with heap:=h',toks:=ak}):wpAny G.M c.A (assign t c.env u) Q E s:=by
 refine adT hv ?_ ?_
 ·clear hv;intro _ _ ay hv;subst ay
  exact PyProof.Rows.assign_Name (kK ok hc au S k hv ru post)
 ·clear hv;intro _ _ _ ay hv;subst ay
  refine PL hv ?_;clear hv;intro _ ay hv
  refine dH (jR (env:=c.env) hv) λst hl hfi hle=>?_
  refine ru.gc ay λt xs kk hI rs=>?_
  have QG:=Rep.length rs
  refine unpackN_ S.F S.N (items:=xs.toArray) ⟨_,S.im ok.X.X hI,rfl,_,rfl⟩ ok.hd (by rw[hle,hl,List.size_toArray,QG]) hfi λbt mi tH=>?_
  exact mP hc ok (s:={s with heap:=bt}) st au (S.frame mi tH) k hv rs post
noncomputable def less(a:Addr)(I:Led):Led:=I.filter λp=>!(p.1==a)
theorem bD{a:Addr}{p:Addr×Obj}:p∈less a I↔p∈I/\p.1≠a:=by
 unfold less
 rw[List.mem_filter]
 simp
theorem St.uB(S:St G c h m ν Mu I H){a:Addr}(ha:∀xs n,h.get? a≠some (dw xs n)):cy I (less a I):=λb xs n hb=>bD.mpr ⟨hb,λe=>ha xs n (by rw[←e];exact(S.N _ (List.mem_append_right _ hb)).1)⟩
theorem St.strip(S:St G c h m ν Mu I H){a:Addr}(ha:∀xs n,h.get? a≠some (dw xs n)):St G c h m ν Mu (less a I) H:=
 ⟨S.F,fy S.N λp hp=>by
   rcases List.mem_append.mp hp with hp|hp
   ·exact List.mem_append_left _ hp
   ·exact List.mem_append_right _ (bD.mp hp).1,S.nd,λp hp=>S.eP p (bD.mp hp).1,S.len,S.aT,λi o b h1 h2=>(S.ob i o b h1 h2).eG List.prefix_rfl (S.uB ha),S.big,S.low⟩
theorem St.pin{x:Addr}{o:Obj}(S:St G c h m ν Mu I H)(get:h.get? x=some o)(i7:x≠c.L)(base:c.h₀.get? x=none)(ids:x∉ν):St G c h m ν Mu ((x,o)::I) H/\Ext ν ν I ((x,o)::I):=by
 refine S.nP S.F (λp hp=>?_) ids
 rcases List.mem_cons.mp hp with rfl|hp
 ·exact⟨get,i7,base⟩
 ·exact S.N p hp
theorem Ext.less{ν aa:List Addr}{I I':Led}{p:Addr×Obj}(e:Ext ν aa (p::I) I')(hI:∀q∈I,q.1≠p.1):Ext ν aa I (less p.1 I'):=
 ⟨e.pre,λq hq=>bD.mpr ⟨e.sub q (.tail _ hq),hI q hq⟩,λi a hi ha q hq=>e.fr i a hi ha q (.tail _ hq)⟩
theorem Ext.sF{ν aa:List Addr}{I I':Led}{p:Addr×Obj}(e:Ext ν aa (p::I) I'):Ext ν aa I I':=
 ⟨e.pre,λq hq=>e.sub q (.tail _ hq),λi a hi ha q hq=>e.fr i a hi ha q (.tail _ hq)⟩
end
section
variable{G:Gc}{c:Fc}{s:Shared}{h h':Heap}{m m':Str->Option Value}{ν:List Addr}{Mu:List Obj}{I:Led}{ρ:ah}{H H':List Ob}{n:Nat}{sc:Sc}
theorem St.push(S:St G c s.heap m ν Mu I H)(o:Obj):St G c (s.heap.push o) m ν Mu I H:=
 S.frame (S.F.push o) λp hp=>⟨Heap.get?_push_of_some _ (S.N p hp).1,(S.N p hp).2⟩
theorem St.iter(S:St G c s.heap m ν Mu I H){i:It}{o:Obj}(hf:o.isFreed=false)(it:vQ G ν I (s.heap.push o) i o):St G c (s.heap.push o) m ν Mu I H/\nv G c ν I (s.heap.push o) i s.heap.objs.size o:=by
 have hL:s.heap.objs.size≠c.L:=Nat.ne_of_gt S.F.ns.lt
 have hb:c.h₀.get? s.heap.objs.size=none:=by
  cases hq:c.h₀.get? s.heap.objs.size with
  |none=>rfl
  |some o'=>exact absurd (Heap.lt_size (S.F.keep _ _ hq)) (Nat.lt_irrefl _)
 have get:(s.heap.push o).get? s.heap.objs.size=some o:=Heap.get?_push_size _ hf
 exact⟨S.but hL hb S.fresh.1 S.fresh.2.1 λa o' ζ q=>Heap.get?_push_of_some _ q,⟨get,hL,hb,S.fresh.1,S.fresh.2.1,it⟩⟩
theorem HI(ok:c.Ok G n)(S:St G c s.heap m ν Mu I H){u:Value}{v:V}{i:It}(ru:Rep G.K ν I u v)(hv:Oo H v=some i){Q:Value->Shared->Prop}{E:Value->Shared->Prop}
  (hQ:∀h' ak x o,St G c h' m ν Mu I H->nv G c ν I h' i x o->Q (.ref x) {s with heap:=h',toks:=ak}):wpAny G.M c.A (pyIter u) Q E s:=by
 refine Fo hv ?_ ?_
 ·clear hv;intro vs ay hv
  obtain rfl:=ai hv
  refine ru.gc ay λt xs nn hI rs=>?_
  refine wpAny_pyIter_tuple (items:=xs.toArray) ⟨_,S.im ok.X.X hI,rfl,_,rfl⟩ ?_
  refine ae (S.iter (i:=.tup (vs.drop 0)) (o:={cls:=.type "tuple_iterator",data:=.fields #[.ref t,.int 0 0]}) rfl (.tup (k:=0) rfl rfl hI rs)) λa b=>?_
  exact hQ _ s.toks _ _ a b
 ·clear hv;intro j ay hv;subst ay
  refine adg hv ?_ ?_
  ·clear hv;intro vs hx hv
   obtain rfl:=ai hv
   refine ru.ba rfl λa cb=>?_
   refine S.fG cb hx λxs nn y1 Jt rs=>?_
   refine wpAny_pyIter_list (items:=xs.toArray) ⟨_,Jt,rfl,_,rfl⟩ ?_
   refine ae (S.iter (i:=.lst j 0) (o:={cls:=.type "list_iterator",data:=.fields #[.ref a,.int 0 0]}) rfl (.lst (k:=0) rfl rfl cb)) λp q=>?_
   exact hQ _ s.toks _ _ p q
  ·clear hv;intro es hx hv
   obtain rfl:=ai hv
   refine ru.ba rfl λd cb=>?_
   refine S.ba cb hx λod y1 mU tL ro=>?_
   refine ab ro.jD λcX ET rk=>?_
   refine xH ET ?_;clear ET;intro AZ Ri e1 e2 e3 e4 e5
   have hm:s.heap.DictAt (PySem.strKind G.prog G.w) d cX Ri:=⟨od,AZ,tL,e1,e2,e3,e4,e5⟩
   have lo:(d==sysModules)=false:=by
    have:=S.low d (List.mem_of_getElem? cb)
    rw[beq_eq_false_iff_ne]
    exact Nat.ne_of_gt this
   refine wpAny_pyIter_dict lo hm ?_
   obtain⟨p,q⟩:=S.iter (i:=.dict j 0 es.length) (o:={cls:=.type "dict_keyiterator",data:=.fields #[.ref d,.int 0 0,.int cX.length 0,.int Ri 0]}) rfl
    (.dict (k:=0) rfl (by rw[mw rk];rfl) cb (Heap.get?_push_of_some _ tL) e2)
   exact hQ _ s.toks _ _ p q
variable(G) in
noncomputable def xF(c:Fc)(m:Str->Option Value)(ν:List Addr)(I:Led)(s:Shared)(Q:Value->Shared->Prop)(E:Value->Shared->Prop):Rs It->Prop
 |.ok i H'=>∀h' ak aa aw I' x o,Ext ν aa I I'->St G c h' m aa aw I' H'->nv G c aa I' h' i x o->Q (.ref x) {s with heap:=h',toks:=ak}
 |.exc x H'=>cu G c ν I E s x H'
variable(G) in
def Dg(n:Nat)(sc:Sc)(e:Expr)(ρ:ah)(H:List Ob)(r:Rs It):Prop:=
 ∀c s m ν Mu I Q E,c.Ok G n->cM c sc ν->St G c s.heap m ν Mu I H->Loc G c m ν I ρ->xF G c m ν I s Q E r->wpAny G.M c.A (eval e c.env) (λx dC=>wpAny G.M c.A (pyIter x) Q E dC) E s
theorem xF.px{Q:Value->Shared->Prop}{E:Value->Shared->Prop}{r:Rs It}(p:xF G c m ν I s Q E r):∀x H',r=.exc x H'->cu G c ν I E s x H':=by
 rintro x H' rfl;exact p
theorem zZ{e:Expr}{r:Rs It}{ie:aM V}(h1:∀r,ie=some r->dA G n sc e ρ H r)(h:(andThen ie λv H=>bE (Oo H v) λi=>bV i H)=some r):Dg G n sc e ρ H r:=by
 rintro c s m ν Mu I Q E ok au S l post
 refine ey h h1 c s m ν Mu I E ok au S l post.px _ λv H₁ hf h' ak aa aw I' u x' S' ru=>?_
 refine cP hf ?_;clear hf;intro i hi hf
 obtain rfl:=ai hf
 exact HI (s:={s with heap:=h',toks:=ak}) ok S' ru hi λbt fL x o dR A=>post bt fL aa aw I' x o x' dR A
theorem Al{a b:Int}(ha: -(2^62)<=a)(ha':a<2^62)(hb: -(2^62)<=b)(hb':b<2^62):Builtin.Range.small a b (-1)=true/\Builtin.Range.rangeSize a b (-1)=if b<a then a-b else 0:=by
 have e:Builtin.Range.rangeSize a b (-1)=if b<a then a-b else 0:=by
  unfold Builtin.Range.rangeSize
  rw[if_neg (by decide)]
  have:(- -1:Int)=1:=by decide
  rw[this,Int.ediv_one]
  split<;>omega
 refine⟨?_,e⟩
 unfold Builtin.Range.small
 rw[e]
 simp only[Builtin.Range.rangeFitsLong,Bool.and_eq_true,Bool.or_eq_true,decide_eq_true_eq,beq_iff_eq,show¬((-1:Int)>0) by decide,if_false]
 have e62:(2:Int)^62=4611686018427387904:=by decide
 have e63:(2:Int)^63=9223372036854775808:=by decide
 rw[e62] at ha ha' hb hb'
 rw[e63]
 split<;>(refine⟨⟨⟨⟨?_,?_⟩,?_⟩,?_⟩,.inr ?_⟩<;>omega)
theorem za{es:List Expr}{r:Rs It}{f:List V->List Ob->aM It}{ih:aM (List V)}(h:andThen ih f=some r)(h1:∀r,ih=some r->hU G n sc es ρ H r)
  (c:Fc) (s:Shared) (m:Str->Option Value) (ν:List Addr) (Mu:List Obj) (I:Led) (E:Value->Shared->Prop) (pos:Pos) (ok:c.Ok G n) (au:cM c sc ν) (S:St G c s.heap m ν Mu I H)
  (l:Loc G c m ν I ρ) (px:∀x H',r=.exc x H'->cu G c ν I E s x H') (Q':List Value->Shared->Prop)
  (k:∀vs H₁,f vs H₁=some r->∀h' ak aa aw I' us,Ext ν aa I I'->St G c h' m aa aw I' H₁->ag G.K aa I' us vs->Q' us {s with heap:=h',toks:=ak}):
  wpAny G.M c.A (spliced (backTo pos (starEach es c.env))) Q' E s:=by
 rcases bf h with⟨v,H₁,q1,q2⟩|⟨x,H₁,q1,rfl⟩
 ·exact h1 _ q1 c s m ν Mu I _ _ pos ok au S l λh' ak aa aw I' us x S' rs=>k v H₁ q2 h' ak aa aw I' us x S' rs
 ·exact h1 _ q1 c s m ν Mu I _ _ pos ok au S l (px _ _ rfl)
theorem xP{M:Model}{f:Value}(hf:∀a,f≠ .ref a)(h:Heap):∃k,(k=Keeper.frame∨k=Keeper.machine∨k=Keeper.boundFrame)/\Looks M h (keeperOf f) k:=by
 refine⟨.machine,.inr (.inl rfl),.of_pure ?_⟩
 induction f using Value.casesOn<;>first|rfl|exact absurd rfl (hf _)
theorem CV(ok:c.Ok G n)(S:St G c s.heap m ν Mu I H){us:List Value}{vs:List V}{r:Rs It}(rs:ag G.K ν I us vs)
  (hv:sk H vs=some r) {Q:Value->Shared->Prop} {E:Value->Shared->Prop} (post:xF G c m ν I s Q E r):
  wpAny G.M c.A (call (.type "range") us) (λx dC=>wpAny G.M c.A (pyIter x) Q E dC) E s:=by
 have bound:∀i:Int,eC i=true-> -(2^62)<=i/\i<2^62:=λi hi=>by
  refine ae (ig hi) λa b=>?_
  have e62:(2:Int)^62=4611686018427387904:=by decide
  rw[e62]
  exact aaS ‹_› ‹_›
 have fin:∀(a b st:Int) (t u v:Tok) (tk:Tok) (N:Int),Builtin.Range.small a b st=true->Builtin.Range.rangeSize a b st=N->r=.ok (.rZ a N st) H->
   wpAny G.M c.A (pyIter (.ref s.heap.objs.size)) Q E {s with heap:=s.heap.push {cls:=.type "range",data:=.fields #[.int a t,.int b u,.int st v]},toks:=tk}:=by
  rintro a b st t u v tk N h1 h2 rfl
  have S1:=S.push {cls:=.type "range",data:=.fields #[.int a t,.int b u,.int st v]}
  refine wpAny_pyIter_range (IsRange.new ..) h1 ?_
  rw[h2]
  refine ae (St.iter (s:={s with heap:=s.heap.push {cls:=.type "range",data:=.fields #[.int a t,.int b u,.int st v]},toks:=tk}) S1 (i:=.rZ a N st) rfl .rZ) λp q=>?_
  exact post _ tk ν Mu I _ _ (Ext.refl _ _) p q
 have cond:∀(p q:Int) (x y:Int),yq (Z.ltB p q) x y=if p<q then x else y:=λp q x y=>by
  unfold yq
  cases hq:Z.ltB p q with
  |true=>rw[if_pos ((Z.ltB_iff _ _).mp hq)]
  |false=>rw[if_neg λe=>by rw[(Z.ltB_iff _ _).mpr e] at hq;cases hq]
 induction vs using List.casesOn with
 |nil=>exact no hv
 |cons x vs=>
  refine cP hv λa ha hv=>?_
  refine ag.dj rs rfl λy1 y2 r1 rs=>?_
  refine r1.cA (r7 ha) λt=>?_
  induction vs using List.casesOn with
  |nil=>
   refine ag.rL rs rfl ?_
   refine ix (x0:=eC a) hv λhb hv=>?_
   refine ae (bound _ hb) λb1 b2=>?_
   refine call_range_1 (fin 0 a 1 _ t _ _ _ (small_one (by decide) (by decide) b1 b2) (rangeSize_one 0 a) ?_)
   rw[cond] at hv
   rw[Int.sub_zero]
   exact(Option.some.inj hv).symm
  |cons y vs=>
   refine cP hv λb hb hv=>?_
   refine ag.dj rs rfl λy3 y4 r2 rs=>?_
   refine r2.cA (r7 hb) λu=>?_
   induction vs using List.casesOn with
   |nil=>exact no hv
   |cons z vs=>
    refine cP hv λq hq hv=>?_
    refine ag.dj rs rfl λy5 y6 r3 rs=>?_
    refine r3.cA (r7 hq) λv=>?_
    induction vs using List.casesOn with
    |cons=>exact no hv
    |nil=>
     refine ag.rL rs rfl ?_
     refine ix (x0:=eC a&&eC b&&Z.eqB q (-1)) hv λhab hw=>?_
     refine aJ hab λhab h3=>aJ hab λh1 h2=>?_
     obtain rfl:=(Z.eqB_iff _ _).mp h3
     refine ae (bound _ h1) λa1 a2=>?_
     refine ae (bound _ h2) λb1 b2=>?_
     refine ae (Al a1 a2 b1 b2) λz1 z2=>?_
     refine call_range_3 (c:= -1) (by decide) (fin a b (-1) t u v _ _ z1 z2 ?_) (.inl (PyProof.noPylong_small (by decide)))
     rw[cond] at hw
     exact(Option.some.inj hw).symm
theorem AE{x:Str}{p pos:Pos}{args:List Expr}{r:Rs It}{ie:aM V}{ies:List Ob->aM (List V)}(hs:noStar args=true)(h1:∀r,ie=some r->dA G n sc (.Name x p) ρ H r)(h2:∀H₁ r,ies H₁=some r->hU G n sc args ρ H₁ r)
  (h:(andThen ie λfv H=>match yf fv with
       |false=>none
       |true=>andThen (ies H) λvs H=>sk H vs)=some r):Dg G n sc (.Call (.Name x p) args [] pos) ρ H r:=by
 rintro c s m ν Mu I Q E ok au S l post
 refine Call_ (ey h h1 c s m ν Mu I E ok au S l post.px _ λfv H₁ hf h' ak aa aw I' u e S' ru=>?_)
 refine gB hf ?_;clear hf;intro hr hf
 have:fv=.glob (.type "range"):=vf hr
 subst this
 have eu:u=.type "range" :=ru.gP
 subst eu
 refine bX (P:=λζ=>True) hs (λh ζ=>xP (λζ e=>by cases e) h) (za hf (h2 H₁) c {s with heap:=h',toks:=ak} m aa aw I' E pos ok (au.mono e) S' (l.mono e) (cu.xG e post.px) _ λvs aQ hc bw bY aV cF dk us e' d7 rs=>⟨trivial,?_⟩)
 refine CV (s:={s with heap:=bw,toks:=bY}) ok d7 rs hc ?_
 induction r with
 |ok i H'=>exact λa9 bq dd bM fq x o gq bZ A=>post a9 bq dd bM fq x o ((e.trans e').trans gq) bZ A
 |exc y H'=>exact cu.mono (e.trans e') post
end
section
variable{G:Gc}{c:Fc}{s:Shared}{h h':Heap}{m m':Str->Option Value}{ν:List Addr}{Mu:List Obj}{I:Led}{ρ:ah}{H H':List Ob}{n:Nat}{sc:Sc}
theorem vQ.keep{aa:List Addr}{I':Led}{i:It}{o:Obj}(pre:ν<+:aa)(sub:∀p∈I,p∈I')(hd:∀j k n,i=.dict j k n->∀d,ν[j]?=some d->∀od,h.get? d=some od->h'.get? d=some od)(x:vQ G ν I h i o):vQ G aa I' h' i o:=by
 cases x with
 |tup hc js hI hs=>exact .tup hc js (hI.mono sub) (hs.grow pre sub)
 |lst hc js cb=>exact .lst hc js (fh pre cb)
 |dict hc js cb ho tL=>exact .dict hc js (fh pre cb) (hd _ _ _ rfl _ cb _ ho) tL
 |rZ=>exact .rZ
theorem cC.eG{K:Frag}{aa:List Addr}{I':Led}(pre:ν<+:aa)(y:cy I I')(k:cC K m ν I ρ):cC K m aa I' ρ:=λx v q=>
 let ⟨u,hu,r⟩:=k x v q;⟨u,hu,r.eG pre y⟩
def O6(i:It)(ν:List Addr)(I:Led):Prop:=∀j k n,i=.dict j k n->∃d od,ν[j]?=some d/\(d,od)∈I
variable(G) in
def KH(n:Nat)(sc:Sc)(t:Expr)(body:List Stmt)(i:It)(ρ:ah)(H:List Ob)(r:Rs fi):Prop:=
 ∀c s m ν Mu I R x o,c.Ok G n->c.env=c.dK->cM c sc ν->St G c s.heap m ν Mu I H->cC G.K m ν I ρ->nv G c ν I s.heap i x o->O6 i ν I->hJ G c ν I s R r->codeAny G.M c.A (.forLoop t (.ref x) body [] c.env) R s
theorem mx{i i':It}{v:V}(h:kY H i=some (some (v,i'))):∀j k n,i'=.dict j k n->∃k',i=.dict j k' n:=by
 rintro j k n rfl
 refine ac' h ?_ ?_ ?_ ?_ ?_
 ·clear h;intro ay h;subst ay
  cases h
 ·clear h;intro _ _ ay h;subst ay
  cases h
 ·clear h;intro _ _ ay h;subst ay
  refine pf h ?_;clear h;intro _ _ h
  split at h<;>cases h
 ·clear h;intro _ _ _ ay h;subst ay
  refine Qn h ?_;clear h;intro _ _ h
  refine ix h ?_;clear h;intro _ h
  refine XS h ?_ ?_
  ·clear h;intro _ _ h
   cases h;exact⟨_,rfl⟩
  ·clear h;intro _ h
   cases h
 ·clear h;intro _ _ _ ay h;subst ay
  split at h<;>cases h
theorem B4{t:Expr}{body:List Stmt}{i:It}{r:Rs fi}{ib:ah->List Ob->aM fi}{il:It->ah->List Ob->aM fi}(h2:∀bj H₁ r,ib bj H₁=some r->gJ G n sc body bj H₁ r)
  (h3:∀i' bj H₁ r,il i' bj H₁=some r->KH G n sc t body i' bj H₁ r)
  (h:(bE (kY H i) λr=>match r with
  |none=>bV (ρ,none) H
  |some (v,i')=>bE (C6 sc ρ H t v) λ(ρ,H)=>andThen (ib ρ H) λr H=>match r.2 with
   |none=>il i' r.1 H
   |some v=>bV r H)=some r):KH G n sc t body i ρ H r:=by
 rintro c s m ν Mu I R x o ok hc au S k A pin post
 refine cP h ?_;clear h;intro nx Rj h
 refine Dd (xY ok S A Rj ?_)
 induction nx with
 |none=>
  obtain rfl:=ai h
  exact λh' ak S'=>post h' ak m ν Mu I (Ext.refl _ _) S' k
 |some p=>
  obtain⟨v,i'⟩:=p
  dsimp only at h
  obtain⟨⟨bj,H₁⟩,hw,h⟩:=kW h
  intro h' ak u o' S' ru A'
  refine bP A'.it.names λT vs n1 n2 n3=>?_
  refine CS (s:={s with heap:=h',toks:=ak}) A'.get n1 n2 n3 ?_
  refine ae (S'.pin A'.get A'.i7 A'.base A'.ids) λS1 e1=>?_
  refine AJ (s:={s with heap:=h',toks:=ak}) ok hc au S1 (k.mono e1) hw (ru.mono e1) λbt fL m₂ jV dR k₂=>?_
  have fin:∀r,ib bj H₁=some r->(∀E',ik G c ν ((x,o')::I) {s with heap:=bt,toks:=fL} (λf jo=>match f with
      |.next|.cont=>codeAny G.M c.A (.forLoop t (.ref x) body [] c.env) R jo
      |.brk=>R (.ok .next) jo
      |.ret v=>R (.ok (.ret v)) jo) E' r->wpAny G.M c.A (execs body c.env) (λf jo=>match f with
      |.next|.cont=>codeAny G.M c.A (.forLoop t (.ref x) body [] c.env) R jo
      |.brk=>R (.ok .next) jo
      |.ret v=>R (.ok (.ret v)) jo) E' {s with heap:=bt,toks:=fL}):=λr q E' z=>h2 _ _ _ q c {s with heap:=bt,toks:=fL} m₂ ν jV ((x,o')::I) _ _ ok hc au dR k₂ z
  rcases bf h with⟨⟨eh,ov⟩,aQ,q1,q2⟩|⟨y,aQ,q1,rfl⟩
  ·refine fin _ q1 _ λa9 bq iy dd bM fq gq bZ gQ=>?_
   induction ov with
   |some w=>
    obtain rfl:=ai q2
    exact λu ru=>post a9 bq iy dd bM fq gq.sF bZ gQ u ru
   |none=>
    have hx:a9.get? x=some o':=(bZ.N _ (List.mem_append_right _ (gq.sub _ (.head _)))).1
    have ha:∀xs n,a9.get? x≠some (dw xs n):=λxs nn q=>by
     rw[hx] at q
     obtain rfl:=ai q
     cases n2
    have el:Ext ν dd I (less x fq):=gq.less (p:=(x,o')) A'.led
    refine h3 _ _ _ _ q2 c {s with heap:=a9,toks:=bq} iy dd bM (less x fq) R x o' ok hc (au.mono el) (bZ.strip ha) (gQ.eG List.prefix_rfl (bZ.uB ha)) ⟨hx,A'.i7,A'.base,λhm=>?_,λp hp=>(bD.mp hp).2,?_⟩ ?_ (hJ.mono el post)
    ·obtain⟨j,hj,ej⟩:=List.getElem_of_mem hm
     have M6:dd[j]?=some x:=by rw[List.getElem?_eq_getElem hj,ej]
     by_cases hl:j<ν.length
     ·have:=gq.at (List.getElem?_eq_getElem hl)
      rw[M6] at this
      exact A'.ids ((Option.some.inj this)▸List.getElem_mem hl)
     ·exact gq.fr j x (Nat.le_of_not_lt hl) M6 _ (.head _) rfl
    ·refine A'.it.keep el.pre el.sub λj kk nn ei d hd od ho=>?_
     refine bF (mx Rj j kk nn ei) λk' ei'=>?_
     refine cz (pin _ _ _ ei') λd' od' h1 h2'=>?_
     rw[hd] at h1
     obtain rfl:=ai h1
     have e:=(S'.N _ (List.mem_append_right _ h2')).1
     rw[ho] at e
     obtain rfl:=ai e
     exact(bZ.N _ (List.mem_append_right _ (gq.sub _ (.tail _ h2')))).1
    ·intro j kk nn ei
     refine bF (mx Rj j kk nn ei) λk' ei'=>?_
     refine cz (pin _ _ _ ei') λd' od' h1 h2'=>?_
     exact⟨d',od',el.at h1,el.sub _ h2'⟩
  ·exact fin _ q1 _ (pE ok hc (s:={s with heap:=bt,toks:=fL}) λa9 bq dd bM fq e gq f=>post a9 bq dd bM fq e gq.sF f)
theorem St.freeze(S:St G c h m ν Mu I H){d:Nat}{da:Addr}{es:List (Str×V)}(cb:ν[d]?=some da)(hx:cJ H d=some (.dict es)):∃od,h.get? da=some od/\St G c h m ν Mu ((da,od)::I) (dq H d (.ck es))/\Ext ν ν I ((da,od)::I):=by
 refine S.ba cb hx λod qP mU tL ro=>?_
 have e:Ext ν ν I ((da,od)::I):=⟨List.prefix_rfl,λp hp=>.tail _ hp,λi a hi ha=>by rw[List.getElem?_eq_none hi] at ha;exact no ha⟩
 have ap:=S.apart cb hx rfl
 have kf:d<H.length:=by rw[←S.aT];exact(List.getElem?_eq_some_iff.mp cb).1
 rw[fw]
 refine⟨od,tL,⟨S.F,λp hp=>?_,S.nd,λp hp i b hi hb=>?_,S.len,by rw[List.length_set];exact S.aT,λi o b h1 h2=>?_,S.big,S.low⟩,e⟩
 ·rcases List.mem_append.mp hp with hp|hp
  ·exact S.N p (List.mem_append_left _ hp)
  ·rcases List.mem_cons.mp hp with rfl|hp
   ·exact S.N _ mU
   ·exact S.N p (List.mem_append_right _ hp)
 ·by_cases ei:d=i
  ·subst ei
   rw[List.getElem?_set_self kf] at hb
   obtain rfl:=ai hb
   rfl
  ·rw[List.getElem?_set_ne ei] at hb
   rcases List.mem_cons.mp hp with rfl|hp
   ·have h1:i<ν.length:=(List.getElem?_eq_some_iff.mp hi).1
    have h2:d<ν.length:=(List.getElem?_eq_some_iff.mp cb).1
    have:=(List.getElem?_inj h2 S.nd).mp (cb.trans hi.symm)
    exact absurd this ei
   ·exact S.eP p hp i b hi hb
 ·by_cases ei:d=i
  ·subst ei
   rw[List.getElem?_set_self kf] at h2
   obtain rfl:=ai h2
   rw[qP] at h1
   obtain rfl:=ai h1
   refine ab ro.jD λy1 hd hr=>?_
   exact .ck hd (hr.mono e)
  ·rw[List.getElem?_set_ne ei] at h2
   exact(S.ob i o b h1 h2).mono e
theorem St.abC(S:St G c h m ν Mu I H){d:Nat}{da:Addr}{es:List (Str×V)}(cb:ν[d]?=some da)(hx:cJ H d=some (.ck es)):St G c h m ν Mu (less da I) (dq H d (.dict es))/\cy I (less da I):=by
 refine S.ba cb hx λod qP mU tL ro=>?_
 have ha:∀xs n,h.get? da≠some (dw xs n):=λxs n q=>by
  rw[tL] at q
  have q:=Option.some.inj q
  refine ab ro.lX λy1 hd y2=>?_
  refine bP hd ?_;clear hd;intro y1 y2 y3 e2 y4
  rw[q] at e2
  cases e2
 have t:=S.uB ha
 have S':=S.strip ha
 have kf:d<H.length:=by rw[←S.aT];exact(List.getElem?_eq_some_iff.mp cb).1
 rw[fw]
 refine⟨⟨S'.F,S'.N,S.nd,λp hp i b hi hb=>?_,S.len,by rw[List.length_set];exact S.aT,λi o b h1 h2=>?_,S.big,S.low⟩,t⟩
 ·have ei:d≠i:=λei=>by
   subst ei
   rw[cb] at hi
   exact(bD.mp hp).2 (Option.some.inj hi).symm
  rw[List.getElem?_set_ne ei] at hb
  exact S'.eP p hp i b hi hb
 ·by_cases ei:d=i
  ·subst ei
   rw[List.getElem?_set_self kf] at h2
   obtain rfl:=ai h2
   rw[qP] at h1
   obtain rfl:=ai h1
   refine ab ro.lX λy1 hd hr=>?_
   exact .dict hd (hr.eG List.prefix_rfl t)
  ·rw[List.getElem?_set_ne ei] at h2
   exact S'.ob i o b h1 h2
set_option tactic.hygienic true in
theorem Gk{t e:Expr}{body:List Stmt}{pos:Pos}{r:Rs fi}{ii:aM It}{il:It->List Ob->aM fi}(vI:isSet e=false)(h1:∀r,ii=some r->Dg G n sc e ρ H r)(h2:∀i H₁ r,il i H₁=some r->KH G n sc t body i ρ H₁ r)
  (h:(andThen ii λi H=>vV il i H)=some r):qH G n sc (.For t e body [] pos) ρ H r:=by
 rintro c s m ν Mu I Q E ok hc au S k post
 refine wpAny_For ?_ (λx=>by(first|exact no e|exact nf e|subst e|obtain rfl:=ai e|induction e using Expr.casesOn)<;>first|rfl|cases vI)
 rcases bf h with⟨i,H₁,q1,hf⟩|⟨y,H₁,q1,rfl⟩
 ·refine h1 _ q1 c s m ν Mu I _ _ ok au S (bO hc k) λh' ak aa aw I' x o e' S' A=>?_
  have plain:∀r,il i H₁=some r->(∀j k n,i≠ .dict j k n)->hJ G c aa I' {s with heap:=h',toks:=ak} (λr s'=>match r with|.ok f=>Q f s'|.error e=>cameBackBy G.M c.A c.env E e s') r->
    codeAny G.M c.A (.forLoop t (.ref x) body [] c.env) (λr s'=>match r with|.ok f=>Q f s'|.error e=>cameBackBy G.M c.A c.env E e s') {s with heap:=h',toks:=ak}:=λr q nd p=>
   h2 _ _ _ q c {s with heap:=h',toks:=ak} m aa aw I' _ x o ok hc (au.mono e') S' (k.mono e') A (λj k n ei=>absurd ei (nd j k n)) p
  have Ec:=hJ.mono (h:=h') (tk:=ak) e' (uC ok post)
  unfold vV at hf
  split at hf
  ·rename_i d kk nn
   refine NW hf ?_;clear hf;intro es hx hf
   have A7:∃da,aa[d]?=some da:=S'.has hx
   refine bF A7 ?_;clear A7;intro da cb
   refine bH (S'.freeze cb hx) λod tL S1 e1=>?_
   have ap:=S'.apart cb hx rfl
   have run:∀r,il (.dict d kk nn) (dq H₁ d (.ck es))=some r->hJ G c aa ((da,od)::I') {s with heap:=h',toks:=ak} (λr s'=>match r with|.ok f=>Q f s'|.error e=>cameBackBy G.M c.A c.env E e s') r->
     codeAny G.M c.A (.forLoop t (.ref x) body [] c.env) (λr s'=>match r with|.ok f=>Q f s'|.error e=>cameBackBy G.M c.A c.env E e s') {s with heap:=h',toks:=ak}:=λr q p=>
    h2 _ _ _ q c {s with heap:=h',toks:=ak} m aa aw _ _ x o ok hc (au.mono (e'.trans e1)) S1 (k.mono (e'.trans e1))
     ⟨A.get,A.i7,A.base,A.ids,λp hp=>by
      rcases List.mem_cons.mp hp with rfl|hp
      ·exact λe=>A.ids (by rw[←e];exact List.mem_of_getElem? cb)
      ·exact A.led p hp,A.it.keep List.prefix_rfl (λp hp=>.tail _ hp) λζ ζ ζ ζ ζ ζ ζ z=>z⟩ (λj k n ei=>by cases ei;exact⟨da,od,cb,.head _⟩) p
   rcases bf hf with⟨⟨eh,ov⟩,aQ,q2,hf⟩|⟨y,aQ,q2,rfl⟩
   ·refine Qn hf ?_;clear hf;intro AZ qQ hf
    obtain rfl:=ai hf
    refine run _ q2 λa9 bq iy dd bM fq gq bZ gQ=>?_
    refine ae (bZ.abC (gq.at cb) qQ) λeJ Y1=>?_
    have el:Ext aa dd I' (less da fq):=gq.less (p:=(da,od)) ap
    have p:=Ec a9 bq iy dd bM (less da fq) el eJ (gQ.eG List.prefix_rfl Y1)
    induction ov with
    |none=>exact p
    |some v=>exact λu ru=>p u (ru.eG List.prefix_rfl Y1)
   ·exact run _ q2 λa9 bq dd bM fq ea gq f=>Ec a9 bq dd bM fq ea gq.sF f
  ·rename_i Ju
   exact plain _ hf (λj k n ei=>Ju _ _ _ ei) Ec
 ·exact h1 _ q1 c s m ν Mu I _ _ ok au S (bO hc k) post
end
section
section
variable{prog:Program}{w:World}{A:Around}{R:Result->Shared->Prop}{s:Shared}{env:Env}
noncomputable abbrev tests(ifs:List Expr)(b:Bool)(env:Env):Sem Bool:=forIn ifs b λc r=>if r=true then do let ok←isTrue c env (eval c env);pure (ForInStep.yield ok) else pure (ForInStep.yield r)
theorem tM{M:Model}{E:Value->Shared->Prop}{Q:Bool->Shared->Prop}:∀{ifs:List Expr},Q false s->wpAny M A (tests ifs false env) Q E s:=by
 intro l_
 induction l_ with
 |nil=>
  intro h
  exact wpAny_pure h
 |cons e es ih=>
  intro h
  show wpAny M A (forIn (e::es) false _) Q E s
  rw[List.forIn_cons]
  rw[if_neg (by decide)]
  exact wpAny_bind (wpAny_pure (ih h))
theorem wq{M:Model}{E:Value->Shared->Prop}{Q:Bool->Shared->Prop}{e:Expr}{es:List Expr}(h:wpAny M A (isTrue e env (eval e env)) (λb dC=>wpAny M A (tests es b env) Q E dC) E s):wpAny M A (tests (e::es) true env) Q E s:=by
 show wpAny M A (forIn (e::es) true _) Q E s
 rw[List.forIn_cons]
 rw[if_pos rfl]
 exact wpAny_bind (wpAny_bind (wpAny_mono h (λb s' hb=>wpAny_pure hb) λζ ζ x=>x))
theorem mH{elt target iter:Expr}{ifs:List Expr}{scope:Scope}{pos:Pos}{it acc:Value}
  (h:wpAny (model prog w) A (pyNext it) (λr dC=>match r with
   |none=>R (.ok .next) dC
   |some v=>wpAny (model prog w) A (letOwnedTupleGo target it v) (λζ vH=>wpAny (model prog w) A (assign target env v) (λζ kE=>
     wpAny (model prog w) A (tests ifs true env) (λok jo=>
      if ok=true then wpAny (model prog w) A (eval elt env) (λx Y2=>
       wpAny (model prog w) A (call (.builtin "list.append") [acc,x]) (λζ Y3=>codeAny (model prog w) A (.compLoop (.ListComp elt [⟨target,iter,ifs,0⟩] scope pos) 0 it acc env) R Y3) (notedBy (model prog w) A env λe s'=>R (.error e) s') Y2) (notedBy (model prog w) A env λe s'=>R (.error e) s') jo
      else codeAny (model prog w) A (.compLoop (.ListComp elt [⟨target,iter,ifs,0⟩] scope pos) 0 it acc env) R jo) (notedBy (model prog w) A env λe s'=>R (.error e) s') kE) (notedBy (model prog w) A env λe s'=>R (.error e) s') vH) (notedBy (model prog w) A env λe s'=>R (.error e) s') dC) (notedBy (model prog w) A env λe s'=>R (.error e) s') s):
  codeAny (model prog w) A (.compLoop (.ListComp elt [⟨target,iter,ifs,0⟩] scope pos) 0 it acc env) R s:=by
 refine codeAny_of_tree ?_
 show wpAny _ A ((compTurn (.ListComp elt [⟨target,iter,ifs,0⟩] scope pos) 0 it acc env).onRaise (λx=>do noteFrame x env;theTreesLotGoes x)) _ _ s
 refine wpAny_noted ?_
 rw[compTurn_list]
 refine wpAny_bind (wpAny_standAt (wpAny_bind (wpAny_mono h (λr dC bg=>?_) λζ ζ h'=>h')))
 induction r with
 |none=>exact wpAny_pure bg
 |some v=>
  refine wpAny_bind (wpAny_mono bg (λζ vH Ea=>?_) λζ ζ h'=>h')
  refine wpAny_bind (wpAny_mono Ea (λζ kE bt=>wpAny_bind (wpAny_mono bt (λok jo a9=>?_) λζ ζ h'=>h')) λζ ζ h'=>h')
  induction ok with
  |true=>
   simp only[if_true] at a9 ⊢
   exact wpAny_bind (wpAny_bind (wpAny_mono a9 (λx Y2 dh=>wpAny_bind (wpAny_mono dh (λζ Y3 dE=>wpAny_pure (wpAny_pure ⟨rfl,dE⟩)) λζ ζ h'=>h')) λζ ζ h'=>h'))
  |false=>
   simp only[Bool.false_eq_true,if_false] at a9 ⊢
   exact wpAny_bind (wpAny_pure (wpAny_pure ⟨rfl,a9⟩))
end
variable{G:Gc}{c:Fc}{s:Shared}{h h':Heap}{m m':Str->Option Value}{ν:List Addr}{Mu:List Obj}{I:Led}{ρ:ah}{H H':List Ob}{n:Nat}{sc:Sc}
theorem Hw{α β:Type}{a:aM α}{f:α->List Ob->aM β}{r:Rs β}(h:eZ a f=some r):∃v H,a=some (.ok v H)/\f v H=some r:=by
 unfold eZ at h
 split at h
 ·exact no h
 ·split at h
  ·exact⟨_,_,rfl,h⟩
  ·exact no h
theorem gO{α β:Type}{C:Prop}{a:aM α}{f:α->List Ob->aM β}{r:Rs β}(h:eZ a f=some r)(k:∀v H,a=some (.ok v H)->f v H=some r->C):C:=let ⟨v,H,h1,h2⟩:=Hw h;k v H h1 h2
variable(G) in
def lQ(n:Nat)(sc:Sc)(es:List Expr)(ρ:ah)(H:List Ob)(r:Rs Bool):Prop:=
 ∀c s m ν Mu I Q E,c.Ok G n->cM c sc ν->St G c s.heap m ν Mu I H->Loc G c m ν I ρ->ng G c m ν I s Q E r->wpAny G.M c.A (tests es true c.env) Q E s
theorem yS:lQ G n sc [] ρ H (.ok true H):=by
 rintro c s m ν Mu I Q E ok au S l post
 exact wpAny_pure (post s.heap s.toks ν Mu I (Ext.refl _ _) S)
theorem wX{e:Expr}{es:List Expr}{r:Rs Bool}{it:aM Bool}{is:List Ob->aM Bool}(h1:∀r,it=some r->oz G n sc e ρ H r)(h2:∀H₁ r,is H₁=some r->lQ G n sc es ρ H₁ r)
  (h:(eZ it λb H=>match b with
  |true=>is H
  |false=>bV false H)=some r):lQ G n sc (e::es) ρ H r:=by
 rintro c s m ν Mu I Q E ok au S l post
 refine gO h λb H₁ q1 q2=>?_
 refine wq (h1 _ q1 c s m ν Mu I _ _ ok au S l λh' ak aa aw I' x S'=>?_)
 induction b with
 |true=>exact h2 _ _ q2 c {s with heap:=h',toks:=ak} m aa aw I' _ _ ok (au.mono x) S' (l.mono x) (ng.mono x post)
 |false=>obtain rfl:=ai q2;exact tM (post h' ak aa aw I' x S')
structure Sep(c:Fc)(ν:List Addr)(I:Led)(a:Addr):Prop where
 i7:a≠c.L
 base:c.h₀.get? a=none
 ids:a∉ν
 led:∀p∈I,p.1≠a
theorem fZ{aa:List Addr}{I':Led}{a:Addr}{o:Obj}(e:Ext ν aa I I')(hI:(a,o)∈I)(ids:a∉ν):a∉aa:=λhm=>by
 obtain⟨j,hj,ej⟩:=List.getElem_of_mem hm
 have M6:aa[j]?=some a:=by rw[List.getElem?_eq_getElem hj,ej]
 by_cases hl:j<ν.length
 ·have:=e.at (List.getElem?_eq_getElem hl)
  rw[M6] at this
  exact ids ((Option.some.inj this)▸List.getElem_mem hl)
 ·exact e.fr j a (Nat.le_of_not_lt hl) M6 _ hI rfl
theorem Fl{i:It}{x:Addr}{o:Obj}(A:nv G c ν I s.heap i x o)(hd:iu i=false){Q:Value->Shared->Prop}{E:Value->Shared->Prop}(h:Q (.ref x) s):wpAny G.M c.A (pyIter (.ref x)) Q E s:=by
 obtain⟨get,_,_,_,_,it⟩:=A
 cases it with
 |tup hc hd _ _=>exact wpAny_pyIter_tupleiter ⟨o,get,hc,hd⟩ h
 |lst hc hd _=>exact wpAny_pyIter_listiter ⟨o,get,hc,hd⟩ h
 |dict=>cases hd
 |rZ=>exact wpAny_pyIter_rangeiter get h
theorem vQ.eG{aa:List Addr}{I':Led}{i:It}{o:Obj}(pre:ν<+:aa)(y:cy I I')(nd:iu i=false)(x:vQ G ν I h i o):vQ G aa I' h' i o:=by
 cases x with
 |tup hc js hI hs=>exact .tup hc js (hI.imp (y _ _ _) id) (hs.eG pre y)
 |lst hc js cb=>exact .lst hc js (fh pre cb)
 |dict=>cases nd
 |rZ=>exact .rZ
theorem NsObj.mz{o:Obj}(x:NsObj o m):∀xs n,o≠dw xs n:=λxs n e=>by
 refine cz x ?_;clear x;intro y1 y2 h y3
 rw[e] at h
 cases h
theorem vQ.mz{i:It}{o:Obj}(x:vQ G ν I h i o):∀xs n,o≠dw xs n:=λxs n e=>by
 refine bP x.names λy1 y2 y3 h y4=>?_
 rw[e] at h
 cases h
theorem cy.trans{I I' dk:Led}(x:cy I I')(y:cy I' dk):cy I dk:=λa xs n h=>y a xs n (x a xs n h)
theorem mJ{I I':Led}(h:∀p∈I,p∈I'):cy I I':=λζ ζ ζ q=>h _ q
variable(G) in
def Gd(n:Nat)(sc:Sc)(t elt:Expr)(ifs:List Expr)(i:It)(j:Nat)(ρ:ah)(H:List Ob)(r:Rs Unit):Prop:=
 ∀c s m ν Mu I R x o oC mC aj fz scope pos H',c.Ok G n->cM c sc ν->St G c s.heap m ν Mu I H->nv G c ν I s.heap i x o->iu i=false->Sep c ν I c.env.locals->c.env.locals≠x->s.heap.get? c.env.locals=some oC->NsObj oC mC->cC G.K mC ν I ρ->
  ν[j]?=some aj->r=.ok () H'->
  (∀h' ak aa aw I' m',Ext ν aa I I'->St G c h' m aa aw I' H'->h'.Ns c.env.locals m'->Sep c aa I' c.env.locals->R (.ok .next) {s with heap:=h',toks:=ak})->
  codeAny G.M c.A (.compLoop (.ListComp elt [⟨t,fz,ifs,0⟩] scope pos) 0 (.ref x) (.ref aj) c.env) R s
theorem wA{i i':It}{v:V}(h:kY H i=some (some (v,i')))(hd:iu i=false):iu i'=false:=by
 induction i' using It.casesOn<;>first|rfl|skip
 refine bF (mx h _ _ _ rfl) λk' aU=>?_;subst aU
 cases hd
theorem Loc.inComp{C:Addr}{oC:Obj}{mC:Str->Option Value}(hC:c.env.locals=C)(hI:(C,oC)∈I)(hn:NsObj oC mC)(k:cC G.K mC ν I ρ):Loc G c m ν I ρ:=.comp oC mC (hC▸hI) hn k
set_option tactic.hygienic true in
theorem sP{qi:ah}{t:Expr}{v:V}(h:sQ sc ρ t v=some qi):∃y yp,t=.Name y yp/\bT y sc.ns=some .local/\qi=gm y v ρ:=by
 induction t using Expr.casesOn<;>first|(exact no h;done)|skip
 rename_i y yp
 refine Bb h ?_;clear h;intro hy h
 obtain rfl:=ai h
 exact⟨y,yp,rfl,hy,rfl⟩
theorem C5{t elt:Expr}{ifs:List Expr}{i:It}{j:Nat}{r:Rs Unit}{iIfs:ah->List Ob->aM Bool}{iE:ah->List Ob->aM V}{iG:It->ah->List Ob->aM Unit}
  (h1:∀bj H₁ r,iIfs bj H₁=some r->lQ G n sc ifs bj H₁ r) (h2:∀bj H₁ r,iE bj H₁=some r->dA G n sc elt bj H₁ r) (h3:∀i' bj H₁ r,iG i' bj H₁=some r->Gd G n sc t elt ifs i' j bj H₁ r)
  (h:(bE (kY H i) λr=>match r with
 |none=>bV () H
 |some (v,i')=>bE (sQ sc ρ t v) λρ=>eZ (iIfs ρ H) λb H=>match b with
  |false=>iG i' ρ H
  |true=>eZ (iE ρ H) λu H=>match cJ H j with
   |some (.list xs)=>match short xs with
    |true=>iG i' ρ (dq H j (.list (xs++[u])))
    |false=>none
   |_=>none)=some r):Gd G n sc t elt ifs i j ρ H r:=by
 rintro c s m ν Mu I R x o oC mC aj fz scope pos H' ok au S A nd sep Y4 hC hn k Y5 hr post
 refine cP h ?_;clear h;intro nx Rj h
 refine ae (S.pin hC sep.i7 sep.base sep.ids) λS0 e0=>?_
 have A0:nv G c ν ((c.env.locals,oC)::I) s.heap i x o:=⟨A.get,A.i7,A.base,A.ids,λp hp=>by
  rcases List.mem_cons.mp hp with rfl|hp
  ·exact Y4
  ·exact A.led p hp,A.it.keep List.prefix_rfl (λp hp=>.tail _ hp) λζ ζ ζ ζ ζ ζ ζ z=>z⟩
 have noC:=hn.mz
 refine mH (xY ok S0 A0 Rj ?_)
 induction nx with
 |none=>
  obtain rfl:=ai h
  cases hr
  intro h' ak S'
  have QH:h'.get? c.env.locals=some oC:=(S'.N _ (List.mem_append_right _ (.head _))).1
  have ha:∀xs n,h'.get? c.env.locals≠some (dw xs n):=λxs n q=>noC xs n (by rw[QH] at q;exact Option.some.inj q)
  refine bP hn ?_;clear hn;intro es ep n1 n2 n3
  exact post h' ak ν Mu (less c.env.locals ((c.env.locals,oC)::I)) mC ((Ext.refl ν ((c.env.locals,oC)::I)).less (p:=(c.env.locals,oC)) sep.led) (S'.strip ha) ⟨oC,es,ep,QH,n1,n2,n3⟩ ⟨sep.i7,sep.base,sep.ids,λp hp=>(bD.mp hp).2⟩
 |some p=>
  obtain⟨v,i'⟩:=p
  refine cP h ?_;clear h;intro bj aet h
  intro h' ak u o' S' ru A'
  have nd':=wA Rj nd
  refine bP A'.it.names λT vs n1 n2 n3=>?_
  refine CS (s:={s with heap:=h',toks:=ak}) A'.get n1 n2 n3 ?_
  have QH:h'.get? c.env.locals=some oC:=(S'.N _ (List.mem_append_right _ (.head _))).1
  have ha:∀xs n,h'.get? c.env.locals≠some (dw xs n):=λxs n q=>noC xs n (by rw[QH] at q;exact Option.some.inj q)
  have t12:=S'.uB ha
  have S2:=S'.strip ha
  have e2:Ext ν ν I (less c.env.locals ((c.env.locals,oC)::I)):=(Ext.refl ν ((c.env.locals,oC)::I)).less (p:=(c.env.locals,oC)) sep.led
  generalize hI2:less c.env.locals ((c.env.locals,oC)::I)=I2 at t12 S2 e2
  have Y6:∀p∈I2,p.1≠c.env.locals:=λp hp=>(bD.mp (hI2▸hp)).2
  have Y7:∀p∈I2,p.1≠x:=λp hp=>A'.led p (bD.mp (hI2▸hp)).1
  refine ae (S2.pin A'.get A'.i7 A'.base A'.ids) λS3 e3=>?_
  refine bP (sP aet) λy yp aU hy fH=>?_;subst aU;subst fH
  refine bP hn ?_;clear hn;intro es ep g1 g2 g3
  refine PyProof.Rows.assign_Name (wpAny_storeName_local ((au.ns y).trans hy) (m:=mC) ⟨oC,es,ep,QH,g1,g2,g3⟩ (λbt M7 jW=>?_) (by rw[ok.ek];rfl))
  refine hW M7 ?_;clear M7;intro Y8 es2 ep2 hC2 k1 k2 k3
  have hn2:NsObj Y8 (λz=>if z=y then some u else mC z):=⟨es2,ep2,k1,k2,k3⟩
  have M8:∀p∈((x,o')::I2:Led),p.1≠c.env.locals:=λp hp=>by
   rcases List.mem_cons.mp hp with rfl|hp
   ·exact Ne.symm Y4
   ·exact Y6 p hp
  have S4:St G c bt m ν Mu ((x,o')::I2) H:=S3.but sep.i7 sep.base sep.ids M8 jW.extBut
  have kn:cC G.K (λz=>if z=y then some u else mC z) ν I2 (gm y v ρ):=λz w q=>by
   rw[nL] at q
   split at q
   ·rename_i e
    obtain rfl:=ai q
    exact⟨u,if_pos e,ru.eG List.prefix_rfl t12⟩
   ·rename_i e
    refine ab (k z w q) λu' q1 q2=>?_
    exact⟨u',by dsimp only;rw[if_neg e];exact q1,q2.mono e2⟩
  refine ae (S4.pin hC2 sep.i7 sep.base sep.ids) λS5 e5=>?_
  have kn5:=(kn.mono e3).mono e5
  have again:∀dE jX iD mj A1 QI,Ext ν iD ((c.env.locals,Y8)::(x,o')::I2) A1->St G c dE m iD mj A1 QI->iG i' (gm y v ρ) QI=some r->
    codeAny G.M c.A (.compLoop (.ListComp elt [⟨.Name y yp,fz,ifs,0⟩] scope pos) 0 (.ref x) (.ref aj) c.env) R {s with heap:=dE,toks:=jX}:=by
   intro dE jX iD mj A1 QI e iH hG
   have gC:dE.get? c.env.locals=some Y8:=(iH.N _ (List.mem_append_right _ (e.sub _ (.head _)))).1
   have gx:dE.get? x=some o':=(iH.N _ (List.mem_append_right _ (e.sub _ (.tail _ (.head _))))).1
   have haC:∀xs n,dE.get? c.env.locals≠some (dw xs n):=λxs n q=>hn2.mz xs n (by rw[gC] at q;exact Option.some.inj q)
   have hax:∀xs n,dE.get? x≠some (dw xs n):=λxs n q=>A'.it.mz xs n (by rw[gx] at q;exact Option.some.inj q)
   have mV:=iH.strip haC
   have aew:=mV.strip hax
   have f1:Ext ν iD ((x,o')::I2) (less c.env.locals A1):=e.less (p:=(c.env.locals,Y8)) M8
   have f2:Ext ν iD I2 (less x (less c.env.locals A1)):=f1.less (p:=(x,o')) Y7
   have f3:Ext ν iD I (less x (less c.env.locals A1)):=e2.trans f2
   refine h3 i' _ _ _ hG c {s with heap:=dE,toks:=jX} m iD mj _ R x o' Y8 _ aj fz scope pos H' ok (au.mono f3) aew ⟨gx,A'.i7,A'.base,fZ e (.tail _ (.head _)) A'.ids,λp hp=>(bD.mp hp).2,?_⟩ nd'
    ⟨sep.i7,sep.base,fZ e (.head _) sep.ids,λp hp=>(bD.mp (bD.mp hp).1).2⟩ Y4 gC hn2 (kn.mono f2) (f3.at Y5) hr λqb Y9 Za Zb aex aey aez=>post qb Y9 Za Zb aex aey (f3.trans aez)
   exact A'.it.eG e.pre (t12.trans (mJ f2.sub)) nd'
  refine gO h ?_;clear h;intro b H₁ q1 h
  refine h1 _ _ _ q1 c {s with heap:=bt,toks:=ak+1} m ν Mu _ _ _ ok au S5 (Loc.inComp rfl (.head _) hn2 kn5) λa9 bq dd bM fq gq bZ=>?_
  induction b with
  |false=>
   rw[if_neg (by decide)]
   exact again a9 bq dd bM fq H₁ gq bZ h
  |true=>
   rw[if_pos rfl]
   refine gO h ?_;clear h;intro w aQ q2 h
   refine h2 _ _ _ q2 c {s with heap:=a9,toks:=bq} m dd bM fq ok (au.mono gq) bZ (Loc.inComp rfl (gq.sub _ (.head _)) hn2 (kn5.mono gq)) _ _ λdh vG agB M4 aii uw Zc eJ rw=>?_
   refine pf h ?_;clear h;intro xs QG h
   refine ix h ?_;clear h;intro hz h
   refine mM (s:={s with heap:=dh,toks:=vG}) ok eJ ((gq.trans Zc).at Y5) QG hz rw _ _ λdE jX iD mj Ed ζ Jv iH ζ=>?_
   exact again dE jX iD mj Ed _ ((gq.trans Zc).trans Jv) iH h
end
section
variable{G:Gc}{c:Fc}{s:Shared}{h h':Heap}{m m':Str->Option Value}{ν:List Addr}{Mu:List Obj}{I:Led}{ρ:ah}{H H':List Ob}{n:Nat}{sc:Sc}
theorem Au{env:Env}{x:Str}{a:Addr}(h:env.cells.lookup x=some a):cellOf env x=pure a:=by unfold cellOf;rw[h]
theorem zT:∀{names:List (Str×NameKind)} {cells:List (Str×Nat)},dz sc names=some cells->∀x i,bT x cells=some i->bT x sc.cells=some i:=by
 intro l_
 induction l_ with
 |nil=>
  intro cells h x i q
  obtain rfl:=ai h;exact no q
 |cons p_ r ih=>
  obtain⟨y,k⟩:=p_
  intro cells h x i q
  refine aa3 h ?_ ?_
  ·clear h;intro ay h;subst ay
   refine wx h ?_;clear h;intro j hj h
   refine ab (Option.map_eq_some_iff.mp h) λl hl aU=>?_;subst aU
   rw[bU] at q
   cases e:du y x with
   |true=>rw[e] at q;obtain rfl:=ai q;rw[←aH.mp e];exact hj
   |false=>rw[e] at q;exact ih hl x i q
  ·clear h;intro h
   exact ih h x i q
theorem v8{env:Env}(hc:∀x i,bT x sc.cells=some i->∃a,env.cells.lookup x=some a/\ν[i]?=some a)(f:Str×NameKind->List (Str×Addr)->Sem (ForInStep (List (Str×Addr))))
  (hf:∀x k acc,f (x,k) acc=if(k==NameKind.free)=true then(do let a←cellOf env x;pure (.yield ((x,a)::acc))) else pure (.yield acc)):
  ∀(names:List (Str×NameKind)) (cells:List (Str×Nat)) (acc:List (Str×Addr)),dz sc names=some cells->(∀p∈acc,env.cells.lookup p.1=some p.2)->
   ∃cl,forIn names acc f=(pure cl:Sem (List (Str×Addr)))/\(∀p∈cl,env.cells.lookup p.1=some p.2)/\(∀x,x∈acc.map (·.1)->x∈cl.map (·.1))/\∀x i,bT x cells=some i->x∈cl.map (·.1):=by
 intro l_
 induction l_ with
 |nil=>
  intro cells acc h ha
  obtain rfl:=ai h
  exact⟨acc,rfl,ha,λζ h=>h,λζ ζ h=>by exact no h⟩
 |cons p_ r ih=>
  obtain⟨y,k⟩:=p_
  intro cells acc h ha
  rw[List.forIn_cons,hf]
  by_cases hk:k=.free
  ·subst hk
   refine wx (x0:=bT y sc.cells) h ?_;clear h;intro j hj h
   refine ab (Option.map_eq_some_iff.mp h) λl hl aU=>?_;subst aU
   refine ab (hc y j hj) λa h1 h2=>?_
   rw[if_pos (show(NameKind.free==NameKind.free)=true from rfl),Au h1]
   obtain⟨cl,e1,e2,e3,e4⟩:=ih l ((y,a)::acc) hl (λp hp=>by
    rcases List.mem_cons.mp hp with rfl|hp
    ·exact h1
    ·exact ha p hp)
   refine⟨cl,?_,e2,λx hx=>e3 x (.tail _ hx),λx i q=>?_⟩
   ·simpa using e1
   ·rw[bU] at q
    cases e:du y x with
    |true=>rw[←aH.mp e];exact e3 y (.head _)
    |false=>rw[e] at q;exact e4 x i q
  ·have hz:(k==NameKind.free)=false/\dz sc r=some cells:=by induction k<;>first|exact⟨rfl,h⟩|exact absurd rfl hk
   obtain⟨cl,e1,e2,e3,e4⟩:=ih cells acc hz.2 ha
   refine⟨cl,?_,e2,e3,e4⟩
   rw[hz.1,if_neg (by decide)]
   simpa using e1
theorem kJ{scope:Scope}{cells:List (Str×Nat)}(au:cM c sc ν)(h:dz sc scope.names=some cells):
  ∃cl,closureFor scope c.env=pure cl/\∀x i,bT x cells=some i->∃a,cl.lookup x=some a/\ν[i]?=some a:=by
 obtain⟨cl,e1,e2,e3,e4⟩:=v8 au.cells (λp acc=>if(p.2==NameKind.free)=true then(do let a←cellOf c.env p.1;pure (.yield ((p.1,a)::acc))) else pure (.yield acc)) (λζ ζ ζ=>rfl) scope.names cells [] h (λζ hp=>nomatch hp)
 refine⟨cl,?_,λx i q=>?_⟩
 ·have e:∀(f g:Str×NameKind->List (Str×Addr)->Sem (ForInStep (List (Str×Addr)))),f=g->forIn scope.names [] g=(pure cl:Sem (List (Str×Addr)))->(forIn scope.names [] f>>=λr=>pure r)=(pure cl:Sem (List (Str×Addr))):=by
   rintro f g rfl h
   rw[h];rfl
  refine e _ _ ?_ e1
  funext p acc
  obtain⟨x,k⟩:=p
  dsimp only
 ·have hx:=e4 x i q
  refine ab (au.cells x i (zT h x i q)) λa h1 h2=>?_
  have:=dv hx
  cases hl:cl.lookup x with
  |none=>rw[hl] at this;exact nf this
  |some b=>
   have hm:(x,b)∈cl:=by
    clear this e1 e2 e3 e4 hx
    induction cl with
    |nil=>exact no hl
    |cons p cl ih=>
     obtain⟨y,d⟩:=p
     rw[List.lookup_cons] at hl
     split at hl
     ·rename_i e
      obtain rfl:=ai hl
      rw[beq_iff_eq.mp e]
      exact .head _
     ·exact .tail _ (ih hl)
   have:=e2 _ hm
   dsimp only at this
   rw[h1] at this
   obtain rfl:=ai this
   exact⟨_,rfl,h2⟩
theorem uQ(ok:c.Ok G n)(au:cM c sc ν):∀names:List (Str×NameKind),i9 sc names=names.map λ(n,k)=>if(k==NameKind.free&&c.env.scope.kind==.function&&c.env.kindOf n==some .cell) then(n,NameKind.cell) else(n,k):=by
 intro l_
 induction l_ with
 |nil=>
  exact rfl
 |cons p_ r ih=>
  obtain⟨x,k⟩:=p_
  rw[List.map_cons,←ih]
  refine congrArg (· ::i9 sc r) ?_
  dsimp only
  have e:c.env.kindOf x=bT x sc.ns:=au.ns x
  rw[ok.ek,e]
  induction k<;>first|rfl|skip
  cases q:bT x sc.ns with
  |none=>rfl
  |some k=>induction k<;>rfl
theorem vb{all:List (Str×NameKind)}:∀{l:List (Str×NameKind)},namesOk all l=true->(∀x∈l,x.2≠ .cell)/\∀x∈l,x.2=.local->all.lookup x.1=some .local:=by
 intro l_
 induction l_ with
 |nil=>
  intro _
  exact⟨λζ h=>(nomatch h),λζ h=>(nomatch h)⟩
 |cons p_ r ih=>
  obtain⟨y,k⟩:=p_
  intro h
  refine aJ h λh1 h2=>?_
  refine ae (ih h2) λa b=>?_
  refine⟨λx hx=>?_,λx hx hk=>?_⟩
  ·rcases List.mem_cons.mp hx with rfl|hx
   ·rintro e
    subst e
    exact nf h1
   ·exact a x hx
  ·rcases List.mem_cons.mp hx with rfl|hx
   ·subst hk
    refine Wn h1 ?_;clear h1;intro q
    rw[←cg];exact q
   ·exact b x hx hk
variable(G) in
def jJ(n:Nat)(sc:Sc)(elt t fz:Expr)(ifs:List Expr)(a:Int)(scope:Scope)(pos:Pos)(ρ:ah)(H:List Ob)(r:Rs V):Prop:=
 (∃j H',r=.ok (.obj j) H')/\∀(c:Fc) (s:Shared) (m:Str->Option Value) (ν:List Addr) (Mu:List Obj) (I:Led) (use:Option (Value->Sem Unit)) (Q E:Value->Shared->Prop),c.Ok G n->cM c sc ν->St G c s.heap m ν Mu I H->Loc G c m ν I ρ->
  (∀j H',r=.ok (.obj j) H'->∀h' ak aa aw I' aj C m',Ext ν aa I I'->St G c h' m aa aw I' H'->aa[j]?=some aj->h'.Ns C m'->Sep c aa I' C->compPost G.M c.A E use Q (.ref aj) C (.ok .next) {s with heap:=h',toks:=ak})->
  wpAny G.M c.A (comprehension (.ListComp elt [⟨t,fz,ifs,a⟩] scope pos) scope c.env (firstIterPos [⟨t,fz,ifs,a⟩] pos) (newList []) (firstAsync [⟨t,fz,ifs,a⟩]) (firstIter [⟨t,fz,ifs,a⟩] c.env) use) Q E s
theorem AP{elt t fz:Expr}{ifs:List Expr}{a:Int}{scope:Scope}{pos:Pos}{r:Rs V}{ii:aM It}{iG:List (Str×Nat)->It->List Ob->aM Unit}
  (h1:∀r,ii=some r->Dg G n sc fz ρ H r) (h2:∀cells i H₁ r,iG cells i H₁=some r->Gd G n ⟨i9 sc scope.names,cells,none⟩ t elt ifs i (H₁.length-1) [] H₁ r)
  (h:nO sc scope fz a ii iG=some r) (c:Fc) (s:Shared) (m:Str->Option Value) (ν:List Addr) (Mu:List Obj) (I:Led) (ok:c.Ok G n) (au:cM c sc ν) (S:St G c s.heap m ν Mu I H) (l:Loc G c m ν I ρ)
  (use:Option (Value->Sem Unit)) (Q E:Value->Shared->Prop)
  (post:∀j H',r=.ok (.obj j) H'->∀h' ak aa aw I' aj C m',Ext ν aa I I'->St G c h' m aa aw I' H'->aa[j]?=some aj->h'.Ns C m'->Sep c aa I' C->compPost G.M c.A E use Q (.ref aj) C (.ok .next) {s with heap:=h',toks:=ak}):
  wpAny G.M c.A (comprehension (.ListComp elt [⟨t,fz,ifs,a⟩] scope pos) scope c.env (firstIterPos [⟨t,fz,ifs,a⟩] pos) (newList []) (firstAsync [⟨t,fz,ifs,a⟩]) (firstIter [⟨t,fz,ifs,a⟩] c.env) use) Q E s:=by
 refine gB h ?_;clear h;intro kH h
 refine aJ kH ?_;clear kH;intro kH ha
 refine aJ kH λD5 vI=>?_
 have ha:a=0:=beq_iff_eq.mp ha
 subst ha
 have vI:isSet fz=false:=by cases q:isSet fz;rfl;rw[q] at vI;exact nf vI
 refine aJ D5 λfC QE=>?_
 have fC:scope.kind=.function:=by
  refine HR fC ?_;clear fC;intro _
  assumption
 refine ae (vb QE) λxq QJ=>?_
 refine cP h ?_;clear h;intro cells qc h
 refine gO h ?_;clear h;intro i H₁ q1 h
 refine n5 h ?_;clear h;intro Ju h
 refine gO h ?_;clear h;intro y1 aQ q2 h
 obtain rfl:=ai h
 refine ab (kJ au qc) λcl vJ qj=>?_
 refine wpAny_comprehension_free (g:=⟨t,fz,ifs,0⟩) (gs:=[]) rfl (λx=>by(first|exact no fz|exact nf fz|subst fz|obtain rfl:=ai fz|induction fz using Expr.casesOn)<;>first|rfl|cases vI) vJ fC QJ ?_
 refine h1 _ q1 c s m ν Mu I _ _ ok au S l λh' ak aa aw I' x o e' S' A=>?_
 refine ae (S'.pin A.get A.i7 A.base A.ids) λS1 e1=>?_
 refine ou (s:={s with heap:=h',toks:=ak}) (us:=[]) (vs:=[]) S1 .nil rfl _ _ λbt fL aR jV bS acc jl dR aeA=>?_
 obtain⟨aj,Y5,rfl⟩:∃aj,aR[H₁.length]?=some aj/\acc=.ref aj:=by cases aeA with|obj hj=>exact⟨_,hj,rfl⟩
 refine wpAny_newFunctionEnv xq (by intro y hy;simp at hy) (λa9 Ee Ef=>?_) fC
 have Zd:St G c (bt.push {cls:=.type (if(some c.env).isSome then "dict" else "frame"),data:=.dict #[]}) m aR jV bS (H₁++[.list []]):=St.push (s:={s with heap:=bt,toks:=fL}) dR _
 have hC1:bt.objs.size≠c.L:=Nat.ne_of_gt dR.F.ns.lt
 have hC2:c.h₀.get? bt.objs.size=none:=by
  cases hq:c.h₀.get? bt.objs.size with
  |none=>rfl
  |some o'=>exact absurd (Heap.lt_size (dR.F.keep _ _ hq)) (Nat.lt_irrefl _)
 have fr:=dR.fresh
 have bZ:St G c a9 m aR jV bS (H₁++[.list []]):=Zd.but hC1 hC2 fr.1 fr.2.1 Ef.extBut
 have Eg:bt.get? x=some o:=(dR.N _ (List.mem_append_right _ (jl.sub _ (.head _)))).1
 have M9:a9.get? x=some o:=Ef.extBut _ _ (Nat.ne_of_lt (Heap.lt_size Eg)) (Heap.get?_push_of_some _ Eg)
 have Y4:bt.objs.size≠x:=Ne.symm (Nat.ne_of_lt (Heap.lt_size Eg))
 have hax:∀xs n,a9.get? x≠some (dw xs n):=λxs n q=>A.it.mz xs n (by rw[M9] at q;exact Option.some.inj q)
 have eJ:=bZ.strip hax
 have f1:Ext aa aR I' (less x bS):=jl.less (p:=(x,o)) A.led
 have f2:Ext ν aR I (less x bS):=e'.trans f1
 refine hW Ee ?_;clear Ee;intro oC es ep hC g1 g2 g3
 let xr:Env:={newEnv scope bt.objs.size c.env.globals cl c.env.qual none .none (some c.env) builtinsNs with scope:=relabel scope c.env}
 let c':Fc:={c with env:=xr}
 have qn:c'.Ok G n:={ok with ek:=fC,eg:=ok.eg,eb:=ok.eb,yF:=ok.yF}
 have Eh:St G c' a9 m aR jV (less x bS) (H₁++[.list []]):=⟨eJ.F,eJ.N,eJ.nd,eJ.eP,eJ.len,eJ.aT,eJ.ob,eJ.big,eJ.low⟩
 have Ei:cM c' ⟨i9 sc scope.names,cells,none⟩ aR:=⟨λy=>by
   show((relabel scope c.env).names.lookup y)=_
   rw[cg,uQ ok au]
   rfl,λy j hj=>by
   refine ab (qj y j hj) λad h1 h2=>?_
   exact⟨ad,h1,f2.at h2⟩,λζ ζ e=>by exact no e⟩
 have A':nv G c' aR (less x bS) a9 i x o:=⟨M9,A.i7,A.base,fZ jl (.head _) A.ids,λp hp=>(bD.mp hp).2,A.it.eG (h':=a9) f1.pre (mJ f1.sub) Ju⟩
 have el:(H₁++[Ob.list []]).length-1=H₁.length:=by simp
 have key:=h2 cells i _ _ q2 c' {s with heap:=a9,toks:=fL+([]:List (Str×Value)).length} m aR jV (less x bS)
 have run:∀R:Result->Shared->Prop,(∀h' ak aa aw I' m',Ext aR aa (less x bS) I'->St G c' h' m aa aw I' aQ->h'.Ns bt.objs.size m'->Sep c' aa I' bt.objs.size->R (.ok .next) {s with heap:=h',toks:=ak})->
   codeAny G.M c.A (.compLoop (.ListComp elt [⟨t,fz,ifs,0⟩] scope pos) 0 (.ref x) (.ref aj) xr) R {s with heap:=a9,toks:=fL+([]:List (Str×Value)).length}:=λR p=>
  key R x o oC _ aj fz scope pos aQ qn Ei Eh A' Ju ⟨hC1,hC2,fr.1,λp hp=>fr.2.1 p (bD.mp hp).1⟩ Y4 hC ⟨es,ep,g1,g2,g3⟩ (λy w q=>by exact no q) (by rw[el];exact Y5) rfl p
 have fin:∀h' ak aa aw I' m',Ext aR aa (less x bS) I'->St G c' h' m aa aw I' aQ->h'.Ns bt.objs.size m'->Sep c' aa I' bt.objs.size->
   compPost G.M c.A E use Q (.ref aj) bt.objs.size (.ok .next) {s with heap:=h',toks:=ak}:=λdE jX iD mj Ed aeB Jv iH Ze tI=>
  post _ _ rfl dE jX iD mj Ed aj bt.objs.size aeB (f2.trans Jv) ⟨iH.F,iH.N,iH.nd,iH.eP,iH.len,iH.aT,iH.ob,iH.big,iH.low⟩ (Jv.at Y5) Ze ⟨tI.i7,tI.base,tI.ids,tI.led⟩
 refine codeAny_compStart_list (run _ fin) ?_
 exact Fl (s:={s with heap:=a9,toks:=fL+([]:List (Str×Value)).length}) A' Ju (run _ fin)
theorem wm{scope:Scope}{fz:Expr}{a:Int}{ii:aM It}{iG:List (Str×Nat)->It->List Ob->aM Unit}{r:Rs V}(h:nO sc scope fz a ii iG=some r):∃j H',r=.ok (.obj j) H':=by
 refine gB h ?_;clear h;intro _ h
 refine cP h ?_;clear h;intro y1 y2 h
 refine gO h ?_;clear h;intro y1 y2 y3 h
 refine n5 h ?_;clear h;intro _ h
 refine gO h ?_;clear h;intro y1 y2 y3 h
 obtain rfl:=ai h
 exact⟨_,_,rfl⟩
theorem zl{elt t fz:Expr}{ifs:List Expr}{a:Int}{scope:Scope}{pos:Pos}{r:Rs V}{ii:aM It}{iG:List (Str×Nat)->It->List Ob->aM Unit}
  (h1:∀r,ii=some r->Dg G n sc fz ρ H r) (h2:∀cells i H₁ r,iG cells i H₁=some r->Gd G n ⟨i9 sc scope.names,cells,none⟩ t elt ifs i (H₁.length-1) [] H₁ r)
  (h:nO sc scope fz a ii iG=some r):jJ G n sc elt t fz ifs a scope pos ρ H r:=
 ⟨wm h,λc s m ν Mu I use Q E ok au S l post=>AP h1 h2 h c s m ν Mu I ok au S l use Q E post⟩
theorem yB{elt t fz:Expr}{ifs:List Expr}{a:Int}{scope:Scope}{pos:Pos}{r:Rs V}(h:jJ G n sc elt t fz ifs a scope pos ρ H r):dA G n sc (.ListComp elt [⟨t,fz,ifs,a⟩] scope pos) ρ H r:=by
 rintro c s m ν Mu I ok au S l Q E post
 rw[eval_ListComp]
 refine h.2 c s m ν Mu I none Q E ok au S l λj H' e h' ak aa aw I' aj C m' x S' hj hn sep=>?_
 subst e
 exact⟨m',hn,λqS qd=>post qS ak aa aw I' (.ref aj) x (S'.but sep.i7 sep.base sep.ids sep.led qd.extBut) (.obj hj)⟩
theorem nu{elt t fz:Expr}{ifs:List Expr}{a:Int}{scope:Scope}{pos apos:Pos}{x:Str}{xp:Pos}{r:Rs fi}{ic:aM V}(hic:∀r,ic=some r->jJ G n sc elt t fz ifs a scope pos ρ H r)
  (h:(andThen ic λv H=>bE (sc.put ρ H x v) λ(ρ,H)=>bV (ρ,none) H)=some r):qH G n sc (.Assign [.Name x xp] (.ListComp elt [⟨t,fz,ifs,a⟩] scope pos) apos) ρ H r:=by
 rintro c s m ν Mu I Q E ok hc au S k post
 obtain⟨b,hb⟩:∃b,swapsWith (.ListComp elt [⟨t,fz,ifs,a⟩] scope pos) (some (.Name x xp)) apos.line c.env=pure b:=⟨_,rfl⟩
 rcases bf h with⟨v,H₁,q1,hf⟩|⟨y,H₁,q1,rfl⟩
 ·have cd:=hic _ q1
  obtain⟨⟨eh,aQ⟩,hw,hf⟩:=kW hf
  obtain rfl:=ai hf
  induction b with
  |false=>
   refine wpAny_Assign_Name (yB cd c s m ν Mu I ok au S (bO hc k) _ _ λh' ak aa aw I' u x' S' ru=>?_) hb
   exact kK (s:={s with heap:=h',toks:=ak}) ok hc (au.mono x') S' (k.mono x') hw ru λa9 bq iy bM bZ gQ=>post a9 bq iy aa bM I' x' bZ gQ
  |true=>
   rw[exec_Assign_Name_used _ _ _ _ hb]
   refine wpAny_bind (wpAny_standAt (wpAny_bind ?_))
   refine wpAny_bind (cd.2 c s m ν Mu I _ _ _ ok au S (bO hc k) λj H' e h' ak aa aw I' aj C m' x' S' hj hn sep=>?_)
   cases e
   refine hW hn ?_;clear hn;intro oC es ep hC g1 g2 g3
   refine ae (S'.pin hC sep.i7 sep.base sep.ids) λS1 e1=>?_
   have noC:∀xs n,oC≠dw xs n:=λxs n e=>by rw[e] at g1;cases g1
   refine PyProof.Rows.assign_Name (kK (s:={s with heap:=h',toks:=ak}) ok hc (au.mono (x'.trans e1)) S1 (k.mono (x'.trans e1)) hw (.obj hj) λa9 bq iy bM bZ gQ=>?_)
   have M':a9.get? C=some oC:=(bZ.N _ (List.mem_append_right _ (.head _))).1
   have ha:∀xs n,a9.get? C≠some (dw xs n):=λxs n q=>noC xs n (by rw[M'] at q;exact Option.some.inj q)
   have eJ:=bZ.strip ha
   have f:Ext aa aa I' (less C ((C,oC)::I')):=(Ext.refl aa ((C,oC)::I')).less (p:=(C,oC)) sep.led
   exact⟨m',⟨oC,es,ep,M',g1,g2,g3⟩,λqS qd=>wpAny_pure (wpAny_pure (post qS bq iy aa bM _ (x'.trans f) (eJ.but sep.i7 sep.base sep.ids (λp hp=>(bD.mp hp).2) qd.extBut) (gQ.eG List.prefix_rfl (bZ.uB ha))))⟩
 ·refine uo ((hic _ q1).1) λj H' e=>?_
  cases e
end
end
end Mine
namespace Mine
section
open PySem PySem.W PySem.Calls PyProof.Rows Builtin Builtin.ObjectAttr Builtin.Getset_descriptor
section
inductive nU:List Value->Prop
 |last:nU [.type "Exception",.type "BaseException",.type "object"]
 |ref {c:Addr} {r:List Value} (h:nU r):nU (.ref c::r)
noncomputable def A8:List Value->Bool
 |[]=>false
 |b::r=>nB "BaseException" b&&match r with
  |[]=>false
  |c::r=>nB "object" c&&r.isEmpty
noncomputable def lz:List Value->Bool
 |[]=>false
 |v::r=>match v with
  |.ref _=>lz r
  |v=>nB "Exception" v&&A8 r
theorem Cs{l:List Value}(h:A8 l=true):l=[.type "BaseException",.type "object"]:=by
 induction l using List.casesOn with
 |nil=>exact nf h
 |cons b r=>
  refine aJ h λh1 h2=>?_
  induction r using List.casesOn with
  |nil=>exact nf h2
  |cons c r=>exact aJ h2 λh3 h4=>by rw[i5 h1,i5 h3,List.isEmpty_iff.mp h4]
theorem oM:∀{l:List Value},lz l=true->nU l:=by
 intro l_
 induction l_ with
 |nil=>
  intro h
  exact nf h
 |cons v r ih=>
  intro h
  induction v using Value.casesOn with
  |ref c=>exact .ref (ih h)
  |type a=>
   refine aJ (show(nB "Exception" (.type a)&&A8 r)=true from h) λh1 h2=>?_
   rw[i5 h1,Cs h2]
   exact .last
  |_=>exact nf h
theorem w0(self:Value){l:List Value}(h:lz l=true):refuseLoop self "__setattr__" l=pure ():=by
 have e:=oM h
 clear h
 induction e with
 |last=>exact PySem.F.store_Exception.passes self
 |ref _ ih=>rw[refuseLoop_ref];exact ih
theorem HX{l:List Value}(h:lz l=true):l.contains (.type "object")=true/\l.isEmpty=false:=by
 have e:=oM h
 clear h
 induction e with
 |last=>exact⟨by decide,rfl⟩
 |ref _ ih=>exact⟨by rw[List.contains_cons,ih.1,Bool.or_true],rfl⟩
noncomputable def lC(K:Frag)(C:Addr):Bool:=(clsIn K C).any λcd=>lz cd.mro
section
variable{prog:Program}{w:World}{A:Around}{K:Frag}{C x:Addr}{s:Shared}{R:Result->Shared->Prop}
theorem rC{ox:Obj}{od:Option Obj}{name:Str}{tk:Tok}{v:Value}(X:K.In s.heap)(I:InstAt s.heap x ox C od)(hp:lC K C=true)(ht:takerIn K C name=some none)
  (h:∀b,wpAny (model prog w) A.in1 (storeInOwnDict (.ref x) (.ref C) (.str name tk) name v b)
   (λfin s'=>match fin with|.done f=>R (.ok f) s'|.again c'=>c'.quiet=true/\codeAny (model prog w) A c' R s') (λe s'=>R (.error e) s') s):
  codeAny (model prog w) A (.call (.builtin "object.__setattr__") ⟨[.ref x,.str name tk,v],[]⟩) R s:=by
 have SF:=PySem.F.store_object
 refine ab (any_some hp) λcd hc ho=>?_
 refine ae (HX ho) λJr ne=>?_
 have sub:Looks (model prog w) s.heap (isInstance (.ref x) (.type "object")) true:=I.type.andThen (looks_mroIn X (by unfold mroIn;rw[hc,Option.bind_some,if_neg (by rw[ne];decide),Jr]))
 refine codeAny_call_builtin SF.slot.plain SF.entry (@check_slot (model prog w) _ _ s "object.__setattr__" "object" "__setattr__" (.ref x) [.str name tk,v] [] _ SF.kind SF.split sub (SF.args (.ref x) (.str name tk) v) ?_)
 refine ab (Option.bind_eq_some_iff.mp ht) λattr ha hr=>?_
 have hm:Looks (model prog w) s.heap (mroOf (.ref C)) cd.mro:=(looks_clsIn X hc).andThen .now
 have L3:Looks (model prog w) s.heap (storeTaker? attr) none:=by
  induction attr with
  |none=>exact .now
  |some a=>
   refine ab (Option.map_eq_some_iff.mp hr) λb hb hr=>?_
   refine(looks_takesIn X hb).andThen ?_
   induction b<;>first|exact .now|cases hr
 rw[osa_eq,refuse_eq]
 refine wpAny_bind (wpAny_bind (I.type.here (wpAny_bind (hm.here ?_))))
 rw[w0 _ ho]
 refine wpAny_pure (wpAny_bind (I.type.here (wpAny_bind ((looks_findIn X ha).here (wpAny_bind (L3.here ?_))))))
 exact h _
theorem UL{name:Str}{tk:Tok}{v:Value}{vs:Array Value}(X:K.In s.heap)(he:s.heap.get? x=some {cls:=.ref C,dict:=none,data:=.fields vs})
  (hp:lC K C=true) (ht:takerIn K C name=some none) (hh:hasDictIn K C=true)
  (hQ:∀h' tk ak n,h'.get? x=some {cls:=.ref C,dict:=some s.heap.objs.size,data:=.fields vs}->h'.get? s.heap.objs.size=some (dictOf [⟨PyData.keyHash w.params name,.str name tk,v⟩] n)->
   (∀b o,b≠x->s.heap.get? b=some o->h'.get? b=some o)->R (.ok (.ret .none)) {s with heap:=h',toks:=ak}):
  codeAny (model prog w) A (.call (.builtin "object.__setattr__") ⟨[.ref x,.str name tk,v],[]⟩) R s:=by
 have I:InstAt s.heap x ({cls:=Value.ref C,dict:=none,data:=Data.fields vs}:Obj) C none:=⟨he,rfl,rfl,trivial⟩
 refine rC X I hp ht λb=>?_
 refine ab (any_some hh) λcd hc js=>?_
 refine wpAny_bind (wpAny_pure (wpAny_bind (wpAny_bind (wpAny_loadPart he (wpAny_bind ((looks_clsIn (M:=model prog w) X hc).here ?_))))))
 rw[js]
 have kf:x≠s.heap.objs.size:=Nat.ne_of_lt (Heap.lt_size he)
 have qa:=Heap.get?_push_of_some (h:=s.heap) ({cls:=.type "dict",data:=.dict #[]}:Obj) he
 refine wpAny_bind (wpAny_alloc ?_)
 refine wpAny_bind (wpAny_update (s:={s with heap:=s.heap.push {cls:=.type "dict",data:=.dict #[]}}) qa ?_)
 have hx:((s.heap.push ({cls:=.type "dict",data:=.dict #[]}:Obj)).update x λo=>{cls:=o.cls,dict:=some s.heap.objs.size,data:=o.data,slots:=o.slots}).get? x=some {cls:=.ref C,dict:=some s.heap.objs.size,data:=.fields vs}:=
  Heap.get?_update_self _ qa rfl
 have D:((s.heap.push ({cls:=.type "dict",data:=.dict #[]}:Obj)).update x λo=>{cls:=o.cls,dict:=some s.heap.objs.size,data:=o.data,slots:=o.slots}).get? s.heap.objs.size=some (dictOf [] 0):=
  (Heap.get?_update_ne _ _ _ _ (Ne.symm kf)).trans (Heap.get?_push_size _ rfl)
 refine wpAny_pure (a:=some s.heap.objs.size) (wpAny_bind (wpAny_pure (wpAny_bind ?_)))
 refine wpAny_bind (wpAny_bind (wpAny_askSetting (wpAny_pure (wpAny_bind (wpAny_mkText (wpAny_bind (wpAny_loadPart D ?_)))))))
 dsimp only
 have c:(!([]:List DictEntry).toArray.any (·.key.isStr name)&&([]:List DictEntry).toArray.any (·.refKey))=false:=by simp
 rw[aRefKeyMayBeTheName_at,c]
 refine wpAny_updatePart D ?_
 have D':=Heap.get?_update_self (Obj.putName name (PyData.keyHash w.params name) (.str name s.toks) v) D (by rw[putName_dict];rfl)
 rw[putName_dict] at D'
 refine wpAny_bind (wpAny_lookBehind D' (pastItsLine_dict (by rw[sizeLine_eq];simp[putL])) ?_)
 refine wpAny_pure (hQ _ s.toks _ _ ?_ D' λb o hb ql=>?_)
 ·exact(Heap.get?_update_ne _ _ _ _ kf).trans hx
 ·have aeC:b≠s.heap.objs.size:=Nat.ne_of_lt (Heap.lt_size ql)
  exact(Heap.get?_update_ne _ _ _ _ aeC).trans ((Heap.get?_update_ne _ _ _ _ hb).trans (Heap.get?_push_of_some _ ql))
set_option tactic.hygienic true in
theorem Vw{name:Str}{tk:Tok}{v:Value}{vs:Array Value}{dx:Addr}{es:List DictEntry}{n:Nat}(X:K.In s.heap)(he:s.heap.get? x=some {cls:=.ref C,dict:=some dx,data:=.fields vs})(D:s.heap.get? dx=some (dictOf es n))
  (hp:lC K C=true) (ht:takerIn K C name=some none) (hh:hasDictIn K C=true) (hl:(getL name es).isSome=true) (hz:(putL name (PyData.keyHash w.params name) (.str name s.toks) v es).length<=1000)
  (hQ:∀h' ak,h'.get? dx=some (dictOf (putL name (PyData.keyHash w.params name) (.str name s.toks) v es) (putN name es n))->
   (∀b o,b≠dx->s.heap.get? b=some o->h'.get? b=some o)->R (.ok (.ret .none)) {s with heap:=h',toks:=ak}):
  codeAny (model prog w) A (.call (.builtin "object.__setattr__") ⟨[.ref x,.str name tk,v],[]⟩) R s:=by
 have I:InstAt s.heap x ({cls:=Value.ref C,dict:=some dx,data:=Data.fields vs}:Obj) C (some (dictOf es n)):=⟨he,rfl,rfl,D⟩
 refine rC X I hp ht λb=>?_
 refine ab (any_some hh) λcd hc js=>?_
 refine wpAny_bind (wpAny_pure (wpAny_bind (wpAny_bind (wpAny_loadPart he (wpAny_bind ((looks_clsIn (M:=model prog w) X hc).here ?_))))))
 rw[js]
 refine wpAny_pure (a:=some dx) (wpAny_bind (wpAny_pure (wpAny_bind ?_)))
 refine wpAny_bind (wpAny_bind (wpAny_askSetting (wpAny_pure (wpAny_bind (wpAny_mkText (wpAny_bind (wpAny_loadPart D ?_)))))))
 dsimp only
 have c:(!es.toArray.any (·.key.isStr name)&&es.toArray.any (·.refKey))=false:=by
  rw[←Array.any_toList,←Array.any_toList,show es.toArray.toList=es from rfl]
  unfold getL at hl
  split at hl
  ·rename_i en q
   have h1:(es.any λx=>x.key.isStr name)=true:=List.any_eq_true.mpr ⟨en,List.mem_of_find?_eq_some q,List.find?_some (p:=λe:DictEntry=>e.key.isStr name) q⟩
   rw[h1];rfl
  ·split at hl
   ·exact nf hl
   ·rename_i z;rw[Bool.not_eq_true] at z;rw[z,Bool.and_false]
 rw[aRefKeyMayBeTheName_at,c]
 refine wpAny_updatePart D ?_
 have D':=Heap.get?_update_self (Obj.putName name (PyData.keyHash w.params name) (.str name s.toks) v) D (by rw[putName_dict];rfl)
 rw[putName_dict] at D'
 refine wpAny_bind (wpAny_lookBehind D' (pastItsLine_dict (by rw[List.size_toArray,sizeLine_eq];exact abx ‹_›)) ?_)
 exact wpAny_pure (hQ _ _ D' λb o hb ql=>(Heap.get?_update_ne _ _ _ _ hb).trans ql)
end
end
section
theorem rW:ExcBaseFacts "Exception" "Exception.__new__" "Exception.__init__" [.type "Exception",.type "BaseException",.type "object"]:=
 {PySem.F.excCall_Exception with
  newSplit:=by kernel_rfl
  newKind:=by kernel_rfl
  newRow:=by kernel_rfl
  mroIs:=by rw[mroOf_type];kernel_rfl
  hasB:=by decide+kernel
  hasBase:=by decide+kernel
  noAttr:=by decide+kernel
  noName:=by decide+kernel
  canon:=by decide+kernel}
structure pv(M:Model)(h:Heap)(C:Addr):Prop where
 obj:∃od cd sl,h.get? C=some ⟨.type "type",od,.cls cd,sl⟩/\cd.abstract=false/\cd.hasDel=false/\cd.mro.isEmpty=false
 made:Looks M h (Bind.madeBy (.ref C)) (some "Exception.__new__")
 base:Looks M h (Bind.staticBase (.ref C)) (.ref C)
 self:Looks M h (isSubtype (.ref C) (.ref C)) true
 exc:Looks M h (isSubtype (.ref C) (.type "Exception")) true
 yK:Looks M h (isSubtype (.ref C) (.type "BaseException")) true
 attr:Looks M h (isSubtype (.ref C) (.type "AttributeError")) false
 name:Looks M h (isSubtype (.ref C) (.type "NameError")) false
 call:Looks M h (specialOf (.ref C) "__call__") (some (.builtin "type.__call__"))
 typ:Looks M h (isInstance (.ref C) (.type "type")) true
noncomputable abbrev dS(C t:Addr):Obj:={cls:=.ref C,data:=.fields #[.ref t,.none,.none,.none,.bool false,.none]}
section
variable{prog:Program}{w:World}{A:Around}{K:Frag}{C:Addr}{R:Result->Shared->Prop}{h:Heap}{g:Array GenState}{d:Drawn}{t:Nat}{os:OsState}
theorem adN{rest:List Value}(Y:pv (model prog w) h C)(Na:rest.length<=sizeLine)
  (hq:R (.ok (.ret (.ref (h.objs.size+1)))) ⟨(h.push {cls:=.type "tuple",data:=.seq rest.toArray}).push (dS C h.objs.size),g,d,t,os⟩):
  codeAny (model prog w) A (.call (.builtin "Exception.__new__") ⟨.ref C::rest,[]⟩) R ⟨h,g,d,t,os⟩:=by
 obtain⟨⟨od,cd,sl,hC,e1,e2,e4⟩,made,base,self,exc,yK,attr,name,call,typ⟩:=Y
 have F:=rW
 have agE:=F.noStar
 have agF:=F.ends
 refine codeAny_call_builtin_code (Code.quiet_builtin _ F.quiet) ?_
 simp only[checkBuiltinCall,F.newKind,F.newSplit,F.newRow]
 have here:Looks (model prog w) h (Bind.madeHere "Exception.__new__" (.ref C)) ():=base.andThen (made.andThen (Looks.of_pure (by simp only[Option.map_some,bne_self_eq_false,Bool.false_eq_true,if_false])))
 repeat (first|simp only[bne_self_eq_false,Bool.false_eq_true,if_false]|lk)
 have Zf:Looks (model prog w) h (Bind.madeHere "BaseException.__new__" (.ref C)) ():=base.andThen (made.andThen (Looks.of_pure (by simp only[Option.map_some,F.canon,bne_self_eq_false,Bool.false_eq_true,if_false])))
 refine codeAny_builtinAt F.entry ?_
 unfold Builtin.«BaseException.__new__»
 refine PySem.wpAt_bind ?_
 show PySem.wpAt _ _ _ (stack>>=_) _ _ _
 refine PySem.wpAt_bind (PySem.wpAt_stack λp below=>PySem.wpAt_of_wpAny ?_)
 wp_walk
 refine PySem.wpAt_of_wpAny ?_
 rw[F.owner]
 repeat (first|with_reducible refine wpAny_loadPart_at hC ?_|with_reducible refine Looks.at exc ?_|with_reducible refine Looks.at Zf ?_|with_reducible refine Looks.at attr ?_|with_reducible refine Looks.at name ?_|wp_step)
 show R _ _
 rw[Heap.size_push]
 exact hq
theorem v9{rest:List Value}{f:Addr}(Y:pv (model prog w) h C)(hi:Looks (model prog w) h (typeLookup (.ref C) "__init__") (some (.ref f)))(hb:∀self,Looks (model prog w) h (bindSpecial (.ref f) self) (.ref f,[self]))
  (Na:rest.length<=sizeLine)
  (hq:codeAny (model prog w) (A.under (.builtin "type.__call__" ⟨.ref C::rest,[]⟩)) (.call (.ref f) ⟨.ref (h.objs.size+1)::rest,[]⟩) (InitBack (h.objs.size+1) R) ⟨(h.push {cls:=.type "tuple",data:=.seq rest.toArray}).push (dS C h.objs.size),g,d,t,os⟩):
  codeAny (model prog w) A (.call (.ref C) ⟨rest,[]⟩) R ⟨h,g,d,t,os⟩:=by
 have Y':=Y
 obtain⟨⟨od,cd,sl,hC,e1,e2,e4⟩,made,base,self,exc,yK,attr,name,call,typ⟩:=Y
 refine codeAny_of_tree ?_
 show wpAny _ _ (callAny (.ref C) _) _ _ _
 refine nd_load hC ?_
 show wpAny _ _ (callAny.viaDunder (.ref C) _) _ _ _
 unfold callAny.viaDunder
 refine wpAny_bind (call.at ?_)
 dsimp only
 rw[PySem.tc_bind]
 refine wpAny_bind (wpAny_pure (wpAny_bind (wpAny_pure ?_)))
 refine wpAny_pure (a:=PySem.Fin.again (.call (.builtin "type.__call__") ⟨.ref C::rest,[]⟩)) (And.intro rfl ?_)
 refine codeAny_call_builtin_at (Code.quiet_builtin _ (by decide+kernel)) entry_typeCall (check_slot PySem.tc_kind PySem.tc_split typ (tc_args _ _ _) ?_)
 unfold Builtin.«type.__call__»
 have hm:Looks (model prog w) h (mroOf (.ref C)) cd.mro:=((Looks.ld (part:=none) hC).andThen .now).andThen .now
 repeat (first|simp only[e4,Bool.false_eq_true,if_false]|with_reducible refine wpAny_call ?_|lk)
 refine adN Y' Na ?_
 have k:∀b o,h.get? b=some o->((h.push {cls:=.type "tuple",data:=.seq rest.toArray}).push (dS C h.objs.size)).get? b=some o:=λb o e=>Heap.get?_push_of_some _ (Heap.get?_push_of_some _ e)
 have hx:((h.push {cls:=.type "tuple",data:=.seq rest.toArray}).push (dS C h.objs.size)).get? (h.objs.size+1)=some (dS C h.objs.size):=by heap_get
 have t1:Looks (model prog w) ((h.push {cls:=.type "tuple",data:=.seq rest.toArray}).push (dS C h.objs.size)) (typeOf (.ref (h.objs.size+1))) (.ref C):=(Looks.ld hx).andThen .now
 have s1:=self.keeps k
 have i1:=hi.keeps k
 have b1:=(hb (.ref (h.objs.size+1))).keeps k
 unfold isInstance callSpecial? specialOf
 repeat (first|with_reducible refine wpAny_call ?_|lk)
 refine codeAny_mono hq λr s' z=>?_
 rcases r with e|(v|_|_|_)<;>first|exact z|exact z.elim|skip
 refine ae z ?_;clear z;intro aU z;subst aU
 exact wpAny_pure (wpAny_pure z)
end
noncomputable def pb(K:Frag)(C:Addr):Bool:=match K.lookup C with
 |some ⟨oc,_,.cls cd,sl⟩=>oc==.type "type" &&!cd.abstract&&!cd.hasDel&&(sl.toList[4]?).join==some (.builtin "Exception.__new__")&&!cd.mro.isEmpty&&cd.mro.contains (.ref C)&&cd.mro.contains (.type "Exception")&&cd.mro.contains (.type "BaseException")&&
   !(cd.mro.contains (.type "AttributeError"))&&!(cd.mro.contains (.type "NameError"))&&specialIn K (.ref C) "__call__" ==some (some (.builtin "type.__call__"))&&instIn K (.ref C) (.type "type")==some true
 |_=>false
theorem mI{K:Frag}{M:Model}{h:Heap}(X:K.In h){C:Addr}(e:pb K C=true):pv M h C:=by
 refine ab4 e ?_;clear e;intro oc od cd sl ho e
 simp only[Bool.and_eq_true,Bool.not_eq_true',beq_iff_eq] at e
 obtain⟨⟨⟨⟨⟨⟨⟨⟨⟨⟨⟨e0,e1⟩,e2⟩,e3⟩,e4⟩,e5⟩,e6⟩,e7⟩,e8⟩,e9⟩,e10⟩,e11⟩:=e
 subst e0
 have hc:clsIn K C=some cd:=by unfold clsIn;rw[ho]
 have hm:Looks M h (mroOf (.ref C)) cd.mro:=(looks_clsIn X hc).andThen .now
 obtain⟨c,l,hl⟩:∃c l,cd.mro=c::l:=by cases q:cd.mro with|nil=>rw[q] at e4;cases e4|cons c l=>exact⟨c,l,rfl⟩
 have made:Looks M h (Bind.madeBy (.ref C)) (some "Exception.__new__"):=by
  intro A Q E s k q
  unfold Bind.madeBy
  refine wpAny_bind (hm A _ E s k ?_)
  rw[hl,List.forIn_cons]
  refine wpAny_bind (wpAny_bind (wpAny_bind (wpAny_bind (wpAny_loadPart (k _ _ (X _ _ ho)) (wpAny_pure ?_)))))
  dsimp only
  rw[←Array.getElem?_toList,e3]
  exact wpAny_pure (wpAny_pure (wpAny_pure q))
 have sub:∀T b,cd.mro.contains T=b->Looks M h (isSubtype (.ref C) T) b:=λT b q=>looks_mroIn X (by unfold mroIn;rw[hc,Option.bind_some,if_neg (by rw[e4];decide),q])
 refine⟨⟨od,cd,sl,X _ _ ho,e1,e2,e4⟩,made,?_,sub _ _ e5,sub _ _ e6,sub _ _ e7,sub _ _ e8,sub _ _ e9,looks_specialIn X e10,looks_instIn X e11⟩
 intro A Q E s k q
 unfold Bind.staticBase
 refine wpAny_bind (hm A _ E s k ?_)
 rw[hl,List.forIn_cons]
 exact wpAny_bind (wpAny_bind (wpAny_bind (made A _ E s k (wpAny_pure (wpAny_pure (wpAny_pure q))))))
end
section
theorem DU(K:Frag):findCls K (.type "Exception") (.type "type") "__init__" =some (.val (.builtin "Exception.__init__")):=by kernel_rfl
section
variable{prog:Program}{w:World}{A:Around}{E:Value->Shared->Prop}{s:Shared}{K:Frag}
theorem tS{expr:Bool}{Q:Value->Shared->Prop}(X:K.In s.heap)(h:Q (.builtin "Exception.__init__") {s with toks:=s.toks+1}):wpAny (model prog w) A (PySem.getAttr (.type "Exception") "__init__" expr) Q E s:=by
 have ht:typeOf (.type "Exception")=pure (.type "type"):=kitMeta_of (by kernel_rfl)
 have Zg:opaqueClassAbove (.type "Exception")=pure none:=by
  unfold opaqueClassAbove
  dsimp only
  rw[show Manifest.isStub "Exception" =false from by kernel_rfl]
  rfl
 have hg:findIn K (.type "type") "__getattribute__" =some (some (.builtin "type.__getattribute__")):=by kernel_rfl
 refine cls_open (K:=K) X (Looks.of_pure Zg) (Looks.of_pure ht) hg (looks_hook X (r:=none) (by rfl)) (by show subIn K _ _=_;kernel_rfl) (DU K) ?_
 exact wpAny_pure (handed_on rfl h)
theorem qy{pl:Sem Bool}{Q:Value×List Value->Shared->Prop}(X:K.In s.heap)(h:Q (.builtin "Exception.__init__",[]) {s with toks:=s.toks+1}):wpAny (model prog w) A (getMethod (.type "Exception") "__init__" pl) Q E s:=by
 have ht:typeOf (.type "Exception")=pure (.type "type"):=kitMeta_of (by kernel_rfl)
 have L0:Looks (model prog w) s.heap (specialOf (.type "Exception") "__getattribute__") (some (.builtin "type.__getattribute__")):=(Looks.of_pure ht).andThen (looks_findIn (K:=K) X (by kernel_rfl))
 refine wpAny_bind (L0.here ?_)
 dsimp only
 rw[if_pos (by decide+kernel)]
 refine wpAny_bind (tS X ?_)
 first|exact wpAny_pure h|exact wpAny_pure (wpAny_pure h)
end
end
section
section
variable{prog:Program}{w:World}{A:Around}{E:Value->Shared->Prop}{h:Heap}{g:Array GenState}{d:Drawn}{t:Nat}{os:OsState}
theorem Bu{e C t₀:Addr}{u:Value}{Q:Value->Shared->Prop}(Y:pv (model prog w) h C)(he:h.get? e=some (dS C t₀))
  (hq:∀h',h'.get? e=some (dS C h.objs.size)->h'.get? h.objs.size=some (dw [u] 0)->(∀b o,b≠e->h.get? b=some o->h'.get? b=some o)->Q .none ⟨h',g,d,t,os⟩):
  wpAny (model prog w) A (call (.builtin "Exception.__init__") [.ref e,u]) Q E ⟨h,g,d,t,os⟩:=by
 have F:=rW
 have t1:Looks (model prog w) h (typeOf (.ref e)) (.ref C):=(Looks.ld he).andThen .now
 have i1:Looks (model prog w) h (isInstance (.ref e) (.type "Exception")) true:=t1.andThen Y.exc
 have aeE:=F.noStar
 refine wpAny_call (codeAny_call_builtin F.init.plain F.initEntry ?_)
 simp only[checkBuiltinCall,F.initKind,F.initSplit,F.initRow]
 refine wpAny_bind (i1.here ?_)
 refine rl Y.obj λod cd sl hC y1=>?_
 repeat (first|with_reducible refine wpAny_loadPart_at hC ?_|with_reducible refine wpAny_loadPart_at he ?_|wp_step)
 have kf:e≠h.objs.size:=Nat.ne_of_lt (Heap.lt_size he)
 refine hq _ (Heap.get?_update_self _ (Heap.get?_push_of_some _ he) rfl) ((Heap.get?_update_ne _ _ _ _ (Ne.symm kf)).trans (Heap.get?_push_size _ rfl)) λb o hb ql=>?_
 exact(Heap.get?_update_ne _ _ _ _ hb).trans (Heap.get?_push_of_some _ ql)
end
end
section
section
variable{prog:Program}{w:World}{A:Around}{E:Value->Shared->Prop}{s:Shared}{env:Env}{C:Addr}
theorem Am{x:Sem Value}{Q:Flow->Shared->Prop}(hh:A.handled=none)
  (h:wpAny (model prog w) A x (λv dC=>∃e od vs sl,v=.ref e/\dC.heap.get? e=some ⟨.ref C,od,.fields vs,sl⟩/\vs[1]?=some .none/\pv (model prog w) dC.heap C/\E (.ref e) dC) E s):
  wpAny (model prog w) A (raiseStmt env (some x) none) Q E s:=by
 refine wpAny_bind (wpAny_mono h (λv dC bg=>?_) λζ ζ x=>x)
 refine XZ bg ?_;clear bg;intro e eod vs esl aU he tJ Y hE;subst aU
 obtain⟨hp,g,d,tk,os⟩:=dC
 obtain⟨⟨od,cd,sl,hC,_⟩,made,base,self,exc,yK,attr,name,call,typ⟩:=Y
 repeat (first|with_reducible refine wpAny_loadPart_at he ?_|with_reducible refine wpAny_loadPart_at hC ?_|with_reducible refine Looks.at yK ?_|wp_step)
 rw[tJ]
 refine wpAny_pure ?_
 rw[if_neg (show¬((Value.none !=Value.none)=true) from by decide)]
 exact wpAny_pure (wpAny_raiseNew_none hh hE)
end
end
end
end Mine
namespace Mine
section
open PySem PySem.W PySem.Calls PyProof.Rows
section
variable{G:Gc}{c:Fc}{s:Shared}{h h':Heap}{m m':Str->Option Value}{ν:List Addr}{Mu:List Obj}{I:Led}{ρ:ah}{H H':List Ob}{n:Nat}{sc:Sc}
structure aba where
 (oc:Value) (od:Option Addr) (os:Array (Option Value)) (na qu:Str) (ps:Arguments) (dV kV dc pm cd ct:Value) (an:Option Addr) (sc:Scope)
 (p1 p2 p3 p4 p5 p6 q1 q2 q3 q4 r1 r2 r3 r4:Pos) (bo:List Stmt)
structure Wh(K:Frag)(f:Addr)(d:aba):Prop where
 hb:d.bo=[Stmt.Expr (.Call (.Attribute (.Name "Exception" d.p1) "__init__" d.p2) [.Name "self" d.p3,.Name "message" d.p4] [] d.p5) d.p6,
   .Assign [.Attribute (.Name "self" d.q1) "message" d.q2] (.Name "message" d.q3) d.q4,
   .Assign [.Attribute (.Name "self" d.r1) "spot" d.r2] (.Name "spot" d.r3) d.r4]
 hp:(d.p2.endLine==d.p5.line)=true
 ho:K.lookup f=some ⟨d.oc,d.od,.func (fnX d.na d.qu d.ps d.bo d.sc [] d.dV d.kV d.dc d.pm d.an d.cd d.ct),d.os⟩
 mS:codeIn K d.cd d.qu=true
 yC:∀(s:Shared) (x y z:Value),K.In s.heap->BindsTo s (fnX d.na d.qu d.ps d.bo d.sc [] d.dV d.kV d.dc d.pm d.an d.cd d.ct) ⟨[x,y,z],[]⟩ [("self",x),("message",y),("spot",z)]
 l1:d.sc.names.lookup ("self" :Str)=some .local
 l2:d.sc.names.lookup ("message" :Str)=some .local
 l3:d.sc.names.lookup ("spot" :Str)=some .local
 l4:d.sc.names.lookup ("Exception" :Str)=some .globalImplicit
 nc:∀x∈d.sc.names,x.2≠ .cell
 co:d.sc.isCoroutine=false
 ge:d.sc.isGenerator=false
 hk:d.sc.kind=.function
structure xX(K:Frag)(f:Addr):Prop where
 ex:∃d,Wh K f d
structure BO(G:Gc)(C f:Addr):Prop where
 keep:keepIn G.K (.ref C)=true
 make:pb G.K C=true
 D2:findIn G.K (.ref C) "__init__" =some (some (.ref f))
 fn:typeIn G.K (.ref f)=some (.type "function")
 Zh:findIn G.K (.ref C) "__setattr__" =some (some (.builtin "object.__setattr__"))
 over:lC G.K C=true
 Zi:hasDictIn G.K C=true
 Zj:takerIn G.K C "message" =some none
 QB:takerIn G.K C "spot" =some none
 exc:G.mg "Exception" =none/\G.mb "Exception" =some (.type "Exception")
 fnI:xX G.K f
noncomputable abbrev oa(C t d:Addr):Obj:={cls:=.ref C,dict:=some d,data:=.fields #[.ref t,.none,.none,.none,.bool false,.none]}
theorem Fr.but{h₀ h h':Heap}{L x:Addr}{m:Str->Option Value}(F:Fr h₀ L h m)(i7:x≠L)(base:h₀.get? x=none)(k:∀b o,b≠x->h.get? b=some o->h'.get? b=some o):Fr h₀ L h' m:=by
 refine hW F.ns λoL es ep h1 h2 h3 h4=>?_
 exact⟨⟨oL,es,ep,k _ _ (Ne.symm i7) h1,h2,h3,h4⟩,λb o q=>k _ _ (λe=>by rw[e,base] at q;exact no q) (F.keep b o q),F.above⟩
theorem News.but{h₀ h h':Heap}{L x:Addr}{l:Led}(N:News h₀ L h l)(k:∀b o,b≠x->h.get? b=some o->h'.get? b=some o)(hl:∀p∈l,p.1≠x):News h₀ L h' l:=λp hp=>⟨k _ _ (hl p hp) (N p hp).1,(N p hp).2⟩
theorem B1{C f e t₀:Addr}{um us:Value}{news:Led}{R:Result->Shared->Prop}(EO:BO G C f)(ok:c.Ok G n)(F:Fr c.h₀ c.L s.heap m)(N:News c.h₀ c.L s.heap ((e,dS C t₀)::news))(Eb:∀p∈news,p.1≠e)
  (hR:∀h' ak d t' Zj QB k,Fr c.h₀ c.L h' m->News c.h₀ c.L h' ((d,dictOf [⟨PyData.keyHash G.w.params "message",.str "message" Zj,um⟩,⟨PyData.keyHash G.w.params "spot",.str "spot" QB,us⟩] k)::(e,oa C t' d)::news)->(∀p∈news,p.1<d)->e<d->c.h₀.objs.size<=d->R (.ok (.ret .none)) {s with heap:=h',toks:=ak}):
  codeAny G.M c.A (.call (.ref f) ⟨[.ref e,um,us],[]⟩) R s:=by
 refine EO.fnI.ex.elim λd D=>?_
 have X:=ok.X.X.keeps F.keep
 refine callX_plain (outer:=c.outer) ok.B F N ok.X.lim ok.fr ok.ff ok.fk (X _ _ D.ho) rfl (codeRec_of X D.mS) (Nat.lt_of_le_of_lt (m:=900) (by have:=ok.dep;exact Mm ‹_›) (by decide)) (D.yC s _ _ _ X) (λy hy=>?_) (λg L' bg kD gj jn Jq st kf=>?_) D.nc D.co D.ge D.hk
 ·rcases List.mem_cons.mp hy with rfl|hy
  ·exact D.l1
  rcases List.mem_cons.mp hy with rfl|hy
  ·exact D.l2
  rcases List.mem_cons.mp hy with rfl|hy
  ·exact D.l3
  ·cases hy
 ·rw[D.hb]
  have Bg:=ok.X.keeps st
  have Ej:(λy=>List.lookup y ([("self",.ref e),("message",um),("spot",us)]:List (Str×Value)).reverse) ("self" :Str)=some (.ref e):=by kernel_rfl
  have Zk:(λy=>List.lookup y ([("self",.ref e),("message",um),("spot",us)]:List (Str×Value)).reverse) ("message" :Str)=some um:=by kernel_rfl
  have Zl:(λy=>List.lookup y ([("self",.ref e),("message",um),("spot",us)]:List (Str×Value)).reverse) ("spot" :Str)=some us:=by kernel_rfl
  have Xg:=Bg.X
  have agG:=gj.keep
  have hN:e≠L':=(jn _ (.head _)).2.1
  have qa:bg.get? e=some (dS C t₀):=(jn _ (.head _)).1
  have kI:g.get? e=none:=(jn _ (.head _)).2.2
  have nd:∀x:Str,(x==("__debug__" :Str))=false->x=x:=λζ ζ=>rfl
  refine wpAny_execs_cons (wpAny_Expr_any (MethodCall_ (Name_function_global D.hk D.l4 (loadGlobal_builtin (Bg.g.keeps gj.keep) EO.exc.1 (Bg.b.keeps gj.keep) EO.exc.2 (qy (K:=G.K) (Xg.keeps gj.keep) ?_)) (by decide+kernel)) (xV rfl rfl D.hp (Nat.le_of_ble_eq_true rfl))) ?_ (eD rfl))
  ·refine bX (P:=λζ=>True) rfl (λh ζ=>tn (.inr ⟨_,rfl⟩) h) ?_
   refine spliced_cons (nameX_L gj Ej ?_ D.hk D.l1 (by decide+kernel))
   refine spliced_cons (nameX_L gj Zk (spliced_nil ⟨trivial,?_⟩) D.hk D.l2 (by decide+kernel))
   refine Bu (mI (Xg.keeps gj.keep) EO.make) qa λbt vz ζ k₂=>?_
   have mi:=Mine.Fr.but gj hN kI k₂
   have Rk:L'<bt.objs.size:=mi.ns.lt
   have neN:∀p∈news,p.1≠e:=Eb
   have tH:News g L' bt news:=Mine.News.but (λp hp=>jn p (.tail _ hp)) k₂ Eb
   have A2:=Xg.keeps mi.keep
   refine wpAny_execs_cons (plainObj_wpAny_Assign_Attribute (nameX_L mi Zk (nameX_L mi Ej ?_ D.hk D.l1 (by decide+kernel)) D.hk D.l2 (by decide+kernel)) rfl)
   refine set_plain (K:=G.K) A2 (ox:=dS C bg.objs.size) (od:=none) ⟨vz,rfl,rfl,trivial⟩ EO.Zh (UL (K:=G.K) A2 vz EO.over EO.Zj EO.Zi λa9 bq aeF aeG vA Zm gQ=>?_)
   have Jw:=Mine.Fr.but mi hN kI gQ
   have aeH:=Mine.News.but tH gQ Eb
   have Zn:=Xg.keeps Jw.keep
   refine wpAny_execs_cons (plainObj_wpAny_Assign_Attribute (nameX_L Jw Zl (nameX_L Jw Ej ?_ D.hk D.l1 (by decide+kernel)) D.hk D.l3 (by decide+kernel)) rfl)
   refine set_plain (K:=G.K) Zn (ox:=oa C bg.objs.size bt.objs.size) (od:=some (dictOf [⟨PyData.keyHash G.w.params "message",.str "message" bq,um⟩] aeG)) ⟨vA,rfl,rfl,Zm⟩ EO.Zh
    (Vw (K:=G.K) Zn vA Zm EO.over EO.QB EO.Zi (by rfl) (Nat.le_trans (pQ ..) (Nat.le_of_ble_eq_true rfl)) λdh vG aeI xt=>?_)
   have bd:g.get? bt.objs.size=none:=by
    cases q:g.get? bt.objs.size with
    |none=>rfl
    |some o=>exact absurd (Heap.lt_size (mi.keep _ _ q)) (Nat.lt_irrefl _)
   have dL:bt.objs.size≠L':=Nat.ne_of_gt Rk
   have QK:=Mine.Fr.but Jw dL bd xt
   have ltn:∀p∈news,p.1<bt.objs.size:=λp hp=>Nat.lt_trans (kf p (.tail _ hp)) Rk
   have lte:e<bt.objs.size:=Nat.lt_trans (kf _ (.head _)) Rk
   have QL:=Mine.News.but aeH xt λp hp=>Nat.ne_of_lt (ltn p hp)
   have Ek:=xt _ _ (Nat.ne_of_lt lte) vA
   obtain⟨jX,Zo,aeJ⟩:∃(a:Tok) (b:Nat),dh.get? bt.objs.size=some (dictOf [⟨PyData.keyHash G.w.params "message",.str "message" bq,um⟩,⟨PyData.keyHash G.w.params "spot",.str "spot" a,us⟩] b):=⟨_,_,aeI⟩
   refine wpAny_execs_nil (leaveK_ (news':=(bt.objs.size,dictOf [⟨PyData.keyHash G.w.params "message",.str "message" bq,um⟩,⟨PyData.keyHash G.w.params "spot",.str "spot" jX,us⟩] Zo)::(e,oa C bg.objs.size bt.objs.size)::news) QK (λp hp=>?_) λF' N'=>hR dh vG bt.objs.size bg.objs.size bq jX Zo F' N' ltn lte (Nat.le_trans kD.above (Nat.le_of_lt (Nat.lt_trans (Nat.lt_of_lt_of_le kD.ns.lt gj.above) Rk))))
   rcases List.mem_cons.mp hp with rfl|hp
   ·exact⟨aeJ,dL,bd⟩
   rcases List.mem_cons.mp hp with rfl|hp
   ·exact⟨Ek,hN,kI⟩
   ·exact QL p hp
  ·show interactive _=false
   unfold interactive
   rw[show(envX d.qu d.sc L' f d.cd []).scope.kind=.function from D.hk]
   rfl
end
section
variable{G:Gc}{c:Fc}{s:Shared}{h h':Heap}{m m':Str->Option Value}{ν:List Addr}{Mu:List Obj}{I:Led}{ρ:ah}{H H':List Ob}{n:Nat}{sc:Sc}
def Ow(G:Gc):Prop:=∀C,G.cf.nH.any (Nat.beq C)=true->∃f,BO G C f
theorem GF(ok:c.Ok G n)(S:St G c h m ν Mu I H){e C d t:Addr}{i:Nat}(he:h.get? e=some (oa C t d))(hb:c.h₀.get? e=none)(hi:ν[i]?=some d)(Eb:∀p∈ν.zip Mu++I,p.1≠e)(heL:e≠c.L):nF G c none h ν Mu I H e ⟨C,i⟩:=by
 have P:=pushX ok.B S.F ok.ff ok.fk
 have Zp:∀a,a∈(c.dK::c.outer).filterMap (·.frame)->c.base.get? a=none/\(a=c.L∨ ∃o,c.h₀.get? a=some o):=λa ha=>by
  refine⟨(P.frames.mem ha).1,?_⟩
  refine ab (List.mem_filterMap.mp ha) λenv hm hf=>?_
  rcases List.mem_cons.mp hm with rfl|hm
  ·exact .inl (Option.some.inj (hf.symm.trans ok.ff))
  ·refine ab ((ok.B.frames.mem (List.mem_filterMap.mpr ⟨env,hm,hf⟩)).2) λo ho y1=>?_
   exact .inr ⟨o,ho⟩
 have Zq:∀a o,h.get? a=some o->a≠e->(a≠c.L/\c.h₀.get? a=none)->(hideAll h (e::(c.dK::c.outer).filterMap (·.frame))).get? a=some o:=λa o hg aeK ⟨x1,x2⟩=>by
  refine hideAll_get _ hg λhm=>?_
  rcases List.mem_cons.mp hm with rfl|hm
  ·exact aeK rfl
  ·rcases(Zp a hm).2 with q|⟨o',q⟩
   ·exact x1 q
   ·rw[x2] at q;exact no q
 refine⟨S.nd,S.eP,S.len,S.aT,S.ob,S.big,S.low,⟨hideAll h (e::(c.dK::c.outer).filterMap (·.frame)),d,λb o q=>?_,λp hp=>?_,hi,?_⟩,h,m,S.F,.refl _⟩
 ·refine hideAll_get _ (P.stays b o q) λhm=>?_
  rcases List.mem_cons.mp hm with rfl|hm
  ·rw[ok.B.stays _ _ q] at hb;cases hb
  ·rw[(Zp b hm).1] at q;exact no q
 ·exact⟨Zq _ _ (S.N p hp).1 (Eb p hp) (S.N p hp).2,fresh_of_stays ok.B.stays (S.N p hp).2.2⟩
 ·refine⟨λb o q=>of_hideAll _ q,hideAll_none _ (.head _),funFrames_hide P.frames λenv hm a hf=>.tail _ (List.mem_filterMap.mpr ⟨env,hm,hf⟩),_,_,_,he,rfl,rfl,rfl,rfl,rfl⟩
theorem Ax(xo:Ow G){cn:Str}{cp xu pos:Pos}{args:List Expr}{r:Rs fi}{ie:aM V}{ies:List Ob->aM (List V)}(hs:noStar args=true)(h1:∀r,ie=some r->dA G (n+1) sc (.Name cn cp) ρ H r)(h2:∀H₁ r,ies H₁=some r->hU G (n+1) sc args ρ H₁ r)
  (h:(andThen ie λcv H=>match excOf G.cf cv with
    |none=>none
    |some C=>andThen (ies H) λvs H=>match vs with
     |[mv,sv]=>(some (.exc ⟨C,H.length⟩ (H++[.attrs [("message",mv),("spot",sv)]])):aM fi)
     |_=>none)=some r):qH G (n+1) sc (.Raise (some (.Call (.Name cn cp) args [] xu)) none pos) ρ H r:=by
 rintro c s m ν Mu I Q E ok hc au S k post
 rw[arm_exec_Raise]
 refine wpAny_bind (wpAny_standAt ?_)
 rcases bf h with⟨cv,H₁,q1,hf⟩|⟨y,H₁,q1,rfl⟩
 ·cases hx:excOf G.cf cv with
  |none=>rw[hx] at hf;exact no hf
  |some C=>
   rw[hx] at hf
   have hcv:cv=.glob (.ref C)/\G.cf.nH.any (Nat.beq C)=true:=by
    refine ac5 hx ?_;clear hx;intro _ ay hx;subst ay
    refine ix hx ?_;clear hx;intro q hx
    obtain rfl:=ai hx
    exact⟨rfl,q⟩
   refine ae hcv ?_;clear hcv;intro aU El;subst aU
   refine bF (xo C El) λf EO=>?_
   refine Am (C:=C) ok.hd ?_
   refine wpAny_bind ?_
   refine Call_ (h1 _ q1 c s m ν Mu I ok au S (bO hc k) _ _ λh' ak aa aw I' u x' S' ru=>?_)
   have eu:u=.ref C:=ru.gP
   subst eu
   refine bX (P:=λh=>G.K.In h) hs (keeps_K EO.keep) ?_
   rcases bf hf with⟨vs,aQ,q2,hf⟩|⟨y,aQ,q2,rfl⟩
   ·refine h2 _ _ q2 c {s with heap:=h',toks:=ak} m aa aw I' _ _ xu ok (au.mono x') S' (bO hc (k.mono x')) λbt fL aR jV bS us jU dR rs=>⟨ok.X.X.keeps dR.F.keep,?_⟩
    refine abd hf ?_;clear hf;intro mv sv ay hf;subst ay
    obtain rfl:=ai hf
    cases rs with
    | @cons um _ _ _ rm rs=>
     cases rs with
     | @cons Rl _ _ _ rsp rs=>
      cases rs
      have A2:=ok.X.X.keeps dR.F.keep
      have xn:∀p∈aR.zip jV++bS,p.1<bt.objs.size:=λp hp=>Heap.lt_size (dR.N p hp).1
      have F1:=dR.F.push (dw [um,Rl] 0)
      have N1:=dR.N.push dR.F (dw [um,Rl] 0)
      have N2:=N1.push F1 (dS C bt.objs.size)
      rw[Heap.size_push] at N2
      have F2:=F1.push (dS C bt.objs.size)
      refine wpAny_call (v9 (h:=bt) (rest:=[um,Rl]) (mI A2 EO.make) (looks_findIn A2 EO.D2) (λself=>bind_fn A2 self EO.fn) (su (by simp)) ?_)
      refine B1 (c:=under c C [um,Rl]) (n:=n) (s:=⟨_,s.gens,s.drawn,fL,s.os⟩) EO (ok.under C [um,Rl]) F2 N2 (λp hp=>?_) λa9 bq d t' Zj QB kk F3 N3 ltd led yI=>?_
      ·rcases List.mem_cons.mp hp with rfl|hp
       ·exact Nat.ne_of_lt (Nat.lt_succ_self _)
       ·exact Nat.ne_of_lt (Nat.lt_succ_of_lt (xn p hp))
      refine⟨rfl,wpAny_bind (wpAny_standAt (wpAny_pure ⟨_,_,_,_,rfl,(N3 _ (.tail _ (.head _))).1,rfl,mI (ok.X.X.keeps F3.keep) EO.make,?_⟩))⟩
      have rE:cU (K:=G.K) G.w.params aR bS [⟨PyData.keyHash G.w.params "message",.str "message" Zj,um⟩,⟨PyData.keyHash G.w.params "spot",.str "spot" QB,Rl⟩] [("message",mv),("spot",sv)]:=.cons rm (.cons rsp .nil)
      obtain⟨S3,e3,i3⟩:=dR.iV (x:=d) (b:=.attrs [("message",mv),("spot",sv)]) F3 (fy N3 λp hp=>by
       rcases List.mem_cons.mp hp with rfl|hp
       ·exact .head _
       ·exact .tail _ (.tail _ (.tail _ hp))) (λp hp=>ltd p (.tail _ hp)) (Nat.lt_of_lt_of_le dR.big yI) (.attrs (rE.grow ⟨_,rfl⟩ λζ h=>h))
      have Nb:=(N3 _ (.tail _ (.head _)))
      refine post a9 bq _ _ _ _ none ((x'.trans jU).trans e3) (.inl rfl) (GF ok S3 Nb.1 Nb.2.2 i3 (λp hp=>?_) Nb.2.1)
      rw[List.zip_append dR.len] at hp
      rcases List.mem_append.mp hp with hp|hp
      ·rcases List.mem_append.mp hp with hp|hp
       ·exact Nat.ne_of_lt (Nat.lt_succ_of_lt (xn p (List.mem_append_left _ hp)))
       ·simp at hp
        subst hp
        exact Nat.ne_of_gt led
      ·exact Nat.ne_of_lt (Nat.lt_succ_of_lt (xn p (List.mem_append_right _ hp)))
   ·exact h2 _ _ q2 c {s with heap:=h',toks:=ak} m aa aw I' _ _ xu ok (au.mono x') S' (bO hc (k.mono x')) (cu.mono x' post)
 ·refine wpAny_bind (wpAny_bind ?_)
  exact Call_ (h1 _ q1 c s m ν Mu I ok au S (bO hc k) _ _ post)
end
section
section
variable{prog:Program}{w:World}{A:Around}{E:Value->Shared->Prop}{s:Shared}
theorem pO{it t:Addr}{i:Nat}{items:Array Value}{Q:Value->Shared->Prop}(hh:A.handled=none)(hit:s.heap.IsTupleIter it t i)(ht:s.heap.IsTuple t items)
  (hQ:∀x,items[i]?=some x->∀h',h'.IsTupleIter it t (i+1)->Heap.SameBut it s.heap h'->Q x {s with heap:=h'})
  (hE:items[i]?=none->∀h' e,Heap.ExtBut it s.heap h'->(∃o,h'.get? e=some o/\o.cls=.type "StopIteration")->E (.ref e) {s with heap:=h'}):
  wpAny (model prog w) A (Builtin.SmallTypes.nextOf (.ref it)) Q E s:=by
 refine bH (id hit) λo ho hc hd=>?_
 obtain⟨ol,Jt,_,nl,hdl⟩:=ht
 refine wpAny_bind (wpAny_callSpecial?_slot (name:=Str.ofString "__next__") hit.typeIs PySem.F.slot_tuple_iterator_next
  (wpAny_call_entry PySem.F.slot_tuple_iterator_next hit.typeIs PySem.F.entry_tuple_iterator_next ?_ (PySem.F.args_tuple_iterator_next_1 _)))
 show wpAny _ _ (field (.ref it) 0>>=_) _ _ s
 refine wpAny_bind (wpAny_field ho hd (x:=.ref t) rfl ?_)
 show wpAny _ _ (if(Value.ref t==Value.none)=true then _ else _) _ _ s
 rw[if_neg (show¬((Value.ref t==Value.none)=true) from Bool.false_ne_true)]
 show wpAny _ _ (field (.ref it) 1>>=_) _ _ s
 refine wpAny_bind (wpAny_field ho hd (x:=.int i 0) rfl ?_)
 show wpAny _ _ (seqItems? (.ref t)>>=_) _ _ s
 refine wpAny_bind (wpAny_seqItems Jt hdl ?_)
 simp only[Int.toNat_natCast]
 cases hx:items[i]? with
 |some x=>
  refine wpAny_bind (wpAny_setField ho hd (by simp) (wpAny_pure ⟨x,rfl,wpAny_pure (hQ x hx _ ?_ (Heap.SameBut.update ..))⟩))
  exact⟨_,Heap.get?_update_self _ ho (Obj.isFreed_of_fields (Obj.data_mapFields hd _)),(Obj.cls_mapFields ..).trans hc,by
   rw[Obj.data_mapFields hd];simp[rawInt]⟩
 |none=>
  refine wpAny_bind (wpAny_rule (wpAny_bind (wpAny_setField ho hd (by simp) ?_)))
  show wpAny _ _ (newExc (.type "StopIteration") []>>=_) _ _ _
  refine wpAny_bind ?_
  simp only[newExc,newTuple]
  refine wpAny_bind (wpAny_newObj_type ?_ (by size_fits))
  refine wpAny_bind (m:=firstArgMember _ _) (wpAny_of_eq (a:=Value.none) (by first|rfl|(simp only[firstArgMember];rfl)) ?_)
  refine wpAny_newObj_type ?_ (by size_fits)
  simp only[raiseNew]
  refine wpAny_bind (wpAny_handled ?_)
  first|rw[show A.in1.handled=none from hh]|rw[hh]
  refine wpAny_bind (wpAny_pure (wpAny_throw ?_))
  exact hE hx _ _ (((Heap.SameBut.update ..).extBut.push _).push _) ⟨_,Heap.get?_push_size _ rfl,rfl⟩
end
noncomputable abbrev zA(h:Heap)(l1:Addr):Heap:=h.push {cls:=.type "tuple_iterator",data:=.fields #[.ref l1,.int 0 0]}
noncomputable abbrev zB(h:Heap)(l1 l2:Addr):Heap:=(zA h l1).push {cls:=.type "list_iterator",data:=.fields #[.ref l2,.int 0 0]}
noncomputable abbrev zC(h:Heap)(l1 l2:Addr):Heap:=(zB h l1 l2).push {cls:=.type "tuple",data:=.seq #[.ref h.objs.size,.ref (zA h l1).objs.size]}
noncomputable abbrev zD(h:Heap)(l1 l2:Addr):Heap:=(zC h l1 l2).push {cls:=.type "tuple",data:=.seq #[.none,.none]}
noncomputable abbrev zE(h:Heap)(l1 l2:Addr):Heap:=(zD h l1 l2).push {cls:=.type "zip",data:=.fields #[.none,.bool false,.bool false,.ref (zB h l1 l2).objs.size,.ref (zC h l1 l2).objs.size]}
theorem PH(l1 l2:Addr)(xs ys:Array Value):
  Meets (Builtin.«zip.__new__» ⟨[.type "zip",.ref l1,.ref l2],[]⟩) (λζ R s=>s.heap.IsTuple l1 xs/\s.heap.IsList l2 ys/\
   R (.ok (.ret (.ref (zD s.heap l1 l2).objs.size))) {s with heap:=zE s.heap l1 l2}):=
 .of_wp λprog w A R s h=>by
  obtain⟨hp,g,d,tk,os⟩:=s
  refine cZ h ?_;clear h;intro D8 Zr h
  have aio:=sub_zip
  have hL1:Heap.IsTuple (Shared.heap ⟨hp,g,d,tk,os⟩) l1 xs:=D8
  have hL2:Heap.IsList (Shared.heap ⟨hp.push {cls:=.type "tuple_iterator",data:=.fields #[.ref l1,.int 0 0]},g,d,tk,os⟩) l2 ys:=Heap.IsList.push Zr _
  wp_walk using wpAny_pyIter_tuple hL1,wpAny_pyIter_list hL2
  exact⟨_,rfl,h⟩
end
section
section
variable{prog:Program}{w:World}{A:Around}{E:Value->Shared->Prop}{s:Shared}
theorem AU{z TI TO i1 i2 l1:Addr}{k1:Nat}{xs:Array Value}{Q:Option Value->Shared->Prop}(hh:A.handled=none)(n1:i1≠z)(n2:l1≠z)(n3:TI≠z)
  (hz:IsZip s.heap z TI TO .none) (hTI:IsPair s.heap TI (.ref i1) (.ref i2)) (h1:s.heap.IsTupleIter i1 l1 k1) (D8:s.heap.IsTuple l1 xs) (aeM:xs[k1]?=none)
  (hQ:∀h',(∀c o,c≠z->c≠i1->s.heap.get? c=some o->h'.get? c=some o)->Q none {s with heap:=h'}):wpAny (model prog w) A (pyNext (.ref z)) Q E s:=by
 have hT:s.TypeIs (.ref z) "zip" :=⟨_,hz,rfl⟩
 refine wpAny_bind (wpAny_attempt (wpAny_callSpecial?_slot (name:=Str.ofString "__next__") hT PySem.F.slot_zip_next (wpAny_call_entry PySem.F.slot_zip_next hT PySem.F.entry_zip_next ?_ (PySem.F.args_zip_next_1 _))))
 show wpAny _ _ (field (.ref z) 2>>=_) _ _ _
 refine wpAny_bind (wpAny_field hz rfl (x:=.bool false) rfl ?_)
 show wpAny _ _ (field (.ref z) 3>>=_) _ _ _
 refine wpAny_bind (wpAny_field hz rfl (x:=.ref TI) rfl ?_)
 refine wpAny_bind (wpAny_seqItems hTI rfl ?_)
 show wpAny _ _ (Builtin.SmallTypes.ownedTupleIsFree (.ref z)>>=_) _ _ _
 refine wpAny_bind ?_
 refine wpAny_bind (wpAny_field hz rfl (x:=.none) rfl (wpAny_pure ?_))
 simp only[if_true]
 refine wpAny_bind (wpAny_rule ?_)
 refine wpAny_bind (wpAny_field hz rfl (x:=.ref TO) rfl ?_)
 refine wpAny_bind (wpAny_setField_rec hz (by simp) λbg qe fK=>?_)
 replace qe:IsZip bg z TI TO .ellipsis:=qe
 refine wpAny_bind ?_
 simp only[List.zipIdx_cons,List.zipIdx_nil,List.forIn_cons,List.forIn_nil]
 refine wpAny_bind (wpAny_bind (wpAny_onRaise ?_))
 show wpAny _ _ (Builtin.SmallTypes.nextOf (.ref i1)>>=_) _ _ _
 refine wpAny_bind (pO hh (h1.at λo e=>fK.extBut _ _ n1 e) (D8.at λo e=>fK.extBut _ _ n2 e) (λx hx=>by rw[aeM] at hx;exact no hx) λζ bt e jW he=>?_)
 refine ab he ?_;clear he;intro oe hoe hce
 have Nc:IsZip bt z TI TO .ellipsis:=jW _ _ n1.symm qe
 have hez:e≠z:=λx=>by subst x;rw[Nc] at hoe;obtain rfl:=ai hoe;simp at hce
 refine wpAny_setField_rec Nc (by simp) λa9 ζ ml=>?_
 refine wpAny_bind (wpAny_isInstance (T:= "StopIteration") (b:=true) ⟨oe,ml.extBut _ _ hez hoe,hce⟩ isSubtype_stop ?_)
 exact wpAny_pure (hQ _ λc o c1 c3 x=>ml.extBut _ _ c1 (jW _ _ c3 (fK.extBut _ _ c1 x)))
theorem vW{z TI TO i1 i2 l1 l2:Addr}{k1 k2:Nat}{xs ys:Array Value}{x y a b:Value}{Q:Option Value->Shared->Prop}(hh:A.handled=none)(D:ZipApart z TI TO i1 i2 l1 l2)
  (hz:IsZip s.heap z TI TO .none) (hTI:IsPair s.heap TI (.ref i1) (.ref i2)) (hTO:IsPair s.heap TO a b)
  (h1:s.heap.IsTupleIter i1 l1 k1) (h2:s.heap.IsListIter i2 l2 k2) (D8:s.heap.IsTuple l1 xs) (Zr:s.heap.IsList l2 ys) (hx:xs[k1]?=some x) (hy:ys[k2]?=some y)
  (hQ:∀h',IsZip h' z TI TO (rawInt s.heap.objs.size)->h'.IsTupleIter i1 l1 (k1+1)->IsPair h' s.heap.objs.size x y->
   (∀c o,c≠z->c≠TO->c≠i1->c≠i2->s.heap.get? c=some o->h'.get? c=some o)->Q (some (.ref s.heap.objs.size)) {s with heap:=h'}):
  wpAny (model prog w) A (pyNext (.ref z)) Q E s:=by
 have hT:s.TypeIs (.ref z) "zip" :=⟨_,hz,rfl⟩
 refine wpAny_bind (wpAny_attempt (wpAny_callSpecial?_slot (name:=Str.ofString "__next__") hT PySem.F.slot_zip_next (wpAny_call_entry PySem.F.slot_zip_next hT PySem.F.entry_zip_next ?_ (PySem.F.args_zip_next_1 _))))
 show wpAny _ _ (field (.ref z) 2>>=_) _ _ _
 refine wpAny_bind (wpAny_field hz rfl (x:=.bool false) rfl ?_)
 show wpAny _ _ (field (.ref z) 3>>=_) _ _ _
 refine wpAny_bind (wpAny_field hz rfl (x:=.ref TI) rfl ?_)
 refine wpAny_bind (wpAny_seqItems hTI rfl ?_)
 show wpAny _ _ (Builtin.SmallTypes.ownedTupleIsFree (.ref z)>>=_) _ _ _
 refine wpAny_bind ?_
 refine wpAny_bind (wpAny_field hz rfl (x:=.none) rfl (wpAny_pure ?_))
 simp only[if_true]
 refine wpAny_bind (wpAny_rule ?_)
 refine wpAny_bind (wpAny_field hz rfl (x:=.ref TO) rfl ?_)
 refine wpAny_bind (wpAny_setField_rec hz (by simp) λbg qe fK=>?_)
 replace qe:IsZip bg z TI TO .ellipsis:=qe
 refine wpAny_bind ?_
 simp only[List.zipIdx_cons,List.zipIdx_nil,List.forIn_cons,List.forIn_nil]
 refine wpAny_bind (wpAny_bind (wpAny_onRaise ?_))
 show wpAny _ _ (Builtin.SmallTypes.nextOf (.ref i1)>>=_) _ _ _
 refine wpAny_bind (pO hh (h1.at λo e=>fK.extBut _ _ D.i1z e) (D8.at λo e=>fK.extBut _ _ D.l1z e) (λx' qQ bt Zs jW=>wpAny_pure ?_) λhn=>by rw[hx] at hn;cases hn)
 rw[hx] at qQ
 cases qQ
 have Em:IsPair bt TO a b:=jW.extBut _ _ D.TOi1 (fK.extBut _ _ D.TOz hTO)
 refine wpAny_bind (wpAny_seqItems Em rfl ?_)
 refine wpAny_bind (wpAny_updateSeq_pair Em λa9 xw ml=>?_)
 replace xw:IsPair a9 TO x b:=xw
 refine wpAny_bind (wpAny_letGo (wpAny_pure ?_))
 refine wpAny_bind (wpAny_bind (wpAny_onRaise ?_))
 show wpAny _ _ (Builtin.SmallTypes.nextOf (.ref i2)>>=_) _ _ _
 refine wpAny_bind (wpAny_nextOf_list_item (((h2.extBut fK.extBut D.i2z).extBut jW.extBut D.i12.symm).extBut ml.extBut D.TOi2.symm)
  (((Zr.extBut fK.extBut D.l2z).extBut jW.extBut D.l2i1).extBut ml.extBut D.l2TO) hy λdh agL mm=>wpAny_pure ?_)
 have Eo:IsPair dh TO x b:=mm.extBut _ _ D.TOi2 xw
 refine wpAny_bind (wpAny_seqItems Eo rfl ?_)
 refine wpAny_bind (wpAny_updateSeq_pair Eo λdE xy yL=>?_)
 replace xy:IsPair dE TO x y:=xy
 refine wpAny_bind (wpAny_letGo (wpAny_pure (wpAny_pure ?_)))
 refine wpAny_bind (wpAny_seqItems xy rfl ?_)
 refine wpAny_bind (wpAny_newTuple ?_)
 have yI:dE.objs.size=s.heap.objs.size:=by rw[yL.1,mm.1,ml.1,jW.1,fK.1]
 have Nd:IsZip dE z TI TO .ellipsis:=yL.extBut _ _ D.TOz.symm (mm.extBut _ _ D.i2z.symm (ml.extBut _ _ D.TOz.symm (jW.extBut _ _ D.i1z.symm qe)))
 have Zt:∀c o,c≠z->c≠TO->c≠i1->c≠i2->s.heap.get? c=some o->dE.get? c=some o:=λc o c1 c2 c3 c4 e=>
  yL.extBut _ _ c2 (mm.extBut _ _ c4 (ml.extBut _ _ c2 (jW.extBut _ _ c3 (fK.extBut _ _ c1 e))))
 have Zu:dE.IsTupleIter i1 l1 (k1+1):=((Zs.at λo e=>ml.extBut _ _ D.TOi1.symm e).at λo e=>mm.extBut _ _ D.i12 e).at λo e=>yL.extBut _ _ D.TOi1.symm e
 have Zv:z<dE.objs.size:=Heap.lt_size Nd
 show wpAny _ _ (Builtin.SmallTypes.ownedTupleHandOut (.ref z) (.ref dE.objs.size)>>=_) _ _ _
 refine wpAny_bind ?_
 have Zw:IsZip (dE.push {cls:=.type "tuple",data:=.seq #[x,y]}) z TI TO .ellipsis:=Heap.get?_push_of_some _ Nd
 refine wpAny_bind (wpAny_setField_rec Zw (by simp) λJx Ep Nf=>?_)
 replace Ep:IsZip Jx z TI TO (rawInt dE.objs.size):=Ep
 refine wpAny_setField_rec Ep (by simp) λqb yM Ng=>?_
 replace yM:IsZip qb z TI TO (rawInt dE.objs.size):=yM
 have up:∀c o,c≠z->dE.get? c=some o->qb.get? c=some o:=λc o c1 e=>Ng.extBut _ _ c1 (Nf.extBut _ _ c1 (Heap.get?_push_of_some _ e))
 have Nh:IsPair qb dE.objs.size x y:=Ng.extBut _ _ (Nat.ne_of_gt Zv) (Nf.extBut _ _ (Nat.ne_of_gt Zv) (Heap.get?_push_size _ rfl))
 rw[yI] at yM Nh
 rw[yI]
 refine wpAny_pure ⟨_,rfl,wpAny_pure (hQ qb yM (Zu.at λo e=>up _ o D.i1z e) Nh λc o c1 c2 c3 c4 e=>up c o c1 (Zt c o c1 c2 c3 c4 e))⟩
end
end
section
section
variable{prog:Program}{w:World}{A:Around}{E:Value->Shared->Prop}{s:Shared}
theorem wU{l1 l2:Addr}{xs ys:Array Value}{Q:Value->Shared->Prop}(D8:s.heap.IsTuple l1 xs)(Zr:s.heap.IsList l2 ys)
  (h:IsZip (zE s.heap l1 l2) (s.heap.objs.size+4) (s.heap.objs.size+2) (s.heap.objs.size+3) .none->IsPair (zE s.heap l1 l2) (s.heap.objs.size+2) (.ref s.heap.objs.size) (.ref (s.heap.objs.size+1))->
   IsPair (zE s.heap l1 l2) (s.heap.objs.size+3) .none .none->(zE s.heap l1 l2).IsTupleIter s.heap.objs.size l1 0->(zE s.heap l1 l2).IsListIter (s.heap.objs.size+1) l2 0->(zE s.heap l1 l2).objs.size=s.heap.objs.size+5->
   (∀c o,s.heap.get? c=some o->(zE s.heap l1 l2).get? c=some o)->Q (.ref (s.heap.objs.size+4)) {s with heap:=zE s.heap l1 l2}):
  wpAny (model prog w) A (call (.type "zip") [.ref l1,.ref l2]) Q E s:=by
 refine callType_new PySem.F.called_zip (by decide) (PySem.F.typeCall_zip_2 _ _) (PySem.F.newCall_zip_2 _ _) (λobj=>PySem.F.args_object_init_3 obj _ _) PySem.F.entry_zip_new (PH l1 l2 xs ys) ⟨D8,Zr,?_⟩
 have z1:(zA s.heap l1).objs.size=s.heap.objs.size+1:=Heap.size_push ..
 have z2:(zB s.heap l1 l2).objs.size=s.heap.objs.size+2:=by rw[Heap.size_push,z1]
 have z3:(zC s.heap l1 l2).objs.size=s.heap.objs.size+3:=by rw[Heap.size_push,z2]
 have z4:(zD s.heap l1 l2).objs.size=s.heap.objs.size+4:=by rw[Heap.size_push,z3]
 have z5:(zE s.heap l1 l2).objs.size=s.heap.objs.size+5:=by rw[Heap.size_push,z4]
 have g5:(zE s.heap l1 l2).get? (zD s.heap l1 l2).objs.size=some _:=Heap.get?_push_size _ rfl
 have g4:(zE s.heap l1 l2).get? (zC s.heap l1 l2).objs.size=some _:=Heap.get?_push_of_some _ (Heap.get?_push_size _ rfl)
 have g3:(zE s.heap l1 l2).get? (zB s.heap l1 l2).objs.size=some _:=Heap.get?_push_of_some _ (Heap.get?_push_of_some _ (Heap.get?_push_size _ rfl))
 have g2:(zE s.heap l1 l2).get? (zA s.heap l1).objs.size=some _:=Heap.get?_push_of_some _ (Heap.get?_push_of_some _ (Heap.get?_push_of_some _ (Heap.get?_push_size _ rfl)))
 have g1:(zE s.heap l1 l2).get? s.heap.objs.size=some _:=Heap.get?_push_of_some _ (Heap.get?_push_of_some _ (Heap.get?_push_of_some _ (Heap.get?_push_of_some _ (Heap.get?_push_size _ rfl))))
 show _/\_
 rw[z2,z3,z4] at g5
 rw[z1,z2] at g3
 rw[z3] at g4
 rw[z1] at g2
 rw[z4]
 exact⟨⟨_,g5,rfl⟩,h g5 g3 g4 ⟨_,g1,rfl,rfl⟩ ⟨_,g2,rfl,rfl⟩ z5 λc o x=>
  Heap.get?_push_of_some _ (Heap.get?_push_of_some _ (Heap.get?_push_of_some _ (Heap.get?_push_of_some _ (Heap.get?_push_of_some _ x))))⟩
end
end
section
variable{G:Gc}{c:Fc}{s:Shared}{h h':Heap}{m m':Str->Option Value}{ν:List Addr}{Mu:List Obj}{I:Led}{ρ:ah}{H H':List Ob}{n:Nat}{sc:Sc}
theorem St.behind(S:St G c h m ν Mu I H){a:Addr}(ha:h.objs.size<=a):Sep c ν I a where
 i7:=Nat.ne_of_gt (Nat.lt_of_lt_of_le S.F.ns.lt ha)
 base:=by
  cases hq:c.h₀.get? a with
  |none=>rfl
  |some o=>exact absurd (Heap.lt_size (S.F.keep _ _ hq)) (Nat.not_lt.mpr ha)
 ids:=λhm=>by
  obtain⟨i,hi,e⟩:=List.getElem_of_mem hm
  have h1:ν[i]?=some a:=by rw[List.getElem?_eq_getElem hi,e]
  have h2:Mu[i]?=some (Mu[i]'(S.len▸hi)):=List.getElem?_eq_getElem (S.len▸hi)
  exact absurd (Heap.lt_size (S.N _ (List.mem_append_left _ (dU h1 h2))).1) (Nat.not_lt.mpr ha)
 led:=λp hp e=>absurd (Heap.lt_size (S.N p (List.mem_append_right _ hp)).1) (Nat.not_lt.mpr (e▸ha))
theorem St.keeps(S:St G c h m ν Mu I H)(k:∀b o,h.get? b=some o->h'.get? b=some o):St G c h' m ν Mu I H:=by
 refine hW S.F.ns λoL es ep h1 h2 h3 h4=>?_
 exact S.frame ⟨⟨oL,es,ep,k _ _ h1,h2,h3,h4⟩,λb o q=>k _ _ (S.F.keep b o q),S.F.above⟩ λp hp=>⟨k _ _ (S.N p hp).1,(S.N p hp).2⟩
theorem St.IU{a:Addr}(S:St G c h m ν Mu I H)(x:Sep c ν I a)(he:∀b o,b≠a->h.get? b=some o->h'.get? b=some o):St G c h' m ν Mu I H:=S.but x.i7 x.base x.ids x.led he
theorem St.C3(S:St G c h m ν Mu I H)(bad:Addr->Prop)(x:∀a,bad a->Sep c ν I a)(he:∀b o,¬bad b->h.get? b=some o->h'.get? b=some o):St G c h' m ν Mu I H:=by
 refine hW S.F.ns λoL es ep h1 h2 h3 h4=>?_
 refine S.frame ⟨⟨oL,es,ep,he _ _ (λe=>(x _ e).i7 rfl) h1,h2,h3,h4⟩,λb o q=>he _ _ (λe=>by rw[(x _ e).base] at q;exact no q) (S.F.keep b o q),S.F.above⟩ λp hp=>⟨he _ _ (λe=>?_) (S.N p hp).1,(S.N p hp).2⟩
 rcases List.mem_append.mp hp with hp|hp
 ·exact(x _ e).ids (of_mem_zip hp)
 ·exact(x _ e).led p hp rfl
theorem Sep.pinned{a x:Addr}{o:Obj}(s:Sep c ν I a)(hx:x≠a):Sep c ν ((x,o)::I) a:=⟨s.i7,s.base,s.ids,λp hp=>by
 rcases List.mem_cons.mp hp with rfl|hp
 ·exact hx
 ·exact s.led p hp⟩
theorem St.Fn{x:Addr}{o:Obj}(S:St G c h m ν Mu I H)(get:h.get? x=some o)(s:Sep c ν I x):St G c h m ν Mu ((x,o)::I) H/\Ext ν ν I ((x,o)::I):=S.pin get s.i7 s.base s.ids
theorem EF{B i j:Nat}(h:i≠j):B+i≠B+j:=mt Nat.add_left_cancel h
theorem DK{B l1 l2:Nat}(h1:l1<B)(h2:l2<B):ZipApart (B+4) (B+2) (B+3) B (B+1) l1 l2 where
 TIz:=EF (by decide)
 TOz:=EF (by decide)
 i1z:=EF (i:=0) (by decide)
 i2z:=EF (by decide)
 TITO:=EF (by decide)
 TIi1:=EF (j:=0) (by decide)
 TIi2:=EF (by decide)
 TOi1:=EF (j:=0) (by decide)
 TOi2:=EF (by decide)
 i12:=EF (i:=0) (by decide)
 l1z:=AL h1
 l1TO:=AL h1
 l1i1:=Nat.ne_of_lt h1
 l1i2:=AL h1
 l2z:=AL h2
 l2TO:=AL h2
 l2i1:=Nat.ne_of_lt h2
 l2i2:=AL h2
theorem De{elt:Expr}{a:Int}{scope:Scope}{pos xu zp tp pp qp:Pos}{tk:Nat}{p q zn:Str}{args:List Expr}{r:Rs V}{iN:aM V}{iA:List Ob->aM (List V)}{iE:List (Str×Nat)->ah->List Ob->aM V}(hs:noStar args=true)
  (h1:∀r,iN=some r->dA G n sc (.Name zn zp) ρ H r) (h2:∀H₁ r,iA H₁=some r->hU G n sc args ρ H₁ r) (h3:∀cells bj H₁ r,iE cells bj H₁=some r->dA G n ⟨i9 sc scope.names,cells,none⟩ elt bj H₁ r)
  (h:Bv sc scope p q a iN iA iE=some r):jJ G n sc elt (.Tuple [.Name p pp,.Name q qp] tk tp) (.Call (.Name zn zp) args [] xu) [] a scope pos ρ H r:=by
 refine gB h ?_;clear h;intro kH h
 refine aJ kH λD5 ha=>?_
 have ha:a=0:=beq_iff_eq.mp ha
 subst ha
 refine aJ D5 λfC QE=>?_
 have fC:scope.kind=.function:=by
  refine HR fC ?_;clear fC;intro _
  assumption
 refine ae (vb QE) λxq QJ=>?_
 refine Bb h ?_;clear h;intro hp h
 refine Bb h ?_;clear h;intro hq h
 refine cP h ?_;clear h;intro cells qc h
 refine gO h ?_;clear h;intro fv H₁ q1 h
 refine gB h ?_;clear h;intro hz h
 refine gO h ?_;clear h;intro vs aQ q2 h
 refine cP h ?_;clear h;intro z hz2 h
 refine ae (wh hz2) ?_;clear hz2;obtain⟨v,j,u⟩:=z;intro hvs hu;subst hvs
 refine gO h ?_;clear h;intro w vF q3 h
 refine cP h ?_;clear h;intro lv QM h
 induction lv using List.casesOn with
 |cons=>exact no h
 |nil=>
 have QM:=ri QM
 obtain rfl:=ai h
 refine⟨⟨_,_,rfl⟩,?_⟩
 rintro c s m ν Mu I use Q E ok au S l post
 have Qz:fv=.glob (.type "zip"):=vf hz
 subst Qz
 refine ab (kJ au qc) λcl vJ qj=>?_
 refine wpAny_comprehension_free (g:=⟨_,_,[],0⟩) (gs:=[]) rfl (λx=>rfl) vJ fC QJ ?_
 refine Call_ (h1 _ q1 c s m ν Mu I ok au S l _ _ λh' ak aa aw I' uf e S' ru=>?_)
 have eu:uf=.type "zip" :=ru.gP
 subst eu
 refine bX (P:=λζ=>True) hs (λh ζ=>xP (λζ e=>by cases e) h) (h2 _ _ q2 c {s with heap:=h',toks:=ak} m aa aw I' _ _ xu ok (au.mono e) S' (l.mono e) λbw bY aV cF dk us e' d7 rs=>⟨trivial,?_⟩)
 obtain⟨l1,l2,xv,nx,rfl,hI1,rx,aeO⟩:∃l1 l2 xv nx,us=[.ref l1,.ref l2]/\Im G.K dk l1 (dw [xv] nx)/\Rep G.K aV dk xv v/\aV[j]?=some l2:=by
  refine ag.dj rs rfl λy1 y2 r1 rs=>?_
  refine ag.dj rs rfl λy1 y2 r2 rs=>?_
  cases rs
  refine r1.gc rfl λy1 y2 y3 hI hs=>?_
  obtain⟨_,_,rfl,rx,hs⟩:=ag.kX hs
  cases hs
  obtain⟨_,rfl,cb⟩:=r2.yd
  exact⟨_,_,_,_,rfl,hI,rx,cb⟩
 refine d7.ba aeO hu λol y1 y2 Jt ro=>?_
 obtain⟨yv,ny,rfl,ry⟩:∃yv ny,ol=bI [yv] ny/\Rep G.K aV dk yv u:=by
  refine cz ro.ju λy1 y2 YP hs=>?_;subst YP
  refine ag.dj hs rfl λy1 y2 ry hs=>?_
  cases hs
  exact⟨_,_,rfl,ry⟩
 have hT1:bw.get? l1=some (dw [xv] nx):=d7.im ok.X.X hI1
 refine wU (s:={s with heap:=bw,toks:=bY}) (xs:= #[xv]) (ys:= #[yv]) ⟨_,hT1,rfl,_,rfl⟩ ⟨_,Jt,rfl,_,rfl⟩ ?_
 generalize hzh:zE bw l1 l2=hZ
 intro gz gTI gTO g1 g2 yI hk
 have lt1: @LT.lt Nat _ l1 bw.objs.size:=Heap.lt_size hT1
 have Rk: @LT.lt Nat _ l2 bw.objs.size:=Heap.lt_size Jt
 have hBe:∀k:Nat,bw.objs.size<=bw.objs.size+k:=λk=>Nat.le_add_right _ _
 have SZ:St G c hZ m aV cF dk aQ:=d7.keeps hk
 have n5:∀k:Nat,Sep c aV dk (bw.objs.size+k):=λk=>d7.behind (hBe k)
 refine wpAny_pyIter_zip gz ?_
 refine newList_NK (s:={s with heap:=hZ,toks:=bY}) SZ.F SZ.N λdh QK QL xt=>?_
 have r4:az G (aV++[hZ.objs.size]) dk (bI [] 0) (.list []):=.list .nil
 refine ae (SZ.new QK QL SZ.fresh r4) λS4 e4=>?_
 dsimp only at xt ⊢
 rw[yI] at S4 e4 r4
 rw[yI]
 have Zx:(aV++[bw.objs.size+5])[aQ.length]?=some (bw.objs.size+5):=by rw[←SZ.aT];simp
 refine wpAny_newFunctionEnv xq (by intro y hy;simp at hy) (λdE Er Et=>?_) fC
 have S5':St G c (dh.push {cls:=.type (if(some c.env).isSome then "dict" else "frame"),data:=.dict #[]}) m (aV++[bw.objs.size+5]) (cF++[bI [] 0]) dk (aQ++[.list []]):=St.push (s:={s with heap:=dh,toks:=bY}) S4 _
 have Ni:Sep c (aV++[bw.objs.size+5]) dk dh.objs.size:=S4.behind (Nat.le_refl _)
 have S5:St G c dE m (aV++[bw.objs.size+5]) (cF++[bI [] 0]) dk (aQ++[.list []]):=S5'.IU Ni Et.extBut
 have up5:∀b o,dh.get? b=some o->dE.get? b=some o:=λb o q=>Et.extBut _ _ (Nat.ne_of_lt (Heap.lt_size q)) (Heap.get?_push_of_some _ q)
 have up:∀b o,hZ.get? b=some o->dE.get? b=some o:=λb o q=>up5 b o (xt b o q)
 have ltC:∀b o,hZ.get? b=some o->b<dh.objs.size:=λb o q=>Heap.lt_size (xt b o q)
 have nC:∀b o,hZ.get? b=some o->dh.objs.size≠b:=λb o q=>Nat.ne_of_gt (ltC b o q)
 have EM:∀k:Nat,k<5->Sep c (aV++[bw.objs.size+5]) dk (bw.objs.size+k):=λk hk5=>⟨(n5 k).i7,(n5 k).base,λhm=>by
  rcases List.mem_append.mp hm with hm|hm
  ·exact(n5 k).ids hm
  ·simp at hm
   exact adQ ‹_› ‹_›,(n5 k).led⟩
 let xr:Env:={newEnv scope dh.objs.size c.env.globals cl c.env.qual none .none (some c.env) builtinsNs with scope:=relabel scope c.env}
 let c':Fc:={c with env:=xr}
 have qn:c'.Ok G n:={ok with ek:=fC,eg:=ok.eg,eb:=ok.eb,yF:=ok.yF}
 have D:=DK lt1 Rk
 refine bH g1 ?_;clear g1;intro o1 g1a g1b g1c
 refine bH g2 ?_;clear g2;intro o2 g2a g2b g2c
 have loop:∀R:Result->Shared->Prop,(∀h' ak aa aw I' m',Ext (aV++[bw.objs.size+5]) aa dk I'->St G c h' m aa aw I' (dq vF aQ.length (.list [w]))->h'.Ns dh.objs.size m'->Sep c aa I' dh.objs.size->R (.ok .next) {s with heap:=h',toks:=ak})->
   codeAny G.M c.A (.compLoop (.ListComp elt [⟨.Tuple [.Name p pp,.Name q qp] tk tp,.Call (.Name zn zp) args [] xu,[],0⟩] scope pos) 0 (.ref (bw.objs.size+4)) (.ref (bw.objs.size+5)) xr) R {s with heap:=dE,toks:=bY+([]:List (Str×Value)).length}:=by
  intro R hR
  refine mH (vW (xs:= #[xv]) (ys:= #[yv]) ok.hd D (up _ _ gz) (up _ _ gTI) (up _ _ gTO) ⟨_,up _ _ g1a,g1b,g1c⟩ ⟨_,up _ _ g2a,g2b,g2c⟩ ⟨_,up _ _ (hk _ _ hT1),rfl,_,rfl⟩ ⟨_,up _ _ (hk _ _ Jt),rfl,_,rfl⟩ rfl rfl λqS z6 i6 pT Nj=>?_)
  have rA:∀b o,¬(b=bw.objs.size+4∨b=bw.objs.size+3∨b=bw.objs.size∨b=bw.objs.size+1)->dE.get? b=some o->qS.get? b=some o:=λb o hb q=>Nj b o (λe=>hb (.inl e)) (λe=>hb (.inr (.inl e))) (λe=>hb (.inr (.inr (.inl e)))) (λe=>hb (.inr (.inr (.inr e)))) q
  have S6:St G c qS m (aV++[bw.objs.size+5]) (cF++[bI [] 0]) dk (aQ++[.list []]):=S5.C3 (λb=>b=bw.objs.size+4∨b=bw.objs.size+3∨b=bw.objs.size∨b=bw.objs.size+1) (λa ha=>by
   rcases ha with rfl|rfl|rfl|rfl
   ·exact EM 4 (by decide)
   ·exact EM 3 (by decide)
   ·exact EM 0 (by decide)
   ·exact EM 1 (by decide)) rA
  dsimp only at pT z6 ⊢
  have lT:∀b o,hZ.get? b=some o->dE.objs.size≠b:=λb o q=>Nat.ne_of_gt (Heap.lt_size (up b o q))
  refine wpAny_letOwnedTupleGo_zip z6 λJx z7 sb7=>?_
  have S7:=S6.IU (EM 4 (by decide)) sb7.extBut
  have pT7:IsPair Jx dE.objs.size xv yv:=sb7.extBut _ _ (lT _ _ gz) pT
  refine assign_Tuple_tuple (items:= #[xv,yv]) ok.hd ⟨_,pT7,rfl,_,rfl⟩ rfl rfl λqb he8=>?_
  have up8:∀b o,Jx.get? b=some o->qb.get? b=some o:=λb o q=>he8 b o (Nat.ne_of_lt (Heap.lt_size q)) q
  have S8:=S7.keeps up8
  have to8:∀b o,b≠bw.objs.size+4->b≠bw.objs.size+3->b≠bw.objs.size->b≠bw.objs.size+1->dE.get? b=some o->qb.get? b=some o:=λb o a1 a2 a3 a4 q=>up8 _ _ (sb7.extBut _ _ a1 (Nj b o a1 a2 a3 a4 q))
  refine hW Er ?_;clear Er;intro oC es ep hC d1 d2 d3
  have Zy:dh.objs.size≠bw.objs.size+4:=nC _ _ gz
  have nCT:dh.objs.size≠bw.objs.size+2:=nC _ _ gTI
  have nCO:dh.objs.size≠bw.objs.size+3:=nC _ _ gTO
  have Zz:dh.objs.size≠bw.objs.size:=nC _ _ g1a
  have nC2:dh.objs.size≠bw.objs.size+1:=nC _ _ g2a
  have hC8:qb.get? dh.objs.size=some oC:=to8 dh.objs.size oC Zy nCO Zz nC2 hC
  have f4:Ext ν (aV++[bw.objs.size+5]) I dk:=(e.trans e').trans e4
  have Ei:cM c' ⟨i9 sc scope.names,cells,none⟩ (aV++[bw.objs.size+5]):=⟨λy=>by
   show((relabel scope c.env).names.lookup y)=_
   rw[cg,uQ ok au]
   rfl,λy j hj=>by
   refine ab (qj y j hj) λad h1 h2=>?_
   exact⟨ad,h1,f4.at h2⟩,λζ ζ e=>by exact no e⟩
  refine assignInOrder_cons (PyProof.Rows.assign_Name (wpAny_storeName_local ((Ei.ns p).trans hp) ⟨oC,es,ep,hC8,d1,d2,d3⟩ (λaiH ZA Nk=>?_) (by have hkc:xr.scope.kind=.function:=qn.ek;rw[hkc];rfl)))
  refine assignInOrder_cons (PyProof.Rows.assign_Name (wpAny_storeName_local ((Ei.ns q).trans hq) ZA (λi8 vK vL=>?_) (by have hkc:xr.scope.kind=.function:=qn.ek;rw[hkc];rfl)))
  refine assignInOrder_nil ?_
  have S10:St G c i8 m (aV++[bw.objs.size+5]) (cF++[bI [] 0]) dk (aQ++[.list []]):=(S8.IU Ni Nk.extBut).IU Ni vL.extBut
  have QN:∀b o,b≠dh.objs.size->qb.get? b=some o->i8.get? b=some o:=λb o a q=>vL.extBut _ _ a (Nk.extBut _ _ a q)
  refine hW vK ?_;clear vK;intro oC' AZ Ri QH d1' d2' d3'
  have hnO:NsObj oC' _:=⟨AZ,Ri,d1',d2',d3'⟩
  have kn:cC G.K _ (aV++[bw.objs.size+5]) dk (gm q u (gm p v [])):=λz' w' qq=>by
   show ∃u',(if z'=q then some yv else if z'=p then some xv else List.lookup z' ([]:List (Str×Value)).reverse)=some u'/\_
   rw[nL] at qq
   split at qq
   ·rename_i eq
    obtain rfl:=ai qq
    exact⟨yv,if_pos eq,ry.mono e4⟩
   ·rename_i eq
    rw[if_neg eq]
    rw[nL] at qq
    split at qq
    ·rename_i eq'
     obtain rfl:=ai qq
     exact⟨xv,if_pos eq',rx.mono e4⟩
    ·exact no qq
  have YO:IsZip i8 (bw.objs.size+4) (bw.objs.size+2) (bw.objs.size+3) .none:=QN _ _ Zy.symm (up8 _ _ z7)
  have nTz:(bw.objs.size+2:Nat)≠bw.objs.size+4:=D.TIz
  have nT3:(bw.objs.size+2:Nat)≠bw.objs.size+3:=D.TITO
  have nT0:(bw.objs.size+2:Nat)≠bw.objs.size:=D.TIi1
  have nT1:(bw.objs.size+2:Nat)≠bw.objs.size+1:=D.TIi2
  have n04:(bw.objs.size:Nat)≠bw.objs.size+4:=D.i1z
  have aeU:IsPair i8 (bw.objs.size+2) (.ref bw.objs.size) (.ref (bw.objs.size+1)):=QN _ _ nCT.symm (to8 _ _ nTz nT3 nT0 nT1 (up _ _ gTI))
  refine bH i6 ?_;clear i6;intro oi i6a i6b i6c
  have i10:i8.get? bw.objs.size=some oi:=QN _ _ Zz.symm (up8 _ _ (sb7.extBut _ _ n04 i6a))
  have sT:Sep c (aV++[bw.objs.size+5]) dk (bw.objs.size+2):=EM 2 (by decide)
  have sZ:Sep c (aV++[bw.objs.size+5]) dk (bw.objs.size+4):=EM 4 (by decide)
  have sI:Sep c (aV++[bw.objs.size+5]) dk bw.objs.size:=EM 0 (by decide)
  refine ae (S10.Fn aeU sT) λSa ea=>?_
  refine ae (Sa.Fn QH (Ni.pinned nCT.symm)) λSb eb=>?_
  refine ae (Sb.Fn YO ((sZ.pinned nTz).pinned Zy)) λSc' ec=>?_
  refine ae (Sc'.Fn i10 (((sI.pinned nT0).pinned Zz).pinned n04.symm)) λSd ed=>?_
  have eA:=((ea.trans eb).trans ec).trans ed
  refine wpAny_pure ?_
  rw[if_pos rfl]
  have Sd':St G c' i8 m (aV++[bw.objs.size+5]) (cF++[bI [] 0]) ((bw.objs.size,oi)::(bw.objs.size+4,_)::(dh.objs.size,oC')::(bw.objs.size+2,_)::dk) (aQ++[.list []]):=⟨Sd.F,Sd.N,Sd.nd,Sd.eP,Sd.len,Sd.aT,Sd.ob,Sd.big,Sd.low⟩
  refine h3 cells _ _ _ q3 c' {s with heap:=i8,toks:=_} m _ _ _ qn (Ei.mono eA) Sd' (Loc.inComp rfl (.tail _ (.tail _ (.head _))) hnO (kn.mono eA)) _ _ λJy Eu ZC ZD aaM uw yN Jz rw=>?_
  refine mM (s:={s with heap:=Jy,toks:=Eu}) qn Jz (yN.at Zx) QM rfl rw _ _ λkh ZE vM vN JA ζ JB kj ζ=>?_
  have e':=yN.trans JB
  have iZ:=e'.sub _ (.tail _ (.head _))
  have iI:=e'.sub _ (.head _)
  have iC:=e'.sub _ (.tail _ (.tail _ (.head _)))
  have iT:=e'.sub _ (.tail _ (.tail _ (.tail _ (.head _))))
  have gZ:IsZip kh (bw.objs.size+4) (bw.objs.size+2) (bw.objs.size+3) .none:=(kj.N _ (List.mem_append_right _ iZ)).1
  have gI:=(kj.N _ (List.mem_append_right _ iI)).1
  have gC:=(kj.N _ (List.mem_append_right _ iC)).1
  have gT:IsPair kh (bw.objs.size+2) (.ref bw.objs.size) (.ref (bw.objs.size+1)):=(kj.N _ (List.mem_append_right _ iT)).1
  have gl1:kh.get? l1=some (dw [xv] nx):=kj.im ok.X.X (hI1.mono λp hp=>e'.sub _ (.tail _ (.tail _ (.tail _ (.tail _ hp)))))
  have n1z: @Ne Nat l1 (bw.objs.size+4):=D.l1z
  refine mH (AU (xs:= #[xv]) ok.hd n04 n1z nTz gZ gT ⟨_,gI,i6b,i6c⟩ ⟨_,gl1,rfl,_,rfl⟩ rfl λyO qf=>?_)
  have aI:∀xs n,kh.get? bw.objs.size≠some (dw xs n):=λxs n q=>by
   rw[gI] at q
   obtain rfl:=ai q
   cases i6c
  have aZ:∀xs n,kh.get? (bw.objs.size+4)≠some (dw xs n):=λxs n q=>by
   rw[gZ] at q
   have:=congrArg Obj.cls (Option.some.inj q)
   simp at this
  have aC:∀xs n,kh.get? dh.objs.size≠some (dw xs n):=λxs n q=>hnO.mz xs n (by rw[gC] at q;exact Option.some.inj q)
  have t1:=kj.strip aI
  have t2:=t1.strip aZ
  have t3:=t2.strip aC
  have f1:=e'.less (p:=(bw.objs.size,oi)) (((sI.pinned nT0).pinned Zz).pinned n04.symm).led
  have f2:=f1.less ((sZ.pinned nTz).pinned Zy).led
  have f3:=f2.less (Ni.pinned nCT.symm).led
  have f5:=f3.sF
  dsimp only at f1 f2 f3 f5
  have iB:=fZ e' (.head _) sI.ids
  have iz:=fZ e' (.tail _ (.head _)) sZ.ids
  have ic:=fZ e' (.tail _ (.tail _ (.head _))) Ni.ids
  have t4:St G c yO m vM vN (less dh.objs.size (less (bw.objs.size+4) (less bw.objs.size JA))) (dq vF aQ.length (.list ([]++[w]))):=St.C3 (c:=c) ⟨t3.F,t3.N,t3.nd,t3.eP,t3.len,t3.aT,t3.ob,t3.big,t3.low⟩ (λb=>b=bw.objs.size+4∨b=bw.objs.size) (λa ha=>by
   rcases ha with rfl|rfl
   ·exact⟨sZ.i7,sZ.base,iz,λp hp=>(bD.mp (bD.mp hp).1).2⟩
   ·exact⟨sI.i7,sI.base,iB,λp hp=>(bD.mp (bD.mp (bD.mp hp).1).1).2⟩) λb o hb q=>qf b o (λe=>hb (.inl e)) (λe=>hb (.inr e)) q
  exact hR yO _ vM vN _ _ f5 t4 ⟨oC',AZ,Ri,qf dh.objs.size oC' Zy Zz gC,d1',d2',d3'⟩ ⟨Ni.i7,Ni.base,ic,λp hp=>(bD.mp hp).2⟩
 have fin:∀h' ak aa aw I' m',Ext (aV++[bw.objs.size+5]) aa dk I'->St G c h' m aa aw I' (dq vF aQ.length (.list [w]))->h'.Ns dh.objs.size m'->Sep c aa I' dh.objs.size->
   compPost G.M c.A E use Q (.ref (bw.objs.size+5)) dh.objs.size (.ok .next) {s with heap:=h',toks:=ak}:=λqS Nl ZF ZG aeV QO ZH mV yP ZI=>
  post _ _ rfl qS Nl ZF ZG aeV (bw.objs.size+5) dh.objs.size QO (((e.trans e').trans e4).trans ZH) mV (ZH.at Zx) yP ZI
 exact codeAny_compStart_list (loop _ fin) (wpAny_pyIter_zip (up _ _ gz) (loop _ fin))
end
section
variable{G:Gc}{c:Fc}{s:Shared}{h h':Heap}{m m':Str->Option Value}{ν:List Addr}{Mu:List Obj}{I:Led}{ρ:ah}{H H':List Ob}{n:Nat}{sc:Sc}
structure PN(G:Gc):Prop where
 bm:∃bm ob,G.mg "__builtins__" =some (.ref bm)/\bm≠builtinsNs/\bm≠mainGlobals/\G.K.lookup bm=some ob/\ob.cls=.type "module" /\ob.dict=some builtinsNs/\ob.data=.plain
 codes:∀c P,jL c G.cf.codes=some P->∀h,G.K.In h->CodeHd h c P
theorem By{P:Addr}:∀{H:List Ob} {k t:Nat} {l:List (Nat×Nat)},tabAt P H k=some (t,l)->∃j,t=k+j/\H[j]?=some (.tab P t l):=by
 intro l_
 induction l_ with
 |nil=>
  intro _ _ _ h
  exact no h
 |cons o H ih=>
  intro k t l h
  have next:tabAt P H (k+1)=some (t,l)->∃j,t=k+j/\(o::H)[j]?=some (.tab P t l):=λe=>by
   refine ab (ih e) λj e1 e2=>?_
   exact⟨j+1,by exact adB ‹_›,by simpa using e2⟩
  refine abD h ?_ ?_
  ·clear h;intro Q t' l' ay h;subst ay
   refine pC h ?_ ?_
   ·clear h;intro hq h
    refine aJ hq λq1 q2=>?_
    cases h
    have q1:P=Q:=Nat.eq_of_beq_eq_true q1
    have q2:=Nat.eq_of_beq_eq_true q2
    subst q1 q2
    exact⟨0,rfl,rfl⟩
   ·clear h;intro _ h
    exact next h
  ·clear h;intro h
   exact next h
theorem ym:∀l,TriplesOk (jv l)
 |[]=>trivial
 |(p,c)::l=>by
  show TriplesOk (rawInt p.1::rawInt p.2::.ref c::jv l)
  unfold rawInt
  simp only[TriplesOk]
  exact ym l
theorem qY(p:Nat×Nat)(c:Addr):∀l,jv (l++[(p,c)])=jv l++[rawInt p.1,rawInt p.2,.ref c]
 |[]=>rfl
 |(q,d)::l=>by
  show rawInt q.1::rawInt q.2::.ref d::jv (l++[(p,c)])=_
  rw[qY p c l]
  rfl
theorem wL{pos:Pos}:∀l:List ((Nat×Nat)×Addr),oA (pos.line,pos.col) (l.map (·.1))=false->codeAmong pos (jv l)=none:=by
 intro l_
 induction l_ with
 |nil=>
  intro _
  exact rfl
 |cons p_ l ih=>
  obtain⟨⟨a,b⟩,c⟩:=p_
  intro h
  show codeAmong pos (rawInt a::rawInt b::.ref c::jv l)=none
  rw[List.map_cons] at h
  dsimp only at h
  refine ae (Bool.or_eq_false_iff.mp h) λh1 h2=>?_
  unfold rawInt
  unfold codeAmong
  have e:((Int.ofNat a==Int.ofNat pos.line)&&(Int.ofNat b==Int.ofNat pos.col))=false:=by
   rw[Bool.and_eq_false_iff] at h1 ⊢
   rcases h1 with h1|h1
   ·left
    have:=Nat.ne_of_beq_eq_false h1
    rw[beq_eq_false_iff_ne]
    exact λe=>this (Int.ofNat.inj e).symm
   ·right
    have:=Nat.ne_of_beq_eq_false h1
    rw[beq_eq_false_iff_ne]
    exact λe=>this (Int.ofNat.inj e).symm
  rw[if_neg (by
   intro q
   have:((Int.ofNat a==Int.ofNat pos.line)&&(Int.ofNat b==Int.ofNat pos.col))=true:=q
   rw[e] at this
   cases this)]
  exact ih h2
theorem zw(lk:PN G){la:Arguments}{lb:Expr}{ls:Scope}{lp:Pos}{r:Rs V}(h:(match rN la ls with
  |false=>none
  |true=>bE (dz sc ls.names) λcells=>bE (C8 G.cf H sc.code (lp.line,lp.col)) λ(q,H)=>bV (.obj (H.length+1)) (H++[.code q,.lh H.length q lb ls cells]))=some r):
  dA G n sc (.Lambda la lb ls lp) ρ H r:=by
 rintro c s m ν Mu I ok au S l Q E post
 split at h
 ·exact no h
 rename_i rX
 refine cP h ?_;clear h;intro cells qc h
 obtain⟨⟨q,H₁⟩,mW,h⟩:=kW h
 obtain rfl:=ai h
 refine acG mW ?_;clear mW;intro cd q0 hsc mW
 refine acS mW ?_;clear mW;intro P hP mW
 refine adU mW ?_;clear mW;intro t l0 JC mW
 refine n5 mW ?_;clear mW;intro hpl mW
 cases mW
 obtain⟨D4,Nm⟩:=au.code _ _ hsc
 obtain⟨j,ej,hj⟩:=By JC
 have ej:t=j:=by exact acY ‹_›
 subst ej
 have hx:cJ H t=some (.tab P t l0):=by rw[fb];exact hj
 obtain⟨a,ha⟩:=S.has hx
 refine S.ba ha hx λo qP mU ho ro=>?_
 have ZJ:noParams la=true:=by
  unfold rN at rX
  simp only[Bool.and_eq_true] at rX
  exact rX.1.1.1.1
 obtain⟨cl,vJ,qj⟩:=kJ au qc
 cases ro with
 | @tab _ _ l' ZK=>
  rw[ha] at ZK
  cases ZK
  refine RT lk.bm λbm ob b1 b2 b3 b4 b5 b6 b7=>?_
  have B:=ok.X.keeps S.F.keep
  have hbm:s.heap.get? bm=some ob:=B.X _ _ b4
  have hg:=B.g
  have hgP:mainGlobals≠P:=λe=>by
   refine Dr hg ?_;clear hg;intro o' es ep e1 e2 y1
   rw[e,ho] at e1
   obtain rfl:=ai e1
   cases e2
  have hbP:bm≠P:=λe=>by
   rw[e,ho] at hbm
   obtain rfl:=ai hbm
   cases b5
  refine kla_eval (by rw[m7 ZJ];rfl) ?_
  refine kla_makeFunction (mg:=G.mg) (ps:=(jv l').toArray) vJ ok.eg hg D4 (lk.codes _ _ hP _ B.X) ho (by simpa using ym l') (by simpa using wL l' hpl) hgP ⟨bm,ob,b1,b2,b3,hbP,hbm,b5,b6,b7⟩ λc' ctv h' tk qQ Nb kf ZL htb=>?_
  refine UB ZL ?_;clear ZL;intro c₂ oc vs tq e2 hoc hdc hqc
  cases e2
  have QP:=S.N _ mU
  have gj:Fr c.h₀ c.L h' m:=⟨S.F.ns.extBut qQ QP.2.1.symm,λb o e=>qQ b o (λq=>by rw[q,QP.2.2] at e;exact no e) (S.F.keep b o e),S.F.above⟩
  have ap:=S.apart ha hx rfl
  have aeY:h'.get? P=some ({cls:=.none,data:=.fields (jv (l'++[((lp.line,lp.col),c')])).toArray}:Obj):=by
   rw[htb,qY]
   simp
  have U:=S.upd ha qP ap ({cls:=.none,data:=.fields (jv (l'++[((lp.line,lp.col),c')])).toArray}:Obj)
  refine gr U.split λpre pst e1 e2 u1 u2=>?_
  have jn:News c.h₀ c.L h' (ν.zip (Mu.set t ({cls:=.none,data:=.fields (jv (l'++[((lp.line,lp.col),c')])).toArray}:Obj))++I):=λp hp=>by
   rw[e2] at hp
   rcases List.mem_append.mp hp with hp|hp
   ·have z:=S.N p (by rw[e1];exact List.mem_append_left _ hp)
    exact⟨qQ _ _ (u1 p hp) z.1,z.2⟩
   ·rcases List.mem_cons.mp hp with rfl|hp
    ·exact⟨aeY,QP.2⟩
    ·have z:=S.N p (by rw[e1];exact List.mem_append_right _ (.tail _ hp))
     exact⟨qQ _ _ (u2 p hp) z.1,z.2⟩
  have rt:az G ν I ({cls:=.none,data:=.fields (jv (l'++[((lp.line,lp.col),c')])).toArray}:Obj) (.tab P t (l'.map (·.1)++[(lp.line,lp.col)])):=by
   have:=az.tab (G:=G) (I:=I) (l:=l'++[((lp.line,lp.col),c')]) ha
   rw[List.map_append] at this
   exact this
  have jT:=S.set ha ap gj jn rt
  have QQ:∀p∈ν.zip (Mu.set t ({cls:=.none,data:=.fields (jv (l'++[((lp.line,lp.col),c')])).toArray}:Obj))++I,p.1<c':=λp hp=>by
   rw[e2] at hp
   have:p.1∈(ν.zip Mu++I).map (·.1):=by
    rw[e1]
    rcases List.mem_append.mp hp with hp|hp
    ·exact List.mem_map_of_mem (List.mem_append_left _ hp)
    ·rcases List.mem_cons.mp hp with rfl|hp
     ·exact List.mem_map.mpr ⟨(P,_),List.mem_append_right _ (.head _),rfl⟩
     ·exact List.mem_map_of_mem (List.mem_append_right _ (.tail _ hp))
   refine ab (List.mem_map.mp this) λp' hp' e=>?_
   rw[←e]
   exact Nat.lt_of_lt_of_le (Heap.lt_size (S.N p' hp').1) Nb
  have big:sysModules<c':=Nat.lt_of_lt_of_le S.fresh.2.2 Nb
  have hLc:c'≠c.L:=Nat.ne_of_gt (Nat.lt_of_lt_of_le S.F.ns.lt Nb)
  have h0c:c.h₀.get? c'=none:=Heap.get?_none_of_le (Nat.le_trans S.F.above (Nat.le_of_lt (Nat.lt_of_lt_of_le S.F.ns.lt Nb)))
  have rc:az G (ν++[c']) I oc (.code (q0++ "<lambda>")):=.code hdc (by rw[←Nm];exact hqc)
  obtain⟨dR,jU,aeZ⟩:=jT.iV (x:=c') (o:=oc) (b:=.code (q0++ "<lambda>")) gj (λp hp=>by
   rcases List.mem_cons.mp hp with rfl|hp
   ·exact⟨hoc,hLc,h0c⟩
   ·exact jn p hp) QQ big rc
  have mi:=dR.F.push (kla_obj "<lambda>" (c.env.qual++ "<lambda>") la lb ls cl ((G.mg "__name__").getD .none) c' ctv)
  have tH:=dR.N.push dR.F (kla_obj "<lambda>" (c.env.qual++ "<lambda>") la lb ls cl ((G.mg "__name__").getD .none) c' ctv)
  have ae0:(dq H t (.tab P t (l'.map (·.1)++[(lp.line,lp.col)]))).length=H.length:=by rw[fw];simp
  have rk:az G ((ν++[c'])++[h'.objs.size]) I (kla_obj "<lambda>" (c.env.qual++ "<lambda>") la lb ls cl ((G.mg "__name__").getD .none) c' ctv) (.lh (dq H t (.tab P t (l'.map (·.1)++[(lp.line,lp.col)]))).length (q0++ "<lambda>") lb ls cells):=
   .lh rfl rfl rfl (by rw[Nm]) rfl rfl ZJ rfl rfl rfl (fh ⟨_,rfl⟩ aeZ) (λx i e=>by
    obtain⟨a,h1,h2⟩:=qj x i e
    exact⟨a,h1,fh ⟨_,rfl⟩ (jU.at h2)⟩) rX
  obtain⟨bZ,jm,ZM⟩:=St.newObj (s:={s with heap:=h',toks:=tk}) dR mi tH (Nat.le_refl _) rk
  rw[List.append_assoc (dq H t _)] at bZ
  have ZN:((ν++[c'])++[h'.objs.size])[(dq H t (.tab P t (l'.map (·.1)++[(lp.line,lp.col)]))).length+1]?=some h'.objs.size:=by
   have:(dq H t (Ob.tab P t (l'.map (·.1)++[(lp.line,lp.col)]))++[Ob.code (q0++ "<lambda>")]).length=(dq H t (.tab P t (l'.map (·.1)++[(lp.line,lp.col)]))).length+1:=by simp
   rw[this] at ZM
   exact ZM
  exact post _ tk _ _ _ _ (jU.trans jm) bZ (.obj ZN)
end
section
variable{G:Gc}{c:Fc}{s:Shared}{h h':Heap}{m m':Str->Option Value}{ν:List Addr}{Mu:List Obj}{I:Led}{ρ:ah}{H H':List Ob}{n:Nat}{sc:Sc}
structure Sound(G:Gc)(n:Nat)(ih:Ih):Prop where
 oE:∀sc e ρ H r,ih.E sc e ρ H=some r->dA G n sc e ρ H r
 oT:∀sc e ρ H r,ih.T sc e ρ H=some r->oz G n sc e ρ H r
 qo:∀sc es ρ H r,ih.Es sc es ρ H=some r->hU G n sc es ρ H r
 oD:∀sc ks es ρ H r,ih.D sc ks es ρ H=some r->GX G n sc ks es ρ H r
 oI:∀sc e ρ H r,ih.I sc e ρ H=some r->Dg G n sc e ρ H r
 oG:∀sc t elt ifs i j ρ H r,ih.G sc t elt ifs i j ρ H=some r->Gd G n sc t elt ifs i j ρ H r
 QR:∀sc es ρ H r,ih.YN sc es ρ H=some r->lQ G n sc es ρ H r
 oC:∀f vs H r,ih.C f vs H=some r->NR G n f vs H r
 oF:∀a vs H r,ih.F a vs H=some r->aW G n a vs H r
 Nn:∀sc ss ρ H r,ih.Ss sc ss ρ H=some r->gJ G n sc ss ρ H r
 oS:∀sc st ρ H r,ih.S sc st ρ H=some r->qH G n sc st ρ H r
 oL:∀sc t body i ρ H r,ih.L sc t body i ρ H=some r->KH G n sc t body i ρ H r
 oW:∀sc t body ρ H r,ih.W sc t body ρ H=some r->Mx G n sc t body ρ H r
theorem Dq{op:BoolOp}{e:Expr}{p:Pos}{r:Rs V}(h:dA G n sc e ρ H r):dA G n sc (.BoolOp op [e] p) ρ H r:=by
 rintro c s m ν Mu I ok au S l Q E post
 have z:=h c s m ν Mu I ok au S l Q E post
 induction op<;>exact z
theorem yo{ih:Ih}(so:Sound G n ih){elt t fz:Expr}{ifs:List Expr}{a:Int}{scope:Scope}{pos:Pos}{r:Rs V}(h:sd ih sc elt t fz ifs a scope ρ H=some r):jJ G n sc elt t fz ifs a scope pos ρ H r:=by
 refine pC h ?_ ?_
 ·clear h;intro hz h
  refine ad6 hz ?_;clear hz;intro _ _ _ ay hz;subst ay
  refine abk hz ?_;clear hz;intro _ _ _ _ ay hz;subst ay
  refine ad0 hz ?_;clear hz;intro _ _ _ _ ay hz;subst ay
  refine aaU hz ?_;clear hz;intro ay hz;subst ay
  exact De hz (λr q=>so.oE _ _ _ _ _ q) (λH₁ r q=>so.qo _ _ _ _ _ q) (λcells bj H₁ r q=>so.oE _ _ _ _ _ q) h
 ·clear h;intro _ h
  exact zl (λr q=>so.oI _ _ _ _ _ q) (λcells i H₁ r q=>so.oG _ _ _ _ _ _ _ _ _ q) h
theorem Pm(gk:ko G)(lk:PN G){ih:Ih}(so:Sound G n ih){e:Expr}{r:Rs V}(h:stE G.cf ih sc e ρ H=some r):dA G n sc e ρ H r:=by
 induction e using Expr.casesOn with
 |Constant k a p=>
  refine cP h ?_;clear h;intro v hv h
  obtain rfl:=ai h
  exact Bn hv
 |Name x p=>
  refine cP h ?_;clear h;intro v hv h
  obtain rfl:=ai h
  exact Jg gk hv
 |Tuple es k p=>
  rcases bf h with⟨vs,H₁,q1,q2⟩|⟨x,H₁,q1,rfl⟩
  ·refine ix q2 ?_;clear q2;intro hz q2
   obtain rfl:=ai q2
   exact vi (so.qo _ _ _ _ _ q1) λQS H' e=>by cases e;exact hz
  ·exact vi (so.qo _ _ _ _ _ q1) λQS H' e=>by cases e
 |List es p=>
  rcases bf h with⟨vs,H₁,q1,q2⟩|⟨x,H₁,q1,rfl⟩
  ·refine ix q2 ?_;clear q2;intro hz q2
   obtain rfl:=ai q2
   exact sr (so.qo _ _ _ _ _ q1) λQS H' e=>by cases e;exact hz
  ·exact sr (so.qo _ _ _ _ _ q1) λQS H' e=>by cases e
 |Dict ks es p=>
  induction ks using List.casesOn with
  |nil=>
   induction es using List.casesOn with
   |nil=>obtain rfl:=ai h;exact BF
   |cons _ _=>exact no h
  |cons k ks=>
   refine ix h ?_;clear h;intro hc h
   refine aJ hc λh1 h2=>?_
   exact HU h1 (by simp) (by have:=Nat.le_of_ble_eq_true h2;simp;omega) (λH₁ r q=>so.oD _ _ _ _ _ _ q) h
 |Attribute e x p=>
  refine ix h ?_;clear h;intro hn h
  exact Hg gk hn (λr q=>so.oE _ _ _ _ _ q) h
 |Compare l ops rs p=>
  induction ops using List.casesOn with
  |nil=>exact no h
  |cons op ops=>
   induction ops using List.casesOn with
   |cons _ _=>exact no h
   |nil=>
    induction rs using List.casesOn with
    |nil=>exact no h
    |cons r' rs=>
     induction rs using List.casesOn with
     |cons _ _=>exact no h
     |nil=>
      refine n5 h ?_;clear h;intro hs h
      exact Oi (ia:=λH=>ih.E sc l ρ H) (ib:=λH=>ih.E sc r' ρ H) hs (λr q=>so.oE _ _ _ _ _ q) (λH₁ r q=>so.oE _ _ _ _ _ q) h
 |IfExp t a b p=>exact Va (it:=λH=>ih.T sc t ρ H) (ia:=λH=>ih.E sc a ρ H) (ib:=λH=>ih.E sc b ρ H) (λr q=>so.oT _ _ _ _ _ q) (λH₁ r q=>so.oE _ _ _ _ _ q) (λH₁ r q=>so.oE _ _ _ _ _ q) h
 |UnaryOp op e p=>exact N6 (ia:=λH=>ih.E sc e ρ H) (λr q=>so.oE _ _ _ _ _ q) h
 |BinOp l op r' p=>exact C7 (ia:=λH=>ih.E sc l ρ H) (ib:=λH=>ih.E sc r' ρ H) (λr q=>so.oE _ _ _ _ _ q) (λH₁ r q=>so.oE _ _ _ _ _ q) h
 |Subscript e i p=>
  by_cases ER:∃a b d p',i=.Slice a b d p'
  ·refine Xo ER ?_;clear ER;intro lo hi st p' aU;subst aU
   induction st with
   |some _=>exact no h
   |none=>exact Dp (ie:=λH=>ih.E sc e ρ H) (λr q=>so.oE _ _ _ _ _ q) h
  ·have h':(andThen (ih.E sc e ρ H) λv H=>andThen (ih.E sc i ρ H) λk H=>bE (item G.cf H v k) λu=>bV u H)=some r:=by
    induction i using Expr.casesOn<;>first|exact h|exact absurd ⟨_,_,_,_,rfl⟩ ER
   exact HV (ie:=λH=>ih.E sc e ρ H) (ii:=λH=>ih.E sc i ρ H) gk (λa b d p' e=>ER ⟨a,b,d,p',e⟩) (λr q=>so.oE _ _ _ _ _ q) (λH₁ r q=>so.oE _ _ _ _ _ q) h'
 |BoolOp op es p=>
  induction es using List.casesOn with
  |nil=>exact no h
  |cons fW es=>
   induction es using List.casesOn with
   |nil=>exact Dq (so.oE _ _ _ _ _ h)
   |cons jl es=>exact FD (ie:=λH=>ih.E sc fW ρ H) (ir:=λH=>ih.E sc (.BoolOp op (jl::es) p) ρ H) (λr q=>so.oE _ _ _ _ _ q) (λH₁ r q=>so.oE _ _ _ _ _ q) h
 |Call f args kw p=>
  induction kw using List.casesOn with
  |cons _ _=>exact no h
  |nil=>
   have h:Di G.cf ih sc f args p ρ H=some r:=h
   refine gB h ?_;clear h;intro hs h
   induction f using Expr.casesOn with
   |Attribute o x apos=>
    refine gB h ?_;clear h;intro hc h
    refine aJ hc ?_;clear hc;intro hc hl
    refine aJ hc λhn hp=>?_
    exact sO (ies:=λH=>ih.Es sc args ρ H) (iF:=ih.F) gk hs hn hp (Nat.le_of_ble_eq_true hl) (λr q=>so.oE _ _ _ _ _ q) (λH₁ r q=>so.qo _ _ _ _ _ q) (λa vs H₁ r q=>so.oF _ _ _ _ q) h
   |Name x p=>exact tx (ies:=λH=>ih.Es sc args ρ H) (ic:=ih.C) gk hs (λenv=>rfl) (λr q=>so.oE _ _ _ _ _ q) (λH₁ r q=>so.qo _ _ _ _ _ q) (λa vs H₁ r q=>so.oC _ _ _ _ q) h
   |Subscript a b p=>exact uF (ies:=λH=>ih.Es sc args ρ H) (ic:=ih.C) gk hs (λenv=>rfl) (λr q=>so.oE _ _ _ _ _ q) (λH₁ r q=>so.qo _ _ _ _ _ q) (λa vs H₁ r q=>so.oC _ _ _ _ q) h
   |_=>exact no h
 |ListComp elt gs sc' p=>
  induction gs using List.casesOn with
  |nil=>exact no h
  |cons g gs=>
   induction gs using List.casesOn with
   |cons _ _=>exact no h
   |nil=>
    obtain⟨t,it,ifs,a⟩:=g
    exact yB (yo so h)
 |Lambda la lb ls lp=>exact zw lk h
 |_=>exact no h
end
section
variable{G:Gc}{c:Fc}{s:Shared}{h h':Heap}{m m':Str->Option Value}{ν:List Addr}{Mu:List Obj}{I:Led}{ρ:ah}{H H':List Ob}{n k:Nat}{sc:Sc}{ih:Ih}
theorem NT(so:Sound G n ih){e:Expr}{r:Rs Bool}(h:stT G.cf ih sc e ρ H=some r):oz G n sc e ρ H r:=by
 induction e using Expr.casesOn with
 |UnaryOp op e p=>
  induction op<;>first|exact Ji (it:=λH=>ih.T sc e ρ H) (λr q=>so.oT _ _ _ _ _ q) h|exact no h
 |BoolOp op es p=>
  induction es using List.casesOn with
  |nil=>
   induction op using BoolOp.casesOn
   ·obtain rfl:=ai h;exact Bk
   ·obtain rfl:=ai h;exact IC
  |cons fW es=>
   induction op using BoolOp.casesOn
   ·exact IE (it:=λH=>ih.T sc fW ρ H) (ir:=λH=>ih.T sc (.BoolOp .And es p) ρ H) (λr q=>so.oT _ _ _ _ _ q) (λH₁ r q=>so.oT _ _ _ _ _ q) h
   ·exact OW (it:=λH=>ih.T sc fW ρ H) (ir:=λH=>ih.T sc (.BoolOp .Or es p) ρ H) (λr q=>so.oT _ _ _ _ _ q) (λH₁ r q=>so.oT _ _ _ _ _ q) h
 |Compare l ops rs p=>
  induction ops using List.casesOn with
  |nil=>exact no h
  |cons op ops=>
   induction ops using List.casesOn with
   |cons _ _=>exact no h
   |nil=>
    induction rs using List.casesOn with
    |nil=>exact no h
    |cons r' rs=>
     induction rs using List.casesOn with
     |cons _ _=>exact no h
     |nil=>
      refine n5 h ?_;clear h;intro hs h
      exact FZ (ia:=λH=>ih.E sc l ρ H) (ib:=λH=>ih.E sc r' ρ H) hs (λr q=>so.oE _ _ _ _ _ q) (λH₁ r q=>so.oE _ _ _ _ _ q) h
 |Name x p=>exact j5 (ie:=λH=>ih.E sc (.Name x p) ρ H) rfl (λr q=>so.oE _ _ _ _ _ q) h
 |Attribute o x p=>exact j5 (ie:=λH=>ih.E sc (.Attribute o x p) ρ H) rfl (λr q=>so.oE _ _ _ _ _ q) h
 |Call f a kw p=>exact j5 (ie:=λH=>ih.E sc (.Call f a kw p) ρ H) rfl (λr q=>so.oE _ _ _ _ _ q) h
 |Constant kk nn p=>exact j5 (ie:=λH=>ih.E sc (.Constant kk nn p) ρ H) rfl (λr q=>so.oE _ _ _ _ _ q) h
 |_=>exact no h
theorem Jl(so:Sound G n ih){es:List Expr}{r:Rs (List V)}(h:W3 G.cf ih sc es ρ H=some r):hU G n sc es ρ H r:=by
 induction es using List.casesOn with
 |nil=>obtain rfl:=ai h;exact xR
 |cons e es=>
  refine n5 h ?_;clear h;intro hs h
  rcases bf h with⟨v,H₁,q1,h⟩|⟨x,H₁,q1,rfl⟩
  ·rcases bf h with⟨vs,aQ,q2,h⟩|⟨x,aQ,q2,rfl⟩
   ·obtain rfl:=ai h
    exact lP hs (so.oE _ _ _ _ _ q1) (so.qo _ _ _ _ _ q2)
   ·exact lP hs (so.oE _ _ _ _ _ q1) (so.qo _ _ _ _ _ q2)
  ·exact FI hs (so.oE _ _ _ _ _ q1)
theorem PB(so:Sound G n ih){ks:List (Option Expr)}{es:List Expr}{r:Rs (List (Str×V))}(h:stD G.cf ih sc ks es ρ H=some r):GX G n sc ks es ρ H r:=by
 refine abP h ?_ ?_
 ·clear h;intro ay jS h;subst ay;subst jS
  obtain rfl:=ai h;exact Ff
 ·clear h;intro x kn kp ks e es ay jS h;subst ay;subst jS
  exact DB (ie:=ih.E sc e ρ H) (id:=λH=>ih.D sc ks es ρ H) (λr q=>so.oE _ _ _ _ _ q) (λH₁ r q=>so.oD _ _ _ _ _ _ q) h
theorem NV(so:Sound G n ih){e:Expr}{r:Rs It}(h:stI G.cf ih sc e ρ H=some r):Dg G n sc e ρ H r:=by
 have plain:∀e,BX G.cf ih sc e ρ H=some r->Dg G n sc e ρ H r:=λe h=>zZ (ie:=ih.E sc e ρ H) (λr q=>so.oE _ _ _ _ _ q) h
 refine n5 h ?_;clear h;intro _ h
 refine acy h ?_ ?_
 ·clear h;intro _ _ _ _ ay h;subst ay
  refine ab9 h ?_ ?_
  ·clear h;intro ay h;subst ay
   refine aaN h ?_ ?_
   ·clear h;intro _ _ ay h;subst ay
    refine pC h ?_ ?_
    ·clear h;intro _ h
     refine gB h ?_;clear h;intro hs h
     exact AE (ies:=λH=>ih.Es sc _ ρ H) hs (λr q=>so.oE _ _ _ _ _ q) (λH₁ r q=>so.qo _ _ _ _ _ q) h
    ·clear h;intro _ h
     exact plain _ h
   ·clear h;intro h
    exact plain _ h
  ·clear h;intro _ _ ay h;subst ay
   exact plain _ h
 ·clear h;intro h
  exact plain _ h
theorem CP(so:Sound G n ih){es:List Expr}{r:Rs Bool}(h:Lc G.cf ih sc es ρ H=some r):lQ G n sc es ρ H r:=by
 induction es using List.casesOn with
 |nil=>obtain rfl:=ai h;exact yS
 |cons e es=>exact wX (it:=ih.T sc e ρ H) (is:=λH=>ih.YN sc es ρ H) (λr q=>so.oT _ _ _ _ _ q) (λH₁ r q=>so.QR _ _ _ _ _ q) h
theorem Qc(so:Sound G n ih){t elt:Expr}{ifs:List Expr}{i:It}{j:Nat}{r:Rs Unit}(h:stG G.cf ih sc t elt ifs i j ρ H=some r):Gd G n sc t elt ifs i j ρ H r:=
 C5 (iIfs:=λρ H=>ih.YN sc ifs ρ H) (iE:=λρ H=>ih.E sc elt ρ H) (iG:=λi ρ H=>ih.G sc t elt ifs i j ρ H) (λζ ζ r q=>so.QR _ _ _ _ _ q) (λζ ζ r q=>so.oE _ _ _ _ _ q) (λζ ζ ζ r q=>so.oG _ _ _ _ _ _ _ _ _ q) h
theorem FX(so:Sound G n ih){ss:List Stmt}{r:Rs fi}(h:RR G.cf ih sc ss ρ H=some r):gJ G n sc ss ρ H r:=by
 induction ss using List.casesOn with
 |nil=>obtain rfl:=ai h;exact D1
 |cons st ss=>exact rS (is:=ih.S sc st ρ H) (iss:=λρ H=>ih.Ss sc ss ρ H) (λr q=>so.oS _ _ _ _ _ q) (λζ ζ r q=>so.Nn _ _ _ _ _ q) h
theorem Px(so:Sound G n ih){t:Expr}{body:List Stmt}{i:It}{r:Rs fi}(h:stL G.cf ih sc t body i ρ H=some r):KH G n sc t body i ρ H r:=
 B4 (ib:=λρ H=>ih.Ss sc body ρ H) (il:=λi ρ H=>ih.L sc t body i ρ H) (λζ ζ r q=>so.Nn _ _ _ _ _ q) (λζ ζ ζ r q=>so.oL _ _ _ _ _ _ _ q) h
theorem O8(so:Sound G n ih){t:Expr}{body:List Stmt}{r:Rs fi}(h:stW G.cf ih sc t body ρ H=some r):Mx G n sc t body ρ H r:=
 Dj (it:=ih.T sc t ρ H) (ib:=λH=>ih.Ss sc body ρ H) (iw:=λρ H=>ih.W sc t body ρ H) (λr q=>so.oT _ _ _ _ _ q) (λζ r q=>so.Nn _ _ _ _ _ q) (λζ ζ r q=>so.oW _ _ _ _ _ _ q) h
end
section
variable{G:Gc}{c:Fc}{s:Shared}{h h':Heap}{m m':Str->Option Value}{ν:List Addr}{Mu:List Obj}{I:Led}{ρ:ah}{H H':List Ob}{n k:Nat}{sc:Sc}{ih:Ih}
theorem dA.up{e:Expr}{r:Rs V}(x:dA G n sc e ρ H r):dA G (n+1) sc e ρ H r:=λc s m ν Mu I ok=>x c s m ν Mu I (ok.less (Nat.le_succ _))
theorem oz.up{e:Expr}{r:Rs Bool}(x:oz G n sc e ρ H r):oz G (n+1) sc e ρ H r:=λc s m ν Mu I Q E ok=>x c s m ν Mu I Q E (ok.less (Nat.le_succ _))
theorem hU.up{e:List Expr}{r:Rs (List V)}(x:hU G n sc e ρ H r):hU G (n+1) sc e ρ H r:=λc s m ν Mu I Q E pos ok=>x c s m ν Mu I Q E pos (ok.less (Nat.le_succ _))
theorem GX.up{ks:List (Option Expr)}{e:List Expr}{r:Rs (List (Str×V))}(x:GX G n sc ks e ρ H r):GX G (n+1) sc ks e ρ H r:=λc s m ν Mu I Q E pos ok=>x c s m ν Mu I Q E pos (ok.less (Nat.le_succ _))
theorem Dg.up{e:Expr}{r:Rs It}(x:Dg G n sc e ρ H r):Dg G (n+1) sc e ρ H r:=λc s m ν Mu I Q E ok=>x c s m ν Mu I Q E (ok.less (Nat.le_succ _))
theorem Gd.up{t e:Expr}{ifs:List Expr}{i:It}{j:Nat}{r:Rs Unit}(x:Gd G n sc t e ifs i j ρ H r):Gd G (n+1) sc t e ifs i j ρ H r:=λc s m ν Mu I R x' o oC mC aj fz scope pos H' ok=>x c s m ν Mu I R x' o oC mC aj fz scope pos H' (ok.less (Nat.le_succ _))
theorem lQ.up{e:List Expr}{r:Rs Bool}(x:lQ G n sc e ρ H r):lQ G (n+1) sc e ρ H r:=λc s m ν Mu I Q E ok=>x c s m ν Mu I Q E (ok.less (Nat.le_succ _))
theorem NR.up{f:V}{vs:List V}{r:Rs V}(x:NR G n f vs H r):NR G (n+1) f vs H r:=λc s m ν Mu I u us ok=>x c s m ν Mu I u us (ok.less (Nat.le_succ _))
theorem aW.up{f:Nat}{vs:List V}{r:Rs V}(x:aW G n f vs H r):aW G (n+1) f vs H r:=λc s m ν Mu I us R ok=>x c s m ν Mu I us R (ok.less (Nat.le_succ _))
theorem aW.ups{f:Nat}{vs:List V}{r:Rs V}(x:aW G n f vs H r):∀k,aW G (k+n) f vs H r
 |0=>by rw[Nat.zero_add];exact x
 |k+1=>by rw[Nat.succ_add];exact(aW.ups x k).up
theorem gJ.up{e:List Stmt}{r:Rs fi}(x:gJ G n sc e ρ H r):gJ G (n+1) sc e ρ H r:=λc s m ν Mu I Q E ok=>x c s m ν Mu I Q E (ok.less (Nat.le_succ _))
theorem qH.up{e:Stmt}{r:Rs fi}(x:qH G n sc e ρ H r):qH G (n+1) sc e ρ H r:=λc s m ν Mu I Q E ok=>x c s m ν Mu I Q E (ok.less (Nat.le_succ _))
theorem KH.up{t:Expr}{body:List Stmt}{i:It}{r:Rs fi}(x:KH G n sc t body i ρ H r):KH G (n+1) sc t body i ρ H r:=λc s m ν Mu I R x' o ok=>x c s m ν Mu I R x' o (ok.less (Nat.le_succ _))
theorem Mx.up{t:Expr}{body:List Stmt}{r:Rs fi}(x:Mx G n sc t body ρ H r):Mx G (n+1) sc t body ρ H r:=λc s m ν Mu I R ok=>x c s m ν Mu I R (ok.less (Nat.le_succ _))
set_option tactic.hygienic true in
theorem OR(gk:ko G)(xo:Ow G)(so:Sound G n ih){st:Stmt}{r:Rs fi}(h:stS G.cf ih sc st ρ H=some r):qH G (n+1) sc st ρ H r:=by
 induction st using Stmt.casesOn with
 |Expr e p=>
  refine n5 h ?_;clear h;intro hn h
  exact(CC (ie:=ih.E sc e ρ H) hn (λr q=>so.oE _ _ _ _ _ q) h).up
 |Assign ts e p=>
  induction ts using List.casesOn with
  |nil=>exact no h
  |cons t ts=>
   induction ts using List.casesOn with
   |cons _ _=>exact no h
   |nil=>
    induction t using Expr.casesOn with
    |Attribute o x q=>exact(nE (ie:=ih.E sc e ρ H) (io:=λH=>ih.E sc o ρ H) gk (λr q=>so.oE _ _ _ _ _ q) (λζ r q=>so.oE _ _ _ _ _ q) h).up
    |Subscript o k q=>
     refine n5 h ?_;clear h;intro _ h
     exact(oR (ie:=ih.E sc e ρ H) (io:=λH=>ih.E sc o ρ H) (ii:=λH=>ih.E sc k ρ H) gk (λr q=>so.oE _ _ _ _ _ q) (λζ r q=>so.oE _ _ _ _ _ q) (λζ r q=>so.oE _ _ _ _ _ q) h).up
    |Name x q=>
     refine BZ h ?_ ?_
     ·clear h;intro hc h
      exact(nD (ie:=ih.E sc e ρ H) hc (λr q=>so.oE _ _ _ _ _ q) h).up
     ·clear h;intro _ h
      induction e using Expr.casesOn with
      |ListComp elt gs sc' pp=>
       induction gs using List.casesOn with
       |nil=>exact no h
       |cons g gs=>
        induction gs using List.casesOn with
        |cons _ _=>exact no h
        |nil=>
         obtain⟨t,it,ifs,a⟩:=g
         exact(nu (ic:=sd ih sc elt t it ifs a sc' ρ H) (λr q=>yo so q) h).up
      |_=>exact no h
    |Tuple ts tk q=>
     refine n5 h ?_;clear h;intro hn h
     exact(mL (ie:=ih.E sc e ρ H) hn (λr q=>so.oE _ _ _ _ _ q) h).up
    |_=>exact no h
 |If t a b p=>exact(Pw (it:=ih.T sc t ρ H) (ia:=λH=>ih.Ss sc a ρ H) (ib:=λH=>ih.Ss sc b ρ H) (λr q=>so.oT _ _ _ _ _ q) (λζ r q=>so.Nn _ _ _ _ _ q) (λζ r q=>so.Nn _ _ _ _ _ q) h).up
 |For t e body EP p=>
  induction EP using List.casesOn with
  |cons _ _=>exact no h
  |nil=>
   refine n5 h ?_;clear h;intro vI h
   exact(Gk (ii:=ih.I sc e ρ H) (il:=λi H=>ih.L sc t body i ρ H) vI (λr q=>so.oI _ _ _ _ _ q) (λi H₁ r q=>so.oL _ _ _ _ _ _ _ q) h).up
 |While t body EP p=>
  induction EP using List.casesOn with
  |cons _ _=>exact no h
  |nil=>exact(zo (so.oW _ _ _ _ _ _ h)).up
 |Return e p=>
  induction e with
  |none=>obtain rfl:=ai h;exact vd
  |some e=>exact(pB (ie:=ih.E sc e ρ H) (λr q=>so.oE _ _ _ _ _ q) h).up
 |Raise ex cause p=>
  induction cause with
  |some _=>exact no h
  |none=>
   induction ex with
   |none=>exact no h
   |some e=>
    induction e using Expr.casesOn with
    |Call f args kw cp=>
     induction kw using List.casesOn with
     |cons _ _=>exact no h
     |nil=>
      induction f using Expr.casesOn with
      |Name cn np=>
       refine gB h ?_;clear h;intro hs h
       exact Ax (ie:=ih.E sc (.Name cn np) ρ H) (ies:=λH=>ih.Es sc args ρ H) xo hs (λr q=>(so.oE _ _ _ _ _ q).up) (λζ r q=>(so.qo _ _ _ _ _ q).up) h
      |_=>exact no h
    |_=>exact no h
 |_=>exact no h
def rr(G:Gc)(k:Nat):Prop:=∀a vs H r,G.cf.fU a vs H=some r->aW G k a vs H r
theorem Od(gk:ko G)(oo:rr G k)(so:Sound G (n+k) ih){a:Addr}{vs:List V}{r:Rs V}(h:stF G.cf ih a vs H=some r):aW G (n+k+1) a vs H r:=by
 dsimp only[stF] at h
 cases q:G.cf.fU a vs H with
 |some r'=>
  rw[q] at h
  obtain rfl:=ai h
  exact((oo _ _ _ _ q).ups n).up
 |none=>
  rw[q] at h
  refine cP h ?_;clear h;intro f hf h
  refine cP h ?_;clear h;intro b hb h
  rcases bf h with⟨⟨qi,o⟩,H₁,q1,q2⟩|⟨x,H₁,q1,rfl⟩
  ·have z:=sg gk (r:=.ok (qi,o) H₁) hf hb (so.Nn _ _ _ _ _ q1)
   (first|exact no o|exact nf o|subst o|refine VM o ?_|induction o)<;>(obtain rfl:=ai q2;exact z)
  ·exact sg gk (r:=.exc x H₁) hf hb (so.Nn _ _ _ _ _ q1)
set_option tactic.hygienic true in
theorem sound(gk:ko G)(lk:PN G)(xo:Ow G)(oo:rr G k):∀n,Sound G (n+k) (ev G.cf n)
 |0=>by constructor<;>(intros;rename_i q;exact no q)
 |n+1=>by
  have so:=sound gk lk xo oo n
  have e:n+1+k=n+k+1:=by omega
  rw[e]
  exact{
   oE:=λζ ζ ζ ζ ζ q=>(Pm gk lk so q).up
   oT:=λζ ζ ζ ζ ζ q=>(NT so q).up
   qo:=λζ ζ ζ ζ ζ q=>(Jl so q).up
   oD:=λζ ζ ζ ζ ζ ζ q=>(PB so q).up
   oI:=λζ ζ ζ ζ ζ q=>(NV so q).up
   oG:=λζ ζ ζ ζ ζ ζ ζ ζ ζ q=>(Qc so q).up
   QR:=λζ ζ ζ ζ ζ q=>(CP so q).up
   oC:=λζ ζ ζ ζ q=>adi gk so.oE so.oF q
   oF:=λζ ζ ζ ζ q=>Od gk oo so q
   Nn:=λζ ζ ζ ζ ζ q=>(FX so q).up
   oS:=λζ ζ ζ ζ ζ q=>OR gk xo so q
   oL:=λζ ζ ζ ζ ζ ζ ζ q=>(Px so q).up
   oW:=λζ ζ ζ ζ ζ ζ q=>(O8 so q).up}
end
section
variable{G:Gc}{c:Fc}{s:Shared}{h h':Heap}{m m':Str->Option Value}{ν:List Addr}{Mu:List Obj}{I:Led}{ρ:ah}{H H':List Ob}{n:Nat}{sc:Sc}
noncomputable def jr(σ:List Nat)(i:Nat):Nat:=match cJ σ i with
 |some j=>j
 |none=>0
mutual
noncomputable def nR(σ:List Nat):V->V
 |.tup vs=>.tup (fg σ vs)
 |.obj i=>.obj (jr σ i)
 |.none=>.none
 |.bool b=>.bool b
 |.int i=>.int i
 |.str x=>.str x
 |.glob v=>.glob v
 |.held d k s r=>.held d k s r
 |.aL d k s l=>.aL d k s l
 |.dN s r=>.dN s r
 |.b9 s l=>.b9 s l
noncomputable def fg(σ:List Nat):List V->List V
 |[]=>[]
 |v::vs=>nR σ v::fg σ vs
end
noncomputable def iL(σ:List Nat):List (Str×V)->List (Str×V)
 |[]=>[]
 |(x,v)::r=>(x,nR σ v)::iL σ r
noncomputable def BW(σ:List Nat):List (Str×Nat)->List (Str×Nat)
 |[]=>[]
 |(x,i)::r=>(x,jr σ i)::BW σ r
noncomputable def jf(σ:List Nat):Ob->Ob
 |.list vs=>.list (fg σ vs)
 |.inst C d=>.inst C (jr σ d)
 |.dict es=>.dict (iL σ es)
 |.attrs es=>.attrs (iL σ es)
 |.cell none=>.cell none
 |.cell (some v)=>.cell (some (nR σ v))
 |.av l=>.av l
 |.tab P t l=>.tab P (jr σ t) l
 |.code q=>.code q
 |.lh cd q lb ls cells=>.lh (jr σ cd) q lb ls (BW σ cells)
 |.ck es=>.ck (iL σ es)
 |.c9 vs=>.c9 (fg σ vs)
 |.other=>.other
mutual
noncomputable def vP(N:Nat):V->Bool
 |.tup vs=>sY N vs
 |.obj i=>Nat.blt i N
 |_=>true
noncomputable def sY(N:Nat):List V->Bool
 |[]=>true
 |v::vs=>vP N v&&sY N vs
end
noncomputable def EN(N:Nat):List (Str×V)->Bool
 |[]=>true
 |(_,v)::r=>vP N v&&EN N r
noncomputable def inC(N:Nat):List (Str×Nat)->Bool
 |[]=>true
 |(_,i)::r=>Nat.blt i N&&inC N r
noncomputable def K3(N:Nat):Ob->Bool
 |.list vs=>sY N vs
 |.inst _ d=>Nat.blt d N
 |.dict es=>EN N es
 |.attrs es=>EN N es
 |.cell (some v)=>vP N v
 |.tab _ t _=>Nat.blt t N
 |.lh cd _ _ _ cells=>Nat.blt cd N&&inC N cells
 |.ck es=>EN N es
 |.c9 vs=>sY N vs
 |_=>true
theorem oy(σ:List Nat):∀vs:List V,(fg σ vs).length=vs.length
 |[]=>rfl
 |_::vs=>congrArg Nat.succ (oy σ vs)
mutual
theorem lI(σ:List Nat)(N:Nat)(s:Int):∀r:Row,nR σ (tree s r)=tree s r/\vP N (tree s r)=true
 |.bad=>by exact⟨by rfl,by rfl⟩
 |.dZ=>by exact⟨by rfl,by rfl⟩
 |.fT=>by exact⟨by rfl,by rfl⟩
 |.blank=>by exact⟨by rfl,by rfl⟩
 |.call=>by exact⟨by rfl,by rfl⟩
 |.dg l=>by
  refine ae (g9 σ N s 0 l) λa b=>?_
  refine⟨?_,?_⟩
  ·show V.tup [nR σ aY,.int s,.tup (fg σ (trees s 0 l))]=_
   rw[a]
   rfl
  ·show(vP N aY&&(vP N (.int s)&&(sY N (trees s 0 l)&&true)))=true
   rw[b]
   rfl
theorem g9(σ:List Nat)(N:Nat)(s k:Int):∀l:List Row,fg σ (trees s k l)=trees s k l/\sY N (trees s k l)=true
 |[]=>by exact⟨rfl,rfl⟩
 |r::l=>by
  refine ae (lI σ N (10*s+k) r) λa b=>?_
  refine ae (g9 σ N s (k+1) l) λa' b'=>?_
  unfold trees
  exact⟨by unfold fg;rw[a,a'],by unfold sY;rw[b,b'];rfl⟩
end
mutual
theorem nQ(σ:List Nat)(N:Nat)(s:Int):∀r:Row,nR σ (fF s r)=fF s r/\vP N (fF s r)=true
 |.bad=>by exact⟨by rfl,by rfl⟩
 |.dZ=>by exact⟨by rfl,by rfl⟩
 |.fT=>by exact⟨by rfl,by rfl⟩
 |.blank=>by exact⟨by rfl,by rfl⟩
 |.call=>by exact⟨by rfl,by rfl⟩
 |.dg l=>by
  refine ae (jG σ N s 0 l) λa b=>?_
  refine⟨?_,?_⟩
  ·show V.tup [nR σ aY,.int s,.tup (fg σ (dG s 0 l))]=_
   rw[a]
   rfl
  ·show(vP N aY&&(vP N (.int s)&&(sY N (dG s 0 l)&&true)))=true
   rw[b]
   rfl
theorem jG(σ:List Nat)(N:Nat)(s k:Int):∀l:List Row,fg σ (dG s k l)=dG s k l/\sY N (dG s k l)=true
 |[]=>by exact⟨rfl,rfl⟩
 |r::l=>by
  refine ae (jG σ N s (k+1) l) λa' b'=>?_
  refine ae (nQ σ N (10*s+k) r) λa b=>?_
  unfold dG
  split
  ·exact⟨a',b'⟩
  ·exact⟨by unfold fg;rw[a,a'],by unfold sY;rw[b,b'];rfl⟩
end
section
variable{K:Frag}{aN aR:List Addr}{cq bS:Led}{σ:List Nat}
theorem Rep.kO(x:∀i a,aN[i]?=some a->aR[jr σ i]?=some a)(y:cy cq bS){u:Value}{v:V}(h:Rep K aN cq u v):Rep K aR bS u (nR σ v):=
 Rep.rec (motive_1:=λu v ζ=>Rep K aR bS u (nR σ v)) (motive_2:=λu v ζ=>ag K aR bS u (fg σ v)) .none .bool .int .str (λh ζ i=>.tup (h.imp (y _ _ _) id) i) (λh=>.obj (x _ _ h)) .glob
  (λ{_ _ _ s r} _ hk hf i=>.held ((lI σ 0 s r).1▸i) hk hf)
  (λ{_ _ _ s l} _ hk hf hl i=>.aL (by
   have z:Rep K aR bS _ (.tup (fg σ (trees s 0 l))):=i
   rw[(g9 σ 0 s 0 l).1] at z
   exact z) hk hf hl)
  (λ{_ s r} _ hf i=>.dN ((nQ σ 0 s r).1▸i) hf)
  (λ{_ s l} _ hf hl i=>.b9 (by
   have z:Rep K aR bS _ (.tup (fg σ (dG s 0 l))):=i
   rw[(jG σ 0 s 0 l).1] at z
   exact z) hf hl) .nil (λζ ζ i j=>.cons i j) h
theorem ag.kO(x:∀i a,aN[i]?=some a->aR[jr σ i]?=some a)(y:cy cq bS){us:List Value}{vs:List V}(h:ag K aN cq us vs):ag K aR bS us (fg σ vs):=by
 induction vs generalizing us with
 |nil=>obtain rfl:=h.x8;exact .nil
 |cons v vs ih=>obtain⟨_,_,rfl,h1,h2⟩:=h.kX;exact .cons (h1.kO x y) (ih h2)
theorem Rep.bare(y:cy bS cq){u:Value}{v:V}(h:Rep K aR bS u v):vP 0 v=true->Rep K aN cq u v:=
 Rep.rec (motive_1:=λu v ζ=>vP 0 v=true->Rep K aN cq u v) (motive_2:=λu v ζ=>sY 0 v=true->ag K aN cq u v) (λζ=>.none) (λb ζ=>.bool b) (λi t ζ=>.int i t) (λi t ζ=>.str i t)
  (λh ζ i e=>.tup (h.imp (y _ _ _) id) (i e)) (λζ e=>absurd (Nat.le_of_ble_eq_true e) (Nat.not_succ_le_zero _)) (λv ζ=>.glob v)
  (λ{_ _ _ s r} _ hk hf i _=>.held (i (lI [] 0 s r).2) hk hf) (λ{_ _ _ s l} _ hk hf hl i _=>.aL (i (g9 [] 0 s 0 l).2) hk hf hl)
  (λ{_ s r} _ hf i _=>.dN (i (nQ [] 0 s r).2) hf) (λ{_ s l} _ hf hl i _=>.b9 (i (jG [] 0 s 0 l).2) hf hl) (λζ=>.nil)
  (λζ ζ i j e=>have q:=Bool.and_eq_true_iff.mp e;.cons (i q.1) (j q.2)) h
theorem Rep.qN(x:∀i a,i<N->aR[jr σ i]?=some a->aN[i]?=some a)(y:cy bS cq)(v:V):∀u:Value,vP N v=true->Rep K aR bS u (nR σ v)->Rep K aN cq u v:=
 V.rec (motive_1:=λv=>∀u:Value,vP N v=true->Rep K aR bS u (nR σ v)->Rep K aN cq u v) (motive_2:=λvs=>∀us:List Value,sY N vs=true->ag K aR bS us (fg σ vs)->ag K aN cq us vs)
  (λζ ζ r=>(Rep.Ds r)▸ .none)
  (λb ζ ζ r=>(Rep.BD (b:=b) r)▸ .bool b)
  (λi ζ ζ r=>Exists.elim (Rep.Kc (i:=i) r) λζ e=>e▸ .int _ _)
  (λi ζ ζ r=>Exists.elim (Rep.MH (x:=i) r) λζ e=>e▸ .str _ _)
  (λvs ih ζ hi r=>Dr (Rep.L7 (vs:=fg σ vs) r) λζ ζ ζ e h hs=>e▸ .tup (h.imp (y _ _ _) id) (ih _ hi hs))
  (λi ζ hi r=>ab (Rep.yd (i:=jr σ i) r) λζ e h=>e▸ .obj (x _ _ (Nat.le_of_ble_eq_true hi) h))
  (λv ζ ζ r=>(Rep.gP (v:=v) r)▸ .glob _)
  (λd k s q ζ ζ r=>cZ (Rep.says (v:=.held d k s q) r) λh hk hf=>.held (h.bare y (lI [] 0 s q).2) hk hf)
  (λd k s q ζ ζ r=>dH (Rep.says (v:=.aL d k s q) r) λh hk hf hl=>.aL (h.bare y (g9 [] 0 s 0 q).2) hk hf hl)
  (λs q ζ ζ r=>ae (Rep.says (v:=.dN s q) r) λh hf=>.dN (h.bare y (nQ [] 0 s q).2) hf)
  (λs q ζ ζ r=>cZ (Rep.says (v:=.b9 s q) r) λh hf hl=>.b9 (h.bare y (jG [] 0 s 0 q).2) hf hl)
  (λζ ζ r=>(ag.x8 r)▸ .nil)
  (λv vs i j ζ hi r=>bP (ag.kX (v:=nR σ v) (vs:=fg σ vs) r) λζ ζ e h hs=>aJ hi λq1 q2=>e▸ .cons (i _ q1 h) (j _ q2 hs)) v
theorem ag.qN(x:∀i a,i<N->aR[jr σ i]?=some a->aN[i]?=some a)(y:cy bS cq)(vs:List V):∀us:List Value,sY N vs=true->ag K aR bS us (fg σ vs)->ag K aN cq us vs:=by
 induction vs with
 |nil=>exact λζ ζ r=>(ag.x8 r)▸ .nil
 |cons v vs j=>exact λζ hi r=>bP (ag.kX (v:=nR σ v) (vs:=fg σ vs) r) λζ ζ e h hs=>aJ hi λq1 q2=>e▸ .cons (Rep.qN x y v _ q1 h) (j _ q2 hs)
theorem Rep.kl(x:∀i a,i<N->aR[jr σ i]?=some a->aN[i]?=some a)(y:cy bS cq){u:Value}{w:V}(r:Rep K aR bS u w)(v:V)(e:w=nR σ v)(hi:vP N v=true):Rep K aN cq u v:=Rep.qN x y v _ hi (e▸r)
theorem ag.kl(x:∀i a,i<N->aR[jr σ i]?=some a->aN[i]?=some a)(y:cy bS cq){us:List Value}{ws:List V}(r:ag K aR bS us ws)(vs:List V)(e:ws=fg σ vs)(hi:sY N vs=true):ag K aN cq us vs:=ag.qN x y vs _ hi (e▸r)
end
end
section
variable{G:Gc}{c:Fc}{s:Shared}{h h':Heap}{m m':Str->Option Value}{ν:List Addr}{Mu:List Obj}{I:Led}{ρ:ah}{H H':List Ob}{n:Nat}{sc:Sc}
section
variable{K:Frag}{P:Params}{aN aR:List Addr}{cq bS:Led}{σ:List Nat}{N:Nat}
noncomputable def Lj(K:Frag)(P:Params)(ν:List Addr)(I:Led)(es:List DictEntry):List (Str×V)->Prop
 |[]=>es=[]
 |(x,v)::fs=>∃t a AZ,es=⟨PyData.keyHash P x,.str x t,a⟩::AZ/\Rep K ν I a v/\cU (K:=K) P ν I AZ fs
theorem cU.says{ν:List Addr}{I:Led}{es:List DictEntry}{fs:List (Str×V)}(r:cU (K:=K) P ν I es fs):Lj K P ν I es fs:=
 cU.rec (motive:=λes fs ζ=>Lj K P ν I es fs) rfl (λh hs ζ=>⟨_,_,_,rfl,h,hs⟩) r
theorem cU.kO(x:∀i a,aN[i]?=some a->aR[jr σ i]?=some a)(y:cy cq bS){es:List DictEntry}{fs:List (Str×V)}(r:cU (K:=K) P aN cq es fs):cU (K:=K) P aR bS es (iL σ fs):=
 cU.rec (motive:=λes fs ζ=>cU (K:=K) P aR bS es (iL σ fs)) .nil (λh ζ i=>.cons (h.kO x y) i) r
theorem cU.qN(x:∀i a,i<N->aR[jr σ i]?=some a->aN[i]?=some a)(y:cy bS cq)(fs:List (Str×V)){es:List DictEntry}(hi:EN N fs=true)(r:cU (K:=K) P aR bS es (iL σ fs)):cU (K:=K) P aN cq es fs:=by
 induction fs generalizing es with
 |nil=>exact(show _=_ from r.says)▸ .nil
 |cons p fs ih=>
  refine Dr (cU.says (fs:=(p.1,nR σ p.2)::iL σ fs) r) λζ ζ ζ e h hs=>?_
  exact aJ hi λq1 q2=>e▸ .cons (h.kl x y p.2 rfl q1) (ih q2 hs)
theorem cU.kl(x:∀i a,i<N->aR[jr σ i]?=some a->aN[i]?=some a)(y:cy bS cq){es:List DictEntry}{gs:List (Str×V)}(r:cU (K:=K) P aR bS es gs)(fs:List (Str×V))(e:gs=iL σ fs)(hi:EN N fs=true):cU (K:=K) P aN cq es fs:=cU.qN x y fs hi (e▸r)
noncomputable def CJ(K:Frag)(ν:List Addr)(I:Led)(es:List (Str×Value)):List (Str×V)->Prop
 |[]=>es=[]
 |(x,v)::fs=>∃a AZ,es=(x,a)::AZ/\Rep K ν I a v/\bh K ν I AZ fs
theorem bh.says{ν:List Addr}{I:Led}{es:List (Str×Value)}{fs:List (Str×V)}(r:bh K ν I es fs):CJ K ν I es fs:=
 bh.rec (motive:=λes fs ζ=>CJ K ν I es fs) rfl (λh hs ζ=>⟨_,_,rfl,h,hs⟩) r
theorem bh.kO(x:∀i a,aN[i]?=some a->aR[jr σ i]?=some a)(y:cy cq bS){es:List (Str×Value)}{fs:List (Str×V)}(r:bh K aN cq es fs):bh K aR bS es (iL σ fs):=
 bh.rec (motive:=λes fs ζ=>bh K aR bS es (iL σ fs)) .nil (λh ζ i=>.cons (h.kO x y) i) r
theorem bh.qN(x:∀i a,i<N->aR[jr σ i]?=some a->aN[i]?=some a)(y:cy bS cq)(fs:List (Str×V)){es:List (Str×Value)}(hi:EN N fs=true)(r:bh K aR bS es (iL σ fs)):bh K aN cq es fs:=by
 induction fs generalizing es with
 |nil=>exact(show _=_ from r.says)▸ .nil
 |cons p fs ih=>
  refine bP (bh.says (fs:=(p.1,nR σ p.2)::iL σ fs) r) λζ ζ e h hs=>?_
  exact aJ hi λq1 q2=>e▸ .cons (h.kl x y p.2 rfl q1) (ih q2 hs)
theorem bh.kl(x:∀i a,i<N->aR[jr σ i]?=some a->aN[i]?=some a)(y:cy bS cq){es:List (Str×Value)}{gs:List (Str×V)}(r:bh K aR bS es gs)(fs:List (Str×V))(e:gs=iL σ fs)(hi:EN N fs=true):bh K aN cq es fs:=bh.qN x y fs hi (e▸r)
theorem oX(x:Str):∀l:List (Str×Nat),bT x (BW σ l)=(bT x l).map (jr σ)
 |[]=>rfl
 |(y,i)::l=>by
  unfold BW
  rw[bU,bU]
  cases du y x
  ·exact oX x l
  ·rfl
theorem OS{x:Str}{i:Nat}:∀{l:List (Str×Nat)},inC N l=true->bT x l=some i->i<N:=by
 intro l_
 induction l_ with
 |nil=>
  intro _ h
  exact no h
 |cons p_ l ih=>
  obtain⟨y,j⟩:=p_
  intro hi h
  refine ae (Bool.and_eq_true_iff.mp (show(Nat.blt j N&&inC N l)=true from hi)) λh1 h2=>?_
  rw[bU] at h
  cases q:du y x with
  |true=>rw[q] at h;obtain rfl:=ai h;exact Nat.le_of_ble_eq_true h1
  |false=>rw[q] at h;exact ih h2 h
theorem az.kO{G:Gc}(x:∀i a,aN[i]?=some a->aR[jr σ i]?=some a)(y:cy cq bS){o:Obj}{b:Ob}(r:az G aN cq o b):az G aR bS o (jf σ b):=
 az.rec (motive:=λo b ζ=>az G aR bS o (jf σ b)) (λh=>.list (h.kO x y)) (λh=>.inst (x _ _ h)) (λh=>.attrs (h.kO x y)) (λhd h=>.dict hd (h.kO x y)) (λhd h=>.ck hd (h.kO x y)) (λh hl=>.c9 (h.kO x y) (by rw[oy];exact hl))
  (λa h=>.cell a (h.kO x y)) (λa=>.mf a) (λh=>.av h) (λh=>.tab (x _ _ h)) (λa b=>.code a b)
  (λhd hb hs hq hg yC hp yD yE mS cb qj rX=>.lh hd hb hs hq hg yC hp yD yE mS (x _ _ cb) (λz i e=>by
   rw[oX] at e
   refine ab (Option.map_eq_some_iff.mp e) λj hj aU=>?_;subst aU
   refine ab (qj z j hj) λa h1 h2=>?_
   exact⟨a,h1,x _ _ h2⟩) rX) .other r
theorem az.qN{G:Gc}(x:∀i a,i<N->aR[jr σ i]?=some a->aN[i]?=some a)(y:cy bS cq){o:Obj}(b:Ob)(hi:K3 N b=true)(r:az G aR bS o (jf σ b)):az G aN cq o b:=by
 induction b using Ob.casesOn with
 |list vs=>exact cz (az.ju (vs:=fg σ vs) r) λζ ζ e h=>e▸ .list (h.kl x y _ rfl hi)
 |inst C d=>exact ab (az.B3 (C:=C) (d:=jr σ d) r) λζ e h=>e▸ .inst (x _ _ (Nat.le_of_ble_eq_true hi) h)
 |attrs fs=>exact cz (az.sD (fs:=iL σ fs) r) λζ ζ e h=>e▸ .attrs (h.kl x y _ rfl hi)
 |dict fs=>exact ab (az.jD (fs:=iL σ fs) r) λζ e h=>.dict e (h.kl x y _ rfl hi)
 |ck fs=>exact ab (az.lX (fs:=iL σ fs) r) λζ e h=>.ck e (h.kl x y _ rfl hi)
 |c9 vs=>exact bP (az.nT (vs:=fg σ vs) r) λζ ζ e h hl=>e▸ .c9 (h.kl x y _ rfl hi) (oy σ vs▸hl)
 |cell v=>
  induction v with
  |none=>exact(az.BI (v:=none) r).elim (λh=>cz h λζ ζ e ζ=>no e) λh=>.mf h.2
  |some v=>exact ab (az.DE (v:=nR σ v) r) λζ hd h=>.cell hd (h.kl x y v rfl hi)
 |av l=>exact RJ (az.NJ (l:=l) r) λζ ζ ζ ζ ζ e h=>e▸ .av h
 |tab P t l=>exact bH (az.Si (P:=P) (t:=jr σ t) (l:=l) r) λl' e el h=>e▸el▸ .tab (x _ _ (Nat.le_of_ble_eq_true hi) h)
 |code q=>exact cz (az.Qe (q:=q) r) λζ ζ a b=>.code a b
 |lh cd q lb ls cells=>
  exact uo (az.U9 (cd:=jr σ cd) (q:=q) (lb:=lb) (ls:=ls) (cells:=BW σ cells) r) λfd ca h=>aJ hi λq1 q2=>
   .lh h.hd h.hb h.hs h.hq h.hg h.yC h.hp h.yD h.yE h.mS (x _ _ (Nat.le_of_ble_eq_true q1) h.cb) (λz i e=>ab (h.qj z (jr σ i) (by rw[oX,e];rfl)) λa h1 h2=>⟨a,h1,x _ _ (OS q2 e) h2⟩) h.rX
 |other=>exact .other
theorem az.kl{G:Gc}(x:∀i a,i<N->aR[jr σ i]?=some a->aN[i]?=some a)(y:cy bS cq){o:Obj}{w:Ob}(r:az G aR bS o w)(b:Ob)(e:w=jf σ b)(hi:K3 N b=true):az G aN cq o b:=az.qN x y b hi (e▸r)
end
theorem Ay{xs:List Value}{k:Nat}{b:Ob}(r:az G ν I (dw xs k) b):b.fixed=true:=by
 have z:=r.says
 induction b using Ob.casesOn<;>first|rfl|skip
 ·obtain⟨_,_,e,_⟩:=z;exact absurd (congrArg Obj.cls e) (by simp)
 ·obtain⟨_,e,_⟩:=z;cases e
 ·obtain⟨_,⟨es,ep,e1,e2,_⟩,_⟩:=z;cases e2
 ·obtain⟨_,_,e,_⟩:=z;exact absurd (congrArg Obj.cls e) (by simp[dictOf])
 ·rcases z with⟨_,_,_,e,_⟩|⟨_,e⟩<;>cases e
 ·obtain⟨_,_,_,_,_,e,_⟩:=z;exact absurd (congrArg Obj.cls e) (by simp)
 ·obtain⟨_,e,_⟩:=z;cases e
 ·obtain⟨_,_,e,_⟩:=z;cases e
 ·obtain⟨_,_,h⟩:=z;cases h.hd
end
section
variable{G:Gc}{c:Fc}{s:Shared}{h h':Heap}{m m':Str->Option Value}{ν:List Addr}{Mu:List Obj}{I:Led}{ρ:ah}{H H₁ H':List Ob}{n:Nat}{sc:Sc}{σ:List Nat}
structure Core(G:Gc)(ν:List Addr)(Mu:List Obj)(I:Led)(H:List Ob):Prop where
 nd:ν.Nodup
 eP:∀p∈I,∀(i:Nat) (b:Ob),ν[i]?=some p.1->H[i]?=some b->b.fixed=true
 len:ν.length=Mu.length
 aT:ν.length=H.length
 ob:∀(i:Nat) (o:Obj) (b:Ob),Mu[i]?=some o->H[i]?=some b->az G ν I o b
 low:∀a∈ν,sysModules<a
theorem St.core(S:St G c h m ν Mu I H):Core G ν Mu I H:=⟨S.nd,S.eP,S.len,S.aT,S.ob,S.low⟩
theorem nF.core{t:Option Value}{e:Addr}{x:Ex}(S:nF G c t h ν Mu I H e x):Core G ν Mu I H:=⟨S.nd,S.eP,S.len,S.aT,S.ob,S.low⟩
theorem Core.st(K:Core G ν Mu I H)(F:Fr c.h₀ c.L h m)(N:News c.h₀ c.L h (ν.zip Mu++I))(big:sysModules<c.h₀.objs.size):St G c h m ν Mu I H:=⟨F,N,K.nd,K.eP,K.len,K.aT,K.ob,big,K.low⟩
def Bj(σ:List Nat)(O o:Ob):Prop:=o=.other∨(O=jf σ o/\K3 σ.length o=true)∨ ∃es,o=.ck es/\O=.dict (iL σ es)/\EN σ.length es=true
structure jk(σ:List Nat)(H H₁:List Ob):Prop where
 nd:σ.Nodup
 len:H₁.length=σ.length
 at_:∀(i:Nat) (o:Ob) (j:Nat),H₁[i]?=some o->σ[i]?=some j->∃O,H[j]?=some O/\Bj σ O o
noncomputable def dy(σ:List Nat)(ν:List Addr):List Addr:=σ.map λj=>(ν[j]?).getD 0
noncomputable def kG(σ:List Nat)(Mu:List Obj):List Obj:=σ.map λj=>(Mu[j]?).getD (dw [] 0)
theorem oj{i j:Nat}{a:Addr}(h:σ[i]?=some j)(ha:ν[j]?=some a):(dy σ ν)[i]?=some a:=by
 unfold dy;rw[List.getElem?_map,h];simp[ha]
theorem DS{i j:Nat}{a:Obj}(h:σ[i]?=some j)(ha:Mu[j]?=some a):(kG σ Mu)[i]?=some a:=by
 unfold kG;rw[List.getElem?_map,h];simp[ha]
theorem tr{i j:Nat}(h:σ[i]?=some j):jr σ i=j:=by
 unfold jr;rw[fb,h]
theorem jw{α:Type}{l:List α}(nd:l.Nodup){i j:Nat}{a:α}(hi:l[i]?=some a)(hj:l[j]?=some a):i=j:=by
 obtain⟨h1,e1⟩:=List.getElem?_eq_some_iff.mp hi
 obtain⟨h2,e2⟩:=List.getElem?_eq_some_iff.mp hj
 have key:=List.pairwise_iff_getElem.mp nd
 rcases Nat.lt_trichotomy i j with q|q|q
 ·exact absurd (e1.trans e2.symm) (key i j h1 h2 q)
 ·exact q
 ·exact absurd (e2.trans e1.symm) (key j i h2 h1 q)
theorem Dt{α β:Type}{l:List α}{r:List β}{p:α×β}(h:p∈l.zip r):∃i:Nat,l[i]?=some p.1/\r[i]?=some p.2:=by
 refine bF (List.mem_iff_getElem?.mp h) λi e=>?_
 exact⟨i,List.getElem?_zip_eq_some.mp e⟩
set_option tactic.hygienic true in
theorem Bj.fixed{O o:Ob}(f:Bj σ O o)(h:o.fixed=false):O=jf σ o/\K3 σ.length o=true/\O.fixed=false:=by
 rcases f with rfl|⟨rfl,hi⟩|⟨es,rfl,_,_⟩
 ·cases h
 ·refine⟨rfl,hi,?_⟩
  induction o using Ob.casesOn<;>first|rfl|(cases h;done)|skip
  rename_i v
  induction v<;>rfl
 ·cases h
section view
theorem jk.id(f:jk σ H H₁)(K:Core G ν Mu I H){i:Nat}(hi:i<σ.length):∃j o O a M,σ[i]?=some j/\H₁[i]?=some o/\H[j]?=some O/\Bj σ O o/\ν[j]?=some a/\Mu[j]?=some M/\(dy σ ν)[i]?=some a/\(kG σ Mu)[i]?=some M:=by
 have h1:σ[i]?=some σ[i]:=List.getElem?_eq_getElem hi
 have h2:H₁[i]?=some (H₁[i]'(by rw[f.len];exact hi)):=List.getElem?_eq_getElem _
 refine ab (f.at_ _ _ _ h2 h1) λO h3 fo=>?_
 have hj:=(List.getElem?_eq_some_iff.mp h3).1
 have h4:ν[σ[i]]?=some (ν[σ[i]]'(by rw[K.aT];exact hj)):=List.getElem?_eq_getElem _
 have h5:Mu[σ[i]]?=some (Mu[σ[i]]'(by rw[←K.len,K.aT];exact hj)):=List.getElem?_eq_getElem _
 exact⟨_,_,_,_,_,h1,h2,h3,fo,h4,h5,oj h1 h4,DS h1 h5⟩
theorem jk.back(f:jk σ H H₁)(K:Core G ν Mu I H):∀i a,i<σ.length->ν[jr σ i]?=some a->(dy σ ν)[i]?=some a:=λi a hi ha=>by
 obtain⟨j,o,O,a',M,h1,h2,h3,h4,h5,h6,h7,h8⟩:=f.id K hi
 rw[tr h1,h5] at ha
 obtain rfl:=ai ha
 exact h7
theorem l8(f:jk σ H H₁)(K:Core G ν Mu I H){i:Nat}{a:Addr}(h:(dy σ ν)[i]?=some a):∃j,σ[i]?=some j/\ν[j]?=some a:=by
 have hi:i<σ.length:=by
  have:=(List.getElem?_eq_some_iff.mp h).1
  unfold dy at this
  rw[List.length_map] at this
  exact this
 obtain⟨j,o,O,a',M,h1,h2,h3,h4,h5,h6,h7,h8⟩:=f.id K hi
 rw[h7] at h
 obtain rfl:=ai h
 exact⟨j,h1,h5⟩
theorem Core.view(K:Core G ν Mu I H)(f:jk σ H H₁):Core G (dy σ ν) (kG σ Mu) I H₁ where
 nd:=by
  refine List.pairwise_iff_getElem.mpr λi j hi hj hij e=>?_
  have M6:j<σ.length:=by unfold dy at hj;rw[List.length_map] at hj;exact hj
  have e:(dy σ ν)[i]?=(dy σ ν)[j]?:=by rw[List.getElem?_eq_getElem hi,List.getElem?_eq_getElem hj,e]
  obtain⟨a1,_,_,b1,_,e1,_,_,_,n1,_,p1,_⟩:=f.id K (Nat.lt_trans hij M6)
  obtain⟨a2,_,_,b2,_,e2,_,_,_,n2,_,p2,_⟩:=f.id K M6
  rw[p1,p2] at e
  obtain rfl:=ai e
  have:=jw K.nd n1 n2
  subst this
  have:=jw f.nd e1 e2
  omega
 eP:=λp hp i b hi hb=>by
  refine ab (l8 f K hi) λj e1 e2=>?_
  refine ab (f.at_ _ _ _ hb e1) λO h3 fo=>?_
  cases q:b.fixed with
  |true=>rfl
  |false=>
   refine cZ (fo.fixed q) λy1 y2 z=>?_
   have:=K.eP p hp j O e2 h3
   rw[z] at this
   cases this
 len:=by unfold dy kG;simp
 aT:=by rw[f.len];unfold dy;simp
 ob:=λi o b ho hb=>by
  have hi:i<σ.length:=by rw[←f.len];exact(List.getElem?_eq_some_iff.mp hb).1
  obtain⟨j,o',O,a,M,h1,h2,h3,h4,h5,h6,h7,h8⟩:=f.id K hi
  rw[h2] at hb
  obtain rfl:=ai hb
  rw[h8] at ho
  obtain rfl:=ai ho
  have r:=K.ob _ _ _ h6 h3
  have bk:=f.back K
  rcases h4 with rfl|⟨rfl,El⟩|⟨es,rfl,rfl,El⟩
  ·exact .other
  ·exact r.kl bk (mJ λζ h=>h) _ rfl El
  ·have z:=r.kl bk (mJ λζ h=>h) (.dict es) rfl El
   refine ab z.jD λy1 hd h=>?_
   exact .ck hd h
 low:=λa ha=>by
  obtain⟨i,hi,e⟩:=List.getElem_of_mem ha
  refine ab (l8 f K (by rw[List.getElem?_eq_getElem hi,e])) λj e1 e2=>?_
  exact K.low a (List.mem_of_getElem? e2)
theorem pd(f:jk σ H H₁)(K:Core G ν Mu I H):∀p∈(dy σ ν).zip (kG σ Mu),p∈ν.zip Mu:=λp hp=>by
 refine ab (Dt hp) λi h1 h2=>?_
 have hi:i<σ.length:=by
  have:=(List.getElem?_eq_some_iff.mp h1).1
  unfold dy at this
  rw[List.length_map] at this
  exact this
 obtain⟨j,o',O,a,M,k1,k2,k3,k4,k5,k6,k7,k8⟩:=f.id K hi
 rw[k7] at h1
 rw[k8] at h2
 have:p=(a,M):=Prod.ext (Option.some.inj h1).symm (Option.some.inj h2).symm
 rw[this]
 exact dU k5 k6
theorem St.view(S:St G c h m ν Mu I H)(f:jk σ H H₁):St G c h m (dy σ ν) (kG σ Mu) I H₁:=
 (S.core.view f).st S.F (fy S.N λp hp=>(List.mem_append.mp hp).elim (λhp=>List.mem_append_left _ (pd f S.core p hp)) λhp=>List.mem_append_right _ hp) S.big
theorem nF.view{t:Option Value}{e:Addr}{x x':Ex}(S:nF G c t h ν Mu I H e x)(f:jk σ H H₁)(hx:x.C=x'.C)(hd:σ[x'.d]?=some x.d):nF G c t h (dy σ ν) (kG σ Mu) I H₁ e x':=by
 have K:=S.core.view f
 refine gr S.yG λB d b1 b2 b3 b4=>?_
 refine⟨K.nd,K.eP,K.len,K.aT,K.ob,S.big,K.low,⟨B,d,b1,λp hp=>b2 p ?_,oj hd b3,hx▸b4⟩,S.fr⟩
 exact(List.mem_append.mp hp).elim (λhp=>List.mem_append_left _ (pd f S.core p hp)) λhp=>List.mem_append_right _ hp
end view
structure pj(k:Nat)(σ:List Nat):Prop where
 at_:∀i:Nat,i<k->σ[i]?=some i
theorem pj.ext(q:pj ν.length σ){aa:List Addr}{aw:List Obj}{I':Led}(f:jk σ H H₁)(K:Core G aa aw I' H)(e:Ext ν aa I I'):Ext ν (dy σ aa) I I' where
 pre:=by
  have hl:ν.length<=(dy σ aa).length:=by
   cases hq:ν.length with
   |zero=>exact Nat.zero_le _
   |succ k=>
    have:=(List.getElem?_eq_some_iff.mp (q.at_ k (by exact abZ ‹_›))).1
    unfold dy
    rw[List.length_map]
    exact this
  rw[List.prefix_iff_eq_take]
  apply List.ext_getElem?
  intro i
  rw[List.getElem?_take]
  split
  ·rename_i hi
   have h1:ν[i]?=some ν[i]:=List.getElem?_eq_getElem hi
   rw[h1,oj (q.at_ i hi) (e.at h1)]
  ·rename_i hi
   exact List.getElem?_eq_none (by exact O9 ‹_›)
 sub:=e.sub
 fr:=λi a hi ha p hp=>by
  refine ab (l8 f K ha) λj e1 e2=>?_
  refine e.fr j a ?_ e2 p hp
  by_cases hj:j<ν.length
  ·have:=jw f.nd e1 (q.at_ j hj)
   omega
  ·exact O9 ‹_›
inductive Seen(k:Nat)(σ:List Nat):Rs V->Rs V->Prop
 |ok {v:V} {H H₁:List Ob} (q:pj k σ) (f:jk σ H H₁) (hv:vP σ.length v=true):Seen k σ (.ok (nR σ v) H) (.ok v H₁)
 |exc {x x':Ex} {H H₁:List Ob} (q:pj k σ) (f:jk σ H H₁) (hc:x.C=x'.C) (hd:σ[x'.d]?=some x.d):Seen k σ (.exc x H) (.exc x' H₁)
theorem aW.seen{a:Addr}{vs:List V}{r r':Rs V}(e:aW G n a vs H r)(w:Seen H.length σ r r'):aW G n a vs H r':=by
 rintro c s m ν Mu I us R ok S rs post
 refine e c s m ν Mu I us R ok S rs ?_
 rw[←S.aT] at w
 cases w with
 |ok q f hv=>
  intro h' ak aa aw I' u x S' ru
  exact post h' ak _ _ I' u (q.ext f S'.core x) (S'.view f) (ru.kl (f.back S'.core) (mJ λζ h=>h) _ rfl hv)
 |exc q f hc hd=>
  intro h' ak aa aw I' ea t x ht fl
  exact post h' ak _ _ I' ea t (q.ext f fl.core x) ht (fl.view f hc hd)
end
section
variable{G:Gc}{c:Fc}{s:Shared}{h h':Heap}{m m':Str->Option Value}{ν:List Addr}{Mu:List Obj}{I:Led}{ρ:ah}{H H₁ H':List Ob}{n:Nat}{sc:Sc}{σ:List Nat}
noncomputable def jB{α:Type}:List Nat->List Ob->List α->List α->List α
 |[],_,_,b=>b
 |j::σ,H₁,xs,b=>match H₁ with
  |[]=>b
  |o::H₁=>match xs with
   |[]=>b
   |x::xs=>jB σ H₁ xs (match o.fixed with|true=>b|false=>dq b j x)
theorem dT{α:Type}(σ:List Nat)(H₁:List Ob)(xs b:List α):(jB σ H₁ xs b).length=b.length:=by
 induction σ generalizing H₁ xs b with
 |nil=>rfl
 |cons j σ ih=>
  induction H₁ using List.casesOn with
  |nil=>rfl
  |cons o H₁=>
   induction xs using List.casesOn with
   |nil=>rfl
   |cons x xs=>
    refine(ih H₁ xs _).trans ?_
    cases o.fixed
    ·show(dq b j x).length=_
     rw[fw,List.length_set]
    ·rfl
theorem pK{α:Type}(σ:List Nat)(H₁:List Ob)(xs b:List α)(j:Nat)(h:∀(i:Nat) (o:Ob),σ[i]?=some j->H₁[i]?=some o->o.fixed=true):(jB σ H₁ xs b)[j]?=b[j]?:=by
 induction σ generalizing H₁ xs b with
 |nil=>rfl
 |cons k σ ih=>
  induction H₁ using List.casesOn with
  |nil=>rfl
  |cons o H₁=>
   induction xs using List.casesOn with
   |nil=>rfl
   |cons x xs=>
    refine(ih H₁ xs _ λi o' h1 h2=>h (i+1) o' h1 h2).trans ?_
    cases q:o.fixed with
    |true=>rfl
    |false=>
     have:k≠j:=λe=>nf (q.symm.trans (h 0 o (congrArg some e) rfl))
     show(dq b k x)[j]?=b[j]?
     rw[fw,List.getElem?_set_ne this]
theorem tV{α:Type}(σ:List Nat)(H₁:List Ob)(xs b:List α)(i j:Nat)(o:Ob)(x:α)(nd:σ.Nodup)(h1:σ[i]?=some j)(h2:H₁[i]?=some o)(h3:o.fixed=false)(h4:xs[i]?=some x)(hj:j<b.length):(jB σ H₁ xs b)[j]?=some x:=by
 induction σ generalizing H₁ xs b i with
 |nil=>exact no h1
 |cons k σ ih=>
  induction H₁ using List.casesOn with
  |nil=>exact no h2
  |cons o' H₁=>
   induction xs using List.casesOn with
   |nil=>exact no h4
   |cons y xs=>
    induction i using Nat.casesOn with
    |zero=>
     refine(pK σ H₁ xs _ j λi o'' e1 ζ=>absurd (List.mem_of_getElem? e1) (ai h1▸(List.nodup_cons.mp nd).1)).trans ?_
     rw[←show o=o' from ai h2,h3]
     show(dq b k y)[j]?=some x
     rw[←show j=k from ai h1,←show x=y from ai h4,fw,List.getElem?_set_self hj]
    |succ i=>
     refine ih H₁ xs _ i (List.nodup_cons.mp nd).2 h1 h2 h4 ?_
     cases o'.fixed
     ·show j<(dq b k y).length
      rw[fw,List.length_set]
      exact hj
     ·exact hj
noncomputable def bK(a:Nat):Nat->List Nat
 |0=>[]
 |n+1=>a::bK (a+1) n
theorem nJ:∀(n a i:Nat),i<n->(bK a n)[i]?=some (a+i)
 |0,_,_,h=>absurd h (Nat.not_lt_zero _)
 |n+1,a,0,_=>rfl
 |n+1,a,i+1,h=>(nJ n (a+1) i (Nat.lt_of_succ_lt_succ h)).trans (congrArg some (Nat.succ_add_eq_add_succ a i))
theorem lj:∀(n a:Nat),(bK a n).length=n
 |0,_=>rfl
 |n+1,a=>congrArg (· +1) (lj n (a+1))
noncomputable def after(σ:List Nat)(k k':Nat):List Nat:=σ++bK k (k'-σ.length)
noncomputable def qI(σ:List Nat):List Ob->List Ob
 |[]=>[]
 |o::H=>jf σ o::qI σ H
theorem nV(σ:List Nat):∀H,qI σ H=H.map (jf σ)
 |[]=>rfl
 |o::H=>congrArg (jf σ o:: ·) (nV σ H)
noncomputable def rY(σ:List Nat)(H H₁ cQ:List Ob):List Ob:=jB σ H₁ (qI (after σ H.length cQ.length) cQ) H++(qI (after σ H.length cQ.length) cQ).drop σ.length
noncomputable def ip(σ:List Nat)(H H₁:List Ob):Rs V->Rs V
 |.ok v cQ=>.ok (nR (after σ H.length cQ.length) v) (rY σ H H₁ cQ)
 |.exc x cQ=>.exc ⟨x.C,jr (after σ H.length cQ.length) x.d⟩ (rY σ H H₁ cQ)
def jE(σ:List Nat)(H₁:List Ob)(j:Nat):Prop:=∀(i:Nat) (o:Ob),σ[i]?=some j->H₁[i]?=some o->o.fixed=true
open Classical in
noncomputable def rest(σ:List Nat)(H₁:List Ob)(ν:List Addr)(Mu:List Obj):Led:=((bK 0 ν.length).filter λj=>decide (jE σ H₁ j)).map λj=>((ν[j]?).getD 0,(Mu[j]?).getD (dw [] 0))
open Classical in
theorem tm{j:Nat}{a:Addr}{o:Obj}(hf:jE σ H₁ j)(ha:ν[j]?=some a)(ho:Mu[j]?=some o):(a,o)∈rest σ H₁ ν Mu:=by
 refine List.mem_map.mpr ⟨j,List.mem_filter.mpr ⟨?_,decide_eq_true hf⟩,by simp[ha,ho]⟩
 have:=nJ ν.length 0 j (List.getElem?_eq_some_iff.mp ha).1
 rw[Nat.zero_add] at this
 exact List.mem_of_getElem? this
open Classical in
theorem xQ(K:Core G ν Mu I H){p:Addr×Obj}(h:p∈rest σ H₁ ν Mu):∃j,jE σ H₁ j/\ν[j]?=some p.1/\Mu[j]?=some p.2:=by
 refine ab (List.mem_map.mp h) λj hj e=>?_
 refine ae (List.mem_filter.mp hj) λh1 h2=>?_
 have hl:j<ν.length:=by
  obtain⟨i,hi,e'⟩:=List.getElem_of_mem h1
  rw[lj] at hi
  have:=nJ ν.length 0 i hi
  rw[List.getElem?_eq_getElem (by rw[lj];exact hi),e'] at this
  have:=Option.some.inj this
  omega
 have e1:ν[j]?=some (ν[j]'hl):=List.getElem?_eq_getElem hl
 have e2:Mu[j]?=some (Mu[j]'(K.len▸hl)):=List.getElem?_eq_getElem _
 refine⟨j,of_decide_eq_true h2,?_,?_⟩
 ·rw[←e,e1];rfl
 ·rw[←e,e2];rfl
theorem Core.small(K:Core G ν Mu I H)(f:jk σ H H₁):Core G (dy σ ν) (kG σ Mu) (rest σ H₁ ν Mu++I) H₁ where
 nd:=(K.view f).nd
 eP:=λp hp i b hi hb=>by
  rcases List.mem_append.mp hp with hp|hp
  ·refine bH (xQ K hp) λj hj e1 e2=>?_
   refine ab (l8 f K hi) λk k1 k2=>?_
   have:=jw K.nd e1 k2
   subst this
   exact hj i b k1 hb
  ·exact(K.view f).eP p hp i b hi hb
 len:=(K.view f).len
 aT:=(K.view f).aT
 ob:=λi o b h1 h2=>((K.view f).ob i o b h1 h2).grow List.prefix_rfl λp hp=>List.mem_append_right _ hp
 low:=(K.view f).low
open Classical in
theorem weave(K:Core G ν Mu I H)(f:jk σ H H₁){aN:List Addr}{fD:List Obj}{cq:Led}{cQ:List Ob}(K':Core G aN fD cq cQ)(e:Ext (dy σ ν) aN (rest σ H₁ ν Mu++I) cq)
  (uniq:∀a o o',(a,o)∈aN.zip fD++cq->(a,o')∈aN.zip fD++cq->o=o'):
  ∃aw I',Core G (ν++aN.drop σ.length) aw I' (rY σ H H₁ cQ)/\Ext ν (ν++aN.drop σ.length) I I'/\(∀p∈(ν++aN.drop σ.length).zip aw++I',p∈aN.zip fD++cq)/\
   (∀(i:Nat) (a:Addr),aN[i]?=some a->(ν++aN.drop σ.length)[jr (after σ H.length cQ.length) i]?=some a)/\cy cq I':=by
 have hN:(dy σ ν).length=σ.length:=by unfold dy;simp
 have hle:σ.length<=aN.length:=by
  have:=e.pre.length_le
  exact Vh ‹_› ‹_›
 have ai1:σ.length<=cQ.length:=by rw[←K'.aT];exact hle
 generalize JD:after σ H.length cQ.length=EV
 have ae1:EV.length=cQ.length:=by rw[←JD];unfold after;rw[List.length_append,lj];exact adZ ‹_›
 have old:∀(i j:Nat),σ[i]?=some j->EV[i]?=some j/\∃a,ν[j]?=some a/\aN[i]?=some a:=λi j h=>by
  have hi:=(List.getElem?_eq_some_iff.mp h).1
  obtain⟨j',o,O,a,M,k1,k2,k3,k4,k5,k6,k7,k8⟩:=f.id K hi
  rw[h] at k1
  obtain rfl:=ai k1
  refine⟨?_,a,k5,e.at k7⟩
  rw[←JD]
  unfold after
  rw[List.getElem?_append_left hi]
  exact h
 have new:∀i:Nat,σ.length<=i->i<aN.length->EV[i]?=some (ν.length+(i-σ.length)):=λi h1 h2=>by
  rw[←JD]
  unfold after
  rw[List.getElem?_append_right h1,nJ _ _ _ (by rw[←K'.aT];exact adH ‹_› ‹_›),K.aT]
 have go:∀(i:Nat) (a:Addr),aN[i]?=some a->(ν++aN.drop σ.length)[jr EV i]?=some a:=λi a h=>by
  have hi:=(List.getElem?_eq_some_iff.mp h).1
  by_cases hs:i<σ.length
  ·obtain⟨h1,b,h2,h3⟩:=old i _ (List.getElem?_eq_getElem hs)
   rw[h] at h3
   obtain rfl:=ai h3
   rw[tr h1,List.getElem?_append_left (List.getElem?_eq_some_iff.mp h2).1]
   exact h2
  ·have hs:=Nat.le_of_not_lt hs
   rw[tr (new i hs hi),List.getElem?_append_right (by exact Nat.le_add_right _ _),List.getElem?_drop]
   rw[←h]
   congr 1
   exact ac1 ‹_›
 let aw:=jB σ H₁ fD Mu++fD.drop σ.length
 let H':=rY σ H H₁ cQ
 let I':=cq.filter λp=>decide (∀(j:Nat) (b:Ob),(ν++aN.drop σ.length)[j]?=some p.1->H'[j]?=some b->b.fixed=true)
 have hH':H'=jB σ H₁ (qI EV cQ) H++(qI EV cQ).drop σ.length:=by show rY σ H H₁ cQ=_;unfold rY;rw[JD]
 have QT:aw.length=(ν++aN.drop σ.length).length:=by
  show(jB σ H₁ fD Mu++fD.drop σ.length).length=_
  rw[List.length_append,List.length_append,dT,List.length_drop,List.length_drop,←K.len,←K'.len]
 have Np:H'.length=(ν++aN.drop σ.length).length:=by
  rw[hH',List.length_append,List.length_append,dT,List.length_drop,List.length_drop,nV,List.length_map,K.aT,K'.aT]
 have sort:∀(j:Nat) (a:Addr) (o:Obj) (b:Ob),(ν++aN.drop σ.length)[j]?=some a->aw[j]?=some o->H'[j]?=some b->
   (j<ν.length/\jE σ H₁ j/\ν[j]?=some a/\Mu[j]?=some o/\H[j]?=some b)∨(∃i b',aN[i]?=some a/\fD[i]?=some o/\cQ[i]?=some b'/\b=jf EV b'/\(σ.length<=i∨(σ[i]?=some j/\¬jE σ H₁ j))/\(σ.length<=i->j=ν.length+(i-σ.length))):=by
  intro j a o b ha ho hb
  have ho:(jB σ H₁ fD Mu++fD.drop σ.length)[j]?=some o:=ho
  rw[hH'] at hb
  by_cases hj:j<ν.length
  ·rw[List.getElem?_append_left hj] at ha
   rw[List.getElem?_append_left (by rw[dT,←K.len];exact hj)] at ho
   rw[List.getElem?_append_left (by rw[dT,←K.aT];exact hj)] at hb
   by_cases hf:jE σ H₁ j
   ·rw[pK _ _ _ _ _ hf] at ho hb
    exact .inl ⟨hj,hf,ha,ho,hb⟩
   ·have ZO:=hf
    unfold jE at hf
    simp only[Classical.not_forall] at hf
    obtain⟨i,JE,h1,h2,h3⟩:=hf
    have h3:JE.fixed=false:=by cases q:JE.fixed;rfl;exact absurd q h3
    have hi:=(List.getElem?_eq_some_iff.mp h1).1
    obtain⟨_,a',k1,k2⟩:=old i j h1
    rw[ha] at k1
    obtain rfl:=ai k1
    have hi1:i<fD.length:=by rw[←K'.len];exact acR ‹_› ‹_›
    have hi2:i<cQ.length:=by omega
    have m1:fD[i]?=some fD[i]:=List.getElem?_eq_getElem hi1
    have m2:cQ[i]?=some cQ[i]:=List.getElem?_eq_getElem hi2
    have m3:(qI EV cQ)[i]?=some (jf EV cQ[i]):=by rw[nV,List.getElem?_map,m2];rfl
    rw[tV σ H₁ fD Mu i j JE _ f.nd h1 h2 h3 m1 (by rw[←K.len];exact hj)] at ho
    rw[tV σ H₁ (qI EV cQ) H i j JE _ f.nd h1 h2 h3 m3 (by rw[←K.aT];exact hj)] at hb
    (first|exact no ho|exact nf ho|subst ho|obtain rfl:=ai ho);obtain rfl:=ai hb
    exact .inr ⟨i,_,k2,m1,m2,rfl,.inr ⟨h1,ZO⟩,λq=>by exact adl ‹_› ‹_›⟩
  ·have hj:=Nat.le_of_not_lt hj
   rw[List.getElem?_append_right hj,List.getElem?_drop] at ha
   rw[List.getElem?_append_right (by rw[dT,←K.len];exact hj),List.getElem?_drop,dT,←K.len] at ho
   rw[List.getElem?_append_right (by rw[dT,←K.aT];exact hj),List.getElem?_drop,dT,←K.aT,nV,List.getElem?_map] at hb
   refine ab (Option.map_eq_some_iff.mp hb) λb' hb' aU=>?_;subst aU
   exact .inr ⟨_,b',ha,ho,hb',rfl,.inl (Nat.le_add_right _ _),λζ=>by exact R2 ‹_›⟩
 have ZP:∀p∈I',p∈cq:=λp hp=>(List.mem_filter.mp hp).1
 have ZQ:∀p∈I',∀(j:Nat) (b:Ob),(ν++aN.drop σ.length)[j]?=some p.1->H'[j]?=some b->b.fixed=true:=λp hp=>of_decide_eq_true (List.mem_filter.mp hp).2
 have atM:∀(j:Nat) (a:Addr) (b:Ob),(ν++aN.drop σ.length)[j]?=some a->H'[j]?=some b->∃o,aw[j]?=some o:=λj a b ha hb=>
  ⟨_,List.getElem?_eq_getElem (by rw[QT];exact(List.getElem?_eq_some_iff.mp ha).1)⟩
 have tup:cy cq I':=λa xs k hp=>by
  refine List.mem_filter.mpr ⟨hp,decide_eq_true λj b ha hb=>?_⟩
  refine bF (atM j a b ha hb) λo ho=>?_
  rcases sort j a o b ha ho hb with⟨hj,hf,k1,k2,k3⟩|⟨i,b',k1,k2,k3,rfl,_⟩
  ·have:o=dw xs k:=uniq a _ _ (List.mem_append_right _ (e.sub _ (List.mem_append_left _ (tm hf k1 k2)))) (List.mem_append_right _ hp)
   subst this
   exact Ay (K.ob j _ b k2 k3)
  ·have:=K'.eP _ hp i b' k1 k3
   induction b' using Ob.casesOn<;>first|rfl|exact no this|exact nf this|cases this
 have Iin:∀p∈I,p∈I':=λp hp=>by
  have Nq:=e.sub p (List.mem_append_right _ hp)
  refine List.mem_filter.mpr ⟨Nq,decide_eq_true λj b ha hb=>?_⟩
  refine bF (atM j p.1 b ha hb) λo ho=>?_
  rcases sort j p.1 o b ha ho hb with⟨hj,hf,k1,k2,k3⟩|⟨i,b',k1,k2,k3,rfl,k5,_⟩
  ·exact K.eP p hp j b k1 k3
  ·have:=K'.eP _ Nq i b' k1 k3
   induction b' using Ob.casesOn<;>first|rfl|exact no this|exact nf this|cases this
 have fresh:∀(i:Nat) (a:Addr),σ.length<=i->aN[i]?=some a->a∉ν:=λi a hi ha hm=>by
  obtain⟨j,hj,ej⟩:=List.getElem_of_mem hm
  have ZR:ν[j]?=some a:=by rw[List.getElem?_eq_getElem hj,ej]
  by_cases El:∃i':Nat,σ[i']?=some j
  ·refine bF El ?_;clear El;intro i' h'
   obtain⟨_,a',q1,q2⟩:=old i' j h'
   rw[ZR] at q1
   obtain rfl:=ai q1
   have:=jw K'.nd ha q2
   have:=(List.getElem?_eq_some_iff.mp h').1
   omega
  ·have hf:jE σ H₁ j:=λi' o h1 ζ=>absurd ⟨i',h1⟩ El
   have hMu:Mu[j]?=some (Mu[j]'(K.len▸hj)):=List.getElem?_eq_getElem _
   exact e.fr i a (by rw[hN];exact hi) ha _ (List.mem_append_left _ (tm hf ZR hMu)) rfl
 refine⟨aw,I',⟨?_,ZQ,QT.symm,Np.symm,λj o b ho hb=>?_,λa ha=>?_⟩,⟨⟨_,rfl⟩,Iin,λj a hj ha p hp=>?_⟩,λp hp=>?_,go,tup⟩
 ·rw[List.nodup_append]
  refine⟨K.nd,K'.nd.sublist (List.drop_sublist _ _),λa ha b hb=>?_⟩
  rintro rfl
  obtain⟨i,hi,ei⟩:=List.getElem_of_mem hb
  rw[List.getElem_drop] at ei
  rw[List.length_drop] at hi
  exact fresh (σ.length+i) a (Nat.le_add_right _ _) (by rw[List.getElem?_eq_getElem (by exact acP ‹_› ‹_›),ei]) ha
 ·have hj:j<(ν++aN.drop σ.length).length:=by rw[←QT];exact(List.getElem?_eq_some_iff.mp ho).1
  rcases sort j _ o b (List.getElem?_eq_getElem hj) ho hb with⟨_,hf,k1,k2,k3⟩|⟨i,b',k1,k2,k3,rfl,_⟩
  ·exact(K.ob j o b k2 k3).eG ⟨_,rfl⟩ λa xs k hp=>tup a xs k (e.sub _ (List.mem_append_right _ hp))
  ·exact(K'.ob i o b' k2 k3).kO go tup
 ·rcases List.mem_append.mp ha with ha|ha
  ·exact K.low a ha
  ·exact K'.low a (List.mem_of_mem_drop ha)
 ·rw[List.getElem?_append_right hj,List.getElem?_drop] at ha
  exact e.fr _ a (by rw[hN];exact Nat.le_add_right _ _) ha p (List.mem_append_right _ hp)
 ·rcases List.mem_append.mp hp with hp|hp
  ·refine ab (Dt hp) λj h1 h2=>?_
   have hj:j<H'.length:=by rw[Np];exact(List.getElem?_eq_some_iff.mp h1).1
   rcases sort j p.1 p.2 _ h1 h2 (List.getElem?_eq_getElem hj) with⟨_,hf,k1,k2,k3⟩|⟨i,b',k1,k2,_⟩
   ·exact List.mem_append_right _ (e.sub _ (List.mem_append_left _ (tm hf k1 k2)))
   ·exact List.mem_append_left _ (dU k1 k2)
  ·exact List.mem_append_right _ (ZP p hp)
theorem aW.frame{a:Addr}{vs:List V}{r:Rs V}(e:aW G n a vs H₁ r)(f:jk σ H H₁)(hv:sY σ.length vs=true):aW G n a (fg σ vs) H (ip σ H H₁ r):=by
 rintro c s m ν Mu I us R ok S rs post
 have K:=S.core
 have jT:St G c s.heap m (dy σ ν) (kG σ Mu) (rest σ H₁ ν Mu++I) H₁:=(K.small f).st S.F (fy S.N λp hp=>by
  rcases List.mem_append.mp hp with hp|hp
  ·exact List.mem_append_left _ (pd f K p hp)
  ·rcases List.mem_append.mp hp with hp|hp
   ·obtain⟨j,_,h1,h2⟩:=xQ K hp
    exact List.mem_append_left _ (dU h1 h2)
   ·exact List.mem_append_right _ hp) S.big
 have ZS:ag G.K (dy σ ν) (rest σ H₁ ν Mu++I) us vs:=rs.kl (f.back K) (mJ λp hp=>List.mem_append_right _ hp) vs rfl hv
 refine e c s m _ _ _ us R ok jT ZS ?_
 induction r with
 |ok v cQ=>
  intro h' ak aN fD cq u x S' ru
  obtain⟨aw,I',K',x',sub,go,tup⟩:=weave K f S'.core x λa o o' h1 h2=>by
   have:=(S'.N _ h1).1
   rw[(S'.N _ h2).1] at this
   exact(Option.some.inj this).symm
  exact post h' ak _ aw I' u x' (K'.st S'.F (fy S'.N sub) S'.big) (ru.kO go tup)
 |exc x cQ=>
  intro h' ak aN fD cq ea t xx ht fl
  refine gr fl.yG λB d b1 b2 b3 b4=>?_
  obtain⟨aw,I',K',x',sub,go,tup⟩:=weave K f fl.core xx λa o o' h1 h2=>by
   have:=(b2 _ h1).1
   rw[(b2 _ h2).1] at this
   exact(Option.some.inj this).symm
  exact post h' ak _ aw I' ea t x' ht ⟨K'.nd,K'.eP,K'.len,K'.aT,K'.ob,fl.big,K'.low,⟨B,d,b1,λp hp=>b2 p (sub p hp),go _ _ b3,b4⟩,fl.fr⟩
end
section
variable{G:Gc}{H H₁ H':List Ob}{n:Nat}{σ:List Nat}
noncomputable def idxOf(j:Nat):List Nat->Nat->Option Nat
 |[],_=>none
 |a::σ,k=>match Nat.beq a j with
  |true=>some k
  |false=>idxOf j σ (k+1)
theorem DC{j:Nat}:∀{σ:List Nat} {k i:Nat},idxOf j σ k=some i->k<=i/\σ[i-k]?=some j:=by
 intro l_
 induction l_ with
 |nil=>
  intro _ _ h
  exact no h
 |cons a σ ih=>
  intro k i h
  refine pC h ?_ ?_
  ·clear h;intro q h
   obtain rfl:=ai h
   rw[Nat.eq_of_beq_eq_true q]
   exact⟨Nat.le_refl _,by simp⟩
  ·clear h;intro _ h
   refine ae (ih h) λh1 h2=>?_
   refine⟨by exact Mm ‹_›,?_⟩
   have:i-k=(i-(k+1))+1:=by exact WW ‹_›
   rw[this,List.getElem?_cons_succ]
   exact h2
theorem ta{j i:Nat}(h:idxOf j σ 0=some i):j=jr σ i/\Nat.blt i σ.length=true/\σ[i]?=some j:=by
 refine ae (DC h) λy1 h2=>?_
 rw[Nat.sub_zero] at h2
 exact⟨(tr h2).symm,Nat.ble_eq_true_of_le (List.getElem?_eq_some_iff.mp h2).1,h2⟩
mutual
noncomputable def O'(σ:List Nat):V->Option V
 |.tup vs=>(Un σ vs).map .tup
 |.obj j=>(idxOf j σ 0).map .obj
 |.none=>some .none
 |.bool b=>some (.bool b)
 |.int i=>some (.int i)
 |.str x=>some (.str x)
 |.glob v=>some (.glob v)
 |.held d k s r=>some (.held d k s r)
 |.aL d k s l=>some (.aL d k s l)
 |.dN s r=>some (.dN s r)
 |.b9 s l=>some (.b9 s l)
noncomputable def Un(σ:List Nat):List V->Option (List V)
 |[]=>some []
 |v::vs=>match O' σ v with
  |some v=>(Un σ vs).map (v:: ·)
  |none=>none
end
mutual
theorem sq:∀{v w:V},O' σ v=some w->v=nR σ w/\vP σ.length w=true
 |.tup vs,w,h=>by
  refine ab (Option.map_eq_some_iff.mp h) λl hl aU=>?_;subst aU
  refine ae (si hl) λa b=>?_
  exact⟨by rw[a];rfl,b⟩
 |.obj j,w,h=>by
  refine ab (Option.map_eq_some_iff.mp h) λi hi aU=>?_;subst aU
  refine cZ (ta hi) λa b y1=>?_
  exact⟨by rw[a];rfl,b⟩
 |.none,w,h=>by obtain rfl:=ai h;exact⟨rfl,rfl⟩
 |.bool b,w,h=>by obtain rfl:=ai h;exact⟨rfl,rfl⟩
 |.int i,w,h=>by obtain rfl:=ai h;exact⟨rfl,rfl⟩
 |.str x,w,h=>by obtain rfl:=ai h;exact⟨rfl,rfl⟩
 |.glob v,w,h=>by obtain rfl:=ai h;exact⟨rfl,rfl⟩
 |.held d k s r,w,h=>by obtain rfl:=ai h;exact⟨rfl,rfl⟩
 |.aL d k s l,w,h=>by obtain rfl:=ai h;exact⟨rfl,rfl⟩
 |.dN s r,w,h=>by obtain rfl:=ai h;exact⟨rfl,rfl⟩
 |.b9 s l,w,h=>by obtain rfl:=ai h;exact⟨rfl,rfl⟩
theorem si:∀{vs ws:List V},Un σ vs=some ws->vs=fg σ ws/\sY σ.length ws=true
 |[],ws,h=>by obtain rfl:=ai h;exact⟨rfl,rfl⟩
 |v::vs,ws,h=>by
  refine T1 (x0:=O' σ v) h ?_;clear h;intro w hw h
  refine ab (Option.map_eq_some_iff.mp h) λl hl aU=>?_;subst aU
  refine ae (sq hw) λa b=>?_
  refine ae (si hl) λa' b'=>?_
  exact⟨by rw[a,a'];rfl,Bool.and_eq_true_iff.mpr ⟨b,b'⟩⟩
end
noncomputable def W0(σ:List Nat):List (Str×V)->Option (List (Str×V))
 |[]=>some []
 |(x,v)::r=>match O' σ v with
  |some v=>(W0 σ r).map ((x,v):: ·)
  |none=>none
theorem we:∀{es fs:List (Str×V)},W0 σ es=some fs->es=iL σ fs/\EN σ.length fs=true:=by
 intro l_
 induction l_ with
 |nil=>
  intro ws h
  obtain rfl:=ai h;exact⟨rfl,rfl⟩
 |cons p_ vs ih=>
  obtain⟨x,v⟩:=p_
  intro ws h
  refine T1 (x0:=O' σ v) h ?_;clear h;intro w hw h
  refine ab (Option.map_eq_some_iff.mp h) λl hl aU=>?_;subst aU
  refine ae (sq hw) λa b=>?_
  refine ae (ih hl) λa' b'=>?_
  exact⟨by rw[a,a'];rfl,Bool.and_eq_true_iff.mpr ⟨b,b'⟩⟩
noncomputable def unO(σ:List Nat):Ob->Option Ob
 |.list vs=>(Un σ vs).map .list
 |.inst C d=>(idxOf d σ 0).map (.inst C)
 |.dict es=>(W0 σ es).map .dict
 |.attrs es=>(W0 σ es).map .attrs
 |.cell none=>some (.cell none)
 |.cell (some v)=>(O' σ v).map λv=>.cell (some v)
 |.av l=>some (.av l)
 |.tab P t l=>(idxOf t σ 0).map λt=>.tab P t l
 |.code q=>some (.code q)
 |.lh .. =>none
 |.ck es=>(W0 σ es).map .ck
 |.c9 vs=>(Un σ vs).map .c9
 |.other=>some .other
theorem Qi{o w:Ob}(h:unO σ o=some w):o=jf σ w/\K3 σ.length w=true:=by
 induction o using Ob.casesOn with
 |list vs=>
  refine ab (Option.map_eq_some_iff.mp h) λl hl aU=>?_;subst aU
  refine ae (si hl) λa b=>?_
  exact⟨by rw[a];rfl,b⟩
 |inst C d=>
  refine ab (Option.map_eq_some_iff.mp h) λi hi aU=>?_;subst aU
  refine cZ (ta hi) λa b y1=>?_
  exact⟨by rw[a];rfl,b⟩
 |dict es=>
  refine ab (Option.map_eq_some_iff.mp h) λl hl aU=>?_;subst aU
  refine ae (we hl) λa b=>?_
  exact⟨by rw[a];rfl,b⟩
 |attrs es=>
  refine ab (Option.map_eq_some_iff.mp h) λl hl aU=>?_;subst aU
  refine ae (we hl) λa b=>?_
  exact⟨by rw[a];rfl,b⟩
 |cell v=>
  induction v with
  |none=>obtain rfl:=ai h;exact⟨rfl,rfl⟩
  |some v=>
   refine ab (Option.map_eq_some_iff.mp h) λw hw aU=>?_;subst aU
   refine ae (sq hw) λa b=>?_
   exact⟨by rw[a];rfl,b⟩
 |av l=>obtain rfl:=ai h;exact⟨rfl,rfl⟩
 |tab P t l=>
  refine ab (Option.map_eq_some_iff.mp h) λi hi aU=>?_;subst aU
  refine cZ (ta hi) λa b y1=>?_
  exact⟨by rw[a];rfl,b⟩
 |code q=>obtain rfl:=ai h;exact⟨rfl,rfl⟩
 |lh=>exact no h
 |ck es=>
  refine ab (Option.map_eq_some_iff.mp h) λl hl aU=>?_;subst aU
  refine ae (we hl) λa b=>?_
  exact⟨by rw[a];rfl,b⟩
 |c9 vs=>
  refine ab (Option.map_eq_some_iff.mp h) λl hl aU=>?_;subst aU
  refine ae (si hl) λa b=>?_
  exact⟨by rw[a];rfl,b⟩
 |other=>obtain rfl:=ai h;exact⟨rfl,rfl⟩
noncomputable def xa(r5:List Nat)(H:List Ob):List Nat->List Bool->Option (List Ob)
 |[],_=>some []
 |j::σ,k=>match cJ H j with
  |none=>none
  |some O=>match k with
   |true::k=>(xa r5 H σ k).map (Ob.other:: ·)
   |_=>match unO r5 O with
    |none=>none
    |some o=>(xa r5 H σ (k.drop 1)).map (o:: ·)
theorem nN{r5:List Nat}:∀{σ:List Nat} {k:List Bool} {H₁:List Ob},xa r5 H σ k=some H₁->H₁.length=σ.length/\∀(i:Nat) (o:Ob) (j:Nat),H₁[i]?=some o->σ[i]?=some j->∃O,H[j]?=some O/\Bj r5 O o:=by
 intro l_
 induction l_ with
 |nil=>
  intro _ _ h
  obtain rfl:=ai h;exact⟨rfl,λi o j h ζ=>by simp at h⟩
 |cons j σ ih=>
  intro k H₁ h
  refine Uk h ?_;clear h;intro O hO h
  rw[fb] at hO
  refine abX h ?_ ?_
  ·clear h;intro _ ay h;subst ay
   refine ab (Option.map_eq_some_iff.mp h) λl hl aU=>?_;subst aU
   refine ae (ih hl) λa b=>?_
   refine⟨by rw[List.length_cons,List.length_cons,a],λi o j' h1 h2=>?_⟩
   induction i using Nat.casesOn with
   |zero=>(first|exact no h1|exact nf h1|subst h1|obtain rfl:=ai h1);obtain rfl:=ai h2;exact⟨O,hO,.inl rfl⟩
   |succ i=>exact b i o j' (by simpa using h1) (by simpa using h2)
  ·clear h;intro h
   refine Uk h ?_;clear h;intro o ho h
   refine ab (Option.map_eq_some_iff.mp h) λl hl aU=>?_;subst aU
   refine ae (ih hl) λa b=>?_
   refine⟨by rw[List.length_cons,List.length_cons,a],λi o' j' h1 h2=>?_⟩
   induction i using Nat.casesOn with
   |zero=>(first|exact no h1|exact nf h1|subst h1|obtain rfl:=ai h1);obtain rfl:=ai h2;exact⟨O,hO,.inr (.inl (Qi ho))⟩
   |succ i=>exact b i o' j' (by simpa using h1) (by simpa using h2)
noncomputable def oH:List Nat->Bool
 |[]=>true
 |a::l=>(match idxOf a l 0 with|none=>true|some _=>false)&&oH l
theorem DQ{j:Nat}:∀{σ:List Nat} {k:Nat},idxOf j σ k=none->j∉σ:=by
 intro l_
 induction l_ with
 |nil=>
  intro _ _
  simp
 |cons a σ ih=>
  intro k h
  unfold idxOf at h
  split at h
  ·cases h
  ·rename_i q
   intro hm
   rcases List.mem_cons.mp hm with rfl|hm
   ·exact Nat.ne_of_beq_eq_false q rfl
   ·exact ih h hm
set_option tactic.hygienic true in
theorem gR:∀{l:List Nat},oH l=true->l.Nodup
 |[],_=>List.nodup_nil
 |a::l,h=>by
  refine ae (Bool.and_eq_true_iff.mp (show((match idxOf a l 0 with|none=>true|some _=>false)&&oH l)=true from h)) λh1 h2=>?_
  refine List.nodup_cons.mpr ⟨?_,gR h2⟩
  refine ad5 h1 ?_;clear h1;intro _
  rename_i q;exact DQ q
noncomputable def sa:Nat->Nat->List Nat->Bool
 |0,_,_=>true
 |k+1,i,a::σ=>Nat.beq a i&&sa k (i+1) σ
 |_+1,_,[]=>false
theorem qW:∀{k a:Nat} {σ:List Nat},sa k a σ=true->∀i:Nat,i<k->σ[i]?=some (a+i)
 |0,_,_,_,i,hi=>by omega
 |k+1,a,[],h,_,_=>by exact nf h
 |k+1,a,b::σ,h,i,hi=>by
  refine ae (Bool.and_eq_true_iff.mp (show(Nat.beq b a&&sa k (a+1) σ)=true from h)) λh1 h2=>?_
  induction i using Nat.casesOn with
  |zero=>rw[Nat.eq_of_beq_eq_true h1];rfl
  |succ i=>
   rw[List.getElem?_cons_succ,qW h2 i (by exact ac3 ‹_›)]
   congr 1
   exact OQ
noncomputable def canon(k:Nat)(σ:List Nat)(mask:List Bool):aM V->aM V
 |none=>none
 |some r=>match oH σ&&sa k 0 σ with
  |false=>none
  |true=>match r with
   |.ok v H=>match O' σ v with
    |none=>none
    |some v=>match xa σ H σ mask with
     |none=>none
     |some H=>some (.ok v H)
   |.exc x H=>match idxOf x.d σ 0 with
    |none=>none
    |some d=>match xa σ H σ mask with
     |none=>none
     |some H=>some (.exc ⟨x.C,d⟩ H)
theorem C4{k:Nat}{mask:List Bool}{a:aM V}{r:Rs V}(h:canon k σ mask a=some r):∃tK,a=some tK/\Seen k σ tK r:=by
 refine TY h ?_;clear h;intro tK ay h;subst ay
 refine gB h ?_;clear h;intro hk h
 refine aJ hk λh1 h2=>?_
 have so:pj k σ:=⟨λi hi=>by have:=qW h2 i hi;rw[Nat.zero_add] at this;exact this⟩
 refine⟨tK,rfl,?_⟩
 refine YB h ?_ ?_
 ·clear h;intro _ _ ay h;subst ay
  refine abJ h ?_;clear h;intro w hw h
  refine OZ h ?_;clear h;intro H₁ hs h
  obtain rfl:=ai h
  refine ae (sq hw) λa b=>?_
  refine ae (nN hs) λc d=>?_
  rw[a]
  exact .ok so ⟨gR h1,c,d⟩ b
 ·clear h;intro _ _ ay h;subst ay
  refine sp3 h ?_;clear h;intro w hw h
  refine OZ h ?_;clear h;intro H₁ hs h
  obtain rfl:=ai h
  refine ae (nN hs) λc d=>?_
  exact .exc so ⟨gR h1,c,d⟩ rfl (ta hw).2.2
theorem SX{k:Nat}(gk:ko G)(lk:PN G)(xo:Ow G)(oo:rr G k)(n:Nat){a:Addr}{vs:List V}{H:List Ob}(σ:List Nat)(mask:List Bool){r:Rs V}(h:canon H.length σ mask ((ev G.cf n).F a vs H)=some r):aW G (n+k) a vs H r:=by
 refine ab (C4 h) λtK h1 h2=>?_
 exact((sound gk lk xo oo n).oF _ _ _ _ h1).seen h2
end
section
variable{G:Gc}{c:Fc}{s:Shared}{h h':Heap}{m m':Str->Option Value}{ν:List Addr}{Mu:List Obj}{I:Led}{H H₁ H':List Ob}{n:Nat}
def VA(v w:V):Prop:=∀(K:Frag) (ν:List Addr) (I:Led) (u:Value),Rep K ν I u v->Rep K ν I u w
def qF(v w:List V):Prop:=∀(K:Frag) (ν:List Addr) (I:Led) (u:List Value),ag K ν I u v->ag K ν I u w
theorem VA.refl(v:V):VA v v:=λζ ζ ζ ζ h=>h
theorem VA.trans{u v w:V}(a:VA u v)(b:VA v w):VA u w:=λK ν I x h=>b K ν I x (a K ν I x h)
theorem qF.refl(v:List V):qF v v:=λζ ζ ζ ζ h=>h
theorem qF.cons{v w:V}{vs ws:List V}(a:VA v w)(b:qF vs ws):qF (v::vs) (w::ws):=λK ν I u h=>by
 cases h with
 |cons h hs=>exact .cons (a _ _ _ _ h) (b _ _ _ _ hs)
theorem VA.tup{vs ws:List V}(a:qF vs ws):VA (.tup vs) (.tup ws):=λK ν I u h=>by
 cases h with
 |tup hi hs=>exact .tup hi (a _ _ _ _ hs)
theorem VA.held{d k:Nat}{s:Int}{r:Row}(hk:k=ao r)(hf:cj d r=true):VA (tree s r) (.held d k s r):=λζ ζ ζ ζ h=>.held h hk hf
theorem VA.wu{d k:Nat}{s:Int}{r:Row}:VA (.held d k s r) (tree s r):=λζ ζ ζ ζ h=>by cases h;assumption
theorem VA.aL{d k:Nat}{s:Int}{l:List Row}(hk:k=kindB l)(hf:bB d true l=true)(hl:l.length<=3):VA (.tup (trees s 0 l)) (.aL d k s l):=λζ ζ ζ ζ h=>.aL h hk hf hl
theorem VA.yh{d k:Nat}{s:Int}{l:List Row}:VA (.aL d k s l) (.tup (trees s 0 l)):=λζ ζ ζ ζ h=>by cases h;assumption
theorem VA.dN{s:Int}{r:Row}(hf:cj 1 r=true):VA (fF s r) (.dN s r):=λζ ζ ζ ζ h=>.dN h hf
theorem VA.sx{s:Int}{r:Row}:VA (.dN s r) (fF s r):=λζ ζ ζ ζ h=>by cases h;assumption
mutual
theorem zz:∀(d:Nat) (r:Row),Nat.ble d 1=true->cj d r=true->cj 1 r=true
 |d,.bad,_,_=>by rfl
 |d,.dZ,_,_=>by rfl
 |d,.fT,_,_=>by rfl
 |d,.blank,_,_=>by rfl
 |d,.call,_,_=>by rfl
 |0,.dg l,_,h=>by exact nf h
 |1,.dg l,_,h=>h
 |_+2,.dg l,hd,_=>by exact nf hd
theorem mN:∀(d:Nat) (l:List Row) (f:Bool),Nat.ble d 1=true->bB d f l=true->bB 1 f l=true
 |d,[],f,_,_=>by rfl
 |d,r::l,f,hd,h=>by
  unfold bB at h ⊢
  refine aJ h λh1 h2=>?_
  refine aJ h1 λh3 h4=>?_
  rw[h3,zz d r hd h4,mN d l _ hd h2]
  rfl
end
theorem VA.b9{s:Int}{l:List Row}(hf:bB 1 true l=true)(hl:l.length<=3):VA (.tup (dG s 0 l)) (.b9 s l):=λζ ζ ζ ζ h=>.b9 h hf hl
theorem VA.Hb{s:Int}{l:List Row}:VA (.b9 s l) (.tup (dG s 0 l)):=λζ ζ ζ ζ h=>by cases h;assumption
structure OA(b b':Ob):Prop where
 fx:b.fixed=true->b'.fixed=true
 rp:∀(G:Gc) (ν:List Addr) (I:Led) (o:Obj),az G ν I o b->az G ν I o b'
theorem OA.refl(b:Ob):OA b b:=⟨id,λζ ζ ζ ζ h=>h⟩
theorem OA.list{vs ws:List V}(a:qF vs ws):OA (.list vs) (.list ws):=⟨λh=>(by exact nf h),λG ν I o h=>by
 cases h with
 |list h=>exact .list (a _ _ _ _ h)⟩
theorem OA.other(b:Ob):OA b .other:=⟨λζ=>rfl,λζ ζ ζ ζ ζ=>.other⟩
inductive HA:List Ob->List Ob->Prop
 |nil:HA [] []
 |cons {b b':Ob} {H H':List Ob} (a:OA b b') (r:HA H H'):HA (b::H) (b'::H')
theorem HA.refl:∀H:List Ob,HA H H
 |[]=>.nil
 |b::H=>.cons (.refl b) (HA.refl H)
theorem HA.app{H₁ aQ vF QF:List Ob}(a:HA H₁ aQ)(b:HA vF QF):HA (H₁++vF) (aQ++QF):=by
 induction a with
 |nil=>exact b
 |cons x _ ih=>exact .cons x ih
theorem HA.len{H H':List Ob}(a:HA H H'):H.length=H'.length:=by
 induction a with
 |nil=>rfl
 |cons _ _ ih=>simp[ih]
theorem HA.at_{H H':List Ob}(a:HA H H'):∀{i:Nat} {b':Ob},H'[i]?=some b'->∃b,H[i]?=some b/\OA b b':=by
 induction a with
 |nil=>intro i b' h;simp at h
 |cons x _ ih=>
  intro i b' h
  induction i using Nat.casesOn with
  |zero=>obtain rfl:=ai h;exact⟨_,rfl,x⟩
  |succ i=>exact ih (i:=i) (by simpa using h)
theorem Core.alike(K:Core G ν Mu I H)(a:HA H H'):Core G ν Mu I H' where
 nd:=K.nd
 eP:=λp hp i b hi hb=>by
  refine ab (a.at_ hb) λQU h1 h2=>?_
  exact h2.fx (K.eP p hp i QU hi h1)
 len:=K.len
 aT:=K.aT.trans a.len
 ob:=λi o b ho hb=>by
  refine ab (a.at_ hb) λQU h1 h2=>?_
  exact h2.rp _ _ _ _ (K.ob i o QU ho h1)
 low:=K.low
theorem St.alike(S:St G c h m ν Mu I H)(a:HA H H'):St G c h m ν Mu I H':=(S.core.alike a).st S.F S.N S.big
theorem nF.alike{t:Option Value}{e:Addr}{x:Ex}(S:nF G c t h ν Mu I H e x)(a:HA H H'):nF G c t h ν Mu I H' e x:=
 have K:=S.core.alike a
 ⟨K.nd,K.eP,K.len,K.aT,K.ob,S.big,K.low,S.yG,S.fr⟩
inductive RA:Rs V->Rs V->Prop
 |ok {v v':V} {H H':List Ob} (a:VA v v') (b:HA H H'):RA (.ok v H) (.ok v' H')
 |exc {x:Ex} {H H':List Ob} (b:HA H H'):RA (.exc x H) (.exc x H')
theorem aW.alike{a:Addr}{vs:List V}{r r':Rs V}(e:aW G n a vs H r)(w:RA r r'):aW G n a vs H r':=by
 rintro c s m ν Mu I us R ok S rs post
 refine e c s m ν Mu I us R ok S rs ?_
 cases w with
 |ok x y=>exact λh' ak aa aw I' u e S' ru=>post h' ak aa aw I' u e (S'.alike y) (x _ _ _ _ ru)
 |exc y=>exact λh' ak aa aw I' ea t e ht fl=>post h' ak aa aw I' ea t e ht (fl.alike y)
theorem aW.pre{a:Addr}{vs QS:List V}{r:Rs V}(e:aW G n a vs H r)(x:qF QS vs)(y:HA H' H):aW G n a QS H' r:=by
 rintro c s m ν Mu I us R ok S rs post
 exact e c s m ν Mu I us R ok (S.alike y) (x _ _ _ _ rs) post
theorem aW.more{a:Addr}{vs:List V}{r:Rs V}{n':Nat}(e:aW G n a vs H r)(h:n<=n'):aW G n' a vs H r:=by
 refine bF (Nat.exists_eq_add_of_le h) λk aU=>?_;subst aU
 rw[Nat.add_comm]
 exact e.ups k
end
end
end Mine
namespace Hd
section
open PySem PySem.W PySem.Calls PyProof.Rows Value
section
set_option maxHeartbeats 0
noncomputable def S(n:Nat):Str:=⟨(Nat.rec (motive:=λζ=>Nat->List Nat->List Nat) (λζ l=>l) (λζ r n l=>Nat.casesOn (motive:=λζ=>List Nat) (Nat.mod n 256) l (λc=>Nat.casesOn (motive:=λζ=>List Nat) (Nat.div n 256) (c.succ::l) (λm=>r m.succ (c.succ::l)))) 200 n []).toArray⟩
structure Q8 where
 (a b c d e f g h:Params->Obj)
noncomputable def li{α:Type}(l:List α):Array α:=l.toArray
noncomputable def en(P:Params)(s:Str)(t:Tok)(v:Value):DictEntry:=⟨PyData.keyHash P s,str s t,v⟩
noncomputable def ob(c:Value)(d:Data):Obj:={cls:=c,data:=d}
noncomputable def fd(n q:Str)(a:Arguments)(b:List Stmt)(s:Scope)(g:Addr)(df kd m cd:Value)(bi:Addr):FuncData:=⟨n,q,a,.stmts b,s,g,[],df,kd,.none,m,none,cd,.none,bi⟩
noncomputable def nth:List Stmt->Nat->Stmt
 |[],_=>default
 |a::_,0=>a
 |_::l,n+1=>nth l n
noncomputable def kF:List Stmt:=behindTheImports PySem.Challenge.pw_xm0203_01
noncomputable def aF(n:Nat):Stmt:=nth kF n
noncomputable def nS(n:Nat)(l:List Stmt):Stmt:=nth l n
noncomputable def fA:Stmt->Arguments
 |.FunctionDef _ a .. =>a
 |_=>default
noncomputable def fB:Stmt->List Stmt
 |.FunctionDef _ _ b .. =>b
 |_=>[]
noncomputable def fS:Stmt->Scope
 |.FunctionDef _ _ _ _ _ _ s .. =>s
 |_=>default
noncomputable def cB:Stmt->List Stmt
 |.ClassDef _ _ _ b .. =>b
 |_=>[]
noncomputable def cS:Stmt->Scope
 |.ClassDef _ _ _ _ _ _ s .. =>s
 |_=>default
noncomputable def nd(o:Params->Obj)(l r:Params->BT)(P:Params):BT:=.node (o P) (l P) (r P)
noncomputable def z(P:Params):BT:=.nil
noncomputable def lf(o:Params->Obj)(P:Params):BT:=.node (o P) .nil .nil
def s0:=S 0x3c6d6f64756c653e
def s1:=S 0x2f636c61696d2f6375742e7079
def s5:=S 0x5f5f6e616d655f5f
def s6:=S 0x6368616e636f72652e6572726f7273
def s7:=S 0x5f5f646f635f5f
def s8:=S 0x5f5f7061636b6167655f5f
def s9:=S 0x5f5f6c6f616465725f5f
def s10:=S 0x5f5f737065635f5f
def s11:=S 0x5f5f616e6e6f746174696f6e735f5f
def s12:=S 0x5f5f6275696c74696e735f5f
def s13:=S 0x5f5f66696c655f5f
def s14:=S 0x5f5f6361636865645f5f
def s15:=S 0x5f77616c6c
def s16:=S 0x54455854
def Z9:=S 0x5452555448
def s18:=S 0x57484f4c455f7479706573
def s19:=S 0x52554e455f7479706573
def s20:=S 0x4e494c
def s21:=S 0x554e54595045445f44454641554c5453
def s22:=S 0x4e494c41424c45
def s23:=S 0x6a6f696e65645f7465787473
def s24:=S 0x7369676e61747572655f74657874
def s25:=S 0x6669656c645f74657874
def s26:=S 0x6272616365645f74657874
def s27:=S 0x6368616e5f74657874
def s28:=S 0x747970655f74657874
def s29:=S 0x756e6465726c79696e675f6f66
def s30:=S 0x69735f6e616d6564
def s31:=S 0x69735f756e7479706564
def Z':=S 0x64656661756c745f74797065
def s33:=S 0x69735f696e74657266616365
def s34:=S 0x69735f696e7465676572
def s35:=S 0x69735f74657874
def s36:=S 0x69735f7472757468
def s37:=S 0x69735f6f726465726564
def s38:=S 0x6861735f6e696c
def s39:=S 0x69735f636f6d70617261626c65
def s40:=S 0x504c41434553
def s41:=S 0x69735f706c616365
def ye:=S 0x4368616e4572726f72
def CH:=S 0x4e616d654661756c74
def DR:=S 0x547970654661756c74
def A5:=S 0x737472696e67
def p8:=S 0x626f6f6c
def jq:=S 0x696e74
def Q9:=S 0x696e743332
def s50:=S 0x6e696c
def Ql:=S 0x72756e65
def AS:=S 0x66756e63
def s57:=S 0x696e74657266616365
def uh:=S 0x6368616e636f72652e7479706573
def s59:=S 0x726f77
def s60:=S 0x6e616d65
def s61:=S 0x54
def s63:=S 0x776f7264
def s64:=S 0x726f7773
def s65:=S 0x6168656164
def EH:=S 0x776f726c64
def s71:=S 0x636865636b6572
def s72:=S 0x6d616465
def kb:=S 0x5f5f6d6f64756c655f5f
def u6:=S 0x5f5f7175616c6e616d655f5f
def j1:=S 0x5f5f66697273746c696e656e6f5f5f
def j7:=S 0x5f5f696e69745f5f
def j8:=S 0x5f5f7374617469635f617474726962757465735f5f
def s79:=S 0x73656c66
def Q7:=S 0x73706f74
def s82:=S 0x4368616e4572726f722e5f5f696e69745f5f
def m8:=S 0x5f5f7765616b7265665f5f
def G':=S 0x6368616e636f72652e636865636b5f6578707273
def EI:=S 0x436f6e73744661756c74
def EJ:=S 0x466c6f774661756c74
def s87:=S 0x4d41494e
def I1:=S 0x52656163686564
def s90:=S 0x6f776e5f6e616d65
def s91:=S 0x776974686f75745f706f696e746572
def s92:=S 0x6f776e5f6d6574686f6473
def s93:=S 0x6d656d626572735f6174
def s94:=S 0x656d6265646465645f696e
def FL:=S 0x4c6576656c73
def s96:=S 0x73746172745f74797065
def s97:=S 0x66696e645f6d656d626572
def s98:=S 0x6e616d65735f6f665f6d6574686f6473
def s99:=S 0x6d656d6265725f6f725f6e6f6e65
def UJ:=S 0x69735f696e5f736574
def TQ:=S 0x6d6574686f645f736574
def WA:=S 0x6c61636b5f6f66
def UH:=S 0x696d706c656d656e7473
def US:=S 0x6e616d65645f76616c7565
def Tq:=S 0x726f775f6f665f6e616d65
def Wz:=S 0x726561645f706c616365
def Qf:=S 0x726561645f72656365697665
def km:=S 0x6368616e636f72652e6c6f6f6b7570
def AD:=S 0x746f6c64
def adX:=S 0x7374657073
def adO:=S 0x526561636865642e5f5f696e69745f5f
def fQ:=S 0x5f5f646963745f5f
def kB:=S 0x7061636b616765
def aca:=S 0x62617365
def Sy:=S 0x666f756e64
def WB:=S 0x676f5f6f6e
def acE:=S 0x68657265
def aci:=S 0x7365656e
def To:=S 0x626567756e
def zh:=S 0x6368616e636f72652e6d6574686f645f73657473
def AB:=S 0x6b6579
def Pz:=S 0x77616e746564
def uz:=S 0x6d6574686f6473
def Rz:=S 0x656e747279
def kL:=S 0x6368616e636f72652e747970655f6578707273
def U2:=S 0x726561645f6b6579
def Xh:=S 0x77616e745f706f737369626c65
def U7:=S 0x726561645f617373657274696f6e
def YH:=S 0x726561645f70616972
def U4:=S 0x42495453
def XQ:=S 0x4d4f53545f42495453
def YL:=S 0x4d4f53545f54455854
def WO:=S 0x434f4d50415249534f4e53
def Xu:=S 0x57524f4e475f52554e45
def SA:=S 0x69735f756e7369676e6564
def XK:=S 0x696e745f72616e6765
def VH:=S 0x69735f696e5f72616e6765
def Tx:=S 0x77697468696e5f72616e6765
def T9:=S 0x726570726573656e7461626c65
def G1:=S 0x636f6e73745f756e617279
def Yx:=S 0x636f6e73745f71756f7469656e74
def We:=S 0x636f6e73745f7368696674
def XD:=S 0x696e745f62696e617279
def Yg:=S 0x636f6e73745f636f6d7061726564
def T2:=S 0x736f72745f6f665f636f6e7374
def Hz:=S 0x636f6e73745f62696e617279
def RH:=S 0x72756e655f6f6374657473
def UU:=S 0x636f6e73745f636f6e76657274
def PD:=S 0x69735f6c696b655f6368616e
def Of:=S 0x6d656574735f66616365
def B6:=S 0x69735f61737369676e61626c65
def Cb:=S 0x69735f636f6e73745f61737369676e61626c65
def NY:=S 0x53594e435f5459504553
def NP:=S 0x4d4f53545f4c454e475448
def Qh:=S 0x4d4f53545f5041525453
def Qa:=S 0x4d4f53545f4c4556454c53
def CW:=S 0x747970655f656e747279
def Bz:=S 0x6578706f727465645f656e747279
def Ou:=S 0x77616e745f6665775f7061727473
def ad4:=S 0x6f6e65
def o8:=S 0x6b696e64
def P8:=S 0x3d3d
def OV:=S 0x213d
def lA:=S 0x6368616e636f72652e636f6e737473
def sW:=S 0x76616c7565
def CF:=S 0x6f70
def ad1:=S 0x61
def abo:=S 0x62
def ab3:=S 0x6f74686572
def GY:=S 0x6368616e636f72652e61737369676e
def r8:=S 0x73636f7065
def tX:=S 0x70617468
def gn:=S 0x6368616e636f72652e636865636b5f6f70657261746f7273
def se:=S 0x54797065526561646572
def VL:=S 0x554e54595045445f494e54
def T8:=S 0x554e54595045445f52554e45
def X6:=S 0x554e54595045445f424f4f4c
def Wj:=S 0x554e54595045445f54455854
def TL:=S 0x4e554d42455253
def r6:=S 0x436f6e7374526561646572
def Iw:=S 0x636f6e73745f6f66
def I6:=S 0x747970655f6f66
def Sg:=S 0x74797065645f636f6e7374
def Rt:=S 0x434f4d504152494e47
def Vo:=S 0x455155414c494e47
def RM:=S 0x5348494654494e47
def OX:=S 0x5245414348494e475f5349474e53
def ON:=S 0x54595045445f4b494e4453
def NX:=S 0x544f4c445f4b494e4453
def NS:=S 0x4c415a595f5349474e53
def NF:=S 0x554e54595045445f54525554485f636865636b5f6f70657261746f7273
def Pn:=S 0x554e54595045445f52414e4b53
def OU:=S 0x69735f636f6e7374616e74
def F9:=S 0x72656164
def O7:=S 0x616c6c
def YE:=S 0x6c656e677468
def Fb:=S 0x737472756374
def UP:=S 0x6b657074
def N7:=S 0x7479706578
def oB:=S 0x65787072
def nr:=S 0x756e7479706564
def ij:=S 0x6368616e636f72652e636f6e73745f6578707273
def td:=S 0x6e616d6564
def U6:=S 0x73656c6563746564
def Xy:=S 0x6b696e645f6f66
def Pf:=S 0x6f665f6f6e65
def Oq:=S 0x6f665f74776f
def TR:=S 0x636f6d6d6f6e
def OB:=S 0x63616c6c6564
def Vr:=S 0x73697a65
def WX:=S 0x61727261795f73697a65
def V1:=S 0x65787472656d65
def WC:=S 0x7265636b6f6e6564
def adf:=S 0x696f7461
def acs:=S 0x436f6e73745265616465722e6f665f6f6e65
def CZ:=S 0x7269676874
def CU:=S 0x6c656674
def abT:=S 0x436f6e73745265616465722e6f665f74776f
def abI:=S 0x436f6e73745265616465722e63616c6c6564
def HE:=S 0x63616c6c
def dX:=S 0x6368616e636f72652e636865636b5f6c6f6f7073
def YF:=S 0x6b696e645f6f665f636f6e7374
def Xb:=S 0x6b6e6f776e5f636f6e7374
def XA:=S 0x636f6d6d6f6e5f756e7479706564
def X':=S 0x6d6174636865645f756e7479706564
def Xq:=S 0x6d6174636865645f7369646573
def SW:=S 0x69735f6265736964655f6e696c
def Uv:=S 0x77616e745f636f6d70617261626c65
def TN:=S 0x77616e745f6f70657261746f72
def He:=S 0x666f6c646564
def VB:=S 0x77616e745f64697669736f72
def VP:=S 0x726561645f6f70657261746f72
def Yr:=S 0x74797065645f7472757468
def R9:=S 0x64656661756c746564
def VT:=S 0x73686966745f636f756e74
def Ip:=S 0x726561645f7368696674
def U5:=S 0x69735f73686966745f7772697474656e
def XN:=S 0x667265655f74797065
def WE:=S 0x6861735f6f776e5f74797065
def Xe:=S 0x69735f73686966745f6f70656e
def Yt:=S 0x74656c6c735f6e6f6e65
def Rr:=S 0x57484f4c455f636865636b5f6c6f6f7073
def Ym:=S 0x52554e455f636865636b5f6c6f6f7073
def FF:=S 0x4c4f4f5053
def RY:=S 0x4c4f4f53455f57484f4c4553
def VQ:=S 0x69735f626c616e6b5f6e616d65
def Ud:=S 0x6861735f63616c6c73
def XY:=S 0x74727574685f6173
def qD:=S 0x4c6f6f70526f77
def Iz:=S 0x626567756e5f6c6f6f70
def zS:=S 0x706c6163655f6c65645f746f
def kx:=S 0x666f72
def gA:=S 0x72616e6765
def uM:=S 0x6c6162656c
def adq:=S 0x4c6f6f70526f772e5f5f696e69745f5f
def sH:=S 0x69735f6f70656e
def nG:=S 0x6368616e636f72652e776f726c64
def qO:=S 0x427265616b61626c65
def PZ:=S 0x636865636b5f627265616b61626c65
def qE:=S 0x486f6c64696e67
def B5:=S 0x504c41494e
def XC:=S 0x636865636b
def sJ:=S 0x626c6f636b
def OM:=S 0x696e6974
def WZ:=S 0x6c6f6f70
def XO:=S 0x6e756d6265725f706c616365
def V4:=S 0x676f6e655f7468726f756768
def Xv:=S 0x776179735f7468726f756768
def Yd:=S 0x61727261795f776179
def PT:=S 0x74616b656e
def V0:=S 0x7472757468
def Th:=S 0x746167
def ll:=S 0x737769746368
def UD:=S 0x7479706573
def Ut:=S 0x747970655f746f6c64
def SM:=S 0x77616e745f756e6c696b65
def VY:=S 0x636173655f6f665f74797065
def As:=S 0x63686f6f7365
def Ua:=S 0x64656564
def acL:=S 0x427265616b61626c652e74616b656e
def Hh:=S 0x68696464656e
def wO:=S 0x6368616e636f72652e686f6c64696e67
def XE:=S 0x6c6f6f6b5f61745f616c6c
def Vq:=S 0x6c6f6f6b
def Ci:=S 0x646f6e65
def fc:=S 0x6368616e636f72652e636865636b5f73746174656d656e7473
def qK:=S 0x4e616d6564526f77
def FR:=S 0x6b6e6f776e5f726f7773
def qM:=S 0x576f726c64
def W2:=S 0x534849465453
def FU:=S 0x4445454453
def Fg:=S 0x425245414b41424c45
def Gs:=S 0x6f6e655f76616c7565
def Wu:=S 0x7475706c655f76616c7565
def RK:=S 0x7061727465645f76616c756573
def Vf:=S 0x6b6570745f70617274
def Uu:=S 0x6b6570745f706c616365
def Av:=S 0x616c6c5f76616c756573
def Gn:=S 0x74797065735f6f665f76616c756573
def Hx:=S 0x69735f64656564
def II:=S 0x636865636b5f65787072
def Vs:=S 0x636865636b5f73656e64
def Vi:=S 0x75706461746564
def Sx:=S 0x6368616e6765645f706c616365
def VV:=S 0x636865636b5f73746570
def VZ:=S 0x69735f626c616e6b
def WG:=S 0x636865636b5f61737369676e
def YA:=S 0x636865636b5f646566696e65
def G8:=S 0x636865636b5f766172
def Vl:=S 0x636865636b5f636f6e7374
def Yf:=S 0x636865636b5f747970656465636c
def I0:=S 0x636865636b5f63616c6c5f73746174656d656e74
def UE:=S 0x636865636b5f72657475726e
def Ic:=S 0x636865636b5f6c656164
def Gp:=S 0x636865636b5f626c6f636b
def HZ:=S 0x636865636b5f6966
def FT:=S 0x636865636b5f706c61696e5f626c6f636b
def zv:=S 0x636865636b5f66616c6c7468726f756768
def vp:=S 0x756e6465726c79696e67
def acD:=S 0x4e616d6564526f772e5f5f696e69745f5f
def PU:=S 0x626173655f6f66
def Yp:=S 0x736574746c6564
def EX:=S 0x7061636b61676573
def SG:=S 0x576f726c642e5f5f696e69745f5f
def abe:=S 0x576f726c642e626173655f6f66
def Gi:=S 0x626f64696573
def Gy:=S 0x636f6e737473
def Ie:=S 0x66696c6573
def Jb:=S 0x66756e6373
def HY:=S 0x676c6f62616c73
def Fu:=S 0x696e697473
def Ga:=S 0x69735f77686f6c65
def HC:=S 0x6c6174655f6b657973
def GQ:=S 0x6c6174655f7061727473
def Jk:=S 0x6c6174655f73697a6573
def Jj:=S 0x6d65617375726564
def uH:=S 0x6d656e74696f6e73
def Ha:=S 0x6f72646572
def HW:=S 0x73636f706573
def Fh:=S 0x736574746c65
def IJ:=S 0x737461727473
def E5:=S 0x76616c756573
def GI:=S 0x77616e74
def IP:=S 0x636f7079
def Iu:=S 0x64656c657465
def Fs:=S 0x70616e6963
def FA:=S 0x7265636f766572
def Ik:=S 0x7072696e74
def v7:=S 0x636c6f7365
def GD:=S 0x6c6f636b
def Gq:=S 0x756e6c6f636b
def F8:=S 0x616464
def E3:=S 0x77616974
def G5:=S 0x676f7363686564
def Fi:=S 0x74797065737769746368
def jg:=S 0x6368616e636f72652e636865636b5f7374617465
def B7:=S 0x434845434b53
def DM:=S 0x636865636b5f73746174656d656e74
def CR:=S 0x636865636b5f616c6c
def pH:=S 0x53636f7065526f77
def ot:=S 0x53636f7065
def Cr:=S 0x554e54595045445f54525554485f636865636b5f7374617465
def GP:=S 0x73656e64
def F5:=S 0x73746570
def G4:=S 0x61737369676e
def Hj:=S 0x646566696e65
def IV:=S 0x766172
def AH:=S 0x636f6e7374
def Ht:=S 0x747970656465636c
def FQ:=S 0x676f
def GL:=S 0x6465666572
def Fq:=S 0x72657475726e
def GA:=S 0x627265616b
def Hu:=S 0x636f6e74696e7565
def Fx:=S 0x66616c6c7468726f756768
def Bo:=S 0x6966
def kP:=S 0x6368616e636f72652e73636f706573
def zf:=S 0x6f776e6572
def Ts:=S 0x69735f636865636b6564
def abn:=S 0x53636f7065526f772e5f5f696e69745f5f
def Wl:=S 0x69735f75736564
def uI:=S 0x6465636c617265
def RI:=S 0x69735f68657265
def PR:=S 0x66696e64
def RC:=S 0x757365
def N9:=S 0x756e75736564
def WQ:=S 0x6465707468
def uE:=S 0x6f75746572
def Wf:=S 0x53636f70652e5f5f696e69745f5f
def XB:=S 0x53636f70652e6465636c617265
def adK:=S 0x53636f70652e66696e64
def aaO:=S 0x53636f70652e756e75736564
def jO:=S 0x6c61775f786d303230335f3031
def qz:=S 0x436865636b6572
def xe:=S 0x5f6c61775f706f74
def Il:=S 0x5f6c61775f73636f6f70
def Gv:=S 0x5f6c61775f6f6e65
def FV:=S 0x5f6c61775f7472696564
def GC:=S 0x5f6c61775f726561645f746f6c64
def G6:=S 0x5f6c61775f636865636b6572
def IQ:=S 0x5f6c61775f63616c6c
def HH:=S 0x5f6c61775f69735f626164
def FP:=S 0x5f6c61775f726f77
def Ft:=S 0x5f6c61775f626c6f636b
def zb:=S 0x5f6c61775f626c6f636b5f7269676874
def zt:=S 0x5f6c61775f69665f7269676874
def Gm:=S 0x5f6c61775f636f6e646974696f6e73
def zy:=S 0x5f6c61775f6c656164735f7269676874
def yR:=S 0x5f6c61775f63616c6c735f7269676874
def pS:=S 0x6c6177
def Oj:=S 0x76616c75655f6d616465
def O4:=S 0x636f65726365
def OC:=S 0x74616b65735f74797065
def Oa:=S 0x6f70656e
def TB:=S 0x6f776e5f6c6f63616c
def Ww:=S 0x626567696e
def XU:=S 0x66696e6973686564
def E7:=S 0x72656164657273
def HN:=S 0x72756e5f626f6479
def T5:=S 0x436865636b65722e5f5f696e69745f5f
def Xj:=S 0x436865636b65722e65787072
def TM:=S 0x436865636b65722e76616c7565
def acq:=S 0x436865636b65722e76616c75655f6d616465
def ab0:=S 0x436865636b65722e636f65726365
def ad3:=S 0x436865636b65722e74616b65735f74797065
def ab5:=S 0x436865636b65722e6f70656e
def aa2:=S 0x436865636b65722e636c6f7365
def TV:=S 0x436865636b65722e68696464656e
def Wq:=S 0x436865636b65722e6465636c617265
def IZ:=S 0x6361707475726564
def F6:=S 0x6861735f726573756c745f6e616d6573
def GV:=S 0x6c69746572616c73
def FK:=S 0x6c6f63616c73
def Gh:=S 0x6c6f6f7073
def Hl:=S 0x6f746865725f70616e696373
def FJ:=S 0x706172616d73
def Fd:=S 0x726573756c745f6c6f63616c73
def Ia:=S 0x726573756c7473
def C0:=S 0x706f74
def abU:=S 0x74726565
def abG:=S 0x647565
def a0:=fA (aF 0)
def a1:=fB (aF 0)
def a2:=fS (aF 0)
def a3:=fA (aF 9)
def a4:=fB (aF 9)
def a5:=fS (aF 9)
def a6:=fA (aF 10)
def a54:=fA (nS 0 (cB (aF 30)))
def a55:=fB (nS 0 (cB (aF 30)))
def a56:=fS (nS 0 (cB (aF 30)))
def abE:=fA (aF 197)
def vj:=fB (aF 197)
def uc:=fS (aF 197)
def acJ:=fA (aF 210)
def lJ:=fB (aF 210)
def qC:=fS (aF 210)
def ac8:=fA (aF 212)
def qv:=fB (aF 212)
def wa:=fS (aF 212)
noncomputable abbrev En:Type:=Str×Tok×Value
noncomputable def dD(k:Nat)(l:List (List En))(P:Params):Obj:=ob (type "dict") (.dict (li (l.flatten.map λx=>en P x.1 x.2.1 x.2.2)) k)
noncomputable def pl(k:Nat)(l:List Nat):List Value:=(List.rec (motive:=λζ=>(Nat->List Value)×List Value) (λζ=>[],[]) (λa ζ r=>(λl=>int (.ofNat l) 0::int (.ofNat k) 0::ref a::r.2,r.1 a)) l).2
noncomputable def pD(k:Nat)(l:List (List Nat))(_:Params):Obj:=ob .none (.fields (li (pl k l.flatten)))
noncomputable def gU(a:Addr)(_:Params):Obj:=ob (type "super") (.fields (li [ref a,ref a,ref a]))
noncomputable def gI(a:Addr)(_:Params):Obj:=ob (type "builtin_function_or_method") (.fields (li [builtin "object.__init_subclass__",ref a]))
noncomputable def gW(s:Str)(t:Tok)(a:Addr)(_:Params):Obj:=ob (type "getset_descriptor") (.fields (li [str s t,ref a,builtin "ExceptionGroup.__weakref__",.none]))
noncomputable def gX(s:Str)(t:Tok)(a:Addr)(_:Params):Obj:=ob (type "getset_descriptor") (.fields (li [str s t,ref a,builtin "function.__dict__",builtin "function.__dict__#set"]))
noncomputable def gY(a b:Addr)(s:Str)(t:Tok)(_:Params):Obj:=Obj.mk (type "frame") .none Data.plain (li [.some (ref a),.some (ref 3),.some (ref b),.none,.some (str s t),.none,.some (ref 0)])
noncomputable def gZ(s:Str)(a b:List Value)(d:Addr)(q:Str)(k:List Value)(x:Option Value)(u:Str)(v:Tok)(y:Str)(z:Tok)(n:String)(_:Params):Obj:=Obj.mk (type "type") .none (Data.cls (ClassData.mk s a b d q true [] k false .none false)) (li [x,.none,.some (str u v),.some (str y z),.some (builtin n),.some (Value.bool true)])
noncomputable def gM(s:Str)(t:Tok):List En:=[(s5,165,str s t),(s7,166,.none),(s8,167,.none),(s9,168,builtin "__main__.__loader__#opaque"),(s10,169,.none),(s11,170,ref 6),(s12,171,ref 4),(s13,173,str s1 172),(s14,174,.none),(s15,193,ref 21),(s16,197,ref 22),(Z9,199,ref 23)]
def c0:List En:=gM s6 367
def c1:List En:=[(s18,202,ref 24),(s19,205,ref 25),(s20,207,ref 26),(s21,216,ref 27),(s22,223,ref 28),(s23,229,ref 33),(s24,235,ref 38),(s25,245,ref 45),(s26,253,ref 52),(s27,262,ref 59),(s28,268,ref 64),(s29,276,ref 71)]
def c2:List En:=[(s30,283,ref 78),(s31,290,ref 85),(Z',297,ref 92),(s33,305,ref 99),(s34,313,ref 106),(s35,321,ref 113),(s36,329,ref 120),(s37,337,ref 127),(s38,345,ref 134),(s39,351,ref 139),(s40,357,ref 140),(s41,366,ref 147)]
def c3:List En:=[(ye,400,ref 165),(CH,416,ref 178),(DR,432,ref 190)]
def c4:List Nat:=[1,20,12,32,14,37,22,44]
def c5:List Nat:=[25,51,27,58,33,63,56,70]
def c6:List Nat:=[58,77,60,84,62,91,64,98]
def c7:List Nat:=[66,105,70,112,72,119,74,126]
def c8:List Nat:=[76,133,78,138,95,146,109,153]
def Mq:List En:=[(ye,400,ref 165),(CH,416,ref 178),(DR,432,ref 190),(EI,448,ref 202),(EJ,464,ref 214),(s87,468,str (S 0x6d61696e) 467),(I1,501,ref 234),(s90,510,ref 245),(s91,517,ref 252),(s92,525,ref 259),(s93,531,ref 264),(s94,545,ref 271)]
def Lf:List En:=[(FL,587,ref 295),(s96,597,ref 306),(s97,611,ref 313),(s98,627,ref 320),(s99,636,ref 327),(UJ,642,ref 332),(TQ,655,ref 339),(WA,666,ref 346),(UH,678,ref 353),(US,693,ref 360),(Tq,703,ref 367),(Wz,712,ref 374)]
def K0:List Nat:=[115,174,117,186,119,198,121,210]
def Lz:List Nat:=[125,222,131,244,135,251,137,258]
def Lo:List Nat:=[139,263,153,270,162,277,181,305]
def L4:List Nat:=[189,312,208,319,219,326,224,331]
def J9:List Nat:=[228,338,238,345,244,352,253,359]
def Qw:List En:=[(Qf,725,ref 381),(U2,739,ref 388),(Xh,750,ref 395),(U7,765,ref 402),(YH,775,ref 409),(U4,808,ref 410),(XQ,810,int 512 809),(YL,814,int 1048576 813),(WO,821,ref 411),(Xu,823,Value.bytes (li [239,191,189]) 822),(SA,830,ref 418),(XK,837,ref 425)]
def P5:List En:=[(VH,847,ref 432),(Tx,855,ref 439),(T9,864,ref 446),(G1,873,ref 454),(Yx,882,ref 461),(We,892,ref 468),(XD,901,ref 475),(Yg,910,ref 482),(T2,917,ref 489),(Hz,928,ref 497),(RH,935,ref 504),(UU,943,ref 511)]
def NI:List Nat:=[275,366,280,373,288,380,295,387]
def NB:List Nat:=[299,394,305,401,315,408,332,417]
def Py:List Nat:=[334,424,338,431,343,438,347,445]
def Pc:List Nat:=[360,453,372,460,377,467,385,474]
def PX:List Nat:=[405,481,417,488,421,496,438,503]
def O5:List Nat:=[442,510,449,517,454,524,456,532]
def PE:List Nat:=[466,539,480,548,495,556,504,561]
def Q4:List En:=[(PD,956,ref 518),(Of,965,ref 525),(B6,975,ref 533),(Cb,986,ref 540),(NY,991,ref 541),(NP,995,int 1048576 994),(Qh,997,int 2000 996),(Qa,999,int 100 998),(CW,1013,ref 549),(Bz,1024,ref 557),(Ou,1030,ref 562),(se,1129,ref 624)]
def Rb:List En:=[(VL,1134,ref 629),(T8,1137,ref 630),(X6,1140,ref 631),(Wj,1143,ref 632),(TL,1144,ref 633),(r6,1325,ref 739),(Iw,1336,ref 751),(I6,1350,ref 758),(Sg,1363,ref 765),(Rt,1372,ref 766),(Vo,1375,ref 767),(RM,1378,ref 768)]
def Q6:List Nat:=[513,568,591,639,739,750,741,757]
def Yu:List En:=[(OX,1388,ref 769),(ON,1395,ref 770),(NX,1399,ref 771),(NS,1402,ref 772),(NF,1405,ref 773),(Pn,1408,ref 774),(OU,1415,ref 781),(YF,1424,ref 788),(Xb,1433,ref 795),(XA,1442,ref 802),(X',1455,ref 809),(Xq,1469,ref 816)]
def Uh:List En:=[(SW,1477,ref 823),(Uv,1483,ref 828),(TN,1494,ref 835),(He,1510,ref 842),(VB,1521,ref 849),(VP,1533,ref 856),(Yr,1540,ref 863),(R9,1548,ref 870),(VT,1557,ref 877),(Ip,1575,ref 884),(U5,1582,ref 891),(XN,1591,ref 898)]
def Vb:List En:=[(WE,1601,ref 905),(Xe,1611,ref 912),(Yt,1619,ref 919),(Rr,1624,ref 920),(Ym,1627,ref 921),(FF,1630,ref 922),(RY,1635,ref 925),(VQ,1642,ref 932),(Ud,1648,ref 937),(XY,1658,ref 944),(qD,1690,ref 961),(Iz,1699,ref 972)]
def X4:List Nat:=[745,764,763,780,765,787,770,794]
def Vt:List Nat:=[775,801,781,808,791,815,805,822]
def VI:List Nat:=[807,827,818,834,825,841,829,848]
def Xk:List Nat:=[832,855,847,862,849,869,851,876]
def VC:List Nat:=[859,883,873,890,875,897,881,904]
def UK:List Nat:=[894,911,905,918,912,931,914,936]
def Wv:List Nat:=[922,943,926,950,932,971,935,978]
def c69:List En:=[(zS,1713,ref 979),(qO,1979,ref 1122),(PZ,1989,ref 1133),(qE,2047,ref 1169),(B5,2051,ref 1176),(qK,2086,ref 1193),(FR,2099,ref 1204),(qM,2164,ref 1236),(W2,2169,ref 1241),(FU,2182,ref 1242),(Fg,2188,ref 1243),(Gs,2197,ref 1250)]
def c70:List En:=[(Wu,2210,ref 1257),(RK,2216,ref 1262),(Vf,2227,ref 1269),(Uu,2239,ref 1276),(Av,2245,ref 1282),(Gn,2251,ref 1287),(Hx,2258,ref 1294),(II,2267,ref 1301),(Vs,2281,ref 1308),(Vi,2293,ref 1315),(Sx,2301,ref 1322),(VV,2314,ref 1329)]
def c71:List En:=[(VZ,2321,ref 1336),(WG,2327,ref 1341),(YA,2333,ref 1346),(G8,2339,ref 1351),(Vl,2355,ref 1358),(Yf,2361,ref 1363),(I0,2373,ref 1370),(UE,2388,ref 1377),(Ic,2396,ref 1384),(Gp,2405,ref 1391),(HZ,2423,ref 1398),(FT,2431,ref 1405)]
def c73:List Nat:=[943,985,1199,1132,1202,1139,1238,1182]
def c74:List Nat:=[1245,1203,1254,1210,1298,1249,1302,1256]
def c75:List Nat:=[1308,1261,1320,1268,1326,1275,1339,1281]
def c76:List Nat:=[1348,1286,1352,1293,1354,1300,1359,1307]
def c77:List Nat:=[1366,1314,1372,1321,1376,1328,1382,1335]
def c78:List Nat:=[1384,1340,1396,1345,1421,1350,1431,1357]
def c79:List Nat:=[1444,1362,1459,1369,1465,1376,1479,1383]
def c80:List Nat:=[1481,1390,1486,1397,1498,1404,1500,1411]
def c83:List Nat:=[1503,1419,1507,1426,1513,1433,1522,1454]
noncomputable def x9:List Str->Nat->List Value
 |[],_=>[]
 |s::l,n=>str s n::x9 l (n+1)
noncomputable def oT(n:Nat)(l:List Str)(_:Params):Obj:=ob (type "tuple") (Data.seq (li (x9 l n)) 0)
noncomputable def oF(s q:Str)(x:Stmt)(_:Params):Obj:=ob .none (Data.func (fd s q (fA x) (fB x) (fS x) 0 .none .none .none .none 0))
noncomputable def oG(s q:Str)(x:Stmt)(d:Value)(m:Str)(t:Tok)(c:Addr)(_:Params):Obj:=ob (type "function") (Data.func (fd s q (fA x) (fB x) (fS x) 3 d .none (str m t) (ref c) 0))
noncomputable def oC(n:Nat)(s q f:Str)(l a b c d:Nat)(r:Addr)(k:Bool)(z:Nat)(u v w x:Value)(p:Nat)(_:Params):Obj:=ob (type "code") (Data.fields (li [str s n,str q (n+1),str f (n+2),int (.ofNat l) 0,int (.ofNat a) 0,int (.ofNat b) 0,int (.ofNat c) 0,int (.ofNat d) 0,ref r,Value.bool k,int (.ofNat z) 0,ref (r+1),u,v,w,x,int (.ofNat p) 0,int (.ofNat l) 0,str f (p+1)]))
noncomputable def oD(n:Nat)(s q:Str)(l a:Nat)(r:Addr)(p:Nat):Params->Obj:=oC n s q s1 l a 0 0 3 r true 181 .none (ref (r+2)) (ref (r+3)) (ref (r+4)) p
noncomputable def fN:Stmt->Str
 |.FunctionDef n .. =>n
 |.ClassDef n .. =>n
 |_=>default
noncomputable def fP:Stmt->Nat
 |.FunctionDef _ _ _ _ _ _ _ _ _ p=>p.line
 |_=>0
noncomputable def fV(x:Stmt):List Str:=((fS x).names.filter λp=>p.2==.local).map (·.1)
noncomputable def fM(x:Stmt):Nat:=(fA x).args.length
noncomputable def cx(c j:Nat):Stmt:=nS j (cB (aF c))
noncomputable def qm(c j:Nat):Str:=⟨((fN (aF c)).cps.toList++46::(fN (cx c j)).cps.toList).toArray⟩
noncomputable def gF(q:Str)(x:Stmt):Params->Obj:=oF (fN x) q x
noncomputable def gG(q:Str)(x:Stmt):Str->Tok->Addr->Params->Obj:=oG (fN x) q x .none
noncomputable def gD(n:Nat)(q:Str)(x:Stmt)(r:Addr):Params->Obj:=oD n (fN x) q (fP x) (fM x) r (n+3+(fV x).length)
noncomputable def gE(n:Nat)(q:Str)(x:Stmt)(r:Addr):Params->Obj:=oC n (fN x) q s1 (fP x) (fM x) 0 0 3 r true 181 .none .none .none (ref (r+2)) (n+3)
noncomputable def gT(n:Nat)(x:Stmt):Params->Obj:=oT n (fV x)
noncomputable def tF(k:Nat):=gF (fN (aF k)) (aF k)
noncomputable def mF(c j:Nat):=gF (qm c j) (cx c j)
noncomputable def tG(k:Nat):=gG (fN (aF k)) (aF k)
noncomputable def mG(c j:Nat):=gG (qm c j) (cx c j)
noncomputable def tD(n k:Nat):=gD n (fN (aF k)) (aF k)
noncomputable def mD(n c j:Nat):=gD n (qm c j) (cx c j)
noncomputable def tE(n k:Nat):=gE n (fN (aF k)) (aF k)
noncomputable def mE(n c j:Nat):=gE n (qm c j) (cx c j)
noncomputable def tT(n k:Nat):=gT n (aF k)
noncomputable def mT(n c j:Nat):=gT n (cx c j)
def o0(P:Params):Obj:=(ob (type "tuple") (Data.seq (li []) 0))
def o1:=pD 0 [[]]
def o2:=oC 182 s0 s0 s1 1 0 0 0 0 11 false 181 .none .none .none .none 185
def o3(P:Params):Obj:=(Obj.mk (type "frame") .none Data.plain (li [(.some (ref 13)),(.some (ref 3)),(.some (ref 3)),.none,(.some (str (S 0x5f5f6d61696e5f5f) 164)),.none,(.some (ref 0))]))
def o4(P:Params):Obj:=(ob .none (Data.dict (li [(en P (S 0x747970652e5f5f737562636c61737365735f5f2e457863657074696f6e2e30) 397 (int 165 0)),(en P (S 0x747970652e5f5f737562636c61737365735f5f2e457863657074696f6e2e6e) 398 (int 1 0))]) 2))
def o11:=oT 196 [A5]
def o12:=oT 198 [p8]
def o13:=oT 200 [jq,jq]
def o14:=oT 203 [jq,Q9]
def o15:=oT 206 [s50]
def o16:=dD 4 [[(p8,208,ref 23),(jq,209,ref 24),(Ql,210,ref 25),(A5,211,ref 22)]]
def q0:Q8:=⟨dD 39 [c0,c1,c2,c3],pD 0 [c4,c5,c6,c7,c8,[115,174,117,186]],tT 190 0,tF 0,tD 187 0 15,tG 0 (S 0x5f5f6d61696e5f5f) 164 20,oT 217 [(S 0x707472),AS,(S 0x736c696365),(S 0x6d6170),(S 0x6368616e),s57],tF 9⟩
def q1:Q8:=⟨tE 224 9 29,tG 9 uh 194 32,tF 10,tE 230 10 34,tG 10 uh 194 37,tT 239 11,tF 11,tD 236 11 39⟩
def q2:Q8:=⟨tG 11 uh 194 44,tT 249 12,tF 12,tD 246 12 46,tG 12 uh 194 51,tT 257 13,tF 13,tD 254 13 53⟩
def o41:=tD 269 15 65
def o42:=tG 15 uh 194 70
def q3:Q8:=⟨tG 13 uh 194 58,tF 14,tE 263 14 60,tG 14 uh 194 63,tT 272 15,tF 15,tT 280 16,tF 16⟩
def o49:=tD 284 17 79
def o50:=tG 17 uh 194 84
def o53:=tD 291 18 86
def o54:=tG 18 uh 194 91
def q4:Q8:=⟨tD 277 16 72,tG 16 uh 194 77,tT 287 17,tF 17,tT 294 18,tF 18,tT 301 19,tF 19⟩
def o57:=tD 298 19 93
def o58:=tG 19 uh 194 98
def q5:Q8:=⟨tT 309 20,tF 20,tD 306 20 100,tG 20 uh 194 105,tT 317 21,tF 21,tD 314 21 107,tG 21 uh 194 112⟩
def q6:Q8:=⟨tT 325 22,tF 22,tD 322 22 114,tG 22 uh 194 119,tT 333 23,tF 23,tD 330 23 121,tG 23 uh 194 126⟩
def q7:Q8:=⟨tT 341 24,tF 24,tD 338 24 128,tG 24 uh 194 133,tF 25,tE 346 25 135,tG 25 uh 194 138,oT 354 [(S 0x6c6f63616c),(S 0x676c6f62616c),(S 0x6465726566)]⟩
def q8:Q8:=⟨tT 361 28,tF 28,tD 358 28 141,tG 28 (S 0x6368616e636f72652e636865636b5f706c61636573) 352 146,λP=>(ob (type "tuple") (Data.seq (li [(type "Exception")]) 0)),λP=>(ob (type "builtin_function_or_method") (Data.fields (li [(builtin "type.__prepare__"),(type "type")]))),dD 5 [[(kb,376,str s6 367),(u6,378,str ye 377),(j1,380,int 109 379),(j7,390,ref 162),(j8,393,ref 163)]],pD 4 [[111,161]]⟩
def o93(P:Params):Obj:=(ob (type "tuple") (Data.seq (li [(int 0 381)]) 0))
def o96:=mD 382 30 0 156
def o97:=oG j7 s82 (nS 0 (cB (aF 30))) (ref 155) s6 367 161
def o99:=dD 3 [[(kb,376,str s6 367),(j1,380,int 109 379),(j7,390,ref 162),(j8,393,ref 163),(m8,395,ref 166),(s7,396,.none)]]
def q9:Q8:=⟨oC 371 ye ye s1 109 0 0 0 0 151 false 181 .none .none .none .none 374,gY 153 150 s6 367,mT 385 30 0,mF 30 0,oT 391 [(S 0x6d657373616765),Q7],gZ ye [(type "Exception")] [(ref 165),(type "Exception"),(type "BaseException"),(type "object")] 164 ye [(ref 178),(ref 190)] (.some (ref 148)) ye 369 ye 377 "Exception.__new__",gW m8 394 165,gU 165⟩
def Yv:=dD 2 [[(kb,408,str s6 367),(j1,412,int 115 411),(j8,413,ref 176),(s7,414,.none)]]
def YJ(P:Params):Obj:=(Obj.mk (type "type") .none (Data.cls (ClassData.mk CH [(ref 165)] [(ref 178),(ref 165),(type "Exception"),(type "BaseException"),(type "object")] 177 CH true [] [] false .none false)) (li [(.some (ref 169)),.none,(.some (str CH 401)),(.some (str CH 409)),(.some (builtin "Exception.__new__")),(.some (Value.bool true))]))
def BC:Q8:=⟨gI 165,λP=>(ob (type "tuple") (Data.seq (li [(ref 165)]) 0)),dD 4 [[(kb,408,str s6 367),(u6,410,str CH 409),(j1,412,int 115 411),(j8,413,ref 176)]],oC 403 CH CH s1 115 0 0 0 0 172 false 181 .none .none .none .none 406,gY 174 171 s6 367,gU 178,gI 178,dD 4 [[(kb,424,str s6 367),(u6,426,str DR 425),(j1,428,int 117 427),(j8,429,ref 188)]]⟩
def Rq:=dD 2 [[(kb,424,str s6 367),(j1,428,int 117 427),(j8,429,ref 188),(s7,430,.none)]]
def TJ(P:Params):Obj:=(Obj.mk (type "type") .none (Data.cls (ClassData.mk DR [(ref 165)] [(ref 190),(ref 165),(type "Exception"),(type "BaseException"),(type "object")] 189 DR true [] [] false .none false)) (li [(.some (ref 181)),.none,(.some (str DR 417)),(.some (str DR 425)),(.some (builtin "Exception.__new__")),(.some (Value.bool true))]))
def Uw(P:Params):Obj:=(Obj.mk (type "type") .none (Data.cls (ClassData.mk ye [(type "Exception")] [(ref 165),(type "Exception"),(type "BaseException"),(type "object")] 164 ye true [] [(ref 178),(ref 190),(ref 202),(ref 214)] false .none false)) (li [(.some (ref 148)),.none,(.some (str ye 369)),(.some (str ye 377)),(.some (builtin "Exception.__new__")),(.some (Value.bool true))]))
def LU:Q8:=⟨oC 419 DR DR s1 117 0 0 0 0 184 false 181 .none .none .none .none 422,gY 186 183 s6 367,gU 190,gI 190,dD 61 [gM G' 679,c1,c2,Mq,Lf,[(Qf,725,ref 381)]],pD 0 [c4,c5,c6,c7,c8,K0,Lz,Lo,L4,J9,[275,366,280,373,288,380]],dD 4 [[(kb,440,str s6 367),(u6,442,str EI 441),(j1,444,int 119 443),(j8,445,ref 200)]],oC 435 EI EI s1 119 0 0 0 0 196 false 181 .none .none .none .none 438⟩
def XI:=dD 2 [[(kb,440,str s6 367),(j1,444,int 119 443),(j8,445,ref 200),(s7,446,.none)]]
def UQ(P:Params):Obj:=(Obj.mk (type "type") .none (Data.cls (ClassData.mk EI [(ref 165)] [(ref 202),(ref 165),(type "Exception"),(type "BaseException"),(type "object")] 201 EI true [] [] false .none false)) (li [(.some (ref 193)),.none,(.some (str EI 433)),(.some (str EI 441)),(.some (builtin "Exception.__new__")),(.some (Value.bool true))]))
def U1:=dD 2 [[(kb,456,str s6 367),(j1,460,int 121 459),(j8,461,ref 212),(s7,462,.none)]]
def UW(P:Params):Obj:=(Obj.mk (type "type") .none (Data.cls (ClassData.mk EJ [(ref 165)] [(ref 214),(ref 165),(type "Exception"),(type "BaseException"),(type "object")] 213 EJ true [] [] false .none false)) (li [(.some (ref 205)),.none,(.some (str EJ 449)),(.some (str EJ 457)),(.some (builtin "Exception.__new__")),(.some (Value.bool true))]))
def LO:Q8:=⟨gY 198 195 s6 367,gU 202,gI 202,dD 4 [[(kb,456,str s6 367),(u6,458,str EJ 457),(j1,460,int 121 459),(j8,461,ref 212)]],oC 451 EJ EJ s1 121 0 0 0 0 208 false 181 .none .none .none .none 454,gY 210 207 s6 367,gU 214,gI 214⟩
def IF(P:Params):Obj:=(ob (type "tuple") (Data.seq (li [(Value.bool false)]) 0))
def Kb:Q8:=⟨dD 5 [[(kb,476,str km 465),(u6,478,str I1 477),(j1,480,int 125 479),(j7,490,ref 231),(j8,494,ref 232)]],pD 4 [[127,230]],oC 471 I1 I1 s1 125 0 0 0 0 220 false 181 .none .none .none .none 474,gY 222 219 km 465,mT 484 37 0,mF 37 0,mD 481 37 0 225,oG j7 adO (nS 0 (cB (aF 37))) (ref 224) km 465 230⟩
def Lm:Q8:=⟨oT 491 [(S 0x69735f7477696365),adX,AD],dD 4 [[(kb,476,str km 465),(j1,480,int 125 479),(j7,490,ref 231),(j8,494,ref 232),(fQ,496,ref 235),(m8,498,ref 236),(s7,499,.none)]],gZ I1 [(type "object")] [(ref 234),(type "object")] 233 I1 [] .none I1 469 I1 477 "object.__new__",gX fQ 495 234,gW m8 497 234,gU 234,gI 234,tT 505 38⟩
def MT:Q8:=⟨tF 38,tD 502 38 239,tG 38 km 465 244,tT 514 39,tF 39,tD 511 39 246,tG 39 km 465 251,tT 521 40⟩
def LW:Q8:=⟨tF 40,tD 518 40 253,tG 40 km 465 258,tF 41,tE 526 41 260,tG 41 km 465 263,tT 535 42,tF 42⟩
def Kk:Q8:=⟨tD 532 42 265,tG 42 km 465 270,dD 6 [[(kb,553,str km 465),(u6,555,str FL 554),(j1,557,int 162 556),(j7,566,ref 285),(WB,576,ref 292),(j8,580,ref 293)]],pD 4 [[164,284,169,291]],oC 548 FL FL s1 162 0 0 0 0 275 false 181 .none .none .none .none 551,gY 277 274 km 465,mT 561 43 0,mF 43 0⟩
def KU:Q8:=⟨mD 558 43 0 279,mG 43 0 km 465 284,mT 570 43 1,mF 43 1,mD 567 43 1 286,mG 43 1 km 465 291,oT 577 [acE,aci,EH],dD 4 [[(kb,553,str km 465),(j1,557,int 162 556),(j7,566,ref 285),(WB,576,ref 292),(j8,580,ref 293),(fQ,582,ref 296),(m8,584,ref 297),(s7,585,.none)]]⟩
def Lq:Q8:=⟨gZ FL [(type "object")] [(ref 295),(type "object")] 294 FL [] .none FL 546 FL 554 "object.__new__",gX fQ 581 295,gW m8 583 295,gU 295,gI 295,tT 591 44,tF 44,tD 588 44 300⟩
def La:Q8:=⟨tG 44 km 465 305,tT 601 45,tF 45,tD 598 45 307,tG 45 km 465 312,tT 617 47,tF 47,tD 614 47 314⟩
def Mt:Q8:=⟨tG 47 zh 612 319,tT 631 48,tF 48,tD 628 48 321,tG 48 zh 612 326,tF 49,tE 637 49 328,tG 49 zh 612 331⟩
def Km:Q8:=⟨tT 646 50,tF 50,tD 643 50 333,tG 50 zh 612 338,tT 659 51,tF 51,tD 656 51 340,tG 51 zh 612 345⟩
def MQ:Q8:=⟨tT 670 52,tF 52,tD 667 52 347,tG 52 zh 612 352,tT 684 54,tF 54,tD 681 54 354,tG 54 G' 679 359⟩
def JL:Q8:=⟨tT 697 55,tF 55,tD 694 55 361,tG 55 G' 679 366,tT 707 56,tF 56,tD 704 56 368,tG 56 G' 679 373⟩
def J2:Q8:=⟨tT 716 57,tF 57,tD 713 57 375,tG 57 G' 679 380,dD 95 [gM kL 987,c1,c2,Mq,Lf,Qw,P5,[(PD,956,ref 518),(Of,965,ref 525),(B6,975,ref 533),(Cb,986,ref 540),(NY,991,ref 541),(NP,995,int 1048576 994),(Qh,997,int 2000 996),(Qa,999,int 100 998),(CW,1013,ref 549),(Bz,1024,ref 557),(Ou,1030,ref 562)]],pD 0 [c4,c5,c6,c7,c8,K0,Lz,Lo,L4,J9,NI,NB,Py,Pc,PX,O5,PE],tT 729 58,tF 58⟩
def J8:Q8:=⟨tD 726 58 382,tG 58 G' 679 387,tT 743 59,tF 59,tD 740 59 389,tG 59 G' 679 394,tT 754 60,tF 60⟩
def L8:Q8:=⟨tD 751 60 396,tG 60 G' 679 401,tT 769 61,tF 61,tD 766 61 403,tG 61 G' 679 408,dD 10 [[(jq,778,int 64 779),(S 0x696e7438,780,int 8 781),(S 0x696e743136,782,int 16 783),(Q9,784,int 32 785),(S 0x696e743634,786,int 64 787),(S 0x75696e74,788,int 64 789),(S 0x75696e7438,790,int 8 791),(S 0x75696e743136,792,int 16 793),(S 0x75696e743332,794,int 32 795),(S 0x75696e743634,796,int 64 797)]],oT 815 [P8,OV,(S 0x3c),(S 0x3c3d),(S 0x3e),(S 0x3e3d)]⟩
def J3:Q8:=⟨tT 827 68,tF 68,tD 824 68 412,tG 68 lA 776 417,tT 834 69,tF 69,tD 831 69 419,tG 69 lA 776 424⟩
def Ly:Q8:=⟨tT 841 70,tF 70,tD 838 70 426,tG 70 lA 776 431,tT 851 71,tF 71,tD 848 71 433,tG 71 lA 776 438⟩
def kz(P:Params):Obj:=(ob (type "tuple") (Data.seq (li [.none]) 0))
def Lp:Q8:=⟨tT 859 72,tF 72,tD 856 72 440,tG 72 lA 776 445,tT 868 73,tF 73,tD 865 73 448,oG G1 G1 (aF 73) (ref 447) lA 776 453⟩
def Mb:Q8:=⟨tT 877 74,tF 74,tD 874 74 455,tG 74 lA 776 460,tT 886 75,tF 75,tD 883 75 462,tG 75 lA 776 467⟩
def Kn:Q8:=⟨tT 896 76,tF 76,tD 893 76 469,tG 76 lA 776 474,tT 905 77,tF 77,tD 902 77 476,tG 77 lA 776 481⟩
def Kg:Q8:=⟨tT 914 78,tF 78,tD 911 78 483,tG 78 lA 776 488,tT 921 79,tF 79,tD 918 79 491,oG Hz Hz (aF 79) (ref 490) lA 776 496⟩
def Ke:Q8:=⟨tT 932 80,tF 80,tD 929 80 498,tG 80 lA 776 503,tT 939 81,tF 81,tD 936 81 505,tG 81 lA 776 510⟩
def Ka:Q8:=⟨tT 949 83,tF 83,tD 946 83 512,tG 83 GY 944 517,tT 960 84,tF 84,tD 957 84 519,tG 84 GY 944 524⟩
def UZ:=tD 976 86 534
def Vk:=tG 86 GY 944 539
def zN(P:Params):Obj:=(ob (type "tuple") (Data.seq (li [(Value.bool true)]) 0))
def Ln:Q8:=⟨tT 969 85,tF 85,tD 966 85 527,oG B6 B6 (aF 85) (ref 526) GY 944 532,tT 979 86,tF 86,oT 989 [(S 0x4d75746578),(S 0x5761697447726f7570)],tT 1003 92⟩
def MK:Q8:=⟨tF 92,tD 1000 92 543,oG CW CW (aF 92) (ref 542) kL 987 548,tT 1017 93,tF 93,tD 1014 93 551,oG Bz Bz (aF 93) (ref 550) kL 987 556,tF 94⟩
def J4:Q8:=⟨tE 1025 94 558,tG 94 kL 987 561,dD 115 [gM gn 1364,c1,c2,Mq,Lf,Qw,P5,Q4,Rb,[(OX,1388,ref 769),(ON,1395,ref 770),(NX,1399,ref 771),(NS,1402,ref 772),(NF,1405,ref 773),(Pn,1408,ref 774),(OU,1415,ref 781)]],pD 0 [c4,c5,c6,c7,c8,K0,Lz,Lo,L4,J9,NI,NB,Py,Pc,PX,O5,PE,Q6,[745,764,763,780]],dD 12 [[(kb,1038,str kL 987),(u6,1040,str se 1039),(j1,1042,int 513 1041),(j7,1053,ref 576),(F9,1063,ref 583),(O7,1069,ref 588),(YE,1079,ref 595),(AB,1088,ref 602),(Fb,1102,ref 609),(UP,1111,ref 616),(s57,1117,ref 621),(j8,1122,ref 622)]],pD 4 [[515,575,521,582,539,587,542,594],[548,601,553,608,565,615,569,620]],oC 1033 se se s1 513 0 0 0 0 566 false 181 .none .none .none .none 1036,gY 568 565 kL 987⟩
def KC:Q8:=⟨mT 1046 95 0,mF 95 0,mD 1043 95 0 570,mG 95 0 kL 987 575,mT 1057 95 1,mF 95 1,mD 1054 95 1 577,mG 95 1 kL 987 582⟩
def JW:Q8:=⟨mF 95 2,mE 1064 95 2 584,mG 95 2 kL 987 587,mT 1073 95 3,mF 95 3,mD 1070 95 3 589,mG 95 3 kL 987 594,mT 1083 95 4⟩
def JU:Q8:=⟨mF 95 4,mD 1080 95 4 596,mG 95 4 kL 987 601,mT 1092 95 5,mF 95 5,mD 1089 95 5 603,mG 95 5 kL 987 608,mT 1106 95 6⟩
def Mc:Q8:=⟨mF 95 6,mD 1103 95 6 610,mG 95 6 kL 987 615,mF 95 7,mE 1112 95 7 617,mG 95 7 kL 987 620,oT 1118 [(S 0x636f6e73745f726561646572),kB,r8,EH],dD 4 [[(kb,1038,str kL 987),(j1,1042,int 513 1041),(j7,1053,ref 576),(F9,1063,ref 583),(O7,1069,ref 588),(YE,1079,ref 595),(AB,1088,ref 602),(Fb,1102,ref 609),(UP,1111,ref 616),(s57,1117,ref 621),(j8,1122,ref 622),(fQ,1124,ref 625),(m8,1126,ref 626),(s7,1127,.none)]]⟩
def K8:Q8:=⟨gZ se [(type "object")] [(ref 624),(type "object")] 623 se [] .none se 1031 se 1039 "object.__new__",gX fQ 1123 624,gW m8 1125 624,gU 624,gI 624,oT 1132 [nr,jq],oT 1135 [nr,Ql],oT 1138 [nr,p8]⟩
def Mh:Q8:=⟨oT 1141 [nr,A5],λP=>(ob (type "tuple") (Data.seq (li [(ref 629),(ref 630)]) 0)),dD 18 [[(kb,1152,str ij 1130),(u6,1154,str r6 1153),(j1,1156,int 591 1155),(j7,1167,ref 647),(F9,1177,ref 654),(td,1187,ref 661),(U6,1199,ref 668),(Xy,1208,ref 675),(Pf,1220,ref 682),(Oq,1237,ref 689),(TR,1249,ref 696),(OB,1265,ref 703),(Vr,1278,ref 710),(WX,1289,ref 717),(V1,1295,ref 722),(Pz,1303,ref 729),(WC,1313,ref 736),(j8,1318,ref 737)]],pD 4 [[593,646,599,653,619,660,627,667],[635,674,639,681,643,688,655,695],[666,702,684,709,693,716,710,721],[725,728,734,735]],oC 1147 r6 r6 s1 591 0 0 0 0 637 false 181 .none .none .none .none 1150,gY 639 636 ij 1130,mT 1160 102 0,mF 102 0⟩
def MJ:Q8:=⟨mD 1157 102 0 641,mG 102 0 ij 1130 646,mT 1171 102 1,mF 102 1,mD 1168 102 1 648,mG 102 1 ij 1130 653,mT 1181 102 2,mF 102 2⟩
def JM:Q8:=⟨mD 1178 102 2 655,mG 102 2 ij 1130 660,mT 1191 102 3,mF 102 3,mD 1188 102 3 662,mG 102 3 ij 1130 667,mT 1203 102 4,mF 102 4⟩
def Lb:Q8:=⟨mD 1200 102 4 669,mG 102 4 ij 1130 674,oT 1212 [s79,oB],oT 1214 [s79,oB,AD,sW],mF 102 5,oD 1209 Pf acs 639 2 676 1218,mG 102 5 ij 1130 681,oT 1224 [s79,oB,Q7,CZ,Sy]⟩
def MI:Q8:=⟨oT 1229 [s79,ad1,abo,CU,CF,AD],mF 102 6,oD 1221 Oq abT 643 2 683 1235,mG 102 6 ij 1130 688,mT 1241 102 7,mF 102 7,mD 1238 102 7 690,mG 102 7 ij 1130 695⟩
def LQ:Q8:=⟨mT 1253 102 8,oT 1261 [aca,sW],mF 102 8,oD 1250 OB abI 666 2 697 1263,mG 102 8 ij 1130 702,mT 1269 102 9,mF 102 9,mD 1266 102 9 704⟩
def LB:Q8:=⟨mG 102 9 ij 1130 709,mT 1282 102 10,mF 102 10,mD 1279 102 10 711,mG 102 10 ij 1130 716,mF 102 11,mE 1290 102 11 718,mG 102 11 ij 1130 721⟩
def Ml:Q8:=⟨mT 1299 102 12,mF 102 12,mD 1296 102 12 723,mG 102 12 ij 1130 728,mT 1307 102 13,mF 102 13,mD 1304 102 13 730,mG 102 13 ij 1130 735⟩
def JO:Q8:=⟨oT 1314 [adf,kB,r8,EH],dD 4 [[(kb,1152,str ij 1130),(j1,1156,int 591 1155),(j7,1167,ref 647),(F9,1177,ref 654),(td,1187,ref 661),(U6,1199,ref 668),(Xy,1208,ref 675),(Pf,1220,ref 682),(Oq,1237,ref 689),(TR,1249,ref 696),(OB,1265,ref 703),(Vr,1278,ref 710),(WX,1289,ref 717),(V1,1295,ref 722),(Pz,1303,ref 729),(WC,1313,ref 736),(j8,1318,ref 737),(fQ,1320,ref 740),(m8,1322,ref 741),(s7,1323,.none)]],gZ r6 [(type "object")] [(ref 739),(type "object")] 738 r6 [] .none r6 1145 r6 1153 "object.__new__",gX fQ 1319 739,gW m8 1321 739,gU 739,gI 739,tT 1329 103⟩
def JP:Q8:=⟨tF 103,tD 1326 103 745,oG Iw Iw (aF 103) (ref 744) ij 1130 750,oT 1340 [EH,kB,r8,N7,AD],oT 1345 [EH,kB,r8],tF 104,oD 1337 I6 I6 741 4 752 1348,tG 104 ij 1130 757⟩
def K9:Q8:=⟨tT 1354 105,tF 105,tD 1351 105 759,tG 105 ij 1130 764,oT 1366 [P8,OV,(S 0x3c),(S 0x3c3d),(S 0x3e),(S 0x3e3d)],oT 1373 [P8,OV],oT 1376 [(S 0x3c3c),(S 0x3e3e)],oT 1379 [(S 0x2b),(S 0x2d),(S 0x2a),(S 0x2f),(S 0x25),(S 0x26),(S 0x7c),(S 0x5e),(S 0x265e)]⟩
def Ls:Q8:=⟨oT 1389 [(S 0x696e646578),(S 0x637574),(S 0x617373657274),(S 0x73746172),AS,(S 0x6c6974)],oT 1396 [s60,(S 0x73656c656374),HE],oT 1400 [(S 0x2626),(S 0x7c7c)],oT 1403 [nr,p8],oT 1406 [jq,Ql],tT 1412 116,tF 116,tD 1409 116 775⟩
def KL:Q8:=⟨tG 116 gn 1364 780,dD 145 [gM dX 1620,c1,c2,Mq,Lf,Qw,P5,Q4,Rb,Yu,Uh,Vb,[(zS,1713,ref 979)]],pD 0 [c4,c5,c6,c7,c8,K0,Lz,Lo,L4,J9,NI,NB,Py,Pc,PX,O5,PE,Q6,X4,Vt,VI,Xk,VC,UK,Wv],tT 1419 117,tF 117,tD 1416 117 782,tG 117 gn 1364 787,tT 1428 118⟩
def Lg:Q8:=⟨tF 118,tD 1425 118 789,tG 118 gn 1364 794,tT 1437 119,tF 119,tD 1434 119 796,tG 119 gn 1364 801,tT 1446 120⟩
def LF:Q8:=⟨tF 120,tD 1443 120 803,tG 120 gn 1364 808,tT 1459 121,tF 121,tD 1456 121 810,tG 121 gn 1364 815,tT 1473 122⟩
def L5:Q8:=⟨tF 122,tD 1470 122 817,tG 122 gn 1364 822,tF 123,tE 1478 123 824,tG 123 gn 1364 827,tT 1487 124,tF 124⟩
def Mp:Q8:=⟨tD 1484 124 829,tG 124 gn 1364 834,oT 1498 [s71,CF,CU,CZ,Q7,sW],oT 1504 [CF,CU,CZ,o8],tF 125,oD 1495 He He 825 5 836 1508,tG 125 gn 1364 841,tT 1514 126⟩
def Mr:Q8:=⟨tF 126,tD 1511 126 843,tG 126 gn 1364 848,tT 1525 127,tF 127,tD 1522 127 850,tG 127 gn 1364 855,tT 1537 128⟩
def Ll:Q8:=⟨tF 128,tD 1534 128 857,tG 128 gn 1364 862,tT 1544 129,tF 129,tD 1541 129 864,tG 129 gn 1364 869,tT 1552 130⟩
def Lu:Q8:=⟨tF 130,tD 1549 130 871,tG 130 gn 1364 876,oT 1561 [s71,CF,CU,CZ,Pz,Q7,sW,s61],oT 1569 [CF,CU,CZ,o8],tF 131,oD 1558 Ip Ip 859 6 878 1573,tG 131 gn 1364 883⟩
def LX:Q8:=⟨tT 1579 132,tF 132,tD 1576 132 885,tG 132 gn 1364 890,tT 1586 133,tF 133,tD 1583 133 892,tG 133 gn 1364 897⟩
def Kv:Q8:=⟨tT 1595 134,tF 134,tD 1592 134 899,tG 134 gn 1364 904,tT 1605 135,tF 135,tD 1602 135 906,tG 135 gn 1364 911⟩
def RD:=oT 1628 [kx,gA]
def Lr:Q8:=⟨tT 1615 136,tF 136,tD 1612 136 913,tG 136 gn 1364 918,oT 1622 [jq,jq],oT 1625 [jq,Q9],oT 1631 [nr,jq],oT 1633 [nr,Ql]⟩
def JV:Q8:=⟨λP=>(ob (type "tuple") (Data.seq (li [(ref 923),(ref 924)]) 0)),tT 1639 142,tF 142,tD 1636 142 926,tG 142 dX 1620 931,tF 143,tE 1643 143 933,tG 143 dX 1620 936⟩
def Kx:Q8:=⟨tT 1652 144,tF 144,tD 1649 144 938,tG 144 dX 1620 943,dD 5 [[(kb,1666,str dX 1620),(u6,1668,str qD 1667),(j1,1670,int 926 1669),(j7,1679,ref 958),(j8,1683,ref 959)]],pD 4 [[928,957]],oC 1661 qD qD s1 926 0 0 0 0 948 false 181 .none .none .none .none 1664,gY 950 947 dX 1620⟩
def Ti:=mD 1671 145 0 952
def SQ:=mG 145 0 dX 1620 957
def Yw:=dD 4 [[(kb,1666,str dX 1620),(j1,1670,int 926 1669),(j7,1679,ref 958),(j8,1683,ref 959),(fQ,1685,ref 962),(m8,1687,ref 963),(s7,1688,.none)]]
def RW(P:Params):Obj:=(Obj.mk (type "type") .none (Data.cls (ClassData.mk qD [(type "object")] [(ref 961),(type "object")] 960 qD true [] [] false .none false)) (li [.none,.none,(.some (str qD 1659)),(.some (str qD 1667)),(.some (builtin "object.__new__")),(.some (Value.bool true))]))
def LL:Q8:=⟨mT 1674 145 0,mF 145 0,oT 1680 [sH,o8,uM],gX fQ 1684 961,gW m8 1686 961,gU 961,gI 961,tT 1694 146⟩
def X7:=tD 1691 146 966
def Tr:=tG 146 dX 1620 971
def SJ:=tD 1700 147 973
def Wd:=tG 147 dX 1620 978
def Ko:Q8:=⟨tF 146,tT 1703 147,tF 147,dD 149 [gM nG 2048,c1,c2,Mq,Lf,Qw,P5,Q4,Rb,Yu,Uh,Vb,[(zS,1713,ref 979),(qO,1979,ref 1122),(PZ,1989,ref 1133),(qE,2047,ref 1169),(B5,2051,ref 1176)]],pD 0 [c4,c5,c6,c7,c8,K0,Lz,Lo,L4,J9,NI,NB,Py,Pc,PX,O5,PE,Q6,X4,Vt,VI,Xk,VC,UK,Wv,[943,985,1199,1132,1202,1139]],dD 24 [[(kb,1721,str dX 1620),(u6,1723,str qO 1722),(j1,1725,int 943 1724),(j7,1735,ref 993),(XC,1748,ref 1000),(sJ,1758,ref 1007),(OM,1766,ref 1014),(WZ,1772,ref 1019),(XO,1782,ref 1026),(V4,1796,ref 1033),(Xv,1807,ref 1040),(Yd,1823,ref 1047)],[(PT,1829,ref 1053),(gA,1853,ref 1060),(V0,1870,ref 1067),(Th,1881,ref 1074),(ll,1887,ref 1079),(UD,1893,ref 1084),(Ut,1903,ref 1091),(SM,1915,ref 1098),(VY,1932,ref 1105),(As,1951,ref 1112),(Ua,1968,ref 1119),(j8,1972,ref 1120)]],pD 4 [[945,992,950,999,969,1006,975,1013],[978,1018,991,1025,997,1032,1006,1039],[1025,1046,1041,1052,1065,1059,1077,1066],[1097,1073,1106,1078,1124,1083,1149,1090],[1155,1097,1163,1104,1174,1111,1189,1118]],oC 1716 qO qO s1 943 0 0 0 0 983 false 181 .none .none .none .none 1719⟩
def K7:Q8:=⟨gY 985 982 dX 1620,mT 1729 148 0,mF 148 0,mD 1726 148 0 987,mG 148 0 dX 1620 992,mT 1739 148 1,mF 148 1,mD 1736 148 1 994⟩
def JY:Q8:=⟨mG 148 1 dX 1620 999,mT 1752 148 2,mF 148 2,mD 1749 148 2 1001,mG 148 2 dX 1620 1006,mT 1762 148 3,mF 148 3,mD 1759 148 3 1008⟩
def KO:Q8:=⟨mG 148 3 dX 1620 1013,mF 148 4,mE 1767 148 4 1015,mG 148 4 dX 1620 1018,mT 1776 148 5,mF 148 5,mD 1773 148 5 1020,mG 148 5 dX 1620 1025⟩
def K2:Q8:=⟨mT 1786 148 6,mF 148 6,mD 1783 148 6 1027,mG 148 6 dX 1620 1032,mT 1800 148 7,mF 148 7,mD 1797 148 7 1034,mG 148 7 dX 1620 1039⟩
def ME:Q8:=⟨mT 1811 148 8,mF 148 8,mD 1808 148 8 1041,mG 148 8 dX 1620 1046,λP=>(ob (type "tuple") (Data.seq (li [.none,(Value.bool false)]) 0)),mF 148 9,mE 1824 148 9 1049,oG PT acL (nS 9 (cB (aF 148))) (ref 1048) dX 1620 1052⟩
def LR:Q8:=⟨mT 1833 148 10,mF 148 10,mD 1830 148 10 1054,mG 148 10 dX 1620 1059,mT 1857 148 11,mF 148 11,mD 1854 148 11 1061,mG 148 11 dX 1620 1066⟩
def Lh:Q8:=⟨mT 1874 148 12,mF 148 12,mD 1871 148 12 1068,mG 148 12 dX 1620 1073,mF 148 13,mE 1882 148 13 1075,mG 148 13 dX 1620 1078,mF 148 14⟩
def JX:Q8:=⟨mE 1888 148 14 1080,mG 148 14 dX 1620 1083,mT 1897 148 15,mF 148 15,mD 1894 148 15 1085,mG 148 15 dX 1620 1090,mT 1907 148 16,mF 148 16⟩
def Kj:Q8:=⟨mD 1904 148 16 1092,mG 148 16 dX 1620 1097,mT 1919 148 17,mF 148 17,mD 1916 148 17 1099,mG 148 17 dX 1620 1104,mT 1936 148 18,mF 148 18⟩
def MC:Q8:=⟨mD 1933 148 18 1106,mG 148 18 dX 1620 1111,mT 1955 148 19,mF 148 19,mD 1952 148 19 1113,mG 148 19 dX 1620 1118,oT 1969 [O7,s71,ad4],dD 4 [[(kb,1721,str dX 1620),(j1,1725,int 943 1724),(j7,1735,ref 993),(XC,1748,ref 1000),(sJ,1758,ref 1007),(OM,1766,ref 1014),(WZ,1772,ref 1019),(XO,1782,ref 1026),(V4,1796,ref 1033),(Xv,1807,ref 1040),(Yd,1823,ref 1047),(PT,1829,ref 1053)],[(gA,1853,ref 1060),(V0,1870,ref 1067),(Th,1881,ref 1074),(ll,1887,ref 1079),(UD,1893,ref 1084),(Ut,1903,ref 1091),(SM,1915,ref 1098),(VY,1932,ref 1105),(As,1951,ref 1112),(Ua,1968,ref 1119),(j8,1972,ref 1120),(fQ,1974,ref 1123)],[(m8,1976,ref 1124),(s7,1977,.none)]]⟩
def K5:Q8:=⟨gZ qO [(type "object")] [(ref 1122),(type "object")] 1121 qO [] .none qO 1714 qO 1722 "object.__new__",gX fQ 1973 1122,gW m8 1975 1122,gU 1122,gI 1122,tT 1983 149,tF 149,tD 1980 149 1127⟩
def KN:Q8:=⟨tG 149 dX 1620 1132,dD 8 [[(kb,1999,str wO 1990),(u6,2001,str qE 2000),(j1,2003,int 1202 2002),(j7,2011,ref 1147),(XE,2018,ref 1154),(Vq,2030,ref 1161),(To,2036,ref 1166),(j8,2040,ref 1167)]],pD 4 [[1204,1146,1209,1153,1212,1160,1225,1165]],oC 1994 qE qE s1 1202 0 0 0 0 1137 false 181 .none .none .none .none 1997,gY 1139 1136 wO 1990,mT 2007 151 0,mF 151 0,mD 2004 151 0 1141⟩
def J7:Q8:=⟨mG 151 0 wO 1990 1146,mT 2015 151 1,mF 151 1,mD 2012 151 1 1148,mG 151 1 wO 1990 1153,mT 2022 151 2,mF 151 2,mD 2019 151 2 1155⟩
def J6:Q8:=⟨mG 151 2 wO 1990 1160,mF 151 3,mE 2031 151 3 1162,mG 151 3 wO 1990 1165,oT 2037 [Ci,sH,EH],dD 4 [[(kb,1999,str wO 1990),(j1,2003,int 1202 2002),(j7,2011,ref 1147),(XE,2018,ref 1154),(Vq,2030,ref 1161),(To,2036,ref 1166),(j8,2040,ref 1167),(fQ,2042,ref 1170),(m8,2044,ref 1171),(s7,2045,.none)]],gZ qE [(type "object")] [(ref 1169),(type "object")] 1168 qE [] .none qE 1992 qE 2000 "object.__new__",gX fQ 2041 1169⟩
def V5(P:Params):Obj:=(ob (type "tuple") (Data.seq (li [(str AS 2050),(ref 1174),(ref 1175),(Value.bool false)]) 0))
def MA:Q8:=⟨gW m8 2043 1169,gU 1169,gI 1169,dD 181 [gM fc 2165,c1,c2,Mq,Lf,Qw,P5,Q4,Rb,Yu,Uh,Vb,c69,c70,c71,[(zv,2439,ref 1412)]],pD 0 [c4,c5,c6,c7,c8,K0,Lz,Lo,L4,J9,NI,NB,Py,Pc,PX,O5,PE,Q6,X4,Vt,VI,Xk,VC,UK,Wv,c73,c74,c75,c76,c77,c78,c79,c80],dD 5 [[(kb,2059,str nG 2048),(u6,2061,str qK 2060),(j1,2063,int 1238 2062),(j7,2074,ref 1190),(j8,2079,ref 1191)]],pD 4 [[1240,1189]],oC 2054 qK qK s1 1238 0 0 0 0 1180 false 181 .none .none .none .none 2057⟩
def XT:=mD 2064 154 0 1184
def Sq:=mG 154 0 nG 2048 1189
def YC:=dD 4 [[(kb,2059,str nG 2048),(j1,2063,int 1238 2062),(j7,2074,ref 1190),(j8,2079,ref 1191),(fQ,2081,ref 1194),(m8,2083,ref 1195),(s7,2084,.none)]]
def RZ(P:Params):Obj:=(Obj.mk (type "type") .none (Data.cls (ClassData.mk qK [(type "object")] [(ref 1193),(type "object")] 1192 qK true [] [] false .none false)) (li [.none,.none,(.some (str qK 2052)),(.some (str qK 2060)),(.some (builtin "object.__new__")),(.some (Value.bool true))]))
def LD:Q8:=⟨gY 1182 1179 nG 2048,mT 2067 154 0,mF 154 0,oT 2075 [uz,kB,tX,vp],gX fQ 2080 1193,gW m8 2082 1193,gU 1193,gI 1193⟩
def Uc:=tD 2087 155 1198
def SY:=tG 155 nG 2048 1203
def L9:Q8:=⟨tT 2090 155,tF 155,dD 7 [[(kb,2107,str nG 2048),(u6,2109,str qM 2108),(j1,2111,int 1254 2110),(j7,2119,ref 1219),(PU,2128,ref 1226),(Yp,2136,ref 1233),(j8,2157,ref 1234)]],pD 4 [[1256,1218,1278,1225,1290,1232]],oC 2102 qM qM s1 1254 0 0 0 0 1208 false 181 .none .none .none .none 2105,gY 1210 1207 nG 2048,mT 2115 156 0,mF 156 0⟩
def R0:=mD 2112 156 0 1213
def Yi:=oG j7 SG (nS 0 (cB (aF 156))) (ref 1212) nG 2048 1218
def Sr:=mD 2120 156 1 1220
def Yl:=mG 156 1 nG 2048 1225
def Wc:=dD 4 [[(kb,2107,str nG 2048),(j1,2111,int 1254 2110),(j7,2119,ref 1219),(PU,2128,ref 1226),(Yp,2136,ref 1233),(j8,2157,ref 1234),(fQ,2159,ref 1237),(m8,2161,ref 1238),(s7,2162,.none)]]
def RL(P:Params):Obj:=(Obj.mk (type "type") .none (Data.cls (ClassData.mk qM [(type "object")] [(ref 1236),(type "object")] 1235 qM true [] [] false .none false)) (li [.none,.none,(.some (str qM 2100)),(.some (str qM 2108)),(.some (builtin "object.__new__")),(.some (Value.bool true))]))
def Mo:Q8:=⟨mT 2123 156 1,mF 156 1,mT 2132 156 2,mF 156 2,mD 2129 156 2 1227,mG 156 2 nG 2048 1232,oT 2137 [Gi,Gy,Ie,Jb,HY,Fu,Ga,HC,GQ,Jk,Jj,uH,td,Ha,EX,HW,Fh,IJ,E5,GI],gX fQ 2158 1236⟩
def SR:=oT 2170 [IP,Iu,Fs,FA,Ik,v7,GD,Gq,F8,Ci,E3,G5]
def Vn:=oT 2183 [kx,gA,ll,Fi,As]
def Us:=tD 2189 161 1244
def UC:=tG 161 fc 2165 1249
def Kt:Q8:=⟨gW m8 2160 1236,gU 1236,gI 1236,oT 2167 [(S 0x3c3c),(S 0x3e3e)],tT 2192 161,tF 161,tT 2201 162,tF 162⟩
def Mk:Q8:=⟨tD 2198 162 1251,tG 162 fc 2165 1256,tF 163,tE 2211 163 1258,tG 163 fc 2165 1261,tT 2220 164,tF 164,tD 2217 164 1263⟩
def VK:=tE 2240 166 1278
def TH:=oG Av Av (aF 166) (ref 1277) fc 2165 1281
def VD:=tE 2246 167 1283
def VS:=tG 167 fc 2165 1286
def LJ:Q8:=⟨tG 164 fc 2165 1268,tT 2231 165,tF 165,tD 2228 165 1270,tG 165 fc 2165 1275,tF 166,tF 167,tT 2255 168⟩
def Sv:=tD 2252 168 1288
def RS:=tG 168 fc 2165 1293
def Vc:=tD 2259 169 1295
def Vz:=tG 169 fc 2165 1300
def Lk:Q8:=⟨tF 168,tT 2262 169,tF 169,tT 2271 170,tF 170,tD 2268 170 1302,tG 170 fc 2165 1307,tT 2285 171⟩
def Ms:Q8:=⟨tF 171,tD 2282 171 1309,tG 171 fc 2165 1314,tT 2297 172,tF 172,tD 2294 172 1316,tG 172 fc 2165 1321,tT 2305 173⟩
def KG:Q8:=⟨tF 173,tD 2302 173 1323,tG 173 fc 2165 1328,tT 2318 174,tF 174,tD 2315 174 1330,tG 174 fc 2165 1335,tF 175⟩
def SV:=tE 2334 177 1347
def SD:=tG 177 fc 2165 1350
def LG:Q8:=⟨tE 2322 175 1337,tG 175 fc 2165 1340,tF 176,tE 2328 176 1342,tG 176 fc 2165 1345,tF 177,tT 2343 178,tF 178⟩
def Rp:=tD 2362 180 1364
def Ru:=tG 180 fc 2165 1369
def Mw:Q8:=⟨tD 2340 178 1352,tG 178 fc 2165 1357,tF 179,tE 2356 179 1359,tG 179 fc 2165 1362,tT 2365 180,tF 180,tT 2377 181⟩
def Ye:=tD 2389 182 1378
def Wm:=tG 182 fc 2165 1383
def Ui:=tD 2397 183 1385
def UI:=tG 183 fc 2165 1390
def Kd:Q8:=⟨tF 181,tD 2374 181 1371,tG 181 fc 2165 1376,tT 2392 182,tF 182,tT 2400 183,tF 183,tT 2409 184⟩
def Tb:=tD 2406 184 1392
def Yc:=tG 184 fc 2165 1397
def SO:=tD 2424 185 1399
def X2:=tG 185 fc 2165 1404
def WK:=tD 2432 186 1406
def VE:=tG 186 fc 2165 1411
def Xr:=dD 16 [[(oB,2440,ref 1301),(GP,2442,ref 1308),(F5,2444,ref 1329),(G4,2446,ref 1341),(Hj,2448,ref 1346),(IV,2450,ref 1351),(AH,2452,ref 1358),(Ht,2454,ref 1363),(FQ,2456,ref 1370),(GL,2458,ref 1370),(Fq,2460,ref 1377),(GA,2462,ref 1384),(Hu,2464,ref 1384),(Fx,2466,ref 1412),(sJ,2468,ref 1405),(Bo,2470,ref 1398)]]
def JR:Q8:=⟨tF 184,tT 2427 185,tF 185,tT 2435 186,tF 186,dD 187 [gM jg 2627,c1,c2,Mq,Lf,Qw,P5,Q4,Rb,Yu,Uh,Vb,c69,c70,c71,[(zv,2439,ref 1412),(B7,2472,ref 1413),(DM,2480,ref 1420),(CR,2490,ref 1427),(pH,2530,ref 1444),(ot,2626,ref 1517),(Cr,2631,ref 1522)]],pD 0 [c4,c5,c6,c7,c8,K0,Lz,Lo,L4,J9,NI,NB,Py,Pc,PX,O5,PE,Q6,X4,Vt,VI,Xk,VC,UK,Wv,c73,c74,c75,c76,c77,c78,c79,c80,c83],tT 2476 188⟩
def Tj:=tD 2473 188 1414
def SH:=tG 188 fc 2165 1419
def T3:=tD 2481 189 1421
def XJ:=tG 189 fc 2165 1426
def JT:Q8:=⟨tF 188,tT 2484 189,tF 189,dD 5 [[(kb,2500,str kP 2491),(u6,2502,str pH 2501),(j1,2504,int 1513 2503),(j7,2516,ref 1441),(j8,2523,ref 1442)]],pD 4 [[1515,1440]],oC 2495 pH pH s1 1513 0 0 0 0 1431 false 181 .none .none .none .none 2498,gY 1433 1430 kP 2491,mT 2508 191 0⟩
def Sl:=mD 2505 191 0 1435
def WS:=mG 191 0 kP 2491 1440
def Ve:=dD 4 [[(kb,2500,str kP 2491),(j1,2504,int 1513 2503),(j7,2516,ref 1441),(j8,2523,ref 1442),(fQ,2525,ref 1445),(m8,2527,ref 1446),(s7,2528,.none)]]
def W8(P:Params):Obj:=(Obj.mk (type "type") .none (Data.cls (ClassData.mk pH [(type "object")] [(ref 1444),(type "object")] 1443 pH true [] [] false .none false)) (li [.none,.none,(.some (str pH 2493)),(.some (str pH 2501)),(.some (builtin "object.__new__")),(.some (Value.bool true))]))
def uR:Q8:=⟨mF 191 0,oT 2517 [Rz,Ts,Wl,s60,zf,Q7],gX fQ 2524 1444,gW m8 2526 1444,gU 1444,gI 1444,dD 12 [[(kb,2538,str kP 2491),(u6,2540,str ot 2539),(j1,2542,int 1522 2541),(j7,2551,ref 1463),(uI,2562,ref 1471),(RI,2570,ref 1478),(s59,2579,ref 1485),(PR,2589,ref 1493),(RC,2598,ref 1500),(N9,2608,ref 1507),(WQ,2615,ref 1514),(j8,2619,ref 1515)]],pD 4 [[1524,1462,1529,1470,1536,1477,1539,1484],[1547,1492,1553,1499,1558,1506,1566,1513]]⟩
def Tn:=mD 2543 192 0 1457
def Sn:=oG j7 Wf (nS 0 (cB (aF 192))) (ref 1456) kP 2491 1462
def So:=mD 2552 192 1 1465
def Su:=oG uI XB (nS 1 (cB (aF 192))) (ref 1464) kP 2491 1470
def uV:Q8:=⟨oC 2533 ot ot s1 1522 0 0 0 0 1452 false 181 .none .none .none .none 2536,gY 1454 1451 kP 2491,mT 2546 192 0,mF 192 0,mT 2555 192 1,mF 192 1,mT 2566 192 2,mF 192 2⟩
def vx:Q8:=⟨mD 2563 192 2 1472,mG 192 2 kP 2491 1477,mT 2574 192 3,mF 192 3,mD 2571 192 3 1479,mG 192 3 kP 2491 1484,mT 2583 192 4,mF 192 4⟩
def vo:Q8:=⟨mD 2580 192 4 1487,oG PR adK (nS 4 (cB (aF 192))) (ref 1486) kP 2491 1492,mT 2593 192 5,mF 192 5,mD 2590 192 5 1494,mG 192 5 kP 2491 1499,mT 2602 192 6,mF 192 6⟩
def Wt:=mD 2599 192 6 1501
def Yk:=mG 192 6 kP 2491 1506
def R8:=dD 4 [[(kb,2538,str kP 2491),(j1,2542,int 1522 2541),(j7,2551,ref 1463),(uI,2562,ref 1471),(RI,2570,ref 1478),(s59,2579,ref 1485),(PR,2589,ref 1493),(RC,2598,ref 1500),(N9,2608,ref 1507),(WQ,2615,ref 1514),(j8,2619,ref 1515),(fQ,2621,ref 1518),(m8,2623,ref 1519),(s7,2624,.none)]]
def UT(P:Params):Obj:=(Obj.mk (type "type") .none (Data.cls (ClassData.mk ot [(type "object")] [(ref 1517),(type "object")] 1516 ot true [] [] false .none false)) (li [.none,.none,(.some (str ot 2531)),(.some (str ot 2539)),(.some (builtin "object.__new__")),(.some (Value.bool true))]))
def vc:Q8:=⟨mT 2612 192 7,mF 192 7,mD 2609 192 7 1508,mG 192 7 kP 2491 1513,oT 2616 [uE,zf,s64],gX fQ 2620 1517,gW m8 2622 1517,gU 1517⟩
def Xf:=oT 2629 [nr,p8]
def Co:=dD 204 [gM jO 2804,c1,c2,Mq,Lf,Qw,P5,Q4,Rb,Yu,Uh,Vb,c69,c70,c71,[(zv,2439,ref 1412),(B7,2472,ref 1413),(DM,2480,ref 1420),(CR,2490,ref 1427),(pH,2530,ref 1444),(ot,2626,ref 1517),(Cr,2631,ref 1522),(qz,2803,ref 1633),(xe,2814,ref 1644),(Il,2823,ref 1651),(Gv,2831,ref 1658),(FV,2839,ref 1665)],[(GC,2848,ref 1672),(G6,2856,ref 1679),(IQ,2863,ref 1686),(HH,2870,ref 1693),(FP,2884,ref 1700),(Ft,2902,ref 1707),(zb,2914,ref 1714),(zt,2932,ref 1721),(Gm,2938,ref 1728),(zy,2944,ref 1733),(yR,2958,ref 1740),(pS,2969,ref 1747)]]
def ur:Q8:=⟨gI 1517,pD 0 [c4,c5,c6,c7,c8,K0,Lz,Lo,L4,J9,NI,NB,Py,Pc,PX,O5,PE,Q6,X4,Vt,VI,Xk,VC,UK,Wv,c73,c74,c75,c76,c77,c78,c79,c80,c83,[1570,1528,1667,1643,1671,1650,1678,1657],[1680,1664,1691,1671,1693,1678,1698,1685],[1700,1692,1702,1699,1716,1706,1730,1713],[1736,1720,1754,1727,1756,1732,1768,1739],[1773,1746]],dD 18 [[(kb,2639,str jg 2627),(u6,2641,str qz 2640),(j1,2643,int 1570 2642),(j7,2657,ref 1537),(oB,2666,ref 1545),(sW,2675,ref 1553),(Oj,2684,ref 1560),(N7,2692,ref 1567),(O4,2704,ref 1574),(OC,2713,ref 1581),(Oa,2720,ref 1588),(v7,2729,ref 1595),(Hh,2738,ref 1603),(uI,2750,ref 1611),(TB,2764,ref 1618),(Ww,2770,ref 1623),(XU,2778,ref 1630),(j8,2796,ref 1631)]],pD 4 [[1572,1536,1591,1544,1594,1552,1597,1559],[1604,1566,1607,1573,1622,1580,1627,1587],[1630,1594,1635,1602,1639,1610,1645,1617],[1656,1622,1664,1629]],oC 2634 qz qz s1 1570 0 0 0 0 1526 false 181 .none .none .none .none 2637,gY 1528 1525 jg 2627,mT 2647 195 0,mF 195 0⟩
def T4:=mD 2644 195 0 1531
def Sz:=oG j7 T5 (nS 0 (cB (aF 195))) (ref 1530) jg 2627 1536
def WY:=mD 2658 195 1 1539
def Tv:=oG oB Xj (nS 1 (cB (aF 195))) (ref 1538) jg 2627 1544
def UX:=mD 2667 195 2 1547
def V9:=oG sW TM (nS 2 (cB (aF 195))) (ref 1546) jg 2627 1552
def Rw:=mD 2676 195 3 1554
def Wo:=mG 195 3 jg 2627 1559
def vg:Q8:=⟨mT 2661 195 1,mF 195 1,mT 2670 195 2,mF 195 2,mT 2679 195 3,mF 195 3,mT 2688 195 4,mF 195 4⟩
def Sw:=mD 2693 195 5 1568
def RQ:=mG 195 5 jg 2627 1573
def Sp:=mD 2705 195 6 1575
def Uq:=mG 195 6 jg 2627 1580
def uJ:Q8:=⟨mD 2685 195 4 1561,mG 195 4 jg 2627 1566,mT 2696 195 5,mF 195 5,mT 2708 195 6,mF 195 6,mT 2717 195 7,mF 195 7⟩
def Vp:=mD 2714 195 7 1582
def Ue:=mG 195 7 jg 2627 1587
def V':=mD 2721 195 8 1589
def Vu:=mG 195 8 jg 2627 1594
def WT:=mD 2730 195 9 1597
def X5:=oG Hh TV (nS 9 (cB (aF 195))) (ref 1596) jg 2627 1602
def UA:=mD 2739 195 10 1605
def Ta:=oG uI Wq (nS 10 (cB (aF 195))) (ref 1604) jg 2627 1610
def vn:Q8:=⟨mT 2724 195 8,mF 195 8,mT 2733 195 9,mF 195 9,mT 2742 195 10,mF 195 10,mT 2754 195 11,mF 195 11⟩
def ux:Q8:=⟨mD 2751 195 11 1612,mG 195 11 jg 2627 1617,mF 195 12,mE 2765 195 12 1619,mG 195 12 jg 2627 1622,mT 2774 195 13,mF 195 13,mD 2771 195 13 1624⟩
def LC:=dD 4 [[(kb,2639,str jg 2627),(j1,2643,int 1570 2642),(j7,2657,ref 1537),(oB,2666,ref 1545),(sW,2675,ref 1553),(Oj,2684,ref 1560),(N7,2692,ref 1567),(O4,2704,ref 1574),(OC,2713,ref 1581),(Oa,2720,ref 1588),(v7,2729,ref 1595),(Hh,2738,ref 1603),(uI,2750,ref 1611),(TB,2764,ref 1618),(Ww,2770,ref 1623),(XU,2778,ref 1630),(j8,2796,ref 1631),(fQ,2798,ref 1634),(m8,2800,ref 1635),(s7,2801,.none)]]
def Mv(P:Params):Obj:=(Obj.mk (type "type") .none (Data.cls (ClassData.mk qz [(type "object")] [(ref 1633),(type "object")] 1632 qz true [] [] false .none false)) (li [.none,.none,(.some (str qz 2632)),(.some (str qz 2640)),(.some (builtin "object.__new__")),(.some (Value.bool true))]))
def uX:Q8:=⟨mG 195 13 jg 2627 1629,oT 2779 [IZ,F6,AB,GV,FK,Gh,uH,Hl,uE,kB,FJ,E7,Fd,Ia,HN,r8,EH],gX fQ 2797 1633,gW m8 2799 1633,gU 1633,gI 1633,tT 2809 197,tF 197⟩
def Mz:=tD 2806 197 1638
def Ky:=tG 197 jO 2804 1643
def LI:=tD 2815 198 1645
def Lw:=tG 198 jO 2804 1650
def KI:=tD 2824 199 1652
def Le:=tG 199 jO 2804 1657
def J1:=tD 2832 200 1659
def MP:=tG 200 jO 2804 1664
def tP:Q8:=⟨tT 2818 198,tF 198,tT 2827 199,tF 199,tT 2835 200,tF 200,tT 2843 201,tF 201⟩
def KJ:=tD 2840 201 1666
def MB:=tG 201 jO 2804 1671
def My:=tD 2849 202 1673
def J0:=tG 202 jO 2804 1678
def KR:=tD 2857 203 1680
def Mg:=tG 203 jO 2804 1685
def Lv:=tD 2864 204 1687
def Kr:=tG 204 jO 2804 1692
def uy:Q8:=⟨tT 2852 202,tF 202,tT 2860 203,tF 203,tT 2867 204,tF 204,tT 2874 205,tF 205⟩
def KX:=tD 2871 205 1694
def KV:=tG 205 jO 2804 1699
def Kp:=tD 2885 206 1701
def Ld:=tG 206 jO 2804 1706
def Me:=oD 2903 zb zb 1730 1 1708 2912
def KQ:=tG 207 jO 2804 1713
def uq:Q8:=⟨tT 2888 206,tF 206,tT 2906 207,oT 2910 [s71,abU],tF 207,oT 2918 [C0,s72,s65,(S 0x7468656e),(S 0x6c617374),abG,sW,Sy],oT 2926 [s72,sJ,OM,ab3],tF 208⟩
def KD:=oD 2915 zt zt 1736 2 1715 2930
def MR:=tG 208 jO 2804 1720
def Kz:=tD 2933 209 1722
def Md:=tG 209 jO 2804 1727
def J5:=tE 2939 210 1729
def LS:=tG 210 jO 2804 1732
def KY:=oD 2945 yR yR 1768 1 1734 2956
def KS:=tG 211 jO 2804 1739
def va:Q8:=⟨tF 209,tF 210,tT 2948 211,oT 2953 [o8,s72,s63],tF 211,tT 2962 212,oT 2965 [sJ,td],tF 212⟩
def Li:=oD 2959 pS pS 1773 1 1741 2967
def Mj:=tG 212 jO 2804 1746
noncomputable def pr(t:BT):Nat->BT:=BT.rec (λζ=>.nil) (λo ζ ζ hl hr n=>cond (Nat.beq n 0) .nil (.node o (hl (Nat.div n 2)) (hr (Nat.div (Nat.pred n) 2)))) t
noncomputable def pu(v:Obj)(t:BT):Nat->BT:=BT.rec (λζ=>.nil) (λo l r hl hr k=>cond (Nat.beq k 0) (.node v l r) (cond (Nat.beq (Nat.mod k 2) 1) (.node o (hl (Nat.div k 2)) r) (.node o l (hr (Nat.div (Nat.pred k) 2))))) t
noncomputable def n2(a b:Params->Obj):=nd a (lf b) z
noncomputable def n3(a b c:Params->Obj):=nd a (lf b) (lf c)
noncomputable def n6(a b c d e f:Params->Obj):=nd a (n3 b c d) (n2 e f)
def t9:Params->BT:=(nd boot_o_0 (nd boot_o_1 (nd Co (nd boot_o_7 (nd o0 (nd q0.h (nd q3.c (nd q6.h (n6 MT.h Ke.h o0 ur.h K9.f o1) (n6 o1 Mh.e o0 tP.f o0 o1)) (nd LU.c (n6 La.h KC.c JX.c vn.c L5.g o1) (n6 kz LQ.e L9.g Kz LL.c Su))) (nd q4.g (nd o0 (n6 o1 o0 o1 uJ.b o0 Lk.h) (n6 o0 JM.g LD.a o1 o1 uR.a)) (nd Kb.d (n6 MQ.b JU.e MC.f uX.b Ll.c Kd.a) (nd o0 (n2 Ml.g o0) (n2 K7.c vo.g))))) (nd o1 (nd o0 (nd q8.a (n6 Kk.b o0 K2.g vg.d o1 o0) (n6 o0 o0 J6.e J0 Kv.g JT.b)) (nd LO.d (n6 Km.a JW.d Kj.d o0 Mr.a o0) (n6 o1 o1 Mo.d va.f Ko.b o0))) (nd q5.f (nd BC.e (n6 o0 o1 o0 o1 LF.f KG.a) (n6 Ly.c MI.b o1 uq.d Kx.c uV.b)) (nd o0 (n6 JL.d Mc.h q8.f tP.a o1 UI) (nd Kg.f (n2 JP.c o0) (n2 JY.e vc.g)))))) (nd o12 (nd o0 (nd o42 (nd o0 (n6 LW.e o0 K2.b vg.b o0 VS) (n6 J8.c MJ.b J7.g KJ Kv.b o1)) (nd LO.a (n6 Mt.e KC.h o0 vn.e Mp.d SD) (n6 o0 o0 o0 o1 o1 o0))) (nd o0 (nd q9.h (n6 Lq.a o0 LR.e o0 LF.a o0) (n6 J3.f Lb.d LD.d uq.a JV.f uR.e)) (nd Kb.h (n6 MQ.g Mc.b o0 o1 o0 Ye) (nd Kg.b (n2 JO.g Kt.h) (n2 K7.h o0))))) (nd q2.f (nd o1 (nd o0 (n6 o0 o1 ME.d Rw KL.h o1) (n6 L8.d o1 o0 o0 Lr.d o0)) (nd LO.g (n6 o0 o0 MC.a ux.e Mr.f o0) (nd Kn.a (n2 Ml.b Kt.b) (n2 o0 o1)))) (nd q6.c (nd BC.h (n6 La.c J4.f Lh.g vn.a L5.c KG.f) (n6 Ly.h MI.g L9.c uq.h Kx.h Sn)) (nd o1 (n6 o0 K8.h KN.f o0 LX.a o0) (nd Ke.c (n2 o0 o1) (n2 o0 ur.d))))))) (nd o0 (nd q0.d (nd o1 (nd q3.e (nd o0 (n6 LW.c o0 o0 o0 Ls.b o0) (n6 J8.a Mh.g o0 o1 o0 WK)) (nd LU.g (n6 Mt.b KC.e JX.f X5 Mp.b o0) (n6 o0 o0 Yi va.b LL.e o0))) (nd o58 (nd q9.e (n6 KU.e MK.a LR.c o0 o0 Ms.c) (n6 o0 Lb.b o0 KX JV.d Ve)) (nd Kb.e (n6 o1 o1 K5.b uX.d o0 o1) (nd o0 (n2 JO.c o0) (n2 o1 Yk))))) (nd q2.d (nd q4.d (nd q8.d (n6 o0 Ln.b ME.a o1 KL.f Lk.c) (n6 o0 MJ.h MA.a o0 Lr.a XJ)) (nd LO.f (n6 Km.d JW.g o1 o0 o1 Mw.e) (n6 Mb.g o0 Wc Mj Wd vx.h))) (nd o1 (nd BC.f (n6 o0 o0 o0 Vp LF.h o1) (n6 Ly.e o1 Uc o0 Kx.e uV.c)) (nd MT.a (n6 o0 K8.d KN.d Lw Lu.g o0) (nd o1 (n2 JP.e Mk.g) (n2 o0 o0)))))) (nd o16 (nd q1.g (nd o0 (nd q7.g (n6 LW.g Ka.f o1 o0 Ls.g o0) (n6 J8.f o0 o1 uy.a o1 Tj)) (nd LO.b (n6 Mt.g JW.b o0 Ta o0 o0) (n6 Mb.b LB.c o0 KY X7 vx.d))) (nd o0 (nd BC.c (n6 Lq.e MK.e LR.h uJ.f o1 o0) (n6 o1 o0 LD.f Ld o1 uR.g)) (nd Lm.d (n6 JL.a Mc.d K5.g Mz Lu.a Kd.f) (nd o0 (n2 JO.h o1) (n2 JY.b vc.e))))) (nd q3.a (nd o53 (nd o93 (n6 Kk.h UZ ME.f vg.g Lg.c Lk.f) (n6 L8.h JM.e MA.f uy.f Lr.g o0)) (nd Kb.a (n6 o0 o0 MC.c o0 Mr.h o0) (nd Kn.d (n2 o1 Vn) (n2 o0 vo.e)))) (nd q6.e (nd LU.b (n6 o1 o1 JX.a Vu L5.e KG.h) (n6 o0 LQ.a L9.f o1 o0 uV.e)) (nd MT.f (n6 J2.b q8.f J7.a o0 LX.d JR.c) (nd Ke.e (n2 K9.b LJ.d) (n2 KO.d o0)))))))) (nd boot_o_5 (nd boot_o_9 (nd q0.c (nd q1.b (nd o0 (nd o1 (n6 LW.a o1 KO.g Sz K9.h VK) (n6 o0 o0 J7.d MP LX.g o0)) (nd BC.b (n6 o0 o0 JX.d vn.d L5.h LG.d) (n6 o1 o1 L9.h o0 RW o1))) (nd q4.h (nd o96 (n6 o0 Ln.h o0 o1 Lg.f Ms.a) (n6 J3.c JM.h o1 o0 o0 WS)) (nd o0 (n6 MQ.d JU.g MC.h Mv o1 Kd.c) (nd Kn.g (n2 JO.a Us) (n2 K7.e vo.h))))) (nd o0 (nd q4.c (nd q8.b (n6 q8.f Ln.a o0 V9 o0 Lk.b) (n6 L8.a MJ.g J6.g o1 o0 JT.c)) (nd o1 (n6 Km.b JW.e Kj.f ux.a Mr.c Mw.c) (n6 o0 LB.g Mo.f va.h Ko.c vx.g))) (nd q5.h (nd Yv (n6 Lq.h J4.a Lh.c o0 o0 KG.c) (n6 o0 MI.d o0 Me o0 o0)) (nd Lm.h (n6 o1 K8.b o0 tP.b Lu.e o1) (nd Kg.h (n2 o1 Mk.f) (n2 o1 ur.a)))))) (nd o14 (nd q1.f (nd o1 (nd q7.e (n6 o0 Ka.e K2.d Tv Ls.f o1) (n6 J8.d o1 J6.a o0 Kv.d o0)) (nd XI (n6 o1 o1 Kj.a vn.f Mp.f o1) (n6 Mb.a LB.b Sr va.d o0 vx.c))) (nd q5.c (nd BC.b (n6 Lq.c MK.d LR.f uJ.e LF.c Ms.f) (n6 J3.h Lb.f RZ uq.b JV.h o0)) (nd Lm.b (n6 o0 o0 K5.f o0 Ll.h o0) (nd Kg.d (n2 o0 Mk.b) (n2 o0 vc.c))))) (nd q2.g (nd o0 (nd q9.a (n6 Kk.g o0 o0 o0 Lg.a o0) (n6 L8.f o0 o0 uy.e Lr.f JT.f)) (nd o0 (n6 Km.g JU.b o0 o1 o0 Rp) (nd Kn.b (n2 Ml.d Kt.d) (n2 Ko.h o0)))) (nd o0 (nd o1 (n6 La.e J4.h o1 vn.b o1 o0) (n6 o1 o0 L9.d MR o1 o0)) (nd o0 (n6 J2.a Mh.b KN.g KI LX.b JR.b) (nd o0 (n2 K9.a o0) (n2 KO.b ur.f))))))) (nd o2 (nd q0.f (nd q1.d (nd q3.f (nd q7.c (n6 o1 Ka.c K2.a vg.a Ls.d LJ.g) (n6 o0 Mh.h J7.f o0 Kv.a Xr)) (nd o1 (n6 Mt.c KC.f o1 o0 o1 LG.f) (n6 Lp.g LQ.h o1 LS LL.g vx.a))) (nd o1 (nd Uw (n6 KU.g MK.c o0 Sw Lg.h o1) (n6 J3.e o1 XT o0 o0 uR.c)) (nd Kb.f (n6 o0 o0 K5.d uX.f Ll.f o0) (nd Kg.a (n2 JO.e Kt.g) (n2 o0 o1))))) (nd o0 (nd o50 (nd q8.f (n6 Kk.e Ln.d ME.b o0 o0 Vz) (n6 L8.c JM.b MA.c KR Lr.b q8.f)) (nd U1 (n6 o1 o1 o0 ux.c o0 o1) (nd o0 (n2 Ml.a Mo.h) (n2 q8.f vo.b)))) (nd o0 (nd BC.b (n6 La.b J4.e Lh.e o0 L5.a o0) (n6 Ly.f o0 o0 uq.f Kx.f uV.d)) (nd MT.c (n6 JL.g K8.f o0 o1 o0 Tb) (nd o0 (n2 JP.g LJ.a) (n2 JY.h ur.c)))))) (nd o0 (nd q2.a (nd q4.a (nd o0 (n6 LW.h Ka.h o0 vg.c KL.a Sv) (n6 o1 MJ.e J6.c uy.b o0 o0)) (nd BC.b (n6 o0 o0 Kj.c o1 Mp.h Mw.a) (n6 Mb.d LB.e Mo.c o0 o0 vx.f))) (nd q5.e (nd o1 (n6 o1 MK.g o1 Uq o0 Ms.h) (n6 o0 Lb.h LD.h o1 o0 uR.h)) (nd Lm.f (n6 JL.b Mc.f KN.a o0 Lu.c Kd.g) (nd Kg.e (n2 JP.a Mk.d) (n2 JY.c UT))))) (nd o1 (nd o0 (nd o1 (n6 KU.b Ln.g ME.h vg.h o1 o0) (n6 o1 o0 MA.g Kr JV.a JT.h)) (nd Kb.b (n6 MQ.a JU.d MC.d ux.h Ll.a Mw.h) (nd o1 (n2 o0 o1) (n2 K7.b o0)))) (nd q6.f (nd Rq (n6 o0 o0 o0 o0 o0 LG.b) (n6 Lp.c LQ.c o0 o0 Ti uV.f)) (nd o0 (n6 J2.d o0 o1 tP.e o1 X2) (nd Ke.f (n2 K9.d zN) (n2 o1 ur.g))))))))) (nd o4 (nd boot_o_4 (nd boot_o_8 (nd o1 (nd q1.a (nd q3.d (nd o0 (n6 o0 o0 KO.f T4 K9.g LJ.f) (n6 J2.g Mh.f J7.c J1 LX.f JR.d)) (nd LU.d (n6 Mt.a KC.d o0 o0 o0 LG.c) (n6 o0 o0 o0 Md Yw o0))) (nd o0 (nd q9.d (n6 KU.c o1 LR.a o0 Lg.e o0) (n6 J3.b o0 o0 uy.g JV.b Sl)) (nd IF (n6 MQ.c JU.f MC.g LC o0 Kd.b) (nd Kn.f (n2 Ml.h Kt.f) (n2 K7.d o0))))) (nd q2.b (nd o1 (nd o0 (n6 o0 o1 K2.h UX KL.d o1) (n6 J8.h o1 J6.f o0 Kv.h o0)) (nd o0 (n6 o0 o0 Kj.e vn.h Mr.b o1) (n6 Mb.e LB.f Mo.e va.g o0 o1))) (nd q5.g (nd o0 (n6 Lq.g MK.h Lh.b uJ.g LF.g KG.b) (n6 Ly.d MI.c L9.a uq.e Kx.d kz)) (nd o1 (n6 o0 K8.a KN.b o0 Lu.d o0) (nd Kg.g (n2 o0 o1) (n2 o0 vc.h)))))) (nd o13 (nd o1 (nd o0 (nd o1 (n6 LW.f o1 K2.c WY o1 o0) (n6 o0 o0 J7.h MB Kv.c JR.h)) (nd o0 (n6 o0 o0 JX.h o0 Mp.e o0) (n6 o1 o1 Mo.b va.c LL.h o1))) (nd q5.b (nd BC.a (n6 Lq.b o1 o0 o1 LF.b Ms.e) (n6 J3.g Lb.e YC o0 JV.g uR.f)) (nd Lm.a (n6 MQ.h Mc.c o1 uX.g o1 Wm) (nd Kg.c (n2 kz Mk.a) (n2 JY.a vc.b))))) (nd o0 (nd q4.e (nd q8.h (n6 o1 Ln.e ME.e Wo o0 Lk.d) (n6 L8.e JM.c V5 o1 Lr.e JT.e)) (nd LO.h (n6 Km.f JU.a MC.b o0 Mr.g Mw.g) (nd o0 (n2 Ml.c Kt.c) (n2 Ko.g vo.c)))) (nd q6.d (nd o0 (n6 La.d J4.g o0 o0 o0 KG.g) (n6 o0 MI.h o0 KD o0 IF)) (nd MT.d (n6 o1 Mh.a o0 tP.d o0 o1) (nd Ke.d (n2 o1 LJ.b) (n2 o1 ur.e))))))) (nd ur.b (nd q0.e (nd q1.c (nd o0 (nd q7.b (n6 o0 Ka.b o1 o1 Ls.c o1) (n6 J8.b o0 o1 tP.g o1 VE)) (nd o0 (n6 o0 o0 o0 zN o0 o1) (n6 Lp.f LQ.g o0 J5 LL.f uV.h))) (nd o0 (nd o99 (n6 KU.f MK.b LR.d uJ.d o1 o0) (n6 o1 o0 LD.c KV JV.e W8)) (nd o0 (n6 MQ.e JU.h K5.c uX.e Ll.e Kd.d) (nd o1 (n2 JO.d o1) (n2 K7.f o0))))) (nd q2.e (nd o49 (nd q8.e (n6 Kk.d Ln.c o0 vg.e KL.g Vc) (n6 o1 JM.a MA.b uy.d o0 o0)) (nd o0 (n6 o0 o0 Kj.g o1 Mr.d o0) (nd Mb.h (n2 o1 RL) (n2 o0 vo.a)))) (nd q6.a (nd BC.g (n6 o1 q8.f o1 Ue o0 KG.d) (n6 o0 MI.e SY o1 o0 o0)) (nd MT.b (n6 JL.f K8.e KN.e o0 Lu.h JR.a) (nd Ke.a (n2 JP.f Mk.h) (n2 JY.g q8.f)))))) (nd q0.g (nd q1.h (nd q3.h (nd q7.h (n6 o0 Ka.g K2.e o1 Ls.h Lk.a) (n6 o0 MJ.d J6.b o0 Kv.e SH)) (nd LO.c (n6 Mt.h JW.c o1 o0 o1 LG.h) (n6 Mb.c LB.d o1 KS Tr vx.e))) (nd o1 (nd o0 (n6 o0 MK.f o0 Sp LF.d o1) (n6 Ly.a o1 LD.g o0 Kx.a o0)) (nd Lm.e (n6 o0 Mc.e K5.h Ky Lu.b o0) (nd o1 (n2 o0 Mk.c) (n2 o0 R8))))) (nd o0 (nd o54 (nd o0 (n6 KU.a Vk ME.g o0 o0 Lk.g) (n6 o0 JM.f o0 Lv Lr.h o1)) (nd o0 (n6 o1 o1 o0 ux.g o0 o1) (nd o0 (n2 Ml.e o0) (n2 o1 vo.f)))) (nd o0 (nd o0 (n6 La.f KC.a JX.b kz L5.f LG.a) (n6 Lp.b LQ.b kz o0 LL.b o0)) (nd MT.g (n6 J2.c Mh.c o0 o1 o0 SO) (nd o0 (n2 K9.c LJ.e) (n2 o0 o1)))))))) (nd boot_o_6 (nd boot_o_10 (nd o0 (nd o0 (nd o1 (nd q7.a (n6 LW.b Ka.a KO.h kz Ls.a TH) (n6 J2.h o1 J7.e o0 LX.h JR.e)) (nd q8.f (n6 o1 o1 JX.e WT Mp.a LG.e) (n6 Lp.e LQ.f R0 o1 LL.d uV.g))) (nd o57 (nd o97 (n6 KU.d o0 LR.b uJ.c Lg.g Ms.b) (n6 J3.d Lb.a LD.b uy.h JV.c uR.b)) (nd o1 (n6 o0 o0 K5.a uX.c Ll.d o0) (nd Kn.h (n2 JO.b UC) (n2 o0 Wt))))) (nd q2.c (nd o0 (nd q8.c (n6 Kk.c o0 o1 o0 KL.e o0) (n6 L8.b o0 J6.h uy.c o1 T3)) (nd LO.e (n6 Km.c JW.f o0 ux.b o0 Mw.d) (n6 Mb.f LB.h Mo.g Li SJ o0))) (nd o0 (nd YJ (n6 La.a J4.b Lh.d uJ.h o1 o0) (n6 o1 o0 L9.b KQ q8.f o1)) (nd o0 (n6 JL.e K8.c KN.c LI Lu.f Kd.h) (nd o0 (n2 JP.d o0) (n2 JY.f Xf)))))) (nd o15 (nd o0 (nd q3.g (nd q7.f (n6 o1 o0 o0 kz o0 LJ.h) (n6 J8.e MJ.c o0 o1 o0 JT.a)) (nd UQ (n6 Mt.f JW.a Kj.b UA Mp.g LG.g) (n6 o0 o0 Yl va.e Ko.a o0))) (nd q5.d (nd q8.f (n6 Lq.d o0 LR.g o0 o0 Ms.g) (n6 o0 Lb.g LD.e Kp o0 q8.f)) (nd Lm.c (n6 o1 o1 o0 uX.h o0 o1) (nd kz (n2 o1 o0) (n2 o1 vc.d))))) (nd q2.h (nd q4.f (nd q9.b (n6 o0 Ln.f o1 o1 Lg.b Lk.e) (n6 L8.g JM.d q8.f o0 RD JT.g)) (nd q8.f (n6 Km.h JU.c o1 ux.f o1 Ru) (nd Kn.c (n2 o0 SR) (n2 K7.a vo.d)))) (nd o1 (nd LU.a (n6 o0 o0 Lh.h V' L5.d o1) (n6 Lp.a o1 L9.e o0 LL.a o1)) (nd MT.e (n6 o0 o0 KN.h Le LX.c o0) (nd o1 (n2 o0 LJ.c) (n2 KO.c kz))))))) (nd o3 (nd o11 (nd q1.e (nd o41 (nd q7.d (n6 LW.d Ka.d o0 o0 Ls.e VD) (n6 o1 MJ.a o0 tP.h o0 o0)) (nd LU.h (n6 Mt.d KC.g JX.g o1 Mp.c SV) (n6 Lp.h LB.a Mo.a o0 o0 vx.b))) (nd q5.a (nd q9.g (n6 KU.h zN o1 RQ o0 Ms.d) (n6 o0 Lb.c Sq o1 o1 uR.d)) (nd Kb.g (n6 MQ.f Mc.a K5.e o0 Ll.g Kd.e) (nd o0 (n2 JO.f o0) (n2 K7.g vc.a))))) (nd o1 (nd o0 (nd q8.g (n6 Kk.f o0 ME.c vg.f o1 o0) (n6 o0 o0 o0 Mg Lr.c JT.d)) (nd UW (n6 Km.e JW.h Kj.h ux.d Mr.e Mw.f) (nd o1 (n2 o0 Kt.a) (n2 Ko.f o0)))) (nd q6.b (nd q8.f (n6 o0 o0 Lh.f o1 L5.b KG.e) (n6 Ly.g MI.f q8.f uq.g Kx.g Tn)) (nd o0 (n6 JL.h K8.g o1 tP.c o1 Yc) (nd Ke.b (n2 JP.h o0) (n2 KO.a o0)))))) (nd o1 (nd o0 (nd q4.b (nd o1 (n6 Kk.a IF K2.f o0 o0 RS) (n6 J8.g MJ.f J6.d My Kv.f o1)) (nd q8.f (n6 o1 o1 o0 vn.g o0 Mw.b) (n6 o0 o0 o0 o1 o1 kz))) (nd o0 (nd BC.d (n6 Lq.f o0 Lh.a o0 LF.e o0) (n6 Ly.b MI.a o0 uq.c Kx.b uV.a)) (nd Lm.g (n6 JL.c Mc.g o0 o1 o0 Ui) (nd o0 (n2 JP.b Mk.e) (n2 JY.d vc.f))))) (nd q3.b (nd o1 (nd q9.c (n6 o0 zN o0 uJ.a Lg.d o1) (n6 J3.a o1 MA.h o0 o0 o0)) (nd Kb.c (n6 o0 o0 MC.e uX.a Ll.b o0) (nd Kn.e (n2 Ml.f Kt.e) (n2 o0 o1)))) (nd q6.g (nd TJ (n6 La.g KC.b o1 o1 o1 o0) (n6 Lp.d LQ.d o1 va.a SQ So)) (nd o1 (n6 o0 Mh.d J7.b o0 LX.e o0) (nd Ke.g (n2 K9.e o0) (n2 KO.e o0))))))))))
def t0(P:Params):BT:=pu (o1 P) (pu (boot_o_2 P) (pu (boot_o_3 P) (pr (t9 P) 15) 3) 2) 12
def t1(P:Params):BT:=pu (q0.b P) (pu (q9.f P) (pu (q0.a P) (pr (t9 P) 193) 3) 165) 12
def t2(P:Params):BT:=pu (LU.f P) (pu (LU.e P) (pr (t9 P) 382) 3) 12
def t3(P:Params):BT:=pu (J2.f P) (pu (J2.e P) (pr (t9 P) 563) 3) 12
def t4(P:Params):BT:=pu (J4.d P) (pu (J4.c P) (pr (t9 P) 782) 3) 12
def t5(P:Params):BT:=pu (KL.c P) (pu (KL.b P) (pr (t9 P) 980) 3) 12
def t6(P:Params):BT:=pu (Ko.e P) (pu (Ko.d P) (pr (t9 P) 1177) 3) 12
def t7(P:Params):BT:=pu (MA.e P) (pu (MA.d P) (pr (t9 P) 1413) 3) 12
def t8(P:Params):BT:=pu (JR.g P) (pu (JR.f P) (pr (t9 P) 1523) 3) 12
noncomputable def env:Env:={scope:=PySem.Challenge.pw_xm0203_01.main.scope,locals:=mainNs,globals:=mainNs,cells:=[],code:=ref 13,frame:=some 14}
noncomputable def gs(a n:Nat):List Stmt:=(kF.drop a).take n
noncomputable def St(w:World)(t:Params->BT)(n toks:Nat)(os:OsState):SharedT:=⟨t w.params,n,{},#[],{},toks,os⟩
noncomputable abbrev p0:Pos:=⟨0,0,0,0⟩
noncomputable abbrev i0:=PySem.W.Fast.tw10110043849684766642 PySem.W.Fast.tw14364793385576792824
end
end
end Hd
namespace Mine
section
open PySem PySem.W PySem.Calls PyProof.Rows Hd
section
noncomputable def fE(a:Addr)(d:List V)(x:Stmt)(q:Str):Addr×nZ:=(a,⟨(fA x).args.map Arg.arg,d,fB x,fS x,a-1,q⟩)
noncomputable def fnA:List (Addr×nZ):=[
 fE 71 [] (aF 15) s29,
 fE 85 [] (aF 17) s31,
 fE 92 [] (aF 18) Z',
 fE 99 [] (aF 19) s33,
 fE 972 [] (aF 146) Iz,
 fE 979 [] (aF 147) zS,
 fE 1204 [] (aF 155) FR,
 fE 1250 [] (aF 161) Gs,
 fE 1287 [] (aF 167) Gn,
 fE 1294 [] (aF 168) Hx,
 fE 1301 [] (aF 169) II,
 fE 1351 [] (aF 177) G8,
 fE 1370 [] (aF 180) I0,
 fE 1384 [] (aF 182) Ic,
 fE 1391 [] (aF 183) Gp,
 fE 1398 [] (aF 184) HZ,
 fE 1405 [] (aF 185) FT,
 fE 1412 [] (aF 186) zv,
 fE 1420 [] (aF 188) DM,
 fE 1427 [] (aF 189) CR,
 fE 540 [] (aF 86) Cb,
 fE 1672 [] (aF 201) GC,
 fE 1679 [] (aF 202) G6,
 fE 1686 [] (aF 203) IQ,
 fE 1693 [] (aF 204) HH,
 fE 1700 [] (aF 205) FP,
 fE 1707 [] (aF 206) Ft,
 fE 1728 [] (aF 209) Gm,
 fE 1651 [] (aF 198) Il,
 fE 1658 [] (aF 199) Gv,
 fE 1665 [] (aF 200) FV,
 fE 1644 [] (aF 197) xe,
 fE 1714 [] (aF 207) zb,
 fE 1721 [] (aF 208) zt,
 fE 1733 [] (aF 210) zy,
 fE 1740 [] (aF 211) yR,
 fE 1747 [] (aF 212) pS,
 fE 1588 [] (nS 7 (cB (aF 195))) ab5,
 fE 1595 [] (nS 8 (cB (aF 195))) aa2,
 fE 1560 [] (nS 3 (cB (aF 195))) acq,
 fE 1574 [] (nS 5 (cB (aF 195))) ab0,
 fE 1581 [] (nS 6 (cB (aF 195))) ad3,
 fE 1507 [] (nS 6 (cB (aF 192))) aaO,
 fE 1441 [] (nS 0 (cB (aF 191))) abn,
 fE 1226 [] (nS 1 (cB (aF 156))) abe,
 fE 1190 [] (nS 0 (cB (aF 154))) acD,
 fE 958 [] (nS 0 (cB (aF 145))) adq]
noncomputable def Pd:List (Addr×nZ):=[
 fE 1282 [(.bool true)] (aF 166) Av,
 fE 1537 [.none] (nS 0 (cB (aF 195))) T5,
 fE 1545 [.none] (nS 1 (cB (aF 195))) Xj,
 fE 1553 [.none] (nS 2 (cB (aF 195))) TM,
 fE 1611 [(.bool true)] (nS 10 (cB (aF 195))) Wq,
 fE 1603 [.none] (nS 9 (cB (aF 195))) TV,
 fE 1463 [.none] (nS 0 (cB (aF 192))) Wf,
 fE 1471 [(.bool false)] (nS 1 (cB (aF 192))) XB,
 fE 1219 [.none] (nS 0 (cB (aF 156))) SG]
noncomputable def T7:List (Addr×nZ):=fnA++Pd
noncomputable def MG:List (Addr×Addr):=[(1633,1537),(1517,1463),(1444,1441),(1236,1219),(1193,1190),(961,958)]
noncomputable def JS:List (Addr×List (Str×Addr)):=[(1633,[(Oa,1588),(v7,1595),(oB,1545),(sW,1553),(Oj,1560),(O4,1574),(OC,1581),(uI,1611),(Hh,1603)]),(1517,[(uI,1471),(N9,1507)]),(1444,[]),(1236,[(PU,1226)]),(1193,[]),(961,[])]
noncomputable def globT:List (Str×V):=[
 (s29,(.glob (.ref 71))),
 (s31,(.glob (.ref 85))),
 (Z',(.glob (.ref 92))),
 (s33,(.glob (.ref 99))),
 (Iz,(.glob (.ref 972))),
 (zS,(.glob (.ref 979))),
 (FR,(.glob (.ref 1204))),
 (Gs,(.glob (.ref 1250))),
 (Av,(.glob (.ref 1282))),
 (Gn,(.glob (.ref 1287))),
 (Hx,(.glob (.ref 1294))),
 (II,(.glob (.ref 1301))),
 (G8,(.glob (.ref 1351))),
 (I0,(.glob (.ref 1370))),
 (Ic,(.glob (.ref 1384))),
 (Gp,(.glob (.ref 1391))),
 (HZ,(.glob (.ref 1398))),
 (FT,(.glob (.ref 1405))),
 (zv,(.glob (.ref 1412))),
 (DM,(.glob (.ref 1420))),
 (CR,(.glob (.ref 1427))),
 (Cb,(.glob (.ref 540))),
 (GC,(.glob (.ref 1672))),
 (G6,(.glob (.ref 1679))),
 (IQ,(.glob (.ref 1686))),
 (HH,(.glob (.ref 1693))),
 (FP,(.glob (.ref 1700))),
 (Ft,(.glob (.ref 1707))),
 (Gm,(.glob (.ref 1728))),
 (Il,(.glob (.ref 1651))),
 (Gv,(.glob (.ref 1658))),
 (FV,(.glob (.ref 1665))),
 (xe,(.glob (.ref 1644))),
 (zb,(.glob (.ref 1714))),
 (zt,(.glob (.ref 1721))),
 (zy,(.glob (.ref 1733))),
 (yR,(.glob (.ref 1740))),
 (pS,(.glob (.ref 1747))),
 (qz,(.glob (.ref 1633))),
 (ot,(.glob (.ref 1517))),
 (pH,(.glob (.ref 1444))),
 (qM,(.glob (.ref 1236))),
 (qK,(.glob (.ref 1193))),
 (qD,(.glob (.ref 961))),
 (CH,(.glob (.ref 178))),
 (DR,(.glob (.ref 190))),
 (EJ,(.glob (.ref 214))),
 (EI,(.glob (.ref 202))),
 (FF,(.tup [(.str kx),(.str gA)])),
 (s21,(.glob (.ref 27))),
 (B7,(.glob (.ref 1413))),
 (s20,(.tup [(.str s50)])),
 (Z9,(.tup [(.str p8)])),
 (B5,(.tup [(.str AS),(.tup []),(.tup []),(.bool false)])),
 (Fg,(.tup [(.str kx),(.str gA),(.str ll),(.str Fi),(.str As)])),
 (Cr,(.tup [(.str nr),(.str p8)])),
 (FU,(.tup [(.str IP),(.str Iu),(.str Fs),(.str FA),(.str Ik),(.str v7),(.str GD),(.str Gq),(.str F8),(.str Ci),(.str E3),(.str G5)])),
 (gA,.glob (.type "range")),
 (S 0x7a6970,.glob (.type "zip")),
 (jq,.glob (.type "int")),
 (S 0x6c656e,.glob (.builtin "len")),
 (S 0x7475706c65,.glob (.type "tuple")),
 (S 0x6c697374,.glob (.type "list"))]
noncomputable def Jh:List Addr:=[178,190,214,202]
noncomputable def gdT:List (Addr×List (Str×V)):=[(1413,[(oB,(.glob (.ref 1301))),(GP,(.glob (.ref 1308))),(F5,(.glob (.ref 1329))),(G4,(.glob (.ref 1341))),(Hj,(.glob (.ref 1346))),(IV,(.glob (.ref 1351))),(AH,(.glob (.ref 1358))),(Ht,(.glob (.ref 1363))),(FQ,(.glob (.ref 1370))),(GL,(.glob (.ref 1370))),(Fq,(.glob (.ref 1377))),(GA,(.glob (.ref 1384))),(Hu,(.glob (.ref 1384))),(Fx,(.glob (.ref 1412))),(sJ,(.glob (.ref 1405))),(Bo,(.glob (.ref 1398)))]),(27,[(p8,(.tup [(.str p8)])),(jq,(.tup [(.str jq),(.str jq)])),(Ql,(.tup [(.str jq),(.str Q9)])),(A5,(.tup [(.str A5)]))])]
noncomputable def VU:List (Addr×List (Str×Unit)):=[(1633,[(EH,()),(kB,()),(r8,()),(AB,()),(E7,()),(HN,()),(uE,()),(FK,()),(FJ,()),(Ia,()),(Fd,()),(F6,()),(IZ,()),(GV,()),(Gh,()),(Hl,()),(uH,())]),
 (1517,[(uE,()),(zf,()),(s64,())]),
 (1444,[(s60,()),(Rz,()),(Q7,()),(zf,()),(Ts,()),(Wl,())]),
 (1236,[(EX,()),(td,()),(HY,()),(Gy,()),(Jb,()),(Gi,()),(Ie,()),(HW,()),(Ha,()),(IJ,()),(Fh,()),(GI,()),(uH,()),(Jj,()),(E5,()),(Fu,()),(HC,()),(GQ,()),(Jk,()),(Ga,())]),
 (1193,[(tX,()),(kB,()),(vp,()),(uz,())]),
 (961,[(uM,()),(o8,()),(sH,())])]
noncomputable def Pr:List (Addr×Addr):=[(1746,1742),(1713,1709),(1720,1716),(1732,1730),(1739,1735)]
noncomputable def jH(fU:Nat->List V->List Ob->aM V):Cf:=⟨T7,globT,MG,JS,Jh,gdT,VU,Pr,fU⟩
noncomputable def EK:Nat->List V->List Ob->aM V:=λζ ζ ζ=>none
noncomputable abbrev aG:Nat:=1391
noncomputable abbrev af:Nat:=1420
noncomputable abbrev cT:Nat:=1427
noncomputable abbrev aO:Nat:=1700
noncomputable abbrev dp:Nat:=1707
noncomputable abbrev bJ:Nat:=1651
noncomputable abbrev eN:Nat:=1658
noncomputable abbrev tU:Nat:=1665
noncomputable abbrev iv:Nat:=1644
noncomputable abbrev bz:Nat:=1714
noncomputable abbrev bC:Nat:=1721
noncomputable abbrev aX:Nat:=1733
noncomputable abbrev aE:Nat:=1740
end
section
noncomputable def SS(sc:Nat)(lc lo:Ob):List Ob:=[
 .attrs [(EX,.none),(td,.obj 5),(HY,.obj 15),(Gy,.obj 16),(Jb,.obj 17),(Gi,.obj 18),(Ie,.obj 19),(HW,.obj 20),(Ha,.obj 21),(IJ,.obj 22),(Fh,.none),(GI,.none),(uH,.obj 23),(Jj,.obj 24),(E5,.obj 25),(Fu,.obj 26),(HC,.obj 27),(GQ,.obj 28),(Jk,.obj 29),(Ga,.bool true)],
 .inst 1236 0,
 .other,
 .other,
 .other,
 .dict [((S 0x6572726f72),.obj 8),((S 0x72756e74696d652e4572726f72),.obj 10),((S 0x73796e632e4d75746578),.obj 12),((S 0x73796e632e5761697447726f7570),.obj 14),((S 0x6d61696e2e42),.obj 32)],
 .other,
 .other,
 .other,
 .other,
 .other,
 .other,
 .other,
 .other,
 .other,
 .other,
 .other,
 .other,
 .other,
 .other,
 .other,
 .other,
 .other,
 .other,
 .other,
 .other,
 .other,
 .other,
 .other,
 .other,
 .other,
 .attrs [(tX,.str (S 0x6d61696e2e42)),(kB,.str (S 0x6d61696e)),(vp,.tup [.str p8]),(uz,.obj 30)],
 .inst 1193 31,
 .dict [(AD,.glob (.ref 1672)),(HE,.glob (.ref 1672))],
 .attrs [(EH,.obj 1),(kB,.str (S 0x6d61696e)),(r8,.obj sc),(AB,.str (S 0x6d61696e2e66)),(E7,.obj 33),(HN,.none),(uE,.none),(FK,.obj 36),(FJ,.tup []),(Ia,.tup []),(Fd,.tup []),(F6,.bool false),(IZ,.obj 37),(GV,.obj 38),(Gh,.obj 39),(Hl,.obj 40),(uH,.obj 41)],
 .inst 1633 34,
 lc,
 .other,
 .other,
 lo,
 .other,
 .other]
noncomputable def gi(a b:Bool):List Bool:=[false,false,true,true,true,false,true,true,true,true,true,true,true,true,true,true,true,true,true,true,true,true,true,true,true,true,true,true,true,true,true,false,false,false,false,false,a,true,true,b,true,true]
noncomputable def DT:Str:=(S 0x6d61696e2e66)
noncomputable def yk(k:Nat)(outer:V)(rows:List (Str×V)):List Ob:=[.attrs [(uE,outer),(zf,.str DT),(s64,.obj (k+2))],.inst 1517 k,.dict rows]
end
section
variable{G:Gc}{cf:Cf}{c:Fc}{h:Heap}{m:Str->Option Value}{ν:List Addr}{Mu:List Obj}{I:Led}{H:List Ob}{n:Nat}
noncomputable abbrev Gc.tb(G:Gc)(cf:Cf):Gc:={G with cf:=cf}
theorem az.conv{o:Obj}{b:Ob}(r:az G ν I o b):az (G.tb cf) ν I o b:=by
 cases r with
 |list h=>exact .list h
 |inst h=>exact .inst h
 |attrs h=>exact .attrs h
 |dict hd h=>exact .dict hd h
 |ck hd h=>exact .ck hd h
 |c9 h hl=>exact .c9 h hl
 |cell hd h=>exact .cell hd h
 |mf hd=>exact .mf hd
 |av h=>exact .av h
 |tab h=>exact .tab h
 |code a b=>exact .code a b
 |lh hd hb hs hq hg yC hp yD yE mS cb qj rX=>exact .lh hd hb hs hq hg yC hp yD yE mS cb qj rX
 |other=>exact .other
theorem az.back{o:Obj}{b:Ob}(r:az (G.tb cf) ν I o b):az G ν I o b:=r.conv (cf:=G.cf)
theorem Fc.Ok.conv(o:c.Ok G n):c.Ok (G.tb cf) n:=⟨o.fr,o.B,o.ff,o.fk,o.ek,o.eg,o.eb,o.yF,⟨o.X.X,o.X.g,o.X.b,o.X.lim⟩,o.dep,o.un,o.hd⟩
theorem St.conv(S:St G c h m ν Mu I H):St (G.tb cf) c h m ν Mu I H:=⟨S.F,S.N,S.nd,S.eP,S.len,S.aT,λi o b x y=>(S.ob i o b x y).conv,S.big,S.low⟩
theorem nF.conv{t:Option Value}{e:Addr}{x:Ex}(S:nF G c t h ν Mu I H e x):nF (G.tb cf) c t h ν Mu I H e x:=⟨S.nd,S.eP,S.len,S.aT,λi o b x y=>(S.ob i o b x y).conv,S.big,S.low,S.yG,S.fr⟩
theorem aW.conv{a:Addr}{vs:List V}{r:Rs V}(e:aW (G.tb cf) n a vs H r):aW G n a vs H r:=by
 rintro c s m ν Mu I us R ok S rs post
 refine e c s m ν Mu I us R ok.conv S.conv rs ?_
 induction r with
 |ok v H'=>exact λh' ak aa aw I' u x S' ru=>post h' ak aa aw I' u x (S'.conv (cf:=G.cf)) ru
 |exc x H'=>exact λh' ak aa aw I' ea t x ht fl=>post h' ak aa aw I' ea t x ht (fl.conv (cf:=G.cf))
theorem aW.eY{a:Addr}{vs:List V}{r:Rs V}(e:aW G n a vs H r):aW (G.tb cf) n a vs H r:=aW.conv (G:=G.tb cf) (cf:=G.cf) e
structure Good(G:Gc):Prop where
 gk:∀fU,ko (G.tb (jH fU))
 lk:∀fU,PN (G.tb (jH fU))
 xo:∀fU,Ow (G.tb (jH fU))
def Told(G:Gc)(k:Nat)(fU:Nat->List V->List Ob->aM V):Prop:=∀a vs H r,fU a vs H=some r->aW G k a vs H r
theorem bR(G:Gc)(k:Nat):Told G k EK:=λa vs H r h=>by exact no h
theorem bb(g:Good G){k:Nat}{fU:Nat->List V->List Ob->aM V}(oo:Told G k fU)(n:Nat){a:Addr}{vs:List V}{H:List Ob}(σ:List Nat)(mask:List Bool){r:Rs V}
  (h:canon H.length σ mask ((ev (jH fU) n).F a vs H)=some r):aW G (n+k) a vs H r:=
 (SX (G:=G.tb (jH fU)) (g.gk fU) (g.lk fU) (g.xo fU) (λa vs H r q=>(oo a vs H r q).eY) n σ mask h).conv
noncomputable def others:Nat->List Ob
 |0=>[]
 |n+1=>.other::others n
noncomputable def eW:Nat->List Bool
 |0=>[]
 |n+1=>true::eW n
noncomputable def fault(C:Addr)(k:Nat)(m:Str)(s:Int):Rs V:=.exc ⟨C,k⟩ (others k++[.attrs [(S 0x6d657373616765,.str m),(S 0x73706f74,.int s)]])
end
section
variable{G:Gc}{H H₁:List Ob}{n k:Nat}{σ:List Nat}
structure Is(p:Prop)where
 b:Bool
 ok:b=true->p
noncomputable def Is.no{p:Prop}:Is p:=⟨false,nf⟩
noncomputable def Is.map{p q:Prop}(i:Is p)(f:p->q):Is q:=⟨i.b,λh=>f (i.ok h)⟩
noncomputable def Is.two{p q:Prop}(i:Is p)(j:Is q):Is (p/\q):=⟨i.b&&j.b,λh=>aJ h λh1 h2=>⟨i.ok h1,j.ok h2⟩⟩
noncomputable def cN(x y:Nat):Is (x=y):=⟨Nat.beq x y,Nat.eq_of_beq_eq_true⟩
noncomputable def cS(x y:Str):Is (x=y):=⟨du x y,aH.mp⟩
theorem aa5{x y:Bool}(h:((x&&y)||(!x&&!y))=true):x=y:=by induction x<;>induction y<;>first|rfl|exact nf h
mutual
noncomputable def cV(a b:V):Is (a=b):=match a with
 |.none=>match b with|.none=>⟨true,λζ=>rfl⟩|_=>.no
 |.bool x=>match b with|.bool y=>⟨(x&&y)||(!x&&!y),λh=>congrArg V.bool (aa5 h)⟩|_=>.no
 |.int x=>match b with|.int y=>⟨Z.eqB x y,λh=>congrArg V.int ((Z.eqB_iff _ _).mp h)⟩|_=>.no
 |.str x=>match b with|.str y=>(cS x y).map (congrArg V.str)|_=>.no
 |.tup x=>match b with|.tup y=>(cL x y).map (congrArg V.tup)|_=>.no
 |.obj x=>match b with|.obj y=>(cN x y).map (congrArg V.obj)|_=>.no
 |.glob v=>match v with|.ref x=>(match b with|.glob w=>(match w with|.ref y=>(cN x y).map λe=>congrArg (λx=>V.glob (.ref x)) e|_=>.no)|_=>.no)|_=>.no
 |_=>.no
noncomputable def cL(a b:List V):Is (a=b):=match a with
 |[]=>match b with|[]=>⟨true,λζ=>rfl⟩|_::_=>.no
 |x::l=>match b with|y::r=>((cV x y).two (cL l r)).map λh=>congr (congrArg List.cons h.1) h.2|[]=>.no
end
noncomputable def cE:(a b:List (Str×V))->Is (a=b)
 |[],b=>match b with|[]=>⟨true,λζ=>rfl⟩|_::_=>.no
 |x::l,b=>match b with|y::r=>(((cS x.1 y.1).two (cV x.2 y.2)).two (cE l r)).map λh=>congr (congrArg List.cons (Prod.ext h.1.1 h.1.2)) h.2|[]=>.no
noncomputable def cO(a b:Ob):Is (a=b):=match a with
 |.list x=>match b with|.list y=>(cL x y).map (congrArg Ob.list)|_=>.no
 |.inst C d=>match b with|.inst C' d'=>((cN C C').two (cN d d')).map λh=>congr (congrArg Ob.inst h.1) h.2|_=>.no
 |.dict x=>match b with|.dict y=>(cE x y).map (congrArg Ob.dict)|_=>.no
 |.attrs x=>match b with|.attrs y=>(cE x y).map (congrArg Ob.attrs)|_=>.no
 |.other=>match b with|.other=>⟨true,λζ=>rfl⟩|_=>.no
 |_=>.no
noncomputable def cH:(a b:List Ob)->Is (a=b)
 |[],b=>match b with|[]=>⟨true,λζ=>rfl⟩|_::_=>.no
 |x::l,b=>match b with|y::r=>((cO x y).two (cH l r)).map λh=>congr (congrArg List.cons h.1) h.2|[]=>.no
noncomputable def iO(σ:List Nat)(mask:List Bool)(S:List Ob)(r:Rs V)(H:List Ob):aM V:=match oH σ with
 |false=>none
 |true=>match xa σ H σ mask with
  |none=>none
  |some S'=>match(cH S' S).b with
   |false=>none
   |true=>some (ip σ H S r)
theorem eK{a:Addr}{args vs:List V}{mask:List Bool}{S:List Ob}{r r':Rs V}(e:aW G k a args S r)(h:iO σ mask S r H=some r')(El:sY σ.length args=true)(hv:vs=fg σ args):aW G k a vs H r':=by
 refine gB h ?_;clear h;intro hn h
 refine OZ h ?_;clear h;intro S' hs h
 refine gB h ?_;clear h;intro he h
 obtain rfl:=ai h
 have:=(cH _ _).ok he
 subst this
 refine ae (nN hs) λc d=>?_
 rw[hv]
 exact e.frame ⟨gR hn,c,d⟩ El
end
section
variable{G:Gc}{α β:Type}
noncomputable def lR:V->Option Nat
 |.obj i=>some i
 |_=>none
noncomputable def uZ:V->Option Int
 |.int i=>some i
 |_=>none
noncomputable def wF:V->Option Nat
 |.int i=>match i with
  |.ofNat k=>some k
  |.negSucc _=>none
 |_=>none
noncomputable def MS:V->Option Bool
 |.bool b=>some b
 |_=>none
noncomputable def Hs:V->Option Str
 |.str b=>some b
 |_=>none
noncomputable def Iq(q:List V->Option β):V->Option β
 |.tup vs=>q vs
 |_=>none
noncomputable def Kw:V->Option (Nat×Nat×Int×Row)
 |.held d k s r=>some (d,k,s,r)
 |_=>none
noncomputable def pa:V->Option (Nat×Nat×Int×List Row)
 |.aL d k s l=>some (d,k,s,l)
 |_=>none
noncomputable def kA:List V->Option Unit
 |[]=>some ()
 |_::_=>none
noncomputable def bL(p:V->Option α)(q:List V->Option β):List V->Option (α×β)
 |[]=>none
 |v::vs=>match p v with
  |none=>none
  |some x=>match q vs with
   |none=>none
   |some y=>some (x,y)
theorem jN{v:V}{i:Nat}(h:lR v=some i):v=.obj i:=by(first|exact no v|exact nf v|subst v|obtain rfl:=ai v|induction v using V.casesOn)<;>first|exact no h|(obtain rfl:=ai h;rfl)
theorem xb{v:V}{i:Int}(h:uZ v=some i):v=.int i:=by(first|exact no v|exact nf v|subst v|obtain rfl:=ai v|induction v using V.casesOn)<;>first|exact no h|(obtain rfl:=ai h;rfl)
set_option tactic.hygienic true in
theorem wB{v:V}{i:Nat}(h:wF v=some i):v=.int (.ofNat i):=by
 induction v using V.casesOn<;>first|exact no h|skip
 rename_i j
 (first|exact no j|exact nf j|subst j|obtain rfl:=ai j|induction j using Int.casesOn)<;>first|exact no h|(obtain rfl:=ai h;rfl)
theorem Iy{v:V}{i:Bool}(h:MS v=some i):v=.bool i:=by(first|exact no v|exact nf v|subst v|obtain rfl:=ai v|induction v using V.casesOn)<;>first|exact no h|(obtain rfl:=ai h;rfl)
theorem OY{v:V}{i:Str}(h:Hs v=some i):v=.str i:=by(first|exact no v|exact nf v|subst v|obtain rfl:=ai v|induction v using V.casesOn)<;>first|exact no h|(obtain rfl:=ai h;rfl)
theorem Qo{q:List V->Option β}{v:V}{x:β}(h:Iq q v=some x):∃vs,v=.tup vs/\q vs=some x:=by induction v using V.casesOn<;>first|exact no h|exact⟨_,rfl,h⟩
theorem H2{v:V}{d k:Nat}{s:Int}{r:Row}(h:Kw v=some (d,k,s,r)):v=.held d k s r:=by(first|exact no v|exact nf v|subst v|obtain rfl:=ai v|induction v using V.casesOn)<;>first|exact no h|(cases h;rfl)
theorem ve{v:V}{d k:Nat}{s:Int}{r:List Row}(h:pa v=some (d,k,s,r)):v=.aL d k s r:=by(first|exact no v|exact nf v|subst v|obtain rfl:=ai v|induction v using V.casesOn)<;>first|exact no h|(cases h;rfl)
theorem jA{vs:List V}{x:Unit}(h:kA vs=some x):vs=[]:=by induction vs using List.casesOn<;>first|rfl|exact no h
theorem b8{p:V->Option α}{q:List V->Option β}{vs:List V}{x:α×β}(h:bL p q vs=some x):∃v us,vs=v::us/\p v=some x.1/\q us=some x.2:=by
 induction vs using List.casesOn with
 |nil=>exact no h
 |cons v us=>
  unfold bL at h
  cases e:p v with
  |none=>simp only[e] at h;exact no h
  |some a=>
   simp only[e] at h
   cases e2:q us with
   |none=>simp only[e2] at h;exact no h
   |some b=>simp only[e2] at h;obtain rfl:=ai h;exact⟨v,us,rfl,e,e2⟩
noncomputable def pW(f:Addr)(p:List V->Option α)(X:α->List Ob->aM V)(a:Nat)(vs:List V)(H:List Ob):aM V:=match Nat.beq a f with
 |false=>none
 |true=>match p vs with
  |none=>none
  |some x=>X x H
theorem dW{f:Addr}{p:List V->Option α}{X:α->List Ob->aM V}{k:Nat}(h:∀vs x H q,p vs=some x->X x H=some q->aW G k f vs H q):Told G k (pW f p X):=λa vs H q e=>by
 unfold pW at e
 cases ha:Nat.beq a f with
 |false=>rw[ha] at e;exact no e
 |true=>
  rw[ha] at e
  dsimp only at e
  rw[Nat.eq_of_beq_eq_true ha]
  cases hp:p vs with
  |none=>rw[hp] at e;exact no e
  |some x=>rw[hp] at e;exact h _ _ _ _ hp e
noncomputable def gb(b:Bool)(x:aM V):aM V:=match b with
 |true=>x
 |false=>none
theorem fu{b:Bool}{x:aM V}{r:Rs V}(h:gb b x=some r):b=true/\x=some r:=by
 induction b with
 |false=>exact no h
 |true=>exact⟨rfl,h⟩
theorem zK{a b c d:Nat}(h:(Nat.beq a b&&Nat.beq c d)=true):a=b/\c=d:=by
 refine aJ h λh1 h2=>?_
 exact⟨Nat.eq_of_beq_eq_true h1,Nat.eq_of_beq_eq_true h2⟩
noncomputable def WR:Ob->Option (Item×List Item)
 |.av l=>match l with
  |[]=>none
  |x::l=>some (x,l)
 |_=>none
noncomputable def tj(H:List Ob)(i:Nat):Option (Item×List Item):=match cJ H i with
 |none=>none
 |some b=>WR b
set_option tactic.hygienic true in
theorem CQ{H:List Ob}{i:Nat}{x:Item×List Item}(h:tj H i=some x):cJ H i=some (.av (x.1::x.2)):=by
 unfold tj at h
 cases e:cJ H i with
 |none=>rw[e] at h;exact no h
 |some b=>
  rw[e] at h
  induction b using Ob.casesOn<;>first|exact no h|skip
  rename_i l
  induction l using List.casesOn with
  |nil=>exact no h
  |cons y l=>obtain rfl:=ai h;rfl
noncomputable def lg(H:List Ob)(i:Nat)(X:Item->List Item->aM V):aM V:=match tj H i with
 |none=>none
 |some x=>X x.1 x.2
theorem jQ{H:List Ob}{i:Nat}{X:Item->List Item->aM V}{r:Rs V}(h:lg H i X=some r):∃y l,cJ H i=some (.av (y::l))/\X y l=some r:=by
 unfold lg at h
 cases e:tj H i with
 |none=>rw[e] at h;exact no h
 |some x=>rw[e] at h;exact⟨_,_,CQ e,h⟩
noncomputable def BE(y:Item)(X:Nat->Nat->aM V):aM V:=match y with
 |.draw k w=>X k w
 |_=>none
noncomputable def SU(y:Item)(X:Nat->Bool->Nat->Row->aM V):aM V:=match y with
 |.row d f k r=>X d f k r
 |_=>none
noncomputable def wG(y:Item)(X:Nat->Nat->List Row->aM V):aM V:=match y with
 |.block d k l=>X d k l
 |_=>none
theorem yj{y:Item}{X:Nat->Nat->aM V}{r:Rs V}(h:BE y X=some r):∃k w,y=.draw k w/\X k w=some r:=by induction y using Item.casesOn<;>first|exact no h|exact⟨_,_,rfl,h⟩
theorem Pa{y:Item}{X:Nat->Bool->Nat->Row->aM V}{r:Rs V}(h:SU y X=some r):∃d f k q,y=.row d f k q/\X d f k q=some r:=by induction y using Item.casesOn<;>first|exact no h|exact⟨_,_,_,_,rfl,h⟩
theorem tY{y:Item}{X:Nat->Nat->List Row->aM V}{r:Rs V}(h:wG y X=some r):∃d k l,y=.block d k l/\X d k l=some r:=by induction y using Item.casesOn<;>first|exact no h|exact⟨_,_,_,rfl,h⟩
end
section
variable{G:Gc}
noncomputable abbrev abV:V:=.tup [.str jq,.str jq]
noncomputable abbrev xT:V:=.tup [.str (S 0x78),abV]
noncomputable abbrev S0(lc:Ob):List Ob:=SS 42 lc .other++[.other]
noncomputable abbrev KA(ls:List V):List Ob:=SS 44 (.list ls) .other++(.other::yk 43 (.obj 42) [])
noncomputable abbrev Pt(ls:List V)(n:Int)(s:Int):List Ob:=SS 44 (.list (ls++[xT])) .other++(.other::yk 43 (.obj 42) [(S 0x78,.obj 47)])++
 [.attrs [(S 0x6e616d65,.str (S 0x78)),(S 0x656e747279,.tup [.str (S 0x6c6f63616c),.int n]),(S 0x73706f74,.int s),(S 0x6f776e6572,.str DT),(S 0x69735f636865636b6564,.bool true),(S 0x69735f75736564,.bool false)],.inst 1444 46]
theorem zJ(g:Good G)(s:Int):aW G 60 af [.obj 35,tree s .call] (S0 .other) (.ok (.obj 43) (S0 .other++[.list [fF s .call]])):=
 bb g (bR G 0) 60 (bK 0 44) [] (by kernel_rfl)
theorem wb(g:Good G)(s:Int):aW G 90 af [.obj 35,tree s .blank] (S0 .other) (.ok (.obj 43) (S0 .other++[.list [fF s .blank]])):=
 bb g (bR G 0) 90 (bK 0 43++[54]) [] (by kernel_rfl)
theorem Bw(g:Good G)(s:Int):aW G 60 af [.obj 35,tree s .bad] (S0 .other) (fault 190 43 (qJ .bad) s):=
 bb g (bR G 0) 60 (bK 0 44) (eW 43) (by kernel_rfl)
theorem yW(g:Good G)(s:Int):aW G 60 af [.obj 35,tree s .fT] (S0 .other) (fault 214 43 (qJ .fT) s):=
 bb g (bR G 0) 60 (bK 0 44) (eW 43) (by kernel_rfl)
theorem vZ(g:Good G)(s:Int):aW G 90 af [.obj 35,tree s .dZ] (KA []) (.ok (.obj 48) (Pt [] 0 s++[.list [.tup [.str (S 0x6c6574),.int s,.tup [.int 0],.tup [iK s]]]])):=
 bb g (bR G 0) 90 (bK 0 46++[56,57,59]) [] (by kernel_rfl)
theorem xg(g:Good G)(s:Int):aW G 90 af [.obj 35,tree s .dZ] (KA [xT]) (.ok (.obj 48) (Pt [xT] 1 s++[.list [.tup [.str (S 0x6c6574),.int s,.tup [.int 1],.tup [iK s]]]])):=
 bb g (bR G 0) 90 (bK 0 46++[56,57,59]) [] (by kernel_rfl)
end
section
variable{G:Gc}
noncomputable def stR(lc:Ob)(k:Nat)(s:Int)(r:Row):Option (Rs V):=match k with
 |0=>some (fault 190 43 (qJ r) (dY s r))
 |1=>some (fault 214 43 (qJ r) (dY s r))
 |3=>some (.ok (.obj 43) (S0 lc++[.list [.dN s r]]))
 |_=>none
def pN(G:Gc)(n d:Nat)(lc:Ob):Prop:=∀s r q,cj d r=true->stR lc (ao r) s r=some q->aW G n af [.obj 35,tree s r] (S0 lc) q
noncomputable def Fp(s n:Int):V:=.tup [.str (S 0x6c6574),.int s,.tup [.int n],.tup [iK s]]
noncomputable def MN(ls:List V)(n s:Int):Rs V:=.ok (.obj 48) (Pt ls n s++[.list [Fp s n]])
def mu(G:Gc)(m:Nat)(ls:List V)(n:Int):Prop:=∀s,aW G m af [.obj 35,tree s .dZ] (KA ls) (MN ls n s)
noncomputable def P9(σ:List Nat)(k:Nat)(s:Int)(r:Row)(H:List Ob):List (Bool×Ob)->aM V
 |[]=>none
 |(m,lc)::l=>match stR lc k s r with
  |none=>none
  |some q=>match iO σ (gi m true++[true]) (S0 lc) q H with
   |some r=>some r
   |none=>P9 σ k s r H l
noncomputable def qw(d:Nat)(cands:List (Bool×Ob))(ls:List V)(n:Int):Nat->List V->List Ob->aM V:=pW af (bL lR (bL Kw kA)) λx H=>
 gb (Nat.beq x.1 35&&Nat.beq x.2.1.1 d) (match Nat.beq x.2.1.2.1 2 with
  |true=>iO (bK 0 46) (gi false true++[true,false,false,false]) (KA ls) (MN ls n x.2.1.2.2.1) H
  |false=>P9 (bK 0 42++[44]) x.2.1.2.1 x.2.1.2.2.1 x.2.1.2.2.2 H cands)
set_option tactic.hygienic true in
theorem JN{r:Row}(h:ao r=2):r=.dZ:=by
 induction r using Row.casesOn<;>first|rfl|(simp[ao] at h;done)|skip
 rename_i l
 unfold ao at h
 generalize cW (cR l) false=k at h
 unfold nA at h
 split at h<;>cases h
theorem vh{d k:Nat}{s:Int}{r:Row}{c:Nat}:qF [.obj c,.held d k s r] [.obj c,tree s r]:=.cons (.refl _) (.cons .wu (.refl _))
theorem zQ{K:Frag}{ν:List Addr}{I:Led}{u:Value}{d k:Nat}{s:Int}{r:Row}(h:Rep K ν I u (.held d k s r)):k=ao r/\cj d r=true:=(Rep.says (v:=.held d k s r) h).2
theorem aW.IK{n:Nat}{a:Addr}{d k:Nat}{s:Int}{r:Row}{v:V}{H:List Ob}{q:Rs V}(h:k=ao r->cj d r=true->aW G n a [v,.held d k s r] H q):aW G n a [v,.held d k s r] H q:=by
 rintro c s' m ν Mu I us R ok S rs post
 have:k=ao r/\cj d r=true:=by
  refine ag.dj rs rfl λy1 y2 y3 rs=>?_
  refine ag.dj rs rfl λy1 y2 r' y3=>?_
  exact zQ r'
 exact h this.1 this.2 c s' m ν Mu I us R ok S rs post
theorem E9{σ:List Nat}{n d k:Nat}{s:Int}{r:Row}{H:List Ob}{q:Rs V}(hσ:Nat.blt 35 σ.length=true):∀{cands:List (Bool×Ob)},(∀p∈cands,pN G n d p.2)->k=ao r->cj d r=true->P9 σ k s r H cands=some q->
  aW G n af [.obj (jr σ 35),.held d k s r] H q:=by
 intro l_
 induction l_ with
 |nil=>
  intro _ _ _ h
  exact no h
 |cons p_ l ih=>
  obtain⟨m,lc⟩:=p_
  intro hc hk hf h
  refine Uj h ?_;clear h;intro q0 hq h
  refine LZ h ?_ ?_
  ·clear h;intro r' hu h
   obtain rfl:=ai h
   rw[hk] at hq
   have e:=hc _ (.head _) s r q0 hf hq
   have e:=e.pre (vh (d:=d) (k:=k)) (HA.refl _)
   exact eK e hu (by show(Nat.blt 35 σ.length&&_)=true;rw[hσ];rfl) rfl
  ·clear h;intro _ h
   exact ih (λp hp=>hc p (.tail _ hp)) hk hf h
theorem mA{n m k d:Nat}{cands:List (Bool×Ob)}{ls:List V}{nx:Int}(hc:∀p∈cands,pN G n d p.2)(ht:mu G m ls nx)(h1:n<=k)(h2:m<=k):Told G k (qw d cands ls nx):=dW λvs x H q hp h0=>by
 refine bP (b8 hp) λv y1 fH e1 e2=>?_;subst fH
 refine bP (b8 e2) λu y1 fH e3 e4=>?_;subst fH
 obtain rfl:=jA e4
 refine ae (fu h0) λhb h=>?_
 clear h0
 refine ae (zK hb) λb1 b2=>?_
 rw[jN e1,H2 e3,b1,b2]
 clear e1 e3 b1 b2 hp e2 e4 hb
 show aW G k af [.obj 35,.held d x.2.1.2.1 x.2.1.2.2.1 x.2.1.2.2.2] H q
 generalize x.2.1.2=y at*
 obtain⟨kk,s,r⟩:=y
 dsimp only at h ⊢
 refine aW.IK λhk hf=>?_
 cases hk2:Nat.beq kk 2 with
 |true=>
  rw[hk2] at h
  rw[Nat.eq_of_beq_eq_true hk2] at hk
  obtain rfl:=JN hk.symm
  exact(eK ((ht s).pre (vh (d:=d) (k:=kk)) (HA.refl _)) h (by rfl) (by rfl)).more h2
 |false=>
  rw[hk2] at h
  exact(E9 (by rfl) hc hk hf h).more h1
end
section
variable{G:Gc}
noncomputable abbrev Met:=Nat×Int×Row×V
noncomputable def Aa(d:Nat)(m:Met):V:=match Nat.beq m.1 4 with
 |true=>m.2.2.2
 |false=>.held d m.1 m.2.1 m.2.2.1
noncomputable def d8(ls:List V)(nx:Int):List Met->List V->Option (Int×Nat)->Nat->Rs V×List Nat
 |[],acc,t,_=>match t with
  |none=>(.ok (.tup acc) (KA ls),bK 0 46)
  |some p=>(.ok (.tup acc) (Pt ls nx p.1),bK 0 46++[p.2,p.2+1])
 |m::l,acc,t,raw=>match m.1 with
  |0=>(fault 190 46 (qJ m.2.2.1) (dY m.2.1 m.2.2.1),bK 0 46++[raw])
  |1=>(fault 214 46 (qJ m.2.2.1) (dY m.2.1 m.2.2.1),bK 0 46++[raw])
  |2=>d8 ls nx l (acc++[Fp m.2.1 nx]) (some (m.2.1,raw)) (raw+3)
  |_=>d8 ls nx l (acc++[.dN m.2.1 m.2.2.1]) t (raw+1)
noncomputable def Ug:Rs V->List Bool
 |.ok .. =>gi false true++[true,false,false,false]
 |.exc .. =>eW 46
noncomputable def lu:List (List Nat):=[[],[0],[1],[2],[3],[0,4],[1,4],[2,0],[2,1],[2,3],[3,0],[3,1],[3,2],[3,3],[0,4,4],[1,4,4],[2,0,4],[2,1,4],[2,3,0],[2,3,1],[2,3,3],[3,0,4],[3,1,4],[3,2,0],[3,2,1],[3,2,3],[3,3,0],[3,3,1],[3,3,2],[3,3,3]]
noncomputable def zd(d:Nat)(cands:List (Bool×Ob))(ls:List V)(nx:Int)(ms:List Met):Option (Rs V):=
 canon (KA ls).length (d8 ls nx ms [] none 47).2 (Ug (d8 ls nx ms [] none 47).1) ((ev (jH (qw d cands ls nx)) 50).F cT [.obj 35,.tup (ms.map (Aa d))] (KA ls))
section
variable(d0 d1 d2:Int×Row×V)
theorem N5:lu.map (λt=>zd 0 [(true,.other)] [] 0 (t.zip [d0,d1,d2]))=lu.map (λt=>some (d8 [] 0 (t.zip [d0,d1,d2]) [] none 47).1):=by kernel_rfl
theorem Oc:lu.map (λt=>zd 0 [(true,.other)] [xT] 1 (t.zip [d0,d1,d2]))=lu.map (λt=>some (d8 [xT] 1 (t.zip [d0,d1,d2]) [] none 47).1):=by kernel_rfl
theorem N4:lu.map (λt=>zd 1 [(false,.list []),(false,.list [xT])] [] 0 (t.zip [d0,d1,d2]))=lu.map (λt=>some (d8 [] 0 (t.zip [d0,d1,d2]) [] none 47).1):=by kernel_rfl
end
theorem Dy{α β:Type}{f g:α->β}{l:List α}(h:l.map f=l.map g):∀a∈l,f a=g a:=List.map_inj_left.mp h
theorem qG:∀(l:List Nat) (t:Bool),(∀k∈l,k<4)->cW l t<4:=by
 intro l_
 induction l_ with
 |nil=>
  intro t _
  induction t<;>decide
 |cons k l ih=>
  intro t h
  have h1:=h k (.head _)
  have h2:=λt=>ih t λk hk=>h k (.tail _ hk)
  unfold cW
  split
  ·decide
  ·decide
  ·exact h2 true
  ·exact h2 t
theorem HF(k:Nat):nA k<4:=by
 unfold nA
 split<;>decide
theorem ee(r:Row):ao r<4:=by
 induction r using Row.casesOn<;>first|(unfold ao;decide;done)|skip
 unfold ao
 exact HF _
theorem fm(r:Row):ao r=0∨ao r=1∨ao r=2∨ao r=3:=by
 have:=ee r
 exact PM ‹_›
theorem G0{x y:List V}(h:qF x y):qF [.obj 35,.tup x] [.obj 35,.tup y]:=.cons (.refl _) (.cons (.tup h) (.refl _))
theorem KW{d:Nat}{f:Bool}{r:Row}{l:List Row}(h:bB d f (r::l)=true):cj d r=true/\bB d (f&&!r.eR) l=true:=by
 simp only[bB,Bool.and_eq_true] at h
 exact⟨h.1.2,h.2⟩
structure ni(G:Gc)(n d:Nat)(ls:List V)(nx:Int):Prop where
 good:∀s l,l.length<=3->bB d true l=true->kindB l=3->aW G n cT [.obj 35,.tup (trees s 0 l)] (KA ls) (.ok (.b9 s l) (KA ls))
 told:∀s l,l.length<=3->bB d true l=true->kindB l=2->∃v,aW G n cT [.obj 35,.tup (trees s 0 l)] (KA ls) (.ok v (Pt ls nx (bp s 0 l s)))
 bad:∀s l,l.length<=3->bB d true l=true->kindB l=0->aW G n cT [.obj 35,.tup (trees s 0 l)] (KA ls) (fault 190 46 (ji l) (bp s 0 l s))
 ae3:∀s l,l.length<=3->bB d true l=true->kindB l=1->aW G n cT [.obj 35,.tup (trees s 0 l)] (KA ls) (fault 214 46 (ji l) (bp s 0 l s))
noncomputable def meets:List Nat->List Nat
 |[]=>[]
 |k::l=>match k with
  |0=>0::l.map (λζ=>4)
  |1=>1::l.map (λζ=>4)
  |k=>k::meets l
noncomputable def dataOf(s:Int):Int->List Row->List (Int×Row×V)
 |_,[]=>[]
 |k,r::l=>(10*s+k,r,tree (10*s+k) r)::dataOf s (k+1) l
noncomputable def once(f:Bool):List Nat->Bool
 |[]=>true
 |k::l=>match Nat.beq k 2 with
  |true=>f&&once false l
  |false=>once f l
theorem Fv{d:Nat}:∀{l:List Row} {f:Bool},bB d f l=true->once f (l.map ao)=true:=by
 intro l_
 induction l_ with
 |nil=>
  intro _ _
  exact rfl
 |cons r l ih=>
  intro f h
  have ht:f=true∨r.eR=false:=by
   simp only[bB,Bool.and_eq_true,Bool.or_eq_true,Bool.not_eq_true'] at h
   exact h.1.1
  have ih:=ih (KW h).2
  show(match Nat.beq (ao r) 2 with|true=>f&&once false (l.map ao)|false=>once f (l.map ao))=true
  cases e:Nat.beq (ao r) 2 with
  |true=>
   rw[JN (Nat.eq_of_beq_eq_true e)] at ht ih
   rcases ht with rfl|ht
   ·exact ih
   ·cases ht
  |false=>
   have:r.eR=false:=by
    (first|exact no r|exact nf r|subst r|obtain rfl:=ai r|induction r using Row.casesOn)<;>first|rfl|cases e
   rw[this] at ih
   rwa [Bool.not_false,Bool.and_true] at ih
theorem GU:∀a,a<4->lu.contains (meets [a])=true:=by decide
theorem EZ:∀a,a<4->∀b,b<4->once true [a,b]=true->lu.contains (meets [a,b])=true:=by decide
theorem I5:∀a,a<4->∀b,b<4->∀c,c<4->once true [a,b,c]=true->lu.contains (meets [a,b,c])=true:=by decide
theorem HJ{α β:Type}{e:List β}{t:List α}{d:List β}(h:t.length=d.length):t.zip (d++e)=t.zip d:=by
 have:=List.zip_append (r₁:=[]) (r₂:=e) h
 rw[List.append_nil] at this
 exact this.trans (List.append_nil _)
theorem AV:∀l:List Nat,(meets l).length=l.length:=by
 intro l_
 induction l_ with
 |nil=>
  exact rfl
 |cons k l ih=>
  unfold meets
  split
  ·exact congrArg (· +1) (List.length_map _)
  ·exact congrArg (· +1) (List.length_map _)
  ·exact congrArg (· +1) (ih)
theorem ug(s:Int):∀(l:List Row) (k:Int),(dataOf s k l).length=l.length
 |[],_=>rfl
 |_::l,k=>congrArg (· +1) (ug s l (k+1))
theorem zF{d:Nat}{s:Int}{r:Row}{v:V}(hf:cj d r=true):VA (tree s r) (Aa d (ao r,s,r,v)):=by
 have e:Nat.beq (ao r) 4=false:=by
  cases q:Nat.beq (ao r) 4 with
  |false=>rfl
  |true=>have:=ee r;rw[Nat.eq_of_beq_eq_true q] at this;exact absurd this (by decide)
 unfold Aa
 dsimp only
 rw[e]
 exact .held rfl hf
theorem Dc(d:Nat)(s:Int):∀(l:List Row) (k:Int),qF (trees s k l) ((((l.map ao).map λζ=>4).zip (dataOf s k l)).map (Aa d))
 |[],_=>by unfold trees;exact .refl _
 |r::l,k=>by unfold trees;exact .cons (.refl _) (Dc d s l (k+1))
theorem ID{d:Nat}(s:Int):∀(l:List Row) (k:Int) (f:Bool),bB d f l=true->qF (trees s k l) (((meets (l.map ao)).zip (dataOf s k l)).map (Aa d)):=by
 intro l_
 induction l_ with
 |nil=>
  intro _ _ _
  unfold trees;exact .refl _
 |cons r l ih=>
  intro k f h
  refine ae (KW h) λh1 h2=>?_
  have ih:=ih (k+1) _ h2
  have hd:=zF (s:=10*s+k) (v:=tree (10*s+k) r) h1
  unfold trees
  show qF _ (((meets (ao r::l.map ao)).zip ((10*s+k,r,tree (10*s+k) r)::dataOf s (k+1) l)).map (Aa d))
  rcases fm r with e|e|e|e<;>rw[e] at hd ⊢
  ·exact .cons hd (Dc d s l (k+1))
  ·exact .cons hd (Dc d s l (k+1))
  ·exact .cons hd ih
  ·exact .cons hd ih
noncomputable def rB(nx s:Int):Int->List Row->List V
 |_,[]=>[]
 |k,r::l=>(match ao r with
  |2=>Fp (10*s+k) nx
  |_=>.dN (10*s+k) r)::rB nx s (k+1) l
theorem C2:∀l:List Nat,cW l true≠3:=by
 intro l_
 induction l_ with
 |nil=>
  decide
 |cons k l ih=>
  unfold cW;split<;>first|decide|exact ih
theorem ze(nx s:Int):∀(l:List Row) (k:Int),cW (cR l) false=3->qF (rB nx s k l) (dG s k l):=by
 intro l_
 induction l_ with
 |nil=>
  intro _ _
  unfold rB dG;exact .refl _
 |cons r l ih=>
  intro k h
  unfold cR at h
  unfold rB dG
  rcases fm r with e|e|e|e<;>rw[e] at h ⊢
  ·cases h
  ·cases h
  ·exact absurd h (C2 _)
  ·exact .cons .sx (ih (k+1) h)
theorem GW(ls:List V)(nx s:Int):∀(l:List Row) (k:Int) (acc:List V) (t:Option (Int×Nat)) (raw:Nat) (tt:Int),(∀p,t=some p->p.1=tt)->
  match cW (cR l) t.isSome with
   |0=>(d8 ls nx ((meets (l.map ao)).zip (dataOf s k l)) acc t raw).1=fault 190 46 (ji l) (bp s k l tt)
   |1=>(d8 ls nx ((meets (l.map ao)).zip (dataOf s k l)) acc t raw).1=fault 214 46 (ji l) (bp s k l tt)
   |2=>∃v,(d8 ls nx ((meets (l.map ao)).zip (dataOf s k l)) acc t raw).1=.ok v (Pt ls nx (bp s k l tt))
   |_=>(d8 ls nx ((meets (l.map ao)).zip (dataOf s k l)) acc t raw).1=.ok (.tup (acc++rB nx s k l)) (KA ls):=by
 intro l_
 induction l_ with
 |nil=>
  intro k acc t raw tt ht
  induction t with
  |none=>show _=Rs.ok (V.tup (acc++[])) _;rw[List.append_nil];rfl
  |some p=>have:=ht p rfl;subst this;unfold bp;exact⟨_,rfl⟩
 |cons r l ih=>
  intro k acc t raw tt ht
  have i2:=ih (k+1) (acc++[Fp (10*s+k) nx]) (some (10*s+k,raw)) (raw+3) (10*s+k) λp e=>by obtain rfl:=ai e;rfl
  have i3:=ih (k+1) (acc++[.dN (10*s+k) r]) t (raw+1) tt ht
  rw[List.append_assoc] at i2 i3
  unfold cR ji bp rB
  show match cW (ao r::cR l) t.isSome with
   |0=>(d8 ls nx ((meets (ao r::l.map ao)).zip ((10*s+k,r,tree (10*s+k) r)::dataOf s (k+1) l)) acc t raw).1=_
   |1=>(d8 ls nx ((meets (ao r::l.map ao)).zip ((10*s+k,r,tree (10*s+k) r)::dataOf s (k+1) l)) acc t raw).1=_
   |2=>∃v,(d8 ls nx ((meets (ao r::l.map ao)).zip ((10*s+k,r,tree (10*s+k) r)::dataOf s (k+1) l)) acc t raw).1=.ok v _
   |_=>(d8 ls nx ((meets (ao r::l.map ao)).zip ((10*s+k,r,tree (10*s+k) r)::dataOf s (k+1) l)) acc t raw).1=_
  rcases fm r with e|e|e|e<;>rw[e]
  ·rfl
  ·rfl
  ·exact i2
  ·exact i3
theorem Fy(g:Good G){k d:Nat}{cands:List (Bool×Ob)}{ls:List V}{nx:Int}(oo:Told G k (qw d cands ls nx))(hr:∀d0 d1 d2,lu.map (λt=>zd d cands ls nx (t.zip [d0,d1,d2]))=lu.map (λt=>some (d8 ls nx (t.zip [d0,d1,d2]) [] none 47).1))
  (s:Int) (l:List Row) (hl:l.length<=3) (hf:bB d true l=true):aW G (50+k) cT [.obj 35,.tup (trees s 0 l)] (KA ls) (d8 ls nx ((meets (l.map ao)).zip (dataOf s 0 l)) [] none 47).1:=by
 have go:∀ms:List Met,ms=(meets (l.map ao)).zip (dataOf s 0 l)->zd d cands ls nx ms=some (d8 ls nx ms [] none 47).1->aW G (50+k) cT [.obj 35,.tup (trees s 0 l)] (KA ls) (d8 ls nx ((meets (l.map ao)).zip (dataOf s 0 l)) [] none 47).1:=λms e h=>by
  subst e
  exact(bb g oo 50 _ _ h).pre (G0 (ID s l 0 true hf)) (HA.refl _)
 have ho:=Fv hf
 have fin:∀d0 d1 d2 e,[d0,d1,d2]=dataOf s 0 l++e->lu.contains (meets (l.map ao))=true->aW G (50+k) cT [.obj 35,.tup (trees s 0 l)] (KA ls) (d8 ls nx ((meets (l.map ao)).zip (dataOf s 0 l)) [] none 47).1:=λd0 d1 d2 e he hm=>by
  have h:=Dy (hr d0 d1 d2) _ (List.contains_iff_mem.mp hm)
  rw[he,HJ (by rw[AV,List.length_map,ug])] at h
  exact go _ rfl h
 induction l using List.casesOn with
 |nil=>exact fin (0,.bad,.none) (0,.bad,.none) (0,.bad,.none) _ rfl (by decide)
 |cons a l=>
  induction l using List.casesOn with
  |nil=>exact fin _ (0,.bad,.none) (0,.bad,.none) _ rfl (GU _ (ee a))
  |cons b l=>
   induction l using List.casesOn with
   |nil=>exact fin _ _ (0,.bad,.none) _ rfl (EZ _ (ee a) _ (ee b) ho)
   |cons c l=>
    induction l using List.casesOn with
    |nil=>exact fin _ _ _ [] rfl (I5 _ (ee a) _ (ee b) _ (ee c) ho)
    |cons d l=>exact absurd hl (Nat.not_le.mpr (Nat.le_add_left 4 _))
theorem pY(g:Good G){k d:Nat}{cands:List (Bool×Ob)}{ls:List V}{nx:Int}(hd:Nat.ble d 1=true)(oo:Told G k (qw d cands ls nx))(hr:∀d0 d1 d2,lu.map (λt=>zd d cands ls nx (t.zip [d0,d1,d2]))=lu.map (λt=>some (d8 ls nx (t.zip [d0,d1,d2]) [] none 47).1)):ni G (50+k) d ls nx:=by
 refine⟨λs l hl hf hk=>?_,λs l hl hf hk=>?_,λs l hl hf hk=>?_,λs l hl hf hk=>?_⟩
 all_goals
  have e:=Fy g oo hr s l hl hf
  have z:=GW ls nx s l 0 [] none 47 s λp e=>by exact no e
  have qr:cW (cR l) (none:Option (Int×Nat)).isSome=_:=hk
  rw[qr] at z
 ·rw[z] at e
  exact e.alike (.ok (VA.trans (VA.tup (ze nx s l 0 hk)) (.b9 (mN _ _ _ hd hf) hl)) (HA.refl _))
 ·refine bF z ?_;clear z;intro v z
  rw[z] at e
  exact⟨v,e⟩
 ·rw[z] at e
  exact e
 ·rw[z] at e
  exact e
theorem Ge(g:Good G){k:Nat}(oo:Told G k (qw 0 [(true,.other)] [] 0)):ni G (50+k) 0 [] 0:=pY g rfl oo N5
theorem Hq(g:Good G){k:Nat}(oo:Told G k (qw 0 [(true,.other)] [xT] 1)):ni G (50+k) 0 [xT] 1:=pY g rfl oo Oc
theorem HO(g:Good G){k:Nat}(oo:Told G k (qw 1 [(false,.list []),(false,.list [xT])] [] 0)):ni G (50+k) 1 [] 0:=pY g rfl oo N4
theorem Aw{n m k:Nat}(hc:∀p∈([(true,.other)]:List (Bool×Ob)),pN G n 0 p.2)(ht:mu G m [] 0)(h1:n<=k)(h2:m<=k):Told G k (qw 0 [(true,.other)] [] 0):=mA hc ht h1 h2
theorem zY{n m k:Nat}(hc:∀p∈([(true,.other)]:List (Bool×Ob)),pN G n 0 p.2)(ht:mu G m [xT] 1)(h1:n<=k)(h2:m<=k):Told G k (qw 0 [(true,.other)] [xT] 1):=mA hc ht h1 h2
theorem zM{n m k:Nat}(hc:∀p∈([(false,.list []),(false,.list [xT])]:List (Bool×Ob)),pN G n 1 p.2)(ht:mu G m [] 0)(h1:n<=k)(h2:m<=k):Told G k (qw 1 [(false,.list []),(false,.list [xT])] [] 0):=mA hc ht h1 h2
end
section
variable{G:Gc}
noncomputable def gh(d:Nat)(ls:List V)(nx:Int)(vT:Int->List Row->V):Nat->List V->List Ob->aM V:=pW cT (bL lR (bL pa kA)) λx H=>
 gb (Nat.beq x.1 35&&Nat.beq x.2.1.1 d) (match x.2.1.2.1 with
  |0=>iO (bK 0 46) (gi false true++[true]) (KA ls) (fault 190 46 (ji x.2.1.2.2.2) (bp x.2.1.2.2.1 0 x.2.1.2.2.2 x.2.1.2.2.1)) H
  |1=>iO (bK 0 46) (gi false true++[true]) (KA ls) (fault 214 46 (ji x.2.1.2.2.2) (bp x.2.1.2.2.1 0 x.2.1.2.2.2 x.2.1.2.2.1)) H
  |2=>iO (bK 0 46) (gi false true++[true]) (KA ls) (.ok (vT x.2.1.2.2.1 x.2.1.2.2.2) (Pt ls nx (bp x.2.1.2.2.1 0 x.2.1.2.2.2 x.2.1.2.2.1))) H
  |3=>iO (bK 0 46) (gi false true++[true]) (KA ls) (.ok (.b9 x.2.1.2.2.1 x.2.1.2.2.2) (KA ls)) H
  |_=>none)
theorem ka{d k:Nat}{s:Int}{l:List Row}{c:Nat}:qF [.obj c,.aL d k s l] [.obj c,.tup (trees s 0 l)]:=.cons (.refl _) (.cons .yh (.refl _))
theorem aW.B9{n:Nat}{a:Addr}{d k:Nat}{s:Int}{l:List Row}{v:V}{H:List Ob}{q:Rs V}(h:k=kindB l->bB d true l=true->l.length<=3->aW G n a [v,.aL d k s l] H q):aW G n a [v,.aL d k s l] H q:=by
 rintro c s' m ν Mu I us R ok S rs post
 have:k=kindB l/\bB d true l=true/\l.length<=3:=by
  refine ag.dj rs rfl λy1 y2 y3 rs=>?_
  refine ag.dj rs rfl λy1 y2 r' y3=>?_
  exact(Rep.says (v:=.aL d k s l) r').2
 exact h this.1 this.2.1 this.2.2 c s' m ν Mu I us R ok S rs post
theorem kQ{n k d:Nat}{ls:List V}{nx:Int}(h:ni G n d ls nx)(hn:n<=k):∃vT,Told G k (gh d ls nx vT):=by
 classical
 refine⟨λs l=>if q:l.length<=3/\bB d true l=true/\kindB l=2 then Classical.choose (h.told s l q.1 q.2.1 q.2.2) else .none,?_⟩
 refine dW λvs x H q hp hq=>?_
 refine bP (b8 hp) λv y1 fH e1 e2=>?_;subst fH
 refine bP (b8 e2) λu y1 fH e3 e4=>?_;subst fH
 obtain rfl:=jA e4
 replace hq:=fu hq
 refine ae hq ?_;clear hq;intro hb hq
 refine ae (zK hb) λb1 b2=>?_
 rw[jN e1,ve e3,b1,b2]
 refine aW.B9 λhk hf hl=>?_
 clear e1 e3 b1 b2 hp e2
 generalize x.2.1.2.1=kk at*
 split at hq
 ·exact(eK ((h.bad _ _ hl hf hk.symm).pre ka (HA.refl _)) hq (by rfl) (by rfl)).more hn
 ·exact(eK ((h.ae3 _ _ hl hf hk.symm).pre ka (HA.refl _)) hq (by rfl) (by rfl)).more hn
 ·dsimp only at hq
  rw[dif_pos ⟨hl,hf,hk.symm⟩] at hq
  exact(eK ((Classical.choose_spec (h.told _ _ hl hf hk.symm)).pre ka (HA.refl _)) hq (by rfl) (by rfl)).more hn
 ·exact(eK ((h.good _ _ hl hf hk.symm).pre ka (HA.refl _)) hq (by rfl) (by rfl)).more hn
 ·exact no hq
noncomputable def nW:Str:=S 0x6465636c6172656420616e64206e6f7420757365643a2078
end
section
variable{G:Gc}
noncomputable def kS(lc:Ob)(k:Nat)(s0 s:Int)(l:List Row):Rs V:=match k with
 |0=>fault 190 43 (ji l) (bp s 0 l s)
 |1=>fault 214 43 (ji l) (bp s 0 l s)
 |2=>fault 214 43 nW (bp s 0 l s)
 |_=>.ok (.tup [aY,.int s0,.b9 s l]) (S0 lc)
theorem er(g:Good G){k d:Nat}{ls:List V}{nx:Int}{vT:Int->List Row->V}(oo:Told G k (gh d ls nx vT))(v0:V)(s0 s:Int)(l:List Row){kk:Nat}(σ:List Nat)(mask:List Bool){q:Rs V}
  (h:canon (S0 (.list ls)).length σ mask ((ev (jH (gh d ls nx vT)) 50).F aG [.obj 35,.tup [v0,.int s0,.aL d kk s l]] (S0 (.list ls)))=some q):
  aW G (50+k) aG [.obj 35,.tup [v0,.int s0,.aL d kk s l]] (S0 (.list ls)) q:=bb g oo 50 σ mask h
section runs
variable(vT:Int->List Row->V)(v0:V)(s0 s:Int)(l:List Row)
theorem PA(g:Good G){k:Nat}(oo:Told G k (gh 0 [] 0 vT)):aW G (50+k) aG [.obj 35,.tup [v0,.int s0,.aL 0 0 s l]] (S0 (.list [])) (kS (.list []) 0 s0 s l):=
 er g oo v0 s0 s l (bK 0 43++[46]) (eW 43) (by kernel_rfl)
theorem Qv(g:Good G){k:Nat}(oo:Told G k (gh 0 [] 0 vT)):aW G (50+k) aG [.obj 35,.tup [v0,.int s0,.aL 0 1 s l]] (S0 (.list [])) (kS (.list []) 1 s0 s l):=
 er g oo v0 s0 s l (bK 0 43++[46]) (eW 43) (by kernel_rfl)
theorem Pj(g:Good G){k:Nat}(oo:Told G k (gh 0 [] 0 vT)):aW G (50+k) aG [.obj 35,.tup [v0,.int s0,.aL 0 2 s l]] (S0 (.list [])) (kS (.list []) 2 s0 s l):=
 er g oo v0 s0 s l (bK 0 43++[49]) (eW 43) (by kernel_rfl)
theorem PQ(g:Good G){k:Nat}(oo:Told G k (gh 0 [] 0 vT)):aW G (50+k) aG [.obj 35,.tup [v0,.int s0,.aL 0 3 s l]] (S0 (.list [])) (kS (.list []) 3 s0 s l):=
 er g oo v0 s0 s l (bK 0 43) (gi false true++[true]) (by kernel_rfl)
theorem Oe(g:Good G){k:Nat}(oo:Told G k (gh 0 [xT] 1 vT)):aW G (50+k) aG [.obj 35,.tup [v0,.int s0,.aL 0 0 s l]] (S0 (.list [xT])) (kS (.list [xT]) 0 s0 s l):=
 er g oo v0 s0 s l (bK 0 43++[46]) (eW 43) (by kernel_rfl)
theorem NL(g:Good G){k:Nat}(oo:Told G k (gh 0 [xT] 1 vT)):aW G (50+k) aG [.obj 35,.tup [v0,.int s0,.aL 0 1 s l]] (S0 (.list [xT])) (kS (.list [xT]) 1 s0 s l):=
 er g oo v0 s0 s l (bK 0 43++[46]) (eW 43) (by kernel_rfl)
theorem PF(g:Good G){k:Nat}(oo:Told G k (gh 0 [xT] 1 vT)):aW G (50+k) aG [.obj 35,.tup [v0,.int s0,.aL 0 2 s l]] (S0 (.list [xT])) (kS (.list [xT]) 2 s0 s l):=
 er g oo v0 s0 s l (bK 0 43++[49]) (eW 43) (by kernel_rfl)
theorem Qb(g:Good G){k:Nat}(oo:Told G k (gh 0 [xT] 1 vT)):aW G (50+k) aG [.obj 35,.tup [v0,.int s0,.aL 0 3 s l]] (S0 (.list [xT])) (kS (.list [xT]) 3 s0 s l):=
 er g oo v0 s0 s l (bK 0 43) (gi false true++[true]) (by kernel_rfl)
theorem Po(g:Good G){k:Nat}(oo:Told G k (gh 1 [] 0 vT)):aW G (50+k) aG [.obj 35,.tup [v0,.int s0,.aL 1 0 s l]] (S0 (.list [])) (kS (.list []) 0 s0 s l):=
 er g oo v0 s0 s l (bK 0 43++[46]) (eW 43) (by kernel_rfl)
theorem O1(g:Good G){k:Nat}(oo:Told G k (gh 1 [] 0 vT)):aW G (50+k) aG [.obj 35,.tup [v0,.int s0,.aL 1 1 s l]] (S0 (.list [])) (kS (.list []) 1 s0 s l):=
 er g oo v0 s0 s l (bK 0 43++[46]) (eW 43) (by kernel_rfl)
theorem Qg(g:Good G){k:Nat}(oo:Told G k (gh 1 [] 0 vT)):aW G (50+k) aG [.obj 35,.tup [v0,.int s0,.aL 1 2 s l]] (S0 (.list [])) (kS (.list []) 2 s0 s l):=
 er g oo v0 s0 s l (bK 0 43++[49]) (eW 43) (by kernel_rfl)
theorem P1(g:Good G){k:Nat}(oo:Told G k (gh 1 [] 0 vT)):aW G (50+k) aG [.obj 35,.tup [v0,.int s0,.aL 1 3 s l]] (S0 (.list [])) (kS (.list []) 3 s0 s l):=
 er g oo v0 s0 s l (bK 0 43) (gi false true++[true]) (by kernel_rfl)
end runs
def o6(G:Gc)(n d:Nat)(ls:List V):Prop:=∀v0 s0 s l,l.length<=3->bB d true l=true->aW G n aG [.obj 35,.tup [v0,.int s0,.tup (trees s 0 l)]] (S0 (.list ls)) (kS (.list ls) (kindB l) s0 s l)
theorem bA(l:List Row):kindB l=0∨kindB l=1∨kindB l=2∨kindB l=3:=by
 have:kindB l<4:=qG _ _ (by
  induction l with
  |nil=>intro k hk;simp[cR] at hk
  |cons r l ih=>
   intro k hk
   simp only[cR] at hk
   rcases List.mem_cons.mp hk with rfl|hk
   ·exact ee r
   ·exact ih k hk)
 exact PM ‹_›
theorem eo{d:Nat}{v0:V}{s0 s:Int}{l:List Row}(hf:bB d true l=true)(hl:l.length<=3){c k:Nat}(hk:k=kindB l):qF [.obj c,.tup [v0,.int s0,.tup (trees s 0 l)]] [.obj c,.tup [v0,.int s0,.aL d k s l]]:=
 .cons (.refl _) (.cons (.tup (.cons (.refl _) (.cons (.refl _) (.cons (.aL hk hf hl) (.refl _))))) (.refl _))
theorem Fz(g:Good G){n:Nat}(h:ni G n 0 [] 0):o6 G (50+n) 0 []:=by
 refine bF (kQ h (Nat.le_refl n)) λvT oo=>?_
 intro v0 s0 s l hl hf
 rcases bA l with e|e|e|e
 all_goals rw[e]
 ·exact(PA vT v0 s0 s l g oo).pre (eo hf hl e.symm) (HA.refl _)
 ·exact(Qv vT v0 s0 s l g oo).pre (eo hf hl e.symm) (HA.refl _)
 ·exact(Pj vT v0 s0 s l g oo).pre (eo hf hl e.symm) (HA.refl _)
 ·exact(PQ vT v0 s0 s l g oo).pre (eo hf hl e.symm) (HA.refl _)
theorem IY(g:Good G){n:Nat}(h:ni G n 0 [xT] 1):o6 G (50+n) 0 [xT]:=by
 refine bF (kQ h (Nat.le_refl n)) λvT oo=>?_
 intro v0 s0 s l hl hf
 rcases bA l with e|e|e|e
 all_goals rw[e]
 ·exact(Oe vT v0 s0 s l g oo).pre (eo hf hl e.symm) (HA.refl _)
 ·exact(NL vT v0 s0 s l g oo).pre (eo hf hl e.symm) (HA.refl _)
 ·exact(PF vT v0 s0 s l g oo).pre (eo hf hl e.symm) (HA.refl _)
 ·exact(Qb vT v0 s0 s l g oo).pre (eo hf hl e.symm) (HA.refl _)
theorem Gl(g:Good G){n:Nat}(h:ni G n 1 [] 0):o6 G (50+n) 1 []:=by
 refine bF (kQ h (Nat.le_refl n)) λvT oo=>?_
 intro v0 s0 s l hl hf
 rcases bA l with e|e|e|e
 all_goals rw[e]
 ·exact(Po vT v0 s0 s l g oo).pre (eo hf hl e.symm) (HA.refl _)
 ·exact(O1 vT v0 s0 s l g oo).pre (eo hf hl e.symm) (HA.refl _)
 ·exact(Qg vT v0 s0 s l g oo).pre (eo hf hl e.symm) (HA.refl _)
 ·exact(P1 vT v0 s0 s l g oo).pre (eo hf hl e.symm) (HA.refl _)
end
section
variable{G:Gc}
noncomputable def jx(d:Nat)(ls:List V):Nat->List V->List Ob->aM V:=pW aG (bL lR (bL (Iq (bL Hs (bL uZ (bL pa kA)))) kA)) λx H=>
 gb (Nat.beq x.1 35&&Nat.beq x.2.1.2.2.1.1 d) (iO (bK 0 43) (gi false true++[true]) (S0 (.list ls)) (kS (.list ls) x.2.1.2.2.1.2.1 x.2.1.2.1 x.2.1.2.2.1.2.2.1 x.2.1.2.2.1.2.2.2) H)
theorem aW.rH{n:Nat}{a:Addr}{d k:Nat}{s:Int}{l:List Row}{v v0 v1:V}{H:List Ob}{q:Rs V}(h:k=kindB l->bB d true l=true->l.length<=3->aW G n a [v,.tup [v0,v1,.aL d k s l]] H q):aW G n a [v,.tup [v0,v1,.aL d k s l]] H q:=by
 rintro c s' m ν Mu I us R ok S rs post
 have:k=kindB l/\bB d true l=true/\l.length<=3:=by
  refine ag.dj rs rfl λy1 y2 y3 rs=>?_
  refine ag.dj rs rfl λy1 y2 r' y3=>?_
  refine r'.gc rfl λy1 y2 y3 y4 rs=>?_
  refine ag.dj rs rfl λy1 y2 y3 rs=>?_
  refine ag.dj rs rfl λy1 y2 y3 rs=>?_
  refine ag.dj rs rfl λy1 y2 r' y3=>?_
  exact(Rep.says (v:=.aL d k s l) r').2
 exact h this.1 this.2.1 this.2.2 c s' m ν Mu I us R ok S rs post
theorem rg{d:Nat}{v0:V}{s0 s:Int}{l:List Row}{c k:Nat}:qF [.obj c,.tup [v0,.int s0,.aL d k s l]] [.obj c,.tup [v0,.int s0,.tup (trees s 0 l)]]:=
 .cons (.refl _) (.cons (.tup (.cons (.refl _) (.cons (.refl _) (.cons .yh (.refl _))))) (.refl _))
theorem uA{vs:List V}{x:Nat×(Str×Int×(Nat×Nat×Int×List Row)×Unit)×Unit}(hp:bL lR (bL (Iq (bL Hs (bL uZ (bL pa kA)))) kA) vs=some x):
  vs=[.obj x.1,.tup [.str x.2.1.1,.int x.2.1.2.1,.aL x.2.1.2.2.1.1 x.2.1.2.2.1.2.1 x.2.1.2.2.1.2.2.1 x.2.1.2.2.1.2.2.2]]:=by
 refine bP (b8 hp) λv y1 fH e1 e2=>?_;subst fH
 refine bP (b8 e2) λu y1 fH e3 e4=>?_;subst fH
 obtain rfl:=jA e4
 refine ab (Qo e3) λws aU ew=>?_;subst aU
 refine bP (b8 ew) λw y1 fH e5 e6=>?_;subst fH
 refine bP (b8 e6) λz y1 fH e7 e8=>?_;subst fH
 refine bP (b8 e8) λy y1 fH e9 e10=>?_;subst fH
 obtain rfl:=jA e10
 rw[jN e1,xb e7,ve e9,OY e5]
theorem oZ{n d k:Nat}{ls:List V}(h:o6 G n d ls)(hn:n<=k):Told G k (jx d ls):=dW λvs x H q hp hq=>by
 obtain rfl:=uA hp
 replace hq:=fu hq
 refine ae hq ?_;clear hq;intro hb hq
 refine ae (zK hb) λb1 b2=>?_
 rw[b1,b2]
 clear b1 b2 hb hp
 show aW G k aG [.obj 35,.tup [.str x.2.1.1,.int x.2.1.2.1,.aL d x.2.1.2.2.1.2.1 x.2.1.2.2.1.2.2.1 x.2.1.2.2.1.2.2.2]] H q
 generalize x.2.1.2.2.1.2=y at*
 obtain⟨kk,s,l⟩:=y
 dsimp only at hq ⊢
 refine aW.rH λhk hf hl=>?_
 have e:=(h (.str x.2.1.1) x.2.1.2.1 s l hl hf).pre (rg (d:=d) (k:=kk)) (HA.refl _)
 rw[←hk] at e
 exact(eK e hq (by rfl) (by rfl)).more hn
noncomputable def jF(lc:Ob)(k:Nat)(s:Int)(l:List Row):Rs V:=match k with
 |0=>fault 190 43 (ji l) (bp s 0 l s)
 |1=>fault 214 43 (ji l) (bp s 0 l s)
 |2=>fault 214 43 nW (bp s 0 l s)
 |_=>.ok (.obj 43) (S0 lc++[.list [.tup [aY,.int s,.b9 s l]]])
section runs
variable(s:Int)(l:List Row)
theorem G2(g:Good G){k:Nat}(oo:Told G k (jx 0 [])):aW G (50+k) af [.obj 35,.tup [aY,.int s,.aL 0 0 s l]] (S0 (.list [])) (jF (.list []) 0 s l):=
 bb g oo 50 (bK 0 44) (eW 43) (by kernel_rfl)
theorem H7(g:Good G){k:Nat}(oo:Told G k (jx 0 [])):aW G (50+k) af [.obj 35,.tup [aY,.int s,.aL 0 1 s l]] (S0 (.list [])) (jF (.list []) 1 s l):=
 bb g oo 50 (bK 0 44) (eW 43) (by kernel_rfl)
theorem Hi(g:Good G){k:Nat}(oo:Told G k (jx 0 [])):aW G (50+k) af [.obj 35,.tup [aY,.int s,.aL 0 2 s l]] (S0 (.list [])) (jF (.list []) 2 s l):=
 bb g oo 50 (bK 0 44) (eW 43) (by kernel_rfl)
theorem Hv(g:Good G){k:Nat}(oo:Told G k (jx 0 [])):aW G (50+k) af [.obj 35,.tup [aY,.int s,.aL 0 3 s l]] (S0 (.list [])) (jF (.list []) 3 s l):=
 bb g oo 50 (bK 0 44) (gi false true++[true]) (by kernel_rfl)
theorem G7(g:Good G){k:Nat}(oo:Told G k (jx 0 [xT])):aW G (50+k) af [.obj 35,.tup [aY,.int s,.aL 0 0 s l]] (S0 (.list [xT])) (jF (.list [xT]) 0 s l):=
 bb g oo 50 (bK 0 44) (eW 43) (by kernel_rfl)
theorem Ib(g:Good G){k:Nat}(oo:Told G k (jx 0 [xT])):aW G (50+k) af [.obj 35,.tup [aY,.int s,.aL 0 1 s l]] (S0 (.list [xT])) (jF (.list [xT]) 1 s l):=
 bb g oo 50 (bK 0 44) (eW 43) (by kernel_rfl)
theorem Gb(g:Good G){k:Nat}(oo:Told G k (jx 0 [xT])):aW G (50+k) af [.obj 35,.tup [aY,.int s,.aL 0 2 s l]] (S0 (.list [xT])) (jF (.list [xT]) 2 s l):=
 bb g oo 50 (bK 0 44) (eW 43) (by kernel_rfl)
theorem HS(g:Good G){k:Nat}(oo:Told G k (jx 0 [xT])):aW G (50+k) af [.obj 35,.tup [aY,.int s,.aL 0 3 s l]] (S0 (.list [xT])) (jF (.list [xT]) 3 s l):=
 bb g oo 50 (bK 0 44) (gi false true++[true]) (by kernel_rfl)
end runs
theorem pZ(s:Int)(l:List Row):tree s (.dg l)=.tup [aY,.int s,.tup (trees s 0 l)]:=by rw[tree]
theorem Ja(s:Int)(l:List Row):fF s (.dg l)=.tup [aY,.int s,.tup (dG s 0 l)]:=by rw[fF]
theorem rn(s:Int)(l:List Row)(hf:cj 1 (.dg l)=true):VA (.tup [aY,.int s,.b9 s l]) (.dN s (.dg l)):=by
 refine VA.trans (VA.tup (.cons (.refl _) (.cons (.refl _) (.cons .Hb (.refl _))))) ?_
 rw[←Ja]
 exact .dN hf
theorem rM:∀(l:List Row),(∀k∈cR l,k=2∨k=3)->ji l=nW
 |[],_=>by rw[ji];rfl
 |r::l,h=>by
  have h1:=h (ao r) (by simp[cR])
  have ih:=rM l λk hk=>h k (by simp only[cR];exact .tail _ hk)
  rw[ji]
  rcases h1 with e|e<;>(rw[e];exact ih)
set_option tactic.hygienic true in
theorem uN:∀(l:List Nat) (t:Bool),(∀k∈l,k<4)->cW l t=2->∀k∈l,k=2∨k=3:=by
 intro l_
 induction l_ with
 |nil=>
  intro _ _ _
  exact λk hk=>by simp at hk
 |cons k l ih=>
  intro t hl h
  have hk4:=hl k (.head _)
  unfold cW at h
  split at h
  ·cases h
  ·cases h
  ·intro k' qr
   rcases List.mem_cons.mp qr with rfl|qr
   ·exact .inl rfl
   ·exact ih true (λk hk=>hl k (.tail _ hk)) h k' qr
  ·rename_i h0 h1 h2
   intro k' qr
   rcases List.mem_cons.mp qr with rfl|qr
   ·right
    have a0:k'≠0:=h0
    have a1:k'≠1:=h1
    have a2:k'≠2:=h2
    exact adA ‹_› ‹_› ‹_› ‹_›
   ·exact ih t (λk hk=>hl k (.tail _ hk)) h k' qr
theorem vk:∀(l:List Row),∀k∈cR l,k<4
 |[],k,hk=>by simp[cR] at hk
 |r::l,k,hk=>by
  simp only[cR] at hk
  rcases List.mem_cons.mp hk with rfl|hk
  ·exact ee r
  ·exact vk l k hk
theorem Bp{l:List Row}(h:kindB l=2):ji l=nW:=rM l (uN _ _ (vk l) h)
theorem CE{s:Int}{l:List Row}{k:Nat}(hf:bB 0 true l=true)(hl:l.length<=3)(hk:k=kindB l):qF [.obj 35,tree s (.dg l)] [.obj 35,.tup [aY,.int s,.aL 0 k s l]]:=by
 rw[pZ]
 exact .cons (.refl _) (.cons (.tup (.cons (.refl _) (.cons (.refl _) (.cons (.aL hk hf hl) (.refl _))))) (.refl _))
theorem NA(lc:Ob)(hlc:lc.fixed=false)(hn:K3 43 lc=true)(hr:jf (bK 0 43) lc=lc):jk (bK 0 43) (S0 lc) (S0 .other) where
 nd:=gR (by rfl)
 len:=by rfl
 at_:=by
  have h:xa (bK 0 43) (S0 lc) (bK 0 43) (gi true true++[true])=some (S0 .other):=by rfl
  exact(nN h).2
theorem x5(g:Good G):pN G 90 0 .other:=by
 intro s r q hf hq
 induction r using Row.casesOn with
 |bad=>obtain rfl:=ai hq;exact(Bw g s).more (by decide)
 |dZ=>exact no hq
 |fT=>obtain rfl:=ai hq;exact(yW g s).more (by decide)
 |blank=>obtain rfl:=ai hq;exact(wb g s).alike (.ok (.refl _) (HA.app (HA.refl _) (.cons (.list (.cons (.dN (by rfl)) (.refl _))) .nil)))
 |call=>obtain rfl:=ai hq;exact((zJ g s).more (by decide)).alike (.ok (.refl _) (HA.app (HA.refl _) (.cons (.list (.cons (.dN (by rfl)) (.refl _))) .nil)))
 |dg l=>exact nf hf
end
section
variable{G:Gc}
theorem HA.ui:∀(H:List Ob),HA H (others H.length)
 |[]=>.nil
 |b::H=>.cons (.other b) (HA.ui H)
theorem oV(lc:Ob)(C:Addr)(m:Str)(p:Int):RA (ip (bK 0 43) (S0 lc) (S0 .other) (fault C 43 m p)) (fault C 43 m p):=by
 have e:ip (bK 0 43) (S0 lc) (S0 .other) (fault C 43 m p)=.exc ⟨C,43⟩ (jB (bK 0 43) (S0 .other) (qI (after (bK 0 43) 43 44) (others 43++[.attrs [(S 0x6d657373616765,.str m),(S 0x73706f74,.int p)]])) (S0 lc)++[.attrs [(S 0x6d657373616765,.str m),(S 0x73706f74,.int p)]]):=by rfl
 rw[e]
 refine .exc (HA.app ?_ (HA.refl _))
 have h:=HA.ui (jB (bK 0 43) (S0 .other) (qI (after (bK 0 43) 43 44) (others 43++[.attrs [(S 0x6d657373616765,.str m),(S 0x73706f74,.int p)]])) (S0 lc))
 rw[dT] at h
 exact h
theorem Fm(lc:Ob)(hr:∀σ,jf (bK 0 43++σ) lc=lc)(s:Int)(r:Row):ip (bK 0 43) (S0 lc) (S0 .other) (.ok (.obj 43) (S0 .other++[.list [.dN s r]]))=.ok (.obj 43) (S0 lc++[.list [.dN s r]]):=by rfl
theorem nX{n:Nat}{lc:Ob}(h:pN G n 0 .other)(hlc:lc.fixed=false)(hn:K3 43 lc=true)(hr:jf (bK 0 43) lc=lc)(hr':∀σ,jf (bK 0 43++σ) lc=lc){s:Int}{r:Row}{q:Rs V}(hf:cj 0 r=true)(hq:stR lc (ao r) s r=some q)
  (ht:fg (bK 0 43) [.obj 35,tree s r]=[.obj 35,tree s r]) (hi:sY 43 [.obj 35,tree s r]=true):aW G n af [.obj 35,tree s r] (S0 lc) q:=by
 have fr:=λq (e:aW G n af [.obj 35,tree s r] (S0 .other) q)=>ht▸e.frame (NA lc hlc hn hr) hi
 rcases fm r with k|k|k|k
 ·rw[k] at hq
  obtain rfl:=ai hq
  exact(fr _ (h s r _ hf (by rw[k];rfl))).alike (oV lc _ _ _)
 ·rw[k] at hq
  obtain rfl:=ai hq
  exact(fr _ (h s r _ hf (by rw[k];rfl))).alike (oV lc _ _ _)
 ·rw[k] at hq
  exact no hq
 ·rw[k] at hq
  obtain rfl:=ai hq
  have:=fr _ (h s r _ hf (by rw[k];rfl))
  rw[Fm lc hr'] at this
  exact this
theorem st1{n m k:Nat}{ls:List V}(hl:pN G n 0 .other)(h1:K3 43 (.list ls)=true)(h2:jf (bK 0 43) (.list ls)=.list ls)(h3:∀σ,jf (bK 0 43++σ) (.list ls)=.list ls)
  (nest:∀s l,l.length<=3->bB 0 true l=true->aW G m af [.obj 35,.tup [aY,.int s,.aL 0 (kindB l) s l]] (S0 (.list ls)) (jF (.list ls) (kindB l) s l)) (hn:n<=k) (hm:m<=k):pN G k 1 (.list ls):=by
 intro s r q hf hq
 induction r using Row.casesOn with
 |bad=>exact(nX hl rfl h1 h2 h3 (r:=.bad) rfl hq (by rfl) (by rfl)).more hn
 |dZ=>exact no hq
 |fT=>exact(nX hl rfl h1 h2 h3 (r:=.fT) rfl hq (by rfl) (by rfl)).more hn
 |blank=>exact(nX hl rfl h1 h2 h3 (r:=.blank) rfl hq (by rfl) (by rfl)).more hn
 |call=>exact(nX hl rfl h1 h2 h3 (r:=.call) rfl hq (by rfl) (by rfl)).more hn
 |dg l=>
  have hf':Nat.ble l.length 3=true/\bB 0 true l=true:=by
   simp only[cj,Bool.and_eq_true] at hf
   exact hf
  have hlen:=Nat.le_of_ble_eq_true hf'.1
  have e:=(nest s l hlen hf'.2).pre (CE hf'.2 hlen rfl) (HA.refl _)
  have hk:ao (.dg l)=nA (kindB l):=by rw[ao];rfl
  have hs:dY s (.dg l)=bp s 0 l s:=by rw[dY]
  have hms:qJ (.dg l)=ji l:=by rw[qJ]
  refine aW.more ?_ hm
  rw[hk] at hq
  rcases bA l with k|k|k|k
  ·rw[k] at hq e
   obtain rfl:=ai hq
   rw[hs,hms]
   exact e
  ·rw[k] at hq e
   obtain rfl:=ai hq
   rw[hs,hms]
   exact e
  ·rw[k] at hq e
   obtain rfl:=ai hq
   rw[hs,hms,Bp k]
   exact e
  ·rw[k] at hq e
   obtain rfl:=ai hq
   exact e.alike (.ok (.refl _) (HA.app (HA.refl _) (.cons (.list (.cons (rn s l hf) (.refl _))) .nil)))
theorem wQ(g:Good G){k:Nat}(oo:Told G k (jx 0 []))(s:Int)(l:List Row):aW G (50+k) af [.obj 35,.tup [aY,.int s,.aL 0 (kindB l) s l]] (S0 (.list [])) (jF (.list []) (kindB l) s l):=by
 rcases bA l with k|k|k|k<;>rw[k]
 ·exact G2 s l g oo
 ·exact H7 s l g oo
 ·exact Hi s l g oo
 ·exact Hv s l g oo
theorem vY(g:Good G){k:Nat}(oo:Told G k (jx 0 [xT]))(s:Int)(l:List Row):aW G (50+k) af [.obj 35,.tup [aY,.int s,.aL 0 (kindB l) s l]] (S0 (.list [xT])) (jF (.list [xT]) (kindB l) s l):=by
 rcases bA l with k|k|k|k<;>rw[k]
 ·exact G7 s l g oo
 ·exact Ib s l g oo
 ·exact Gb s l g oo
 ·exact HS s l g oo
theorem K4(g:Good G):mu G 90 [] 0:=λs=>vZ g s
theorem W5(g:Good G):mu G 90 [xT] 1:=λs=>xg g s
theorem Xx(g:Good G):o6 G 190 0 []:=Fz g (Ge g (Aw (k:=90) (λp hp=>by rw[List.mem_singleton.mp hp];exact x5 g) (K4 g) (Nat.le_refl _) (Nat.le_refl _)))
theorem Vv(g:Good G):o6 G 190 0 [xT]:=IY g (Hq g (zY (k:=90) (λp hp=>by rw[List.mem_singleton.mp hp];exact x5 g) (W5 g) (Nat.le_refl _) (Nat.le_refl _)))
theorem ace(g:Good G):pN G 240 1 (.list []):=st1 (x5 g) (by rfl) (by rfl) (λσ=>by rfl) (λs l ζ ζ=>wQ g (oZ (Xx g) (Nat.le_refl 190)) s l) (by decide) (by decide)
theorem adR(g:Good G):pN G 240 1 (.list [xT]):=st1 (x5 g) (by rfl) (by rfl) (λσ=>by rfl) (λs l ζ ζ=>vY g (oZ (Vv g) (Nat.le_refl 190)) s l) (by decide) (by decide)
theorem adb(g:Good G):o6 G 340 1 []:=Gl g (HO g (zM (k:=240) (λp hp=>by
 rcases List.mem_cons.mp hp with rfl|hp
 ·exact ace g
 ·rw[List.mem_singleton.mp hp];exact adR g) (K4 g) (Nat.le_refl _) (by decide)))
end
section
noncomputable def KF(P:Params):Frag:=[(2,o4 P),(3,Co P),(4,boot_o_4 P),(22,o11 P),(23,o12 P),(24,o13 P),(25,o14 P),(26,o15 P),(27,o16 P),(70,o41 P),(71,o42 P),(84,o49 P),(85,o50 P),(91,o53 P),(92,o54 P),(98,o57 P),(99,o58 P),(155,o93 P),(161,o96 P),(162,o97 P),(164,o99 P),(165,Uw P),(177,Yv P),(178,YJ P),(189,Rq P),(190,TJ P),(201,XI P),(202,UQ P),(213,U1 P),(214,UW P),(539,UZ P),(540,Vk P),(922,RD P),(957,Ti P),(958,SQ P),(960,Yw P),(961,RW P),(971,X7 P),(972,Tr P),(978,SJ P),(979,Wd P),(1174,o0 P),(1175,o0 P),(1176,V5 P),(1189,XT P),(1190,Sq P),(1192,YC P),(1193,RZ P),(1203,Uc P),(1204,SY P),(1212,kz P),(1218,R0 P),(1219,Yi P),(1225,Sr P),(1226,Yl P),(1235,Wc P),(1236,RL P),(1242,SR P),(1243,Vn P),(1249,Us P),(1250,UC P),(1277,zN P),(1281,VK P),(1282,TH P),(1286,VD P),(1287,VS P),(1293,Sv P),(1294,RS P),(1300,Vc P),(1301,Vz P),(1350,SV P),(1351,SD P),(1369,Rp P),(1370,Ru P),(1383,Ye P),(1384,Wm P),(1390,Ui P),(1391,UI P),(1397,Tb P),(1398,Yc P),(1404,SO P),(1405,X2 P),(1411,WK P),(1412,VE P),(1413,Xr P),(1419,Tj P),(1420,SH P),(1426,T3 P),(1427,XJ P),(1440,Sl P),(1441,WS P),(1443,Ve P),(1444,W8 P),(1456,kz P),(1462,Tn P),(1463,Sn P),(1464,IF P),(1470,So P),(1471,Su P),(1506,Wt P),(1507,Yk P),(1516,R8 P),(1517,UT P),(1522,Xf P),(1530,kz P),(1536,T4 P),(1537,Sz P),(1538,kz P),(1544,WY P),(1545,Tv P),(1546,kz P),(1552,UX P),(1553,V9 P),(1559,Rw P),(1560,Wo P),(1573,Sw P),(1574,RQ P),(1580,Sp P),(1581,Uq P),(1587,Vp P),(1588,Ue P),(1594,V' P),(1595,Vu P),(1596,kz P),(1602,WT P),(1603,X5 P),(1604,zN P),(1610,UA P),(1611,Ta P),(1632,LC P),(1633,Mv P),(1643,Mz P),(1644,Ky P),(1650,LI P),(1651,Lw P),(1657,KI P),(1658,Le P),(1664,J1 P),(1665,MP P),(1671,KJ P),(1672,MB P),(1678,My P),(1679,J0 P),(1685,KR P),(1686,Mg P),(1692,Lv P),(1693,Kr P),(1699,KX P),(1700,KV P),(1706,Kp P),(1707,Ld P),(1713,Me P),(1714,KQ P),(1720,KD P),(1721,MR P),(1727,Kz P),(1728,Md P),(1732,J5 P),(1733,LS P),(1739,KY P),(1740,KS P),(1746,Li P),(1747,Mj P)]
theorem C1{t:BT}{n:Nat}{life:Life}:∀{K:Frag},K.map (λp=>t.get p.1)=K.map (λp=>some p.2)->(K.all λp=>Nat.blt p.1 n&&!p.2.isFreed)=true->K.In (absHeap t n life):=by
 intro l_
 induction l_ with
 |nil=>
  intro _ _
  exact λa o e=>by exact no e
 |cons p_ K ih=>
  obtain⟨b,ob⟩:=p_
  intro h1 h2
  intro a o e
  rw[List.map_cons,List.map_cons] at h1
  refine ae (List.cons.inj h1) λe1 e2=>?_
  rw[List.all_cons] at h2
  refine aJ h2 λf1 f2=>?_
  refine aJ f1 λf3 f4=>?_
  rw[List.lookup_cons] at e
  split at e
  ·rename_i q
   cases e
   have q:a=b:=beq_iff_eq.mp q
   subst q
   rw[abs_get (Nat.le_of_ble_eq_true f3) e1]
   have f4:ob.isFreed=false:=by simpa using f4
   obtain⟨c',d',dt,sl⟩:=ob
   (first|exact no dt|exact nf dt|subst dt|obtain rfl:=ai dt|induction dt using Data.casesOn)<;>first|rfl|(cases f4)
  ·exact ih e2 f2 a o e
theorem kf_in(P:Params):(KF P).In (absHeap (t9 P) 1748 {}):=C1 (by kernel_rfl) (by kernel_rfl)
noncomputable def Cu:List Str->Bool
 |[]=>true
 |x::l=>(l.all λy=>!du x y)&&Cu l
theorem kc:∀{l:List Str},Cu l=true->l.Nodup
 |[],_=>List.nodup_nil
 |x::l,h=>by
  refine ae (Bool.and_eq_true_iff.mp (show((l.all λy=>!du x y)&&Cu l)=true from h)) λh1 h2=>?_
  refine List.nodup_cons.mpr ⟨λhm=>?_,kc h2⟩
  have:=List.all_eq_true.mp h1 x hm
  rw[aH.mpr rfl] at this
  exact nf this
noncomputable def n9(ns:List (Str×NameKind)):List Str->Bool
 |[]=>true
 |x::l=>(match bT x ns with|some .local=>true|some .cell=>true|_=>false)&&n9 ns l
set_option tactic.hygienic true in
theorem wM{ns:List (Str×NameKind)}:∀{l:List Str},n9 ns l=true->∀x∈l,ns.lookup x=some .local∨ns.lookup x=some .cell:=by
 intro l_
 induction l_ with
 |nil=>
  exact λζ ζ h=>nomatch h
 |cons x l ih=>
  intro h y hy
  refine ae (Bool.and_eq_true_iff.mp (show((match bT x ns with|some .local=>true|some .cell=>true|_=>false)&&n9 ns l)=true from h)) λh1 h2=>?_
  rcases List.mem_cons.mp hy with rfl|hy
  ·rw[←cg]
   refine VJ h1 ?_ ?_
   ·clear h1;intro _
    rename_i q;exact .inl q
   ·clear h1;intro _
    rename_i q;exact .inr q
  ·exact ih h2 y hy
noncomputable def n7(ns:List (Str×NameKind)):List Str->Bool
 |[]=>true
 |x::l=>(match bT x ns with|some .cell=>true|_=>false)&&n7 ns l
set_option tactic.hygienic true in
theorem wR{ns:List (Str×NameKind)}:∀{l:List Str},n7 ns l=true->∀x∈l,ns.lookup x=some .cell:=by
 intro l_
 induction l_ with
 |nil=>
  exact λζ ζ h=>nomatch h
 |cons x l ih=>
  intro h y hy
  refine ae (Bool.and_eq_true_iff.mp (show((match bT x ns with|some .cell=>true|_=>false)&&n7 ns l)=true from h)) λh1 h2=>?_
  rcases List.mem_cons.mp hy with rfl|hy
  ·rw[←cg]
   refine Wy h1 ?_;clear h1;intro _
   rename_i q;exact q
  ·exact ih h2 y hy
noncomputable def OJ(K:Frag)(f:nZ):Bool:=codeIn K (.ref f.code) f.qual&&(n9 f.scope.names f.ps&&Cu f.ps&&Cu (ax f.scope.names [])&&n7 f.scope.names (ax f.scope.names [])&&!f.scope.isCoroutine&&!f.scope.isGenerator&&(match f.scope.kind with|.function=>true|_=>false))
def HB(K:Frag)(g:FuncData)(me:List V)(ps:List Str):Prop:=∀(s:Shared) (vs:List Value) (us:List V) (b:ah) (ν:List Addr) (I:Led),K.In s.heap->ag K ν I vs us->eU me ps us=some b->
   ∃binds:List (Str×Value),BindsTo s g ⟨vs,[]⟩ binds/\binds.map (·.1)=b.map (·.1)/\ag K ν I (binds.map (·.2)) (b.map (·.2))
theorem Hk{K:Frag}{a:Addr}{f:nZ}{oc:Value}{od:Option Addr}{os:Array (Option Value)}{name:Str}{args:Arguments}{df kd doc m ct:Value}{an:Option Addr}(h:K.lookup a=some ⟨oc,od,.func (fnX name f.qual args f.body f.scope [] df kd doc m an (.ref f.code) ct),os⟩)
  (hb:HB K (fnX name f.qual args f.body f.scope [] df kd doc m an (.ref f.code) ct) f.me f.ps) (hc:OJ K f=true):Ad K a f:=by
 unfold OJ at hc
 simp only[Bool.and_eq_true,Bool.not_eq_true'] at hc
 obtain⟨c0,⟨⟨⟨⟨⟨⟨c1,c2⟩,c3⟩,c4⟩,c5⟩,c6⟩,c7⟩⟩:=hc
 refine⟨⟨_,_,_,_,_,_,_,_,_,_,_,_,_,h,c0,rfl,rfl,hb⟩,wM c1,kc c2,kc c3,wR c4,c5,c6,?_⟩
 refine HR c7 ?_;clear c7;intro _
 assumption
theorem ue:∀{ps:List Str} {us:List V} {b:ah},eU [] ps us=some b->us.length=ps.length/\b=ps.zip us
 |[],[],_,h=>by obtain rfl:=ai h;exact⟨rfl,rfl⟩
 |_::_,[],_,h=>by exact no h
 |[],_::_,_,h=>by exact no h
 |p::ps,v::us,b,h=>by
  refine ab (Option.map_eq_some_iff.mp (show(eU [] ps us).map ((p,v):: ·)=some b from h)) λb' hb aU=>?_;subst aU
  refine ae (ue hb) λh1 h2=>?_
  exact⟨congrArg (· +1) h1,by rw[h2];rfl⟩
theorem rP{w:V}:∀{ps:List Str} {us:List V} {b:ah},eU [w] ps us=some b->∃e,(e=[]∨e=[w])/\(us++e).length=ps.length/\b=ps.zip (us++e)
 |[],[],_,h=>by obtain rfl:=ai h;exact⟨[],.inl rfl,rfl,rfl⟩
 |[p],[],_,h=>by obtain rfl:=ai h;exact⟨[w],.inr rfl,rfl,rfl⟩
 |_::_::_,[],_,h=>by exact no h
 |[],_::_,_,h=>by exact no h
 |p::ps,v::us,b,h=>by
  refine ab (Option.map_eq_some_iff.mp (show(eU [w] ps us).map ((p,v):: ·)=some b from h)) λb' hb aU=>?_;subst aU
  refine bH (rP hb) λe h0 h1 h2=>?_
  exact⟨e,h0,congrArg (· +1) h1,by rw[h2];rfl⟩
section
variable{K:Frag}{g:FuncData}{ps:List Str}{x:Value}{w:V}
theorem j3{α β:Type}{l:List α}{r:List β}(h:r.length=l.length):(l.zip r).map (·.1)=l:=List.map_fst_zip (Nat.le_of_eq h.symm)
theorem j6{α β:Type}{l:List α}{r:List β}(h:r.length=l.length):(l.zip r).map (·.2)=r:=List.map_snd_zip (Nat.le_of_eq h)
theorem acC(h:∀vs:List Value,vs.length=ps.length->bindArgs g ⟨vs,[]⟩=pure (ps.zip vs)):HB K g [] ps:=λs vs us b ν I X rs hb=>by
 refine ae (ue hb) λh1 aU=>?_;subst aU
 have h2:=(Rep.length rs).trans h1
 refine⟨_,BindsTo.of_eq (h vs h2),(j3 h2).trans (j3 h1).symm,?_⟩
 rw[j6 h2,j6 h1]
 exact rs
def Dfl(g:FuncData)(ps:List Str)(x:Value)(vs e:List Value):Prop:=∃k:Option (Array Value)->Sem (List (Str×Value)),bindArgs g ⟨vs,[]⟩=seqItems? g.defaults>>=k/\k (some #[x])=pure (ps.zip (vs++e))
theorem abQ{T:Addr}{o:Obj}{k:Nat}(hw:∀ν I,Rep K ν I x w)(hd:g.defaults=.ref T)(ho:K.lookup T=some o)(hs:o.data=.seq #[x] k)
  (h2:∀vs:List Value,vs.length=ps.length->Dfl g ps x vs []) (h1:∀vs:List Value,vs.length+1=ps.length->Dfl g ps x vs [x]):HB K g [w] ps:=λs vs us b ν I X rs hb=>by
 refine bH (rP hb) λe h0 h3 aU=>?_;subst aU
 have hl:=Rep.length rs
 rcases h0 with rfl|rfl
 ·rw[List.append_nil] at h3
  have h4:=hl.trans h3
  refine ab (h2 vs h4) λkk a1 a2=>?_
  refine⟨_,binds_K X hd ho hs a1 a2,?_,?_⟩
  ·rw[List.append_nil,List.append_nil,j3 h4,j3 h3]
  ·rw[List.append_nil,List.append_nil,j6 h4,j6 h3];exact rs
 ·have h4:(vs++[x]).length=ps.length:=by rw[←h3,List.length_append,List.length_append,hl];rfl
  obtain⟨kk,a1,a2⟩:=h1 vs (by rw[List.length_append] at h4;exact h4)
  refine⟨_,binds_K X hd ho hs a1 a2,(j3 h4).trans (j3 h3).symm,?_⟩
  rw[j6 h4,j6 h3]
  exact ag.append rs (.cons (hw _ _) .nil)
end
theorem lG{f:Str->Option Value}{ps:List Str}:∀{vs:List Value},ps.Nodup->vs.length=ps.length->(∀n∈ps,f n=(ps.zip vs).lookup n)->(ps.filterMap λn=>(f n).map (n,·))=ps.zip vs/\(ps.filter λn=>(f n).isNone)=[]:=by
 induction ps with
 |nil=>exact λζ ζ ζ=>⟨rfl,rfl⟩
 |cons p ps ih=>
  intro vs nd hl hf
  induction vs using List.casesOn with
  |nil=>cases hl
  |cons v vs=>
   refine ae (List.nodup_cons.mp nd) λhn nd=>?_
   refine ae (ih nd (Nat.succ.inj hl) λn hm=>?_) λh1 h2=>?_
   ·rw[hf n (.tail _ hm),List.zip_cons_cons,List.lookup_cons,show(n==p)=false from beq_eq_false_iff_ne.mpr λe=>hn (e▸hm)]
   have e0:f p=some v:=by rw[hf p (.head _),List.zip_cons_cons,List.lookup_cons,beq_self_eq_true]
   exact⟨by rw[List.filterMap_cons,e0,h1];rfl,by rw[List.filter_cons,e0,h2];rfl⟩
theorem w4{fd:FuncData}{as:List Arg}{dl:List Expr}(hp:fd.params=⟨[],as,none,[],[],none,dl⟩)(hd:fd.defaults=.none)(nd:(as.map Arg.arg).Nodup){vs:List Value}(hl:vs.length=(as.map Arg.arg).length):
  bindArgs fd ⟨vs,[]⟩=pure ((as.map Arg.arg).zip vs):=by
 refine ae (lG nd hl λζ ζ=>rfl) λh1 h2=>?_
 obtain⟨_,_,_,_,_,_,_,_⟩:=fd
 subst hp hd
 refine(if_neg (c:=(decide (vs.length>(as.map Arg.arg).length)&&true)=true) (by simp[hl])).trans ?_
 refine(if_neg (c:=(!(List.filter (λn=>((List.zip (as.map Arg.arg) vs).lookup n).isNone) ((as.map Arg.arg).take ((as.map Arg.arg).length-(List.drop (0-(as.map Arg.arg).length) ([]:List Value)).length))).isEmpty)=true) ?_).trans ?_
 ·rw[List.drop_nil]
  exact λh=>by rw[show(as.map Arg.arg).take ((as.map Arg.arg).length-([]:List Value).length)=as.map Arg.arg from List.take_length,h2] at h;exact nf h
 refine(congrArg (λl=>bind (m:=Sem) (forIn (m:=Sem) l _ _) _) (show((as.map Arg.arg).drop _).zip (List.drop (0-(as.map Arg.arg).length) ([]:List Value))=[] by rw[List.drop_nil,List.zip_nil_right])).trans ?_
 exact(congrArg (λl=>(pure (List.filterMap _ l):Sem (List (Str×Value)))) (List.append_nil (as.map Arg.arg))).trans (congrArg pure h1)
theorem qt{p:Str}{qs:List Str}(hp:p∉qs)(vs:List Value):(qs.zip vs).lookup p=none:=by
 rw[List.lookup_eq_none_iff]
 exact λz hz=>bne_iff_ne.mpr λe=>hp (e▸(List.of_mem_zip (a:=z.1) (b:=z.2) hz).1)
theorem Gx{qs:List Str}{p:Str}{x:Value}{vs e:List Value}(nd:(qs++[p]).Nodup)(he:e=[]∨e=[x])(hl:(vs++e).length=(qs++[p]).length):
  (qs++[p]).zip (vs++e)=(if(((qs++[p]).zip vs).lookup p).isNone=true then(qs++[p]).zip vs++[(p,x)] else(qs++[p]).zip vs)/\List.filter (λn=>(((qs++[p]).zip vs).lookup n).isNone) qs=[]:=by
 have np:p∉qs:=λhm=>(List.nodup_append.mp nd).2.2 p hm p (.head _) rfl
 rcases he with e1|e1
 ·subst e1
  rw[List.append_nil] at hl ⊢
  have f:=(lG nd hl λζ ζ=>rfl).2
  rw[List.filter_append,List.append_eq_nil_iff] at f
  refine⟨?_,f.1⟩
  rw[if_neg λh=>?_]
  have:=f.2
  rw[List.filter_cons,if_pos h] at this
  cases this
 ·subst e1
  rw[List.length_append,List.length_append] at hl
  have hl:=Nat.succ.inj hl
  have z:(qs++[p]).zip vs=qs.zip vs:=by
   have:=List.zip_append (r₁:=[p]) (r₂:=[]) hl.symm
   rw[List.append_nil] at this
   exact this.trans (List.append_nil _)
  rw[z,if_pos (by rw[qt np];rfl),List.zip_append hl.symm]
  exact⟨rfl,(lG (List.nodup_append.mp nd).1 hl λζ ζ=>rfl).2⟩
theorem Bd{fd:FuncData}{as:List Arg}{a:Arg}{x:Value}{dl:List Expr}(hp:fd.params=⟨[],as++[a],none,[],[],none,dl⟩)(nd:((as++[a]).map Arg.arg).Nodup){vs e:List Value}(he:e=[]∨e=[x])(hl:(vs++e).length=((as++[a]).map Arg.arg).length):
  Dfl fd ((as++[a]).map Arg.arg) x vs e:=by
 have hq:(as++[a]).map Arg.arg=as.map Arg.arg++[a.arg]:=List.map_append
 have hle:vs.length<=((as++[a]).map Arg.arg).length:=by rw[←hl,List.length_append];exact Nat.le_add_right _ _
 have hn:((as++[a]).map Arg.arg).length=(as.map Arg.arg).length+1:=by rw[hq];exact List.length_append
 have h1:List.drop (1-((as++[a]).map Arg.arg).length) [x]=[x]:=by rw[hn,Nat.sub_eq_zero_of_le (Nat.le_add_left 1 _)];rfl
 have h2:((as++[a]).map Arg.arg).length-(List.drop (1-((as++[a]).map Arg.arg).length) [x]).length=(as.map Arg.arg).length:=by rw[h1,hn];rfl
 have key:=Gx (hq▸nd) he (hq▸hl)
 rw[←hq] at key
 obtain⟨_,_,_,_,_,_,_,_⟩:=fd
 subst hp
 refine⟨_,by rfl,(if_neg (c:=(decide (vs.length>((as++[a]).map Arg.arg).length)&&true)=true) (by simpa using hle)).trans ?_⟩
 refine(if_neg (c:=(!(List.filter (λn=>((List.zip ((as++[a]).map Arg.arg) vs).lookup n).isNone) (((as++[a]).map Arg.arg).take (((as++[a]).map Arg.arg).length-(List.drop (1-((as++[a]).map Arg.arg).length) [x]).length))).isEmpty)=true) ?_).trans ?_
 ·rw[h2,hq,List.take_left,←hq,key.2]
  decide
 have hz:(((as++[a]).map Arg.arg).drop (((as++[a]).map Arg.arg).length-(List.drop (1-((as++[a]).map Arg.arg).length) [x]).length)).zip (List.drop (1-((as++[a]).map Arg.arg).length) [x])=[(a.arg,x)]:=by rw[h2,h1,hq,List.drop_left];rfl
 refine(congrArg (λl=>bind (m:=Sem) (forIn (m:=Sem) l _ _) _) hz).trans ?_
 refine Eq.trans ?_ (congrArg pure (lG nd hl λζ ζ=>rfl).1)
 rw[key.1]
 clear key hz h1 h2 hn hle hl he nd
 refine Eq.trans (b:=bind (m:=Sem) (bind (m:=Sem) (if(List.lookup a.arg (((as++[a]).map Arg.arg).zip vs)).isNone=true then _ else _) _) _) rfl ?_
 cases(List.lookup a.arg (((as++[a]).map Arg.arg).zip vs)).isNone with
 |true=>exact congrArg (λl=>(pure (List.filterMap _ l):Sem (List (Str×Value)))) (List.append_nil _)
 |false=>exact congrArg (λl=>(pure (List.filterMap _ l):Sem (List (Str×Value)))) (List.append_nil _)
noncomputable def u4:Option Obj->FuncData
 |some ⟨_,_,.func d,_⟩=>d
 |_=>default
noncomputable def Xc(K:Frag)(p:Addr×nZ):Option Obj:=match K.lookup p.1 with
 |none=>none
 |some ⟨c,e,y,s⟩=>some ⟨c,e,.func (fnX (u4 (some ⟨c,e,y,s⟩)).name p.2.qual ⟨[],(u4 (some ⟨c,e,y,s⟩)).params.args,none,[],[],none,(u4 (some ⟨c,e,y,s⟩)).params.defaults⟩ p.2.body p.2.scope [] (u4 (some ⟨c,e,y,s⟩)).defaults .none (u4 (some ⟨c,e,y,s⟩)).doc (u4 (some ⟨c,e,y,s⟩)).pyModule (u4 (some ⟨c,e,y,s⟩)).annotations (.ref p.2.code) (u4 (some ⟨c,e,y,s⟩)).closureTuple),s⟩
noncomputable def Q5(K:Frag)(p:Addr×nZ):List Str×Value×Option Data:=let d:=u4 (K.lookup p.1)
 (d.params.args.map Arg.arg,d.defaults,match d.defaults with|.ref T=>(K.lookup T).map Obj.data|_=>none)
noncomputable def PG:List V->Value
 |[.bool b]=>.bool b
 |_=>.none
noncomputable def okW:List V->Bool
 |[.bool _]=>true
 |[.none]=>true
 |_=>false
noncomputable def fnS(K:Frag)(w:List V->Bool):List (Addr×nZ)->Bool
 |[]=>true
 |p::l=>(K.lookup p.1).isSome&&w p.2.me&&OJ K p.2&&fnS K w l
theorem CO{K:Frag}{w:List V->Bool}{l:List (Addr×nZ)}(h:fnS K w l=true):∀p∈l,(K.lookup p.1).isSome=true/\w p.2.me=true/\OJ K p.2=true:=by
 induction l with
 |nil=>exact λζ h=>nomatch h
 |cons p l ih=>
  refine aJ h λh h3=>?_
  refine aJ h λh h2=>?_
  refine aJ h λh h1=>?_
  exact List.forall_mem_cons.mpr ⟨⟨h,h1,h2⟩,ih h3⟩
theorem JK{K:Frag}{p:Addr×nZ}(h:K.lookup p.1=Xc K p)(hs:(K.lookup p.1).isSome=true)(hb:OJ K p.2=true)(hB:∀d:FuncData,d.params=⟨[],(u4 (K.lookup p.1)).params.args,none,[],[],none,(u4 (K.lookup p.1)).params.defaults⟩->d.defaults=(u4 (K.lookup p.1)).defaults->p.2.ps.Nodup->HB K d p.2.me p.2.ps):Ad K p.1 p.2:=by
 unfold Xc at h
 generalize e:K.lookup p.1=o at*
 induction o with
 |none=>exact nf hs
 |some o=>
  induction o using Obj.casesOn with
  |_ c y sl di=>exact Hk (e.trans h) (hB _ rfl rfl (kc (aJ (aJ (aJ (aJ (aJ (aJ (aJ hb λζ h=>h) λh ζ=>h) λh ζ=>h) λh ζ=>h) λh ζ=>h) λh ζ=>h) λζ h=>h))) hb
theorem DO{K:Frag}{p:Addr×nZ}(h:K.lookup p.1=Xc K p)(hc:Q5 K p=(p.2.ps,.none,none))(hs:(K.lookup p.1).isSome=true/\p.2.me.isEmpty=true/\OJ K p.2=true):Ad K p.1 p.2:=
 JK h hs.1 hs.2.2 λd hp hd nd=>by
  have e1:(u4 (K.lookup p.1)).params.args.map Arg.arg=p.2.ps:=congrArg Prod.fst hc
  have e2:(u4 (K.lookup p.1)).defaults=.none:=congrArg (·.2.1) hc
  rw[List.isEmpty_iff.mp hs.2.1,←e1]
  exact acC λvs hl=>w4 hp (hd.trans e2) (e1▸nd) hl
theorem Pu{K:Frag}{l:List V}(h:okW l=true):∃w,l=[w]/\∀ν I,Rep K ν I (PG l) w:=by
 induction l using List.casesOn with
 |nil=>exact nf h
 |cons w l=>
  induction l using List.casesOn with
  |nil=>induction w using V.casesOn<;>first|exact nf h|exact⟨_,rfl,λζ ζ=>.none⟩|exact⟨_,rfl,λζ ζ=>.bool _⟩
  |cons=>induction w using V.casesOn<;>exact nf h
theorem H5{K:Frag}{p:Addr×nZ}(h:K.lookup p.1=Xc K p)(hc:((Q5 K p).1,(Q5 K p).2.2)=(p.2.ps,some (.seq #[PG p.2.me] 0)))(hs:(K.lookup p.1).isSome=true/\okW p.2.me=true/\OJ K p.2=true)(Eb:p.2.ps≠[]):Ad K p.1 p.2:=
 JK h hs.1 hs.2.2 λd hp hd nd=>by
  have e1:(u4 (K.lookup p.1)).params.args.map Arg.arg=p.2.ps:=congrArg Prod.fst hc
  have e3:(match(u4 (K.lookup p.1)).defaults with|.ref T=>(K.lookup T).map Obj.data|_=>none)=some (.seq #[PG p.2.me] 0):=congrArg Prod.snd hc
  refine Mn e3 ?_;clear e3;intro T e2 e3
  refine ab (Option.map_eq_some_iff.mp e3) λo h1 h2=>?_
  refine ab (Pu (K:=K) hs.2.1) λw hw r=>?_
  rcases List.eq_nil_or_concat (u4 (K.lookup p.1)).params.args with q|⟨as,a,q⟩
  ·rw[q] at e1
   exact absurd e1.symm Eb
  rw[List.concat_eq_append] at q
  rw[q] at e1 hp
  have z:∀vs e:List Value,e=[]∨e=[PG p.2.me]->(vs++e).length=p.2.ps.length->Dfl d p.2.ps (PG p.2.me) vs e:=λvs e he hl=>by
   rw[←e1] at hl nd ⊢
   exact Bd hp nd he hl
  generalize PG p.2.me=x at*
  rw[hw]
  exact abQ r (hd.trans e2) h1 h2 (λvs hl=>z vs [] (.inl rfl) (by rw[List.append_nil];exact hl)) (λvs hl=>z vs [x] (.inr rfl) (by rw[List.length_append];exact hl))
end
section
noncomputable abbrev PW:Program:=PySem.Challenge.pw_xm0203_01
noncomputable def Rf(P:Params):Array DictEntry:=match(Co P).data with
 |.dict es _=>es
 |_=> #[]
noncomputable def IB(x:Str):List DictEntry->Option Value
 |[]=>none
 |e::l=>match e.key with
  |.str y _=>match du y x with
   |true=>some e.val
   |false=>IB x l
  |_=>IB x l
theorem DD(x:Str):∀l:List DictEntry,(l.find? λe=>e.key.isStr x).map (·.val)=IB x l:=by
 intro l_
 induction l_ with
 |nil=>
  exact rfl
 |cons p_ l ih=>
  obtain⟨h,k,v⟩:=p_
  have ih:=ih
  rw[List.find?_cons]
  show _=(match k with|.str y _=>(match du y x with|true=>some v|false=>IB x l)|_=>IB x l)
  induction k using Value.casesOn with
  |str y t=>
   have e:(Value.str y t).isStr x=du y x:=iQ y x
   dsimp only
   rw[e]
   cases du y x
   ·exact ih
   ·rfl
  |_=>exact ih
theorem bl(es:Array DictEntry)(x:Str):nsFind es x=IB x es.toList:=by
 rw[←DD]
 obtain⟨l⟩:=es
 simp[nsFind,findBy]
theorem uU{α:Type}{P:α->Prop}:∀p∈([]:List α),P p:=λζ h=>nomatch h
theorem bQ{α:Type}{P:α->Prop}{a:α}{l:List α}(h:P a)(hs:∀p∈l,P p):∀p∈a::l,P p:=λp hp=>by
 rcases List.mem_cons.mp hp with rfl|hp
 ·exact h
 ·exact hs p hp
noncomputable def aby(o:Option Value)(b:Addr):Is (o=some (.ref b)):=match o with
 |none=>.no
 |some u=>match u with
  |.ref a=>(cN a b).map λh=>congrArg (λx=>some (Value.ref x)) h
  |_=>.no
noncomputable def adz(es:List DictEntry)(x:Str)(v:V):Is (∃b,v=.glob (.ref b)/\IB x es=some (.ref b)):=match v with
 |.glob w=>match w with
  |.ref b=>(aby (IB x es) b).map λh=>⟨b,rfl,h⟩
  |_=>.no
 |_=>.no
noncomputable def Ki(es:List DictEntry):(l:List (Str×V))->Is (∀p∈l,∃b,p.2=.glob (.ref b)/\IB p.1 es=some (.ref b))
 |[]=>⟨true,λζ=>uU⟩
 |p::l=>((adz es p.1 p.2).two (Ki es l)).map λh=>bQ h.1 h.2
noncomputable def Gw(w:World)(mg mb:Str->Option Value)(fU:Nat->List V->List Ob->aM V):Gc:=⟨KF w.params,PW,w,mg,mb,jH fU⟩
section
variable{w:World}{mg mb:Str->Option Value}{fU:Nat->List V->List Ob->aM V}(fX:∀x,mg x=nsFind (Rf w.params) x)(mX:∀x:Str,x≠ "__name__" ->mb x=bootBuiltins x)
def dQ(w:World)(mg mb:Str->Option Value)(x:Str)(v:V):Prop:=∃u,(mg x=some u∨(mg x=none/\mb x=some u))/\∀ν I,Rep (KF w.params) ν I u v
include fX
open Value in
theorem acK:dQ w mg mb FF (.tup [(.str kx),(.str gA)]):=⟨(ref 922),.inl (by rw[fX,bl];kernel_rfl),λζ ζ=>.tup (a:=922) (xs:=[(str kx 1628),(str gA 1629)]) (n:=0) (.inr (by kernel_rfl)) (.cons (.str _ _) (.cons (.str _ _) (.nil)))⟩
open Value in
theorem acp:dQ w mg mb s21 (.glob (.ref 27)):=⟨(ref 27),.inl (by rw[fX,bl];kernel_rfl),λζ ζ=>.glob _⟩
open Value in
theorem aaP:dQ w mg mb B7 (.glob (.ref 1413)):=⟨(ref 1413),.inl (by rw[fX,bl];kernel_rfl),λζ ζ=>.glob _⟩
open Value in
theorem abr:dQ w mg mb s20 (.tup [(.str s50)]):=⟨(ref 26),.inl (by rw[fX,bl];kernel_rfl),λζ ζ=>.tup (a:=26) (xs:=[(str s50 206)]) (n:=0) (.inr (by kernel_rfl)) (.cons (.str _ _) (.nil))⟩
open Value in
theorem acN:dQ w mg mb Z9 (.tup [(.str p8)]):=⟨(ref 23),.inl (by rw[fX,bl];kernel_rfl),λζ ζ=>.tup (a:=23) (xs:=[(str p8 198)]) (n:=0) (.inr (by kernel_rfl)) (.cons (.str _ _) (.nil))⟩
open Value in
theorem adD:dQ w mg mb B5 (.tup [(.str AS),(.tup []),(.tup []),(.bool false)]):=⟨(ref 1176),.inl (by rw[fX,bl];kernel_rfl),λζ ζ=>.tup (a:=1176) (xs:=[(str AS 2050),(ref 1174),(ref 1175),(.bool false)]) (n:=0) (.inr (by kernel_rfl)) (.cons (.str _ _) (.cons (.tup (a:=1174) (xs:=[]) (n:=0) (.inr (by kernel_rfl)) (.nil)) (.cons (.tup (a:=1175) (xs:=[]) (n:=0) (.inr (by kernel_rfl)) (.nil)) (.cons (.bool _) (.nil)))))⟩
open Value in
theorem adh:dQ w mg mb Fg (.tup [(.str kx),(.str gA),(.str ll),(.str Fi),(.str As)]):=⟨(ref 1243),.inl (by rw[fX,bl];kernel_rfl),λζ ζ=>.tup (a:=1243) (xs:=[(str kx 2183),(str gA 2184),(str ll 2185),(str Fi 2186),(str As 2187)]) (n:=0) (.inr (by kernel_rfl)) (.cons (.str _ _) (.cons (.str _ _) (.cons (.str _ _) (.cons (.str _ _) (.cons (.str _ _) (.nil))))))⟩
open Value in
theorem acV:dQ w mg mb Cr (.tup [(.str nr),(.str p8)]):=⟨(ref 1522),.inl (by rw[fX,bl];kernel_rfl),λζ ζ=>.tup (a:=1522) (xs:=[(str nr 2629),(str p8 2630)]) (n:=0) (.inr (by kernel_rfl)) (.cons (.str _ _) (.cons (.str _ _) (.nil)))⟩
open Value in
theorem abc:dQ w mg mb FU (.tup [(.str IP),(.str Iu),(.str Fs),(.str FA),(.str Ik),(.str v7),(.str GD),(.str Gq),(.str F8),(.str Ci),(.str E3),(.str G5)]):=⟨(ref 1242),.inl (by rw[fX,bl];kernel_rfl),λζ ζ=>.tup (a:=1242) (xs:=[(str IP 2170),(str Iu 2171),(str Fs 2172),(str FA 2173),(str Ik 2174),(str v7 2175),(str GD 2176),(str Gq 2177),(str F8 2178),(str Ci 2179),(str E3 2180),(str G5 2181)]) (n:=0) (.inr (by kernel_rfl)) (.cons (.str _ _) (.cons (.str _ _) (.cons (.str _ _) (.cons (.str _ _) (.cons (.str _ _) (.cons (.str _ _) (.cons (.str _ _) (.cons (.str _ _) (.cons (.str _ _) (.cons (.str _ _) (.cons (.str _ _) (.cons (.str _ _) (.nil)))))))))))))⟩
include mX
theorem gb0:dQ w mg mb gA (.glob (.type "range")):=⟨(.type "range"),.inr ⟨by rw[fX,bl];kernel_rfl,by rw[mX _ (λe=>by have h:=aH.mpr e;rw[show du gA "__name__" =false from by kernel_rfl] at h;exact nf h)];kernel_rfl⟩,λζ ζ=>.glob _⟩
theorem gb1:dQ w mg mb (S 0x7a6970) (.glob (.type "zip")):=⟨(.type "zip"),.inr ⟨by rw[fX,bl];kernel_rfl,by rw[mX _ (λe=>by have h:=aH.mpr e;rw[show du (S 0x7a6970) "__name__" =false from by kernel_rfl] at h;exact nf h)];kernel_rfl⟩,λζ ζ=>.glob _⟩
theorem gb2:dQ w mg mb jq (.glob (.type "int")):=⟨(.type "int"),.inr ⟨by rw[fX,bl];kernel_rfl,by rw[mX _ (λe=>by have h:=aH.mpr e;rw[show du jq "__name__" =false from by kernel_rfl] at h;exact nf h)];kernel_rfl⟩,λζ ζ=>.glob _⟩
theorem gb3:dQ w mg mb (S 0x6c656e) (.glob (.builtin "len")):=⟨(.builtin "len"),.inr ⟨by rw[fX,bl];kernel_rfl,by rw[mX _ (λe=>by have h:=aH.mpr e;rw[show du (S 0x6c656e) "__name__" =false from by kernel_rfl] at h;exact nf h)];kernel_rfl⟩,λζ ζ=>.glob _⟩
theorem gb4:dQ w mg mb (S 0x7475706c65) (.glob (.type "tuple")):=⟨(.type "tuple"),.inr ⟨by rw[fX,bl];kernel_rfl,by rw[mX _ (λe=>by have h:=aH.mpr e;rw[show du (S 0x7475706c65) "__name__" =false from by kernel_rfl] at h;exact nf h)];kernel_rfl⟩,λζ ζ=>.glob _⟩
theorem gb5:dQ w mg mb (S 0x6c697374) (.glob (.type "list")):=⟨(.type "list"),.inr ⟨by rw[fX,bl];kernel_rfl,by rw[mX _ (λe=>by have h:=aH.mpr e;rw[show du (S 0x6c697374) "__name__" =false from by kernel_rfl] at h;exact nf h)];kernel_rfl⟩,λζ ζ=>.glob _⟩
theorem BQ:∀p∈globT,dQ w mg mb p.1 p.2:=by
 intro p hp
 rw[←List.take_append_drop 48 globT] at hp
 rcases List.mem_append.mp hp with hp|hp
 ·refine ab ((Ki (Rf w.params).toList (globT.take 48)).ok (by kernel_rfl) p hp) λb h1 h2=>?_
  exact⟨.ref b,.inl (by rw[fX,bl];exact h2),λζ ζ=>by rw[h1];exact .glob _⟩
 ·exact(bQ (P:=λp:Str×V=>dQ w mg mb p.1 p.2) (acK fX) (bQ (acp fX) (bQ (aaP fX) (bQ (abr fX) (bQ (acN fX) (bQ (adD fX) (bQ (adh fX) (bQ (acV fX) (bQ (abc fX) (bQ (gb0 fX mX) (bQ (gb1 fX mX) (bQ (gb2 fX mX) (bQ (gb3 fX mX) (bQ (gb4 fX mX) (bQ (gb5 fX mX) uU))))))))))))))) p hp
end
section
variable(P:Params)
noncomputable def vt(K:Frag)(C:Addr)(x:Str):Bool:=plainGet K C x&&hasDictIn K C&&(findIn K (.ref C) x==some none)&&(findIn K (.ref C) "__setattr__" ==some (some (.builtin "object.__setattr__")))&&plainOver K C&&(takerIn K C x==some none)
noncomputable def ow(K:Frag)(C:Addr):List (Str×Unit)->Bool
 |[]=>true
 |(x,_)::l=>vt K C x&&ow K C l
noncomputable def sy(K:Frag):List (Addr×List (Str×Unit))->Bool
 |[]=>true
 |(C,l)::r=>ow K C l&&sy K r
theorem Af{K:Frag}{C:Addr}{x:Str}:∀{l:List (Str×Unit)},ow K C l=true->(bT x l).isSome=true->vt K C x=true:=by
 intro l_
 induction l_ with
 |nil=>
  exact λζ h=>nomatch h
 |cons p_ l ih=>
  obtain⟨y,_⟩:=p_
  intro h hx
  refine ae (Bool.and_eq_true_iff.mp (show(vt K C y&&ow K C l)=true from h)) λh1 h2=>?_
  rw[bU] at hx
  cases q:du y x with
  |true=>rw[←aH.mp q];exact h1
  |false=>rw[q] at hx;exact ih h2 hx
theorem zr{K:Frag}{C:Addr}{x:Str}:∀{l:List (Addr×List (Str×Unit))},sy K l=true->((jL C l).bind (bT x)).isSome=true->vt K C x=true:=by
 intro l_
 induction l_ with
 |nil=>
  intro _ hx
  exact nomatch hx
 |cons p_ l ih=>
  obtain⟨D,m⟩:=p_
  intro h hx
  refine ae (Bool.and_eq_true_iff.mp (show(ow K D m&&sy K l)=true from h)) λh1 h2=>?_
  rw[tN] at hx
  cases q:Nat.beq D C with
  |true=>rw[←Nat.eq_of_beq_eq_true q];rw[q] at hx;exact Af h1 hx
  |false=>rw[q] at hx;exact ih h2 hx
noncomputable def vm(K:Frag)(C:Addr)(x:Str)(f:Addr):Bool:=plainGet K C x&&(findIn K (.ref C) x==some (some (.ref f)))&&isFn K (.ref f)&&keepIn K (.ref f)
noncomputable def pG(K:Frag)(C:Addr):List (Str×Addr)->Bool
 |[]=>true
 |(x,f)::l=>vm K C x f&&pG K C l
noncomputable def sf(K:Frag):List (Addr×List (Str×Addr))->Bool
 |[]=>true
 |(C,l)::r=>pG K C l&&sf K r
theorem yU{K:Frag}{C:Addr}{x:Str}{f:Addr}:∀{l:List (Str×Addr)},pG K C l=true->bT x l=some f->vm K C x f=true:=by
 intro l_
 induction l_ with
 |nil=>
  exact λζ h=>nomatch h
 |cons p_ l ih=>
  obtain⟨y,g⟩:=p_
  intro h hx
  refine ae (Bool.and_eq_true_iff.mp (show(vm K C y g&&pG K C l)=true from h)) λh1 h2=>?_
  rw[bU] at hx
  cases q:du y x with
  |true=>rw[q] at hx;obtain rfl:=ai hx;rw[←aH.mp q];exact h1
  |false=>rw[q] at hx;exact ih h2 hx
theorem zj{K:Frag}{C:Addr}{x:Str}{f:Addr}:∀{l:List (Addr×List (Str×Addr))},sf K l=true->(jL C l).bind (bT x)=some f->vm K C x f=true:=by
 intro l_
 induction l_ with
 |nil=>
  intro _ hx
  exact nomatch hx
 |cons p_ l ih=>
  obtain⟨D,m⟩:=p_
  intro h hx
  refine ae (Bool.and_eq_true_iff.mp (show(pG K D m&&sf K l)=true from h)) λh1 h2=>?_
  rw[tN] at hx
  cases q:Nat.beq D C with
  |true=>rw[←Nat.eq_of_beq_eq_true q];rw[q] at hx;exact yU h1 hx
  |false=>rw[q] at hx;exact ih h2 hx
noncomputable def HG(K:Frag):List (Addr×Addr)->Bool
 |[]=>true
 |(C,f)::l=>(makesIn K C&&(findIn K (.ref C) "__init__" ==some (some (.ref f)))&&isFn K (.ref f)&&keepIn K (.ref C))&&HG K l
theorem Ho{K:Frag}{C f:Addr}:∀{l:List (Addr×Addr)},HG K l=true->jL C l=some f->makesIn K C=true/\findIn K (.ref C) "__init__" =some (some (.ref f))/\isFn K (.ref f)=true/\keepIn K (.ref C)=true:=by
 intro l_
 induction l_ with
 |nil=>
  intro _ hx
  exact no hx
 |cons p_ l ih=>
  obtain⟨D,g⟩:=p_
  intro h hx
  refine ae (Bool.and_eq_true_iff.mp (show((makesIn K D&&(findIn K (.ref D) "__init__" ==some (some (.ref g)))&&isFn K (.ref g)&&keepIn K (.ref D))&&HG K l)=true from h)) λh1 h2=>?_
  rw[tN] at hx
  refine pC hx ?_ ?_
  ·clear hx;intro q hx
   have q:=Nat.eq_of_beq_eq_true q
   obtain rfl:=ai hx
   subst q
   simp only[Bool.and_eq_true,beq_iff_eq] at h1
   exact⟨h1.1.1.1,h1.1.1.2,h1.1.2,h1.2⟩
  ·clear hx;intro _ hx
   exact ih h2 hx
theorem tv{α:Type}{x:Nat}{v:α}:∀{b:List (Nat×α)},jL x b=some v->(x,v)∈b:=by
 intro l_
 induction l_ with
 |nil=>
  exact λh=>no h
 |cons p_ b ih=>
  obtain⟨y,w⟩:=p_
  intro h
  rw[tN] at h
  refine pC h ?_ ?_
  ·clear h;intro q h
   obtain rfl:=ai h
   rw[Nat.eq_of_beq_eq_true q]
   exact .head _
  ·clear h;intro _ h
   exact .tail _ (ih h)
theorem DF:sy (KF P) VU=true:=by kernel_rfl
theorem CI:sf (KF P) JS=true:=by kernel_rfl
theorem HL:HG (KF P) MG=true:=by kernel_rfl
noncomputable def rA(K:Frag):List (Addr×nZ)->Bool
 |[]=>true
 |(a,_)::l=>keepIn K (.ref a)&&rA K l
theorem CN{K:Frag}{a:Addr}{f:nZ}:∀{l:List (Addr×nZ)},rA K l=true->(a,f)∈l->keepIn K (.ref a)=true:=by
 intro l_
 induction l_ with
 |nil=>
  exact λζ h=>nomatch h
 |cons p_ l ih=>
  obtain⟨b,g⟩:=p_
  intro h hx
  refine ae (Bool.and_eq_true_iff.mp (show(keepIn K (.ref b)&&rA K l)=true from h)) λh1 h2=>?_
  rcases List.mem_cons.mp hx with e|hx
  ·cases e;exact h1
  ·exact ih h2 hx
theorem Ck:rA (KF P) T7=true:=by kernel_rfl
theorem Qt:T7.map (λp=>(KF P).lookup p.1)=T7.map (Xc (KF P)):=by kernel_rfl
theorem TK:fnA.map (Q5 (KF P))=fnA.map (λp=>(p.2.ps,.none,none)):=by kernel_rfl
theorem WD:Pd.map (λp=>((Q5 (KF P) p).1,(Q5 (KF P) p).2.2))=Pd.map (λp=>(p.2.ps,some (.seq #[PG p.2.me] 0))):=by kernel_rfl
theorem YD:fnS (KF P) List.isEmpty fnA=true:=by kernel_rfl
theorem TG:fnS (KF P) okW Pd=true:=by kernel_rfl
theorem Xi:∀p∈Pd,p.2.ps≠[]:=λp hp e=>by
 have:=List.map_inj_left.mp (by kernel_rfl:Pd.map (λp=>p.2.ps.isEmpty)=Pd.map (λζ=>false)) p hp
 rw[e] at this
 cases this
theorem Qk:∀p∈T7,Ad (KF P) p.1 p.2:=
 have e:=List.map_inj_left.mp (Qt P)
 λp hp=>(List.mem_append.mp hp).elim (λh=>DO (e p hp) (List.map_inj_left.mp (TK P) p h) (CO (YD P) p h)) λh=>H5 (e p hp) (List.map_inj_left.mp (WD P) p h) (CO (TG P) p h) (Xi p h)
theorem xW(prog:Program)(w:World)(L:List (Str×Tok×Value))(n:Nat)(nd:(L.map (·.1)).Nodup):(ob (.type "dict") (.dict (li (L.map λx=>en w.params x.1 x.2.1 x.2.2)) n)).IsDictOf (PySem.strKind prog w) (L.map λx=>(x.1,x.2.2)):=by
 refine⟨_,n,⟨rfl,rfl,rfl⟩,rfl,λe he=>?_,?_,?_⟩
 ·have he:e∈L.map λx=>en w.params x.1 x.2.1 x.2.2:=by simpa [li] using he
  refine ab (List.mem_map.mp he) λx y1 fH=>?_;subst fH
  exact⟨x.1,strKind_is _ _ _ _,rfl⟩
 ·show Pairs _ (li (L.map λx=>en w.params x.1 x.2.1 x.2.2)).toList _
  have e:(li (L.map λx=>en w.params x.1 x.2.1 x.2.2)).toList=L.map λx=>en w.params x.1 x.2.1 x.2.2:=by simp[li]
  rw[e]
  clear nd e
  induction L with
  |nil=>exact .nil
  |cons x L ih=>exact .cons (strKind_is _ _ _ _) rfl ih
 ·rw[List.map_map]
  exact nd
end
section
open Value
noncomputable def AW:List (Str×Tok×Value):=[(oB,2440,(ref 1301)),(GP,2442,(ref 1308)),(F5,2444,(ref 1329)),(G4,2446,(ref 1341)),(Hj,2448,(ref 1346)),(IV,2450,(ref 1351)),(AH,2452,(ref 1358)),(Ht,2454,(ref 1363)),(FQ,2456,(ref 1370)),(GL,2458,(ref 1370)),(Fq,2460,(ref 1377)),(GA,2462,(ref 1384)),(Hu,2464,(ref 1384)),(Fx,2466,(ref 1412)),(sJ,2468,(ref 1405)),(Bo,2470,(ref 1398))]
theorem y'(w:World):∃o cX,(KF w.params).lookup 1413=some o/\o.IsDictOf (PySem.strKind PW w) cX/\∀ν I,bh (KF w.params) ν I cX [(oB,(.glob (.ref 1301))),(GP,(.glob (.ref 1308))),(F5,(.glob (.ref 1329))),(G4,(.glob (.ref 1341))),(Hj,(.glob (.ref 1346))),(IV,(.glob (.ref 1351))),(AH,(.glob (.ref 1358))),(Ht,(.glob (.ref 1363))),(FQ,(.glob (.ref 1370))),(GL,(.glob (.ref 1370))),(Fq,(.glob (.ref 1377))),(GA,(.glob (.ref 1384))),(Hu,(.glob (.ref 1384))),(Fx,(.glob (.ref 1412))),(sJ,(.glob (.ref 1405))),(Bo,(.glob (.ref 1398)))]:=⟨_,_,(by kernel_rfl:(KF w.params).lookup 1413=some (ob (.type "dict") (.dict (li (AW.map λx=>en w.params x.1 x.2.1 x.2.2)) 16))),xW PW w _ _ (kc (by kernel_rfl)),λζ ζ=>.cons (.glob _) (.cons (.glob _) (.cons (.glob _) (.cons (.glob _) (.cons (.glob _) (.cons (.glob _) (.cons (.glob _) (.cons (.glob _) (.cons (.glob _) (.cons (.glob _) (.cons (.glob _) (.cons (.glob _) (.cons (.glob _) (.cons (.glob _) (.cons (.glob _) (.cons (.glob _) (.nil))))))))))))))))⟩
noncomputable def ku:List (Str×Tok×Value):=[(p8,208,(ref 23)),(jq,209,(ref 24)),(Ql,210,(ref 25)),(A5,211,(ref 22))]
theorem kr(w:World):∃o cX,(KF w.params).lookup 27=some o/\o.IsDictOf (PySem.strKind PW w) cX/\∀ν I,bh (KF w.params) ν I cX [(p8,(.tup [(.str p8)])),(jq,(.tup [(.str jq),(.str jq)])),(Ql,(.tup [(.str jq),(.str Q9)])),(A5,(.tup [(.str A5)]))]:=⟨_,_,(by kernel_rfl:(KF w.params).lookup 27=some (ob (.type "dict") (.dict (li (ku.map λx=>en w.params x.1 x.2.1 x.2.2)) 4))),xW PW w _ _ (kc (by kernel_rfl)),λζ ζ=>.cons (.tup (a:=23) (xs:=[(str p8 198)]) (n:=0) (.inr (by kernel_rfl)) (.cons (.str _ _) (.nil))) (.cons (.tup (a:=24) (xs:=[(str jq 200),(str jq 201)]) (n:=0) (.inr (by kernel_rfl)) (.cons (.str _ _) (.cons (.str _ _) (.nil)))) (.cons (.tup (a:=25) (xs:=[(str jq 203),(str Q9 204)]) (n:=0) (.inr (by kernel_rfl)) (.cons (.str _ _) (.cons (.str _ _) (.nil)))) (.cons (.tup (a:=22) (xs:=[(str A5 196)]) (n:=0) (.inr (by kernel_rfl)) (.cons (.str _ _) (.nil))) (.nil))))⟩
end
section
open Value
variable(w:World)(mg mb:Str->Option Value)(fU:Nat->List V->List Ob->aM V)(fX:∀x,mg x=nsFind (Rf w.params) x)(mX:∀x:Str,x≠ "__name__" ->mb x=bootBuiltins x)
noncomputable def X1:List (Str×NameKind)->Bool
 |[]=>true
 |(_,k)::l=>(match k with|.cell=>false|_=>true)&&X1 l
theorem E2{l:List (Str×NameKind)}:X1 l=true->∀x∈l,x.2≠ .cell:=by
 induction l with
 |nil=>exact λζ ζ h=>nomatch h
 |cons p l ih=>
  obtain⟨y,k⟩:=p
  intro h x hx
  refine aJ h λh1 h2=>?_
  rcases List.mem_cons.mp hx with e1|hx
  ·rw[e1]
   rintro e
   rw[show k=.cell from e] at h1
   exact nf h1
  ·exact ih h2 x hx
noncomputable def P4(K:Frag)(C f:Addr):Bool:=keepIn K (.ref C)&&pb K C&&(findIn K (.ref C) "__init__" ==some (some (.ref f)))&&(typeIn K (.ref f)==some (.type "function"))&&(findIn K (.ref C) "__setattr__" ==some (some (.builtin "object.__setattr__")))&&lC K C&&hasDictIn K C&&(takerIn K C "message" ==some Option.none)&&(takerIn K C "spot" ==some Option.none)
theorem Ya:xX (KF w.params) 162:=⟨⟨{oc:=_,od:=_,os:=_,na:=j7,qu:=s82,ps:=a54,dV:=ref 155,kV:=.none,dc:=_,pm:=_,cd:=.ref 161,ct:=_,an:=_,sc:=a56,p1:=⟨112,8,112,17⟩,p2:=⟨112,8,112,26⟩,p3:=⟨112,27,112,31⟩,p4:=⟨112,33,112,40⟩,p5:=⟨112,8,112,41⟩,p6:=⟨112,8,112,41⟩,q1:=⟨113,8,113,12⟩,q2:=⟨113,8,113,20⟩,q3:=⟨113,23,113,30⟩,q4:=⟨113,8,113,30⟩,r1:=⟨114,8,114,12⟩,r2:=⟨114,8,114,17⟩,r3:=⟨114,20,114,24⟩,r4:=⟨114,8,114,24⟩,bo:=a55},
 {hb:=by kernel_rfl
  hp:=rfl
  ho:=(by kernel_rfl:(KF w.params).lookup 162=some (ob (.type "function") (.func (fd j7 s82 a54 a55 a56 3 (ref 155) .none (str s6 367) (.ref 161) 0))))
  mS:=by kernel_rfl
  yC:=λs x y z X=>binds_K (fd:=fd j7 s82 a54 a55 a56 3 (ref 155) .none (str s6 367) (.ref 161) 0) X rfl (by kernel_rfl:(KF w.params).lookup 155=some (o93 w.params)) (by kernel_rfl:_=Data.seq #[(int 0 381)] 0) rfl (by kernel_rfl)
  l1:=by kernel_rfl
  l2:=by kernel_rfl
  l3:=by kernel_rfl
  l4:=by kernel_rfl
  nc:=E2 (by kernel_rfl)
  co:=by kernel_rfl
  ge:=by kernel_rfl
  hk:=by kernel_rfl}⟩⟩
include fX mX in
theorem P6(C:Addr)(h:P4 (KF w.params) C 162=true):BO (Gw w mg mb fU) C 162:=by
 unfold P4 at h
 simp only[Bool.and_eq_true,beq_iff_eq] at h
 obtain⟨⟨⟨⟨⟨⟨⟨⟨h1,h2⟩,h3⟩,h4⟩,h5⟩,h6⟩,h7⟩,h8⟩,h9⟩:=h
 exact⟨h1,h2,h3,h4,h5,h6,h7,h8,h9,⟨by show mg _=Option.none;rw[fX,bl];kernel_rfl,by show mb _=_;rw[mX _ (by decide)];kernel_rfl⟩,Ya w⟩
include fX mX in
theorem xok:Ow (Gw w mg mb fU):=by
 intro C hC
 refine⟨162,P6 w mg mb fU fX mX C ?_⟩
 have h:Jh.all (λC=>P4 (KF w.params) C 162)=true:=by kernel_rfl
 rw[List.all_eq_true] at h
 refine ab (List.any_eq_true.mp hC) λD hD e=>?_
 rw[Nat.eq_of_beq_eq_true e]
 exact h D hD
include fX mX in
theorem gok:ko (Gw w mg mb fU) where
 glob:=λx v h=>BQ fX mX (x,v) (Iv h)
 attr:=λC x h=>by
  have:=zr (DF w.params) h
  unfold vt at this
  simp only[Bool.and_eq_true,beq_iff_eq] at this
  exact⟨this.1.1.1.1.1,this.1.1.1.1.2,this.1.1.1.2,this.1.1.2,this.1.2,this.2⟩
 Jm:=λC x f h=>by
  have:=zj (CI w.params) h
  unfold vm at this
  simp only[Bool.and_eq_true,beq_iff_eq] at this
  exact⟨this.1.1.1,this.1.1.2,this.1.2,this.2⟩
 D2:=λC f h=>Ho (HL w.params) h
 fn:=λa f h=>⟨Qk w.params (a,f) (tv h),CN (Ck w.params) (tv h)⟩
 gd:=λa l h=>by
  have h:=tv h
  change(a,l)∈gdT at h
  unfold gdT at h
  rcases List.mem_cons.mp h with e|h
  ·cases e;exact y' w
  ·rcases List.mem_cons.mp h with e|h
   ·cases e;exact kr w
   ·cases h
noncomputable def tQ(K:Frag):List (Addr×Addr)->Bool
 |[]=>true
 |(c,P)::l=>codeHdIn K c P&&tQ K l
theorem gV{K:Frag}{c P:Addr}:∀{l:List (Addr×Addr)},tQ K l=true->jL c l=some P->codeHdIn K c P=true:=by
 intro l_
 induction l_ with
 |nil=>
  intro _ hx
  exact no hx
 |cons p_ l ih=>
  obtain⟨d,Q⟩:=p_
  intro h hx
  refine ae (Bool.and_eq_true_iff.mp (show(codeHdIn K d Q&&tQ K l)=true from h)) λh1 h2=>?_
  rw[tN] at hx
  refine pC hx ?_ ?_
  ·clear hx;intro q hx
   obtain rfl:=ai hx
   rw[←Nat.eq_of_beq_eq_true q]
   exact h1
  ·clear hx;intro _ hx
   exact ih h2 hx
include fX in
theorem lok:PN (Gw w mg mb fU) where
 bm:=⟨4,boot_o_4 w.params,by show mg _=_;rw[fX,bl];kernel_rfl,by decide,by decide,by kernel_rfl,by kernel_rfl,by kernel_rfl,by kernel_rfl⟩
 codes:=λc P h hh X=>codeHd_of_K X (gV (by kernel_rfl:tQ (KF w.params) Pr=true) h)
include fX mX in
theorem goodG(fU:Nat->List V->List Ob->aM V):Good (Gw w mg mb fU):=⟨λo=>gok w mg mb o fX mX,λo=>lok w mg mb o fX,λo=>xok w mg mb o fX mX⟩
end
end
section
variable{G:Gc}
theorem aW.eQ{n:Nat}{f:Addr}{vs:List V}{qg:List Item}{H:List Ob}{q:Rs V}(h:∀a b,aB a b qg->∃o,(o=.list [.int a,.int b]∨ ∃jY,aB a b jY/\o=.av jY)/\aW G n f vs (o::H) q):aW G n f vs (.av qg::H) q:=by
 rintro c s m ν Mu I us R ok S rs post
 have K:=S.core
 have hl:0<Mu.length:=by rw[←S.len,S.aT];simp
 have hM:Mu[0]?=some Mu[0]:=List.getElem?_eq_getElem hl
 have r0:=S.ob 0 _ _ hM rfl
 generalize Jr:Mu[0]=ob0 at r0 hM
 cases r0 with
 | @av a b t u nn _ ht=>
  refine ab (h a b ht) λo ho e=>?_
  have key:az G ν I (bI [.int a t,.int b u] nn) o/\(o.fixed=false):=by
   rcases ho with rfl|⟨jY,bg,rfl⟩
   ·exact⟨.list (.cons (.int _ _) (.cons (.int _ _) .nil)),rfl⟩
   ·exact⟨.av bg,rfl⟩
  refine e c s m ν Mu I us R ok ⟨S.F,S.N,S.nd,λp hp i b' hi hb=>?_,S.len,by rw[S.aT];rfl,λi o' b' h1 h2=>?_,S.big,S.low⟩ rs post
  ·induction i using Nat.casesOn with
   |zero=>
    have:=S.eP p hp 0 _ hi rfl
    exact nf this
   |succ i=>exact S.eP p hp (i+1) b' hi hb
  ·induction i using Nat.casesOn with
   |zero=>
    obtain rfl:=ai h2
    rw[hM] at h1
    obtain rfl:=ai h1
    exact key.1
   |succ i=>exact S.ob (i+1) o' b' h1 h2
theorem oQ{a b:Int}{l:List Item}(h:aB a b l):OA (.list [.int a,.int b]) (.av l):=⟨λx=>(by exact nf x),λG ν I o r=>by
 refine cz r.ju λy1 y2 YP h'=>?_;subst YP
 cases h' with
 |cons r1 h'=>cases h' with
  |cons r2 h'=>
   cases h'
   (first|exact no r1|exact nf r1|subst r1|obtain rfl:=ai r1|cases r1);cases r2
   exact .av h⟩
noncomputable def tO(a b:Int)(k:Nat):Rs V:=.ok (.int (.ofNat (dI a b k).1)) [.list [.int (dI a b k).2.1,.int (dI a b k).2.2]]
section
variable(g:Good G)(n b:Nat)
include g
theorem Cc:aW G 60 bJ [.obj 0,.int (.ofNat 2)] [.list [.int (.ofNat (n+1)),.int (.ofNat b)]] (.ok (.int (Int.fmod (.ofNat (n+1)) (.ofNat 2))) [.list [.int (Int.fdiv (.ofNat (n+1)) (.ofNat 2)),.int (.ofNat b)]]):=bb g (bR G 0) 60 [0] [] (by kernel_rfl)
theorem CM:aW G 60 bJ [.obj 0,.int (.ofNat 2)] [.list [.int (.ofNat 0),.int (.ofNat b)]] (.ok (.int (Int.fmod (Int.fdiv (Int.fmod (.ofNat b*37799+6121) (.ofNat 2147483171)) (.ofNat 31)) (.ofNat 2))) [.list [.int (.ofNat 0),.int (Int.fmod (.ofNat b*37799+6121) (.ofNat 2147483171))]]):=bb g (bR G 0) 60 [0] [] (by kernel_rfl)
theorem CB:aW G 60 bJ [.obj 0,.int (.ofNat 3)] [.list [.int (.ofNat (n+1)),.int (.ofNat b)]] (.ok (.int (Int.fmod (.ofNat (n+1)) (.ofNat 3))) [.list [.int (Int.fdiv (.ofNat (n+1)) (.ofNat 3)),.int (.ofNat b)]]):=bb g (bR G 0) 60 [0] [] (by kernel_rfl)
theorem Bi:aW G 60 bJ [.obj 0,.int (.ofNat 3)] [.list [.int (.ofNat 0),.int (.ofNat b)]] (.ok (.int (Int.fmod (Int.fdiv (Int.fmod (.ofNat b*37799+6121) (.ofNat 2147483171)) (.ofNat 31)) (.ofNat 3))) [.list [.int (.ofNat 0),.int (Int.fmod (.ofNat b*37799+6121) (.ofNat 2147483171))]]):=bb g (bR G 0) 60 [0] [] (by kernel_rfl)
theorem CT:aW G 60 bJ [.obj 0,.int (.ofNat 4)] [.list [.int (.ofNat (n+1)),.int (.ofNat b)]] (.ok (.int (Int.fmod (.ofNat (n+1)) (.ofNat 4))) [.list [.int (Int.fdiv (.ofNat (n+1)) (.ofNat 4)),.int (.ofNat b)]]):=bb g (bR G 0) 60 [0] [] (by kernel_rfl)
theorem DN:aW G 60 bJ [.obj 0,.int (.ofNat 4)] [.list [.int (.ofNat 0),.int (.ofNat b)]] (.ok (.int (Int.fmod (Int.fdiv (Int.fmod (.ofNat b*37799+6121) (.ofNat 2147483171)) (.ofNat 31)) (.ofNat 4))) [.list [.int (.ofNat 0),.int (Int.fmod (.ofNat b*37799+6121) (.ofNat 2147483171))]]):=bb g (bR G 0) 60 [0] [] (by kernel_rfl)
theorem CY:aW G 60 bJ [.obj 0,.int (.ofNat 5)] [.list [.int (.ofNat (n+1)),.int (.ofNat b)]] (.ok (.int (Int.fmod (.ofNat (n+1)) (.ofNat 5))) [.list [.int (Int.fdiv (.ofNat (n+1)) (.ofNat 5)),.int (.ofNat b)]]):=bb g (bR G 0) 60 [0] [] (by kernel_rfl)
theorem Ct:aW G 60 bJ [.obj 0,.int (.ofNat 5)] [.list [.int (.ofNat 0),.int (.ofNat b)]] (.ok (.int (Int.fmod (Int.fdiv (Int.fmod (.ofNat b*37799+6121) (.ofNat 2147483171)) (.ofNat 31)) (.ofNat 5))) [.list [.int (.ofNat 0),.int (Int.fmod (.ofNat b*37799+6121) (.ofNat 2147483171))]]):=bb g (bR G 0) 60 [0] [] (by kernel_rfl)
theorem B2:aW G 60 bJ [.obj 0,.int (.ofNat 9)] [.list [.int (.ofNat (n+1)),.int (.ofNat b)]] (.ok (.int (Int.fmod (.ofNat (n+1)) (.ofNat 9))) [.list [.int (Int.fdiv (.ofNat (n+1)) (.ofNat 9)),.int (.ofNat b)]]):=bb g (bR G 0) 60 [0] [] (by kernel_rfl)
theorem Dk:aW G 60 bJ [.obj 0,.int (.ofNat 9)] [.list [.int (.ofNat 0),.int (.ofNat b)]] (.ok (.int (Int.fmod (Int.fdiv (Int.fmod (.ofNat b*37799+6121) (.ofNat 2147483171)) (.ofNat 31)) (.ofNat 9))) [.list [.int (.ofNat 0),.int (Int.fmod (.ofNat b*37799+6121) (.ofNat 2147483171))]]):=bb g (bR G 0) 60 [0] [] (by kernel_rfl)
end
theorem gS(a b:Int)(k:Nat)(ha:0<=a)(hb:0<=b)(hk:0<k):0<=(dI a b k).2.1/\0<=(dI a b k).2.2/\(dI a b k).1<k:=by
 have qr:(0:Int)<k:=Int.natCast_pos.mpr hk
 unfold dI
 split
 ·refine⟨Int.ediv_nonneg ha (Int.le_of_lt qr),hb,?_⟩
  have h1:=Int.emod_nonneg a (Int.ne_of_gt qr)
  have h2:=Int.emod_lt_of_pos a qr
  show(a%(k:Int)).toNat<k
  omega
 ·refine⟨ha,Int.emod_nonneg _ (by decide),?_⟩
  have h1:=Int.emod_nonneg ((b*37799+6121)%2147483171/31) (Int.ne_of_gt qr)
  have h2:=Int.emod_lt_of_pos ((b*37799+6121)%2147483171/31) qr
  show((b*37799+6121)%2147483171/31%(k:Int)).toNat<k
  omega
theorem l5(n b k:Nat)(hk:0<k):(Rs.ok (.int (Int.fmod (.ofNat (n+1)) (.ofNat k))) [.list [.int (Int.fdiv (.ofNat (n+1)) (.ofNat k)),.int (.ofNat b)]]:Rs V)=tO (.ofNat (n+1)) (.ofNat b) k:=by
 unfold tO dI
 have h0:(0:Int)<Int.ofNat (n+1):=Int.natCast_pos.mpr (Nat.succ_pos n)
 have qr:(0:Int)<k:=Int.natCast_pos.mpr hk
 rw[if_pos h0]
 dsimp only
 have e1:Int.fmod (.ofNat (n+1)) (.ofNat k)=Int.ofNat ((Int.ofNat (n+1))%(k:Int)).toNat:=by
  show Int.fmod (.ofNat (n+1)) (k:Int)=(((Int.ofNat (n+1))%(k:Int)).toNat:Int)
  rw[Int.fmod_eq_emod_of_nonneg _ (Int.le_of_lt qr),Int.toNat_of_nonneg (Int.emod_nonneg _ (Int.ne_of_gt qr))]
 have e2:Int.fdiv (.ofNat (n+1)) (.ofNat k)=(Int.ofNat (n+1))/(k:Int):=Int.fdiv_eq_ediv_of_nonneg _ (Int.le_of_lt qr)
 rw[e1,e2]
theorem lW(b k:Nat)(hk:0<k):(Rs.ok (.int (Int.fmod (Int.fdiv (Int.fmod (.ofNat b*37799+6121) (.ofNat 2147483171)) (.ofNat 31)) (.ofNat k))) [.list [.int (.ofNat 0),.int (Int.fmod (.ofNat b*37799+6121) (.ofNat 2147483171))]]:Rs V)=tO (.ofNat 0) (.ofNat b) k:=by
 unfold tO dI
 have qr:(0:Int)<k:=Int.natCast_pos.mpr hk
 rw[if_neg (by decide)]
 dsimp only
 have e0:Int.fmod (.ofNat b*37799+6121) (.ofNat 2147483171)=(Int.ofNat b*37799+6121)%2147483171:=Int.fmod_eq_emod_of_nonneg _ (by decide)
 have e1:Int.fdiv ((Int.ofNat b*37799+6121)%2147483171) (.ofNat 31)=(Int.ofNat b*37799+6121)%2147483171/31:=Int.fdiv_eq_ediv_of_nonneg _ (by decide)
 rw[e0,e1]
 have e2:Int.fmod ((Int.ofNat b*37799+6121)%2147483171/31) (.ofNat k)=Int.ofNat ((Int.ofNat b*37799+6121)%2147483171/31%(k:Int)).toNat:=by
  show Int.fmod _ (k:Int)=((_%(k:Int)).toNat:Int)
  rw[Int.fmod_eq_emod_of_nonneg _ (Int.le_of_lt qr),Int.toNat_of_nonneg (Int.emod_nonneg _ (Int.ne_of_gt qr))]
 rw[e2]
noncomputable def lH(k:Nat):Bool:=Nat.beq k 2||Nat.beq k 3||Nat.beq k 4||Nat.beq k 5||Nat.beq k 9
theorem zm(g:Good G)(a b:Int)(k:Nat)(ha:0<=a)(hb:0<=b)(hk:lH k=true):aW G 60 bJ [.obj 0,.int (.ofNat k)] [.list [.int a,.int b]] (tO a b k):=by
 refine bF (Int.eq_ofNat_of_zero_le hb) λb aU=>?_;subst aU
 refine bF (Int.eq_ofNat_of_zero_le ha) λa aU=>?_;subst aU
 unfold lH at hk
 simp only[Bool.or_eq_true] at hk
 rcases hk with(((hk|hk)|hk)|hk)|hk<;>(have hk:=Nat.eq_of_beq_eq_true hk;subst hk)
 ·induction a using Nat.casesOn with
  |zero=>rw[show((0:Nat):Int)=.ofNat 0 from rfl,show(b:Int)=.ofNat b from rfl,←lW b 2 (by decide)];exact CM g b
  |succ n=>rw[show((n+1:Nat):Int)=.ofNat (n+1) from rfl,show(b:Int)=.ofNat b from rfl,←l5 n b 2 (by decide)];exact Cc g n b
 ·induction a using Nat.casesOn with
  |zero=>rw[show((0:Nat):Int)=.ofNat 0 from rfl,show(b:Int)=.ofNat b from rfl,←lW b 3 (by decide)];exact Bi g b
  |succ n=>rw[show((n+1:Nat):Int)=.ofNat (n+1) from rfl,show(b:Int)=.ofNat b from rfl,←l5 n b 3 (by decide)];exact CB g n b
 ·induction a using Nat.casesOn with
  |zero=>rw[show((0:Nat):Int)=.ofNat 0 from rfl,show(b:Int)=.ofNat b from rfl,←lW b 4 (by decide)];exact DN g b
  |succ n=>rw[show((n+1:Nat):Int)=.ofNat (n+1) from rfl,show(b:Int)=.ofNat b from rfl,←l5 n b 4 (by decide)];exact CT g n b
 ·induction a using Nat.casesOn with
  |zero=>rw[show((0:Nat):Int)=.ofNat 0 from rfl,show(b:Int)=.ofNat b from rfl,←lW b 5 (by decide)];exact Ct g b
  |succ n=>rw[show((n+1:Nat):Int)=.ofNat (n+1) from rfl,show(b:Int)=.ofNat b from rfl,←l5 n b 5 (by decide)];exact CY g n b
 ·induction a using Nat.casesOn with
  |zero=>rw[show((0:Nat):Int)=.ofNat 0 from rfl,show(b:Int)=.ofNat b from rfl,←lW b 9 (by decide)];exact Dk g b
  |succ n=>rw[show((n+1:Nat):Int)=.ofNat (n+1) from rfl,show(b:Int)=.ofNat b from rfl,←l5 n b 9 (by decide)];exact B2 g n b
theorem wV(g:Good G)(k w:Nat)(l:List Item)(hk:lH k=true):aW G 60 bJ [.obj 0,.int (.ofNat k)] [.av (.draw k w::l)] (.ok (.int (.ofNat w)) [.av l]):=by
 refine aW.eQ λa b h=>?_
 refine rR h ?_;clear h;intro h1 h2 h3 h4 h5
 refine⟨_,.inl rfl,?_⟩
 have e:=zm g a b k h2 h3 hk
 rw[←h4]
 exact e.alike (.ok (.refl _) (.cons (oQ h5) .nil))
noncomputable def bG:Nat->List V->List Ob->aM V:=pW bJ (bL lR (bL wF kA)) λx H=>lg H x.1 λy l=>BE y λk' w=>
 gb (Nat.beq x.2.1 k'&&lH x.2.1) (some (ip [x.1] H [.av (.draw x.2.1 w::l)] (.ok (.int (.ofNat w)) [.av l])))
theorem n8{i:Nat}{H:List Ob}{l:List Item}(h:cJ H i=some (.av l)):jk [i] H [.av l]:=⟨by simp,rfl,λj o k h1 h2=>by
 induction j using Nat.casesOn with
 |zero=>
  cases h1;obtain rfl:=ai h2
  exact⟨_,by rw[←fb];exact h,.inr (.inl ⟨rfl,rfl⟩)⟩
 |succ j=>simp at h1⟩
theorem DL{vs:List V}{x:Nat×Nat×Unit}(hp:bL lR (bL wF kA) vs=some x):vs=[.obj x.1,.int (.ofNat x.2.1)]:=by
 refine bP (b8 hp) λv y1 fH e1 e2=>?_;subst fH
 refine bP (b8 e2) λu y1 fH e3 e4=>?_;subst fH
 obtain rfl:=jA e4
 rw[jN e1,wB e3]
theorem aq(g:Good G){k:Nat}(hk:60<=k):Told G k bG:=dW λvs x H q hp hq=>by
 obtain rfl:=DL hp
 replace hq:=jQ hq
 refine cz hq ?_;clear hq;intro y l hi hq
 replace hq:=yj hq
 refine cz hq ?_;clear hq;intro k' w aU hq;subst aU
 replace hq:=fu hq
 refine ae hq ?_;clear hq;intro hb hq
 refine aJ hb λh1 h2=>?_
 obtain rfl:=Nat.eq_of_beq_eq_true h1
 obtain rfl:=ai hq
 exact((wV g _ w l h2).frame (n8 hi) (by rfl)).more hk
end
section
variable{G:Gc}
noncomputable def jK:V:=.str (S 0x74797065206661756c74)
noncomputable def fJ:V:=.str (S 0x666c6f77206661756c74)
noncomputable def w7(d k:Nat)(s:Int)(l':List Row)(l:List Item):Rs V:=match k with
 |0=>.ok (.tup [.held (d+1) 0 s (.dg l'),.tup [jK,.int (bp s 0 l' s)]]) [.av l]
 |1=>.ok (.tup [.held (d+1) 1 s (.dg l'),.tup [fJ,.int (bp s 0 l' s)]]) [.av l]
 |2=>.ok (.tup [.held (d+1) 1 s (.dg l'),.tup [fJ,.int (bp s 0 l' s)]]) [.av l]
 |_=>.ok (.tup [.held (d+1) 3 s (.dg l'),.tup [aY,.int s,.b9 s l']]) [.av l]
def n4(G:Gc)(n d:Nat):Prop:=∀s k l' l,aW G n dp [.obj 0,.int s,.int (.ofNat d)] [.av (.block d k l'::l)] (w7 d k s l' l)
noncomputable def eX:Nat->List V->List Ob->aM V:=pW dp (bL lR (bL uZ (bL wF kA))) λx H=>lg H x.1 λy l=>wG y λd' k l'=>
 gb (Nat.beq x.2.2.1 0&&Nat.beq d' 0) (some (ip [x.1] H [.av (.block 0 k l'::l)] (w7 0 k x.2.1 l' l)))
theorem pn{vs:List V}{x:Nat×Int×Nat×Unit}(hp:bL lR (bL uZ (bL wF kA)) vs=some x):vs=[.obj x.1,.int x.2.1,.int (.ofNat x.2.2.1)]:=by
 refine bP (b8 hp) λv y1 fH e1 e2=>?_;subst fH
 refine bP (b8 e2) λu y1 fH e3 e4=>?_;subst fH
 refine bP (b8 e4) λw y1 fH e5 e6=>?_;subst fH
 obtain rfl:=jA e6
 rw[jN e1,xb e3,wB e5]
theorem sS{n k:Nat}(h:n4 G n 0)(hn:n<=k):Told G k eX:=dW λvs x H q hp hq=>by
 obtain rfl:=pn hp
 replace hq:=jQ hq
 refine cz hq ?_;clear hq;intro y l hi hq
 replace hq:=tY hq
 refine rl hq ?_;clear hq;intro d' kk l' aU hq;subst aU
 replace hq:=fu hq
 refine ae hq ?_;clear hq;intro hb hq
 refine ae (zK hb) λb1 aU=>?_;subst aU
 obtain rfl:=ai hq
 rw[b1]
 exact((h x.2.1 kk l' l).frame (n8 hi) (by rfl)).more hn
noncomputable def orElse(f g:Nat->List V->List Ob->aM V)(a:Nat)(vs:List V)(H:List Ob):aM V:=match f a vs H with
 |some r=>some r
 |none=>g a vs H
theorem eM{f g:Nat->List V->List Ob->aM V}{k:Nat}(hf:Told G k f)(hg:Told G k g):Told G k (orElse f g):=by
 intro a vs H q hq
 refine LZ hq ?_ ?_
 ·clear hq;intro r hr hq
  obtain rfl:=ai hq
  exact hf a vs H q hr
 ·clear hq;intro _ hq
  exact hg a vs H q hq
noncomputable def eV(d k:Nat)(s:Int)(r:Row)(l:List Item):Rs V:=match k with
 |0=>.ok (.tup [.held d 0 s r,.tup [jK,.int (dY s r)],.bool false]) [.av l]
 |1=>.ok (.tup [.held d 1 s r,.tup [fJ,.int (dY s r)],.bool false]) [.av l]
 |2=>.ok (.tup [.held d 2 s r,.obj 1,.bool true]) [.av l,.list []]
 |_=>.ok (.tup [.held d 3 s r,.obj 1,.bool false]) [.av l,.list [.dN s r]]
def Cn(G:Gc)(n d:Nat):Prop:=∀s free k r l,aW G n aO [.obj 0,.int s,.int (.ofNat d),.bool free] [.av (.row d free k r::l)] (eV d k s r l)
section
variable(g:Good G)(s:Int)(d:Nat)(free:Bool)(l:List Item)
include g
theorem SE:aW G (90+60) aO [.obj 0,.int s,.int (.ofNat d),.bool free] [.av (.draw 9 0::l)] (.ok (.tup [tree s .bad,.tup [jK,.int s],.bool false]) [.av l]):=
 bb g (aq g (Nat.le_refl 60)) 90 ([0]) [] (by kernel_rfl)
theorem J':aW G (90+60) aO [.obj 0,.int s,.int (.ofNat d),.bool true] [.av (.draw 9 1::l)] (.ok (.tup [tree s .dZ,.obj 1,.bool true]) [.av l,.list []]):=
 bb g (aq g (Nat.le_refl 60)) 90 ([0,1]) [] (by kernel_rfl)
theorem Ku:aW G (90+60) aO [.obj 0,.int s,.int (.ofNat d),.bool false] [.av (.draw 9 1::l)] (.ok (.tup [tree s .call,.obj 1,.bool false]) [.av l,.list [fF s .call]]):=
 bb g (aq g (Nat.le_refl 60)) 90 ([0,3]) [] (by kernel_rfl)
theorem Up:aW G (90+60) aO [.obj 0,.int s,.int (.ofNat d),.bool free] [.av (.draw 9 2::l)] (.ok (.tup [tree s .fT,.tup [fJ,.int s],.bool false]) [.av l]):=
 bb g (aq g (Nat.le_refl 60)) 90 ([0]) [] (by kernel_rfl)
theorem Wi:aW G (90+60) aO [.obj 0,.int s,.int (.ofNat d),.bool free] [.av (.draw 9 3::l)] (.ok (.tup [tree s .blank,.obj 1,.bool false]) [.av l,.list [fF s .blank]]):=
 bb g (aq g (Nat.le_refl 60)) 90 ([0,2]) [] (by kernel_rfl)
theorem TS:aW G (90+60) aO [.obj 0,.int s,.int (.ofNat d),.bool free] [.av (.draw 9 4::l)] (.ok (.tup [tree s .blank,.obj 1,.bool false]) [.av l,.list [fF s .blank]]):=
 bb g (aq g (Nat.le_refl 60)) 90 ([0,2]) [] (by kernel_rfl)
theorem TZ:aW G (90+60) aO [.obj 0,.int s,.int (.ofNat d),.bool free] [.av (.draw 9 7::l)] (.ok (.tup [tree s .call,.obj 1,.bool false]) [.av l,.list [fF s .call]]):=
 bb g (aq g (Nat.le_refl 60)) 90 ([0,3]) [] (by kernel_rfl)
theorem XM:aW G (90+60) aO [.obj 0,.int s,.int (.ofNat d),.bool free] [.av (.draw 9 8::l)] (.ok (.tup [tree s .call,.obj 1,.bool false]) [.av l,.list [fF s .call]]):=
 bb g (aq g (Nat.le_refl 60)) 90 ([0,3]) [] (by kernel_rfl)
theorem WI:aW G (90+60) aO [.obj 0,.int s,.int (.ofNat 0),.bool free] [.av (.draw 9 5::l)] (.ok (.tup [tree s .call,.obj 1,.bool false]) [.av l,.list [fF s .call]]):=
 bb g (aq g (Nat.le_refl 60)) 90 ([0,3]) [] (by kernel_rfl)
theorem RV:aW G (90+60) aO [.obj 0,.int s,.int (.ofNat 0),.bool free] [.av (.draw 9 6::l)] (.ok (.tup [tree s .call,.obj 1,.bool false]) [.av l,.list [fF s .call]]):=
 bb g (aq g (Nat.le_refl 60)) 90 ([0,3]) [] (by kernel_rfl)
theorem Qs{k:Nat}(oo:Told G k (orElse bG eX))(l':List Row):aW G (90+k) aO [.obj 0,.int s,.int (.ofNat 1),.bool free] [.av (.draw 9 5::.block 0 0 l'::l)] (.ok (.tup [.held 1 0 s (.dg l'),.tup [jK,.int (bp s 0 l' s)],.bool false]) [.av l]):=
 bb g oo 90 ([0]) [] (by kernel_rfl)
theorem Ox{k:Nat}(oo:Told G k (orElse bG eX))(l':List Row):aW G (90+k) aO [.obj 0,.int s,.int (.ofNat 1),.bool free] [.av (.draw 9 5::.block 0 1 l'::l)] (.ok (.tup [.held 1 1 s (.dg l'),.tup [fJ,.int (bp s 0 l' s)],.bool false]) [.av l]):=
 bb g oo 90 ([0]) [] (by kernel_rfl)
theorem PC{k:Nat}(oo:Told G k (orElse bG eX))(l':List Row):aW G (90+k) aO [.obj 0,.int s,.int (.ofNat 1),.bool free] [.av (.draw 9 5::.block 0 2 l'::l)] (.ok (.tup [.held 1 1 s (.dg l'),.tup [fJ,.int (bp s 0 l' s)],.bool false]) [.av l]):=
 bb g oo 90 ([0]) [] (by kernel_rfl)
theorem P0{k:Nat}(oo:Told G k (orElse bG eX))(l':List Row):aW G (90+k) aO [.obj 0,.int s,.int (.ofNat 1),.bool free] [.av (.draw 9 5::.block 0 3 l'::l)] (.ok (.tup [.held 1 3 s (.dg l'),.obj 1,.bool false]) [.av l,.list [.tup [aY,.int s,.b9 s l']]]):=
 bb g oo 90 ([0,4]) [] (by kernel_rfl)
theorem OT{k:Nat}(oo:Told G k (orElse bG eX))(l':List Row):aW G (90+k) aO [.obj 0,.int s,.int (.ofNat 1),.bool free] [.av (.draw 9 6::.block 0 0 l'::l)] (.ok (.tup [.held 1 0 s (.dg l'),.tup [jK,.int (bp s 0 l' s)],.bool false]) [.av l]):=
 bb g oo 90 ([0]) [] (by kernel_rfl)
theorem P7{k:Nat}(oo:Told G k (orElse bG eX))(l':List Row):aW G (90+k) aO [.obj 0,.int s,.int (.ofNat 1),.bool free] [.av (.draw 9 6::.block 0 1 l'::l)] (.ok (.tup [.held 1 1 s (.dg l'),.tup [fJ,.int (bp s 0 l' s)],.bool false]) [.av l]):=
 bb g oo 90 ([0]) [] (by kernel_rfl)
theorem PY{k:Nat}(oo:Told G k (orElse bG eX))(l':List Row):aW G (90+k) aO [.obj 0,.int s,.int (.ofNat 1),.bool free] [.av (.draw 9 6::.block 0 2 l'::l)] (.ok (.tup [.held 1 1 s (.dg l'),.tup [fJ,.int (bp s 0 l' s)],.bool false]) [.av l]):=
 bb g oo 90 ([0]) [] (by kernel_rfl)
theorem Qr{k:Nat}(oo:Told G k (orElse bG eX))(l':List Row):aW G (90+k) aO [.obj 0,.int s,.int (.ofNat 1),.bool free] [.av (.draw 9 6::.block 0 3 l'::l)] (.ok (.tup [.held 1 3 s (.dg l'),.obj 1,.bool false]) [.av l,.list [.tup [aY,.int s,.b9 s l']]]):=
 bb g oo 90 ([0,4]) [] (by kernel_rfl)
end
end
section
variable{G:Gc}
inductive I3(a b:Int)(k:Nat):Prop
 |mk (w:Nat) (a1 b1:Int) (e:dI a b k=(w,a1,b1)) (hw:w<k) (ha:0<=a1) (hb:0<=b1)
theorem aP(a b:Int)(k:Nat)(ha:0<=a)(hb:0<=b)(hk:0<k):I3 a b k:=by
 refine cZ (gS a b k ha hb hk) λh1 h2 h3=>?_
 exact⟨_,_,_,rfl,h3,h1,h2⟩
theorem aB.draw{a b a1 b1:Int}{k w:Nat}{l:List Item}(hs:dI a b k=(w,a1,b1))(hk:0<k)(ha:0<=a)(hb:0<=b)(h:aB a1 b1 l):aB a b (.draw k w::l):=⟨hk,ha,hb,by rw[hs],by rw[hs];exact h⟩
theorem f7{d:Nat}{r:Row}(h:∀l,r≠ .dg l):cj d r=true:=by
 induction r using Row.casesOn<;>first|(unfold cj;rfl)|exact absurd rfl (h _)
theorem dP{n d:Nat}{s:Int}{free:Bool}{r:Row}{k:Nat}{l:List Item}{H:List Ob}{q:Rs V}(e:aW G n aO [.obj 0,.int s,.int (.ofNat d),.bool free] H q)(h:RA q (eV d (ao r) s r l))(hk:k=ao r):aW G n aO [.obj 0,.int s,.int (.ofNat d),.bool free] H (eV d k s r l):=by
 rw[hk]
 exact e.alike h
theorem DZ(d:Nat)(s:Int)(l:List Item):RA (.ok (.tup [tree s .bad,.tup [jK,.int s],.bool false]) [.av l]) (eV d (ao .bad) s .bad l):=by
 rw[show ao .bad=0 from by rw[ao]]
 show RA _ (.ok (.tup [.held d 0 s .bad,.tup [jK,.int (dY s .bad)],.bool false]) [.av l])
 rw[show dY s .bad=s from by simp only[dY]]
 exact .ok (.tup (.cons (.held (by rw[ao]) (f7 λζ e=>by cases e)) (.refl _))) (HA.refl _)
theorem xN(d:Nat)(s:Int)(l:List Item):RA (.ok (.tup [tree s .fT,.tup [fJ,.int s],.bool false]) [.av l]) (eV d (ao .fT) s .fT l):=by
 rw[show ao .fT=1 from by rw[ao]]
 show RA _ (.ok (.tup [.held d 1 s .fT,.tup [fJ,.int (dY s .fT)],.bool false]) [.av l])
 rw[show dY s .fT=s from by simp only[dY]]
 exact .ok (.tup (.cons (.held (by rw[ao]) (f7 λζ e=>by cases e)) (.refl _))) (HA.refl _)
theorem x7(d:Nat)(s:Int)(l:List Item):RA (.ok (.tup [tree s .dZ,.obj 1,.bool true]) [.av l,.list []]) (eV d (ao .dZ) s .dZ l):=by
 rw[show ao .dZ=2 from by rw[ao]]
 exact .ok (.tup (.cons (.held (by rw[ao]) (f7 λζ e=>by cases e)) (.refl _))) (HA.refl _)
theorem gw(d:Nat)(s:Int)(l:List Item):RA (.ok (.tup [tree s .call,.obj 1,.bool false]) [.av l,.list [fF s .call]]) (eV d (ao .call) s .call l):=by
 rw[show ao .call=3 from by rw[ao]]
 exact .ok (.tup (.cons (.held (by rw[ao]) (f7 λζ e=>by cases e)) (.refl _))) (.cons (.refl _) (.cons (.list (.cons (.dN (by rfl)) (.refl _))) .nil))
theorem l9(d:Nat)(s:Int)(l:List Item):RA (.ok (.tup [tree s .blank,.obj 1,.bool false]) [.av l,.list [fF s .blank]]) (eV d (ao .blank) s .blank l):=by
 rw[show ao .blank=3 from by rw[ao]]
 exact .ok (.tup (.cons (.held (by rw[ao]) (f7 λζ e=>by cases e)) (.refl _))) (.cons (.refl _) (.cons (.list (.cons (.dN (by rfl)) (.refl _))) .nil))
theorem NG(g:Good G):Cn G 150 0:=by
 intro s free k r l
 refine aW.eQ λa b ht=>?_
 refine rR ht ?_;clear ht;intro hr hk ha hb hl
 obtain⟨w,a1,b1,hs,hw,oh,nk⟩:=aP a b 9 ha hb (by decide)
 have dr:=λX (h:aB a1 b1 X)=>aB.draw hs (by decide) ha hb h
 match w,hw with
 |0,_=>
  have e:aD 0 free a b=(.bad,a1,b1):=congrArg (gK (λa b=>([],a,b)) false free) hs
  rw[e] at hr hl
  subst hr
  exact⟨_,.inr ⟨_,dr _ hl,rfl⟩,dP (SE g s 0 free l) (DZ 0 s l) hk⟩
 |1,_=>
  induction free with
  |true=>
   have e:aD 0 true a b=(.dZ,a1,b1):=congrArg (gK (λa b=>([],a,b)) false true) hs
   rw[e] at hr hl
   subst hr
   exact⟨_,.inr ⟨_,dr _ hl,rfl⟩,dP (J' g s 0 l) (x7 0 s l) hk⟩
  |false=>
   have e:aD 0 false a b=(.call,a1,b1):=congrArg (gK (λa b=>([],a,b)) false false) hs
   rw[e] at hr hl
   subst hr
   exact⟨_,.inr ⟨_,dr _ hl,rfl⟩,dP (Ku g s 0 l) (gw 0 s l) hk⟩
 |2,_=>
  have e:aD 0 free a b=(.fT,a1,b1):=congrArg (gK (λa b=>([],a,b)) false free) hs
  rw[e] at hr hl
  subst hr
  exact⟨_,.inr ⟨_,dr _ hl,rfl⟩,dP (Up g s 0 free l) (xN 0 s l) hk⟩
 |3,_=>
  have e:aD 0 free a b=(.blank,a1,b1):=congrArg (gK (λa b=>([],a,b)) false free) hs
  rw[e] at hr hl
  subst hr
  exact⟨_,.inr ⟨_,dr _ hl,rfl⟩,dP (Wi g s 0 free l) (l9 0 s l) hk⟩
 |4,_=>
  have e:aD 0 free a b=(.blank,a1,b1):=congrArg (gK (λa b=>([],a,b)) false free) hs
  rw[e] at hr hl
  subst hr
  exact⟨_,.inr ⟨_,dr _ hl,rfl⟩,dP (TS g s 0 free l) (l9 0 s l) hk⟩
 |5,_=>
  have e:aD 0 free a b=(.call,a1,b1):=congrArg (gK (λa b=>([],a,b)) false free) hs
  rw[e] at hr hl
  subst hr
  exact⟨_,.inr ⟨_,dr _ hl,rfl⟩,dP (WI g s free l) (gw 0 s l) hk⟩
 |6,_=>
  have e:aD 0 free a b=(.call,a1,b1):=congrArg (gK (λa b=>([],a,b)) false free) hs
  rw[e] at hr hl
  subst hr
  exact⟨_,.inr ⟨_,dr _ hl,rfl⟩,dP (RV g s free l) (gw 0 s l) hk⟩
 |7,_=>
  have e:aD 0 free a b=(.call,a1,b1):=congrArg (gK (λa b=>([],a,b)) false free) hs
  rw[e] at hr hl
  subst hr
  exact⟨_,.inr ⟨_,dr _ hl,rfl⟩,dP (TZ g s 0 free l) (gw 0 s l) hk⟩
 |8,_=>
  have e:aD 0 free a b=(.call,a1,b1):=congrArg (gK (λa b=>([],a,b)) false free) hs
  rw[e] at hr hl
  subst hr
  exact⟨_,.inr ⟨_,dr _ hl,rfl⟩,dP (XM g s 0 free l) (gw 0 s l) hk⟩
 |_+9,h=>exact fj ‹_›
theorem gv{q:Rs V}{s:Int}{l':List Row}{l:List Item}(hf:cj 1 (.dg l')=true)(hq:kindB l'=0/\q=.ok (.tup [.held 1 0 s (.dg l'),.tup [jK,.int (bp s 0 l' s)],.bool false]) [.av l]∨
  (kindB l'=1∨kindB l'=2)/\q=.ok (.tup [.held 1 1 s (.dg l'),.tup [fJ,.int (bp s 0 l' s)],.bool false]) [.av l]∨
  kindB l'=3/\q=.ok (.tup [.held 1 3 s (.dg l'),.obj 1,.bool false]) [.av l,.list [.tup [aY,.int s,.b9 s l']]]):RA q (eV 1 (ao (.dg l')) s (.dg l') l):=by
 have hk:ao (.dg l')=nA (kindB l'):=by rw[ao];rfl
 have hs:dY s (.dg l')=bp s 0 l' s:=by rw[dY]
 rw[hk]
 rcases hq with⟨h,rfl⟩|⟨h,rfl⟩|⟨h,rfl⟩
 ·rw[h]
  show RA _ (.ok (.tup [.held 1 0 s (.dg l'),.tup [jK,.int (dY s (.dg l'))],.bool false]) [.av l])
  rw[hs]
  exact .ok (.refl _) (HA.refl _)
 ·have:nA (kindB l')=1:=by rcases h with h|h<;>rw[h]<;>rfl
  rw[this]
  show RA _ (.ok (.tup [.held 1 1 s (.dg l'),.tup [fJ,.int (dY s (.dg l'))],.bool false]) [.av l])
  rw[hs]
  exact .ok (.refl _) (HA.refl _)
 ·rw[h]
  exact .ok (.refl _) (.cons (.refl _) (.cons (.list (.cons (rn s l' hf) (.refl _))) .nil))
theorem yT(g:Good G){k:Nat}(oo:Told G k (orElse bG eX))(s:Int)(free:Bool)(l:List Item)(l':List Row)(hf:cj 1 (.dg l')=true):aW G (90+k) aO [.obj 0,.int s,.int (.ofNat 1),.bool free] [.av (.draw 9 5::.block 0 (kindB l') l'::l)] (eV 1 (ao (.dg l')) s (.dg l') l):=by
 rcases bA l' with h|h|h|h
 ·rw[h];exact(Qs g s free l oo l').alike (gv hf (.inl ⟨h,rfl⟩))
 ·rw[h];exact(Ox g s free l oo l').alike (gv hf (.inr (.inl ⟨.inl h,rfl⟩)))
 ·rw[h];exact(PC g s free l oo l').alike (gv hf (.inr (.inl ⟨.inr h,rfl⟩)))
 ·rw[h];exact(P0 g s free l oo l').alike (gv hf (.inr (.inr ⟨h,rfl⟩)))
theorem Ag(g:Good G){k:Nat}(oo:Told G k (orElse bG eX))(s:Int)(free:Bool)(l:List Item)(l':List Row)(hf:cj 1 (.dg l')=true):aW G (90+k) aO [.obj 0,.int s,.int (.ofNat 1),.bool free] [.av (.draw 9 6::.block 0 (kindB l') l'::l)] (eV 1 (ao (.dg l')) s (.dg l') l):=by
 rcases bA l' with h|h|h|h
 ·rw[h];exact(OT g s free l oo l').alike (gv hf (.inl ⟨h,rfl⟩))
 ·rw[h];exact(P7 g s free l oo l').alike (gv hf (.inr (.inl ⟨.inl h,rfl⟩)))
 ·rw[h];exact(PY g s free l oo l').alike (gv hf (.inr (.inl ⟨.inr h,rfl⟩)))
 ·rw[h];exact(Qr g s free l oo l').alike (gv hf (.inr (.inr ⟨h,rfl⟩)))
end
section
variable{G:Gc}
noncomputable def yi(d0:Nat):Nat->List V->List Ob->aM V:=pW aO (bL lR (bL uZ (bL wF (bL MS kA)))) λx H=>lg H x.1 λy l=>SU y λd' f' k r=>
 gb (Nat.beq x.2.2.1 d0&&Nat.beq d' d0) (gb ((x.2.2.2.1&&f')||(!x.2.2.2.1&&!f')) (some (ip [x.1] H [.av (.row d0 x.2.2.2.1 k r::l)] (eV d0 k x.2.1 r l))))
theorem oP{n k d0:Nat}(h:Cn G n d0)(hn:n<=k):Told G k (yi d0):=dW λvs x H q hp hq=>by
 refine bP (b8 hp) λv y1 fH e1 e2=>?_;subst fH
 refine bP (b8 e2) λu y1 fH e3 e4=>?_;subst fH
 refine bP (b8 e4) λw y1 fH e5 e6=>?_;subst fH
 refine bP (b8 e6) λz y1 fH e7 e8=>?_;subst fH
 obtain rfl:=jA e8
 rw[jN e1,xb e3,wB e5,Iy e7]
 clear e1 e2 e3 e4 e5 e6 e7 e8 hp
 obtain⟨i,s,d,f,_⟩:=x
 dsimp only at hq ⊢
 replace hq:=jQ hq
 refine cz hq ?_;clear hq;intro y l hi hq
 replace hq:=Pa hq
 refine K1 hq ?_;clear hq;intro d' f' kk r aU hq;subst aU
 replace hq:=fu hq
 refine ae hq ?_;clear hq;intro hb hq
 refine ae (zK hb) λaU fH=>?_;subst aU;subst fH
 replace hq:=fu hq
 refine ae hq ?_;clear hq;intro hf hq
 have hf:f'=f:=by cases f<;>cases f'<;>first|rfl|exact nf hf
 subst hf
 obtain rfl:=ai hq
 exact((h s f' kk r l).frame (n8 hi) (by rfl)).more hn
noncomputable def kN(d:Nat):Bool->List (Nat×Row)->List Item->List Item
 |_,[],l=>l
 |f,(k,r)::t,l=>.row d f k r::kN d (f&&!(Nat.beq k 2)) t l
noncomputable def wt:List (Nat×Row)->List Nat
 |[]=>[]
 |(k,_)::t=>k::wt t
noncomputable def oK(s:Int):Int->List (Nat×Row)->Int->Int
 |_,[],t=>t
 |j,(k,r)::l,t=>match k with
  |0=>dY (10*s+j) r
  |1=>dY (10*s+j) r
  |2=>oK s (j+1) l (10*s+j)
  |_=>oK s (j+1) l t
noncomputable def rf(s:Int):Int->List (Nat×Row)->List V
 |_,[]=>[]
 |j,(k,r)::l=>match k with
  |2=>rf s (j+1) l
  |_=>.dN (10*s+j) r::rf s (j+1) l
noncomputable def kM(d:Nat)(s:Int):Int->List (Nat×Row)->List V
 |_,[]=>[]
 |j,(k,r)::l=>.held d k (10*s+j) r::kM d s (j+1) l
noncomputable def fO(d:Nat)(s:Int)(ks:List (Nat×Row))(l:List Item):Rs V:=match cW (wt ks) false with
 |0=>.ok (.tup [.tup [aY,.int s,.tup (kM d s 0 ks)],.tup [jK,.int (oK s 0 ks s)]]) [.av l]
 |1=>.ok (.tup [.tup [aY,.int s,.tup (kM d s 0 ks)],.tup [fJ,.int (oK s 0 ks s)]]) [.av l]
 |2=>.ok (.tup [.tup [aY,.int s,.tup (kM d s 0 ks)],.tup [fJ,.int (oK s 0 ks s)]]) [.av l]
 |_=>.ok (.tup [.tup [aY,.int s,.tup (kM d s 0 ks)],.tup [aY,.int s,.tup (rf s 0 ks)]]) [.av l]
noncomputable def Ig:Bool->List (Nat×Row)->Bool
 |_,[]=>true
 |f,(k,r)::t=>Nat.ble k 3&&(f||!(Nat.beq k 2))&&Ig (f&&!(Nat.beq k 2)) t
noncomputable def KP(f:Bool)(L:List (List Nat)):List (List Nat):=match f with
 |true=>L.map (2:: ·)
 |false=>[]
noncomputable def d6:Nat->Bool->List (List Nat)
 |0,_=>[[]]
 |n+1,f=>(d6 n f).map (0:: ·)++((d6 n f).map (1:: ·)++((d6 n f).map (3:: ·)++KP f (d6 n false)))
theorem j4:∀{ks:List (Nat×Row)} {f:Bool},Ig f ks=true->ks.map (·.1)∈d6 ks.length f:=by
 intro l_
 induction l_ with
 |nil=>
  intro _ _
  exact .head _
 |cons p_ ks ih=>
  obtain⟨k,r⟩:=p_
  intro f h
  refine aJ h λh1 h3=>?_
  refine aJ h1 ?_;clear h1;intro h1 h2
  have hk:=Nat.le_of_ble_eq_true h1
  show k::ks.map (·.1)∈(d6 ks.length f).map (0:: ·)++((d6 ks.length f).map (1:: ·)++((d6 ks.length f).map (3:: ·)++KP f (d6 ks.length false)))
  match k,hk with
  |0,_=>rw[show(f&&!(Nat.beq 0 2))=f from Bool.and_true f] at h3;exact List.mem_append_left _ (List.mem_map_of_mem (ih h3))
  |1,_=>rw[show(f&&!(Nat.beq 1 2))=f from Bool.and_true f] at h3;exact List.mem_append_right _ (List.mem_append_left _ (List.mem_map_of_mem (ih h3)))
  |3,_=>rw[show(f&&!(Nat.beq 3 2))=f from Bool.and_true f] at h3;exact List.mem_append_right _ (List.mem_append_right _ (List.mem_append_left _ (List.mem_map_of_mem (ih h3))))
  |2,_=>
   induction f with
   |false=>exact nf h2
   |true=>exact List.mem_append_right _ (List.mem_append_right _ (List.mem_append_right _ (List.mem_map_of_mem (ih h3))))
noncomputable def runK(d:Nat)(s:Int)(l:List Item)(ks:List (Nat×Row))(n:Nat):Option (Rs V):=
 canon 1 [0] [] ((ev (jH (orElse bG (yi d))) 100).F dp [.obj 0,.int s,.int (.ofNat d)] [.av (.draw 4 n::kN d true ks l)])
section
variable(s:Int)(l:List Item)(r0 r1 r2:Row)
theorem Uy:runK 0 s l [] 0=some (fO 0 s [] l):=by kernel_rfl
theorem Uo:runK 1 s l [] 0=some (fO 1 s [] l):=by kernel_rfl
theorem RN:(d6 1 true).map (λt=>runK 0 s l (t.zip [r0]) 1)=(d6 1 true).map λt=>some (fO 0 s (t.zip [r0]) l):=by kernel_rfl
theorem UM:(d6 2 true).map (λt=>runK 0 s l (t.zip [r0,r1]) 2)=(d6 2 true).map λt=>some (fO 0 s (t.zip [r0,r1]) l):=by kernel_rfl
theorem OF:((d6 2 true).map (0:: ·)).map (λt=>runK 0 s l (t.zip [r0,r1,r2]) 3)=((d6 2 true).map (0:: ·)).map λt=>some (fO 0 s (t.zip [r0,r1,r2]) l):=by kernel_rfl
theorem N8:((d6 2 true).map (1:: ·)).map (λt=>runK 0 s l (t.zip [r0,r1,r2]) 3)=((d6 2 true).map (1:: ·)).map λt=>some (fO 0 s (t.zip [r0,r1,r2]) l):=by kernel_rfl
theorem NN:((d6 2 true).map (3:: ·)).map (λt=>runK 0 s l (t.zip [r0,r1,r2]) 3)=((d6 2 true).map (3:: ·)).map λt=>some (fO 0 s (t.zip [r0,r1,r2]) l):=by kernel_rfl
theorem Oh:((d6 2 false).map (2:: ·)).map (λt=>runK 0 s l (t.zip [r0,r1,r2]) 3)=((d6 2 false).map (2:: ·)).map λt=>some (fO 0 s (t.zip [r0,r1,r2]) l):=by kernel_rfl
theorem Ws:(d6 1 true).map (λt=>runK 1 s l (t.zip [r0]) 1)=(d6 1 true).map λt=>some (fO 1 s (t.zip [r0]) l):=by kernel_rfl
theorem Vy:(d6 2 true).map (λt=>runK 1 s l (t.zip [r0,r1]) 2)=(d6 2 true).map λt=>some (fO 1 s (t.zip [r0,r1]) l):=by kernel_rfl
theorem NK:((d6 2 true).map (0:: ·)).map (λt=>runK 1 s l (t.zip [r0,r1,r2]) 3)=((d6 2 true).map (0:: ·)).map λt=>some (fO 1 s (t.zip [r0,r1,r2]) l):=by kernel_rfl
theorem Oz:((d6 2 true).map (1:: ·)).map (λt=>runK 1 s l (t.zip [r0,r1,r2]) 3)=((d6 2 true).map (1:: ·)).map λt=>some (fO 1 s (t.zip [r0,r1,r2]) l):=by kernel_rfl
theorem O0:((d6 2 true).map (3:: ·)).map (λt=>runK 1 s l (t.zip [r0,r1,r2]) 3)=((d6 2 true).map (3:: ·)).map λt=>some (fO 1 s (t.zip [r0,r1,r2]) l):=by kernel_rfl
theorem Qj:((d6 2 false).map (2:: ·)).map (λt=>runK 1 s l (t.zip [r0,r1,r2]) 3)=((d6 2 false).map (2:: ·)).map λt=>some (fO 1 s (t.zip [r0,r1,r2]) l):=by kernel_rfl
end
theorem Dl:∀ks:List (Nat×Row),(ks.map (·.1)).zip (ks.map (·.2))=ks
 |[]=>rfl
 |k::ks=>congrArg (k:: ·) (Dl ks)
theorem ez{d n:Nat}{s:Int}{l:List Item}{L:List (List Nat)}{rs:List Row}(e:L.map (λt=>runK d s l (t.zip rs) n)=L.map λt=>some (fO d s (t.zip rs) l)){ks:List (Nat×Row)}(hr:ks.map (·.2)=rs)(hm:ks.map (·.1)∈L):runK d s l ks n=some (fO d s ks l):=by
 subst hr
 have h:runK d s l ((ks.map (·.1)).zip (ks.map (·.2))) n=some (fO d s ((ks.map (·.1)).zip (ks.map (·.2))) l):=Dy e _ hm
 rwa [Dl] at h
theorem Df(s:Int)(l:List Item):∀ks:List (Nat×Row),ks.length<=3->Ig true ks=true->runK 0 s l ks ks.length=some (fO 0 s ks l)
 |[],_,_=>Uy s l
 |[a],_,h=>ez (RN s l a.2) rfl (j4 h)
 |[a,b],_,h=>ez (UM s l a.2 b.2) rfl (j4 h)
 |[a,b,c],_,h=>by
  have m:=j4 h
  rcases List.mem_append.mp m with m|m
  ·exact ez (OF s l a.2 b.2 c.2) rfl m
  rcases List.mem_append.mp m with m|m
  ·exact ez (N8 s l a.2 b.2 c.2) rfl m
  rcases List.mem_append.mp m with m|m
  ·exact ez (NN s l a.2 b.2 c.2) rfl m
  ·exact ez (Oh s l a.2 b.2 c.2) rfl m
 |_::_::_::_::_,h,_=>absurd h (by simp)
theorem BY(g:Good G){k:Nat}(s:Int)(l:List Item)(oo:Told G k (orElse bG (yi 0)))(ks:List (Nat×Row))(h1:ks.length<=3)(h2:Ig true ks=true):aW G (100+k) dp [.obj 0,.int s,.int (.ofNat 0)] [.av (.draw 4 ks.length::kN 0 true ks l)] (fO 0 s ks l):=
 bb g oo 100 [0] [] (Df s l ks h1 h2)
theorem DP(s:Int)(l:List Item):∀ks:List (Nat×Row),ks.length<=3->Ig true ks=true->runK 1 s l ks ks.length=some (fO 1 s ks l)
 |[],_,_=>Uo s l
 |[a],_,h=>ez (Ws s l a.2) rfl (j4 h)
 |[a,b],_,h=>ez (Vy s l a.2 b.2) rfl (j4 h)
 |[a,b,c],_,h=>by
  have m:=j4 h
  rcases List.mem_append.mp m with m|m
  ·exact ez (NK s l a.2 b.2 c.2) rfl m
  rcases List.mem_append.mp m with m|m
  ·exact ez (Oz s l a.2 b.2 c.2) rfl m
  rcases List.mem_append.mp m with m|m
  ·exact ez (O0 s l a.2 b.2 c.2) rfl m
  ·exact ez (Qj s l a.2 b.2 c.2) rfl m
 |_::_::_::_::_,h,_=>absurd h (by simp)
theorem Du(g:Good G){k:Nat}(s:Int)(l:List Item)(oo:Told G k (orElse bG (yi 1)))(ks:List (Nat×Row))(h1:ks.length<=3)(h2:Ig true ks=true):aW G (100+k) dp [.obj 0,.int s,.int (.ofNat 1)] [.av (.draw 4 ks.length::kN 1 true ks l)] (fO 1 s ks l):=
 bb g oo 100 [0] [] (DP s l ks h1 h2)
end
section
variable{G:Gc}
noncomputable def dM:List Row->List (Nat×Row)
 |[]=>[]
 |r::l=>(ao r,r)::dM l
theorem kR:∀l:List Row,(dM l).length=l.length
 |[]=>rfl
 |r::l=>by simp[dM,kR l]
theorem nh:∀l:List Row,wt (dM l)=cR l
 |[]=>by rw[cR];rfl
 |r::l=>by rw[cR,←nh l];rfl
theorem wD(s:Int):∀(l:List Row) (j t:Int),oK s j (dM l) t=bp s j l t:=by
 intro l_
 induction l_ with
 |nil=>
  intro j t
  rw[bp];rfl
 |cons r l ih=>
  intro j t
  rw[bp]
  unfold dM oK
  rcases fm r with h|h|h|h<;>rw[h]
  ·rfl
  ·rfl
  ·exact ih _ _
  ·exact ih _ _
theorem wj(s:Int):∀(l:List Row) (j:Int),qF (rf s j (dM l)) (dG s j l):=by
 intro l_
 induction l_ with
 |nil=>
  intro j
  rw[dG];exact .refl _
 |cons r l ih=>
  intro j
  rw[dG]
  unfold dM rf
  rcases fm r with h|h|h|h<;>rw[h]
  ·exact .cons .sx (ih _)
  ·exact .cons .sx (ih _)
  ·exact ih _
  ·exact .cons .sx (ih _)
theorem mY(d:Nat)(s:Int):∀(l:List Row) (j:Int),qF (kM d s j (dM l)) (trees s j l)
 |[],j=>by rw[trees];exact .refl _
 |r::l,j=>by
  rw[trees]
  exact .cons .wu (mY d s l _)
theorem rQ(r:Row):Nat.beq (ao r) 2=r.eR:=by
 induction r using Row.casesOn with
 |dg l=>
  have hk:ao (.dg l)=nA (kindB l):=by rw[ao];rfl
  rw[hk]
  rcases bA l with h|h|h|h<;>rw[h]<;>rfl
 |_=>unfold ao;rfl
theorem Gf(r:Row):ao r<4:=by
 induction r using Row.casesOn with
 |dg l=>
  have hk:ao (.dg l)=nA (kindB l):=by rw[ao];rfl
  rw[hk]
  rcases bA l with h|h|h|h<;>rw[h]<;>decide
 |_=>unfold ao;decide
theorem zu{d:Nat}:∀(l:List Row) (f:Bool),bB d f l=true->Ig f (dM l)=true:=by
 intro l_
 induction l_ with
 |nil=>
  intro f h
  exact rfl
 |cons r l ih=>
  intro f h
  refine aJ h λh1 h2=>?_
  refine aJ h1 λh3 h4=>?_
  unfold dM Ig
  rw[rQ,h3,ih _ h2,Nat.ble_eq_true_of_le (Nat.le_of_lt_succ (Gf r))]
  rfl
theorem rh(d:Nat)(a b:Int):aK d a b=dJ (aD d) (dI a b 4).1 true (dI a b 4).2.1 (dI a b 4).2.2:=by
 induction d using Nat.casesOn<;>rfl
structure Made(d:Nat)(row:Bool->Int->Int->Row×Int×Int):Prop where
 fit:∀f a b,0<=a->0<=b->cj d (row f a b).1=true
 tell:∀a b,(row false a b).1.eR=false
 pos:∀f a b,0<=a->0<=b->0<=(row f a b).2.1/\0<=(row f a b).2.2
theorem rD{d:Nat}{row:Bool->Int->Int->Row×Int×Int}(h:Made d row):∀(m:Nat) (f:Bool) (a b:Int),0<=a->0<=b->bB d f (dJ row m f a b).1=true/\(dJ row m f a b).1.length=m/\0<=(dJ row m f a b).2.1/\0<=(dJ row m f a b).2.2:=by
 intro l_
 induction l_ with
 |zero=>
  intro f a b ha hb
  exact⟨by rfl,rfl,ha,hb⟩
 |succ m ih=>
  intro f a b ha hb
  refine ae (h.pos f a b ha hb) λp1 p2=>?_
  have hf:=h.fit f a b ha hb
  have ht:(f||!(row f a b).1.eR)=true:=by
   induction f with
   |true=>rfl
   |false=>rw[h.tell];rfl
  refine dH (ih (f&&!(row f a b).1.eR) _ _ p1 p2) λi1 i2 i3 i4=>?_
  refine⟨?_,?_,i3,i4⟩
  ·show bB d f ((row f a b).1::(dJ row m (f&&!(row f a b).1.eR) (row f a b).2.1 (row f a b).2.2).1)=true
   unfold bB
   rw[ht,hf,i1]
   rfl
  ·show((row f a b).1::(dJ row m (f&&!(row f a b).1.eR) (row f a b).2.1 (row f a b).2.2).1).length=m+1
   rw[List.length_cons,i2]
theorem uD(d:Nat)(deep:Bool)(dg:Int->Int->List Row×Int×Int)(h:deep=true->∃d',d=d'+1/\∀a b,0<=a->0<=b->bB d' true (dg a b).1=true/\(dg a b).1.length<=3/\0<=(dg a b).2.1/\0<=(dg a b).2.2):Made d (jM dg deep):=by
 have leaf:∀r:Row,(∀l,r≠ .dg l)->cj d r=true:=λr hr=>f7 hr
 refine⟨λf a b ha hb=>?_,λa b=>?_,λf a b ha hb=>?_⟩
 ·obtain⟨w,a1,b1,hs,hw,oh,nk⟩:=aP a b 9 ha hb (by decide)
  unfold jM
  rw[hs]
  match w,hw with
  |0,_=>exact leaf _ λl e=>by cases e
  |1,_=>(first|exact no f|exact nf f|subst f|obtain rfl:=ai f|induction f)<;>exact leaf _ λl e=>by cases e
  |2,_=>exact leaf _ λl e=>by cases e
  |3,_=>exact leaf _ λl e=>by cases e
  |4,_=>exact leaf _ λl e=>by cases e
  |5,_=>
   induction deep with
   |false=>exact leaf _ λl e=>by cases e
   |true=>
    refine ab (h rfl) λd' aU hh=>?_;subst aU
    refine cZ (hh a1 b1 oh nk) λh1 h2 y1=>?_
    show cj (d'+1) (.dg (dg a1 b1).1)=true
    unfold cj
    show(Nat.ble _ 3&&_)=true
    rw[h1,Nat.ble_eq_true_of_le h2];rfl
  |6,_=>
   induction deep with
   |false=>exact leaf _ λl e=>by cases e
   |true=>
    refine ab (h rfl) λd' aU hh=>?_;subst aU
    refine cZ (hh a1 b1 oh nk) λh1 h2 y1=>?_
    show cj (d'+1) (.dg (dg a1 b1).1)=true
    unfold cj
    show(Nat.ble _ 3&&_)=true
    rw[h1,Nat.ble_eq_true_of_le h2];rfl
  |7,_=>exact leaf _ λl e=>by cases e
  |8,_=>exact leaf _ λl e=>by cases e
  |_+9,hw=>exact fj ‹_›
 ·unfold jM
  generalize dI a b 9=q
  obtain⟨w,a1,b1⟩:=q
  match w with
  |0=>rfl
  |1=>rfl
  |2=>rfl
  |3=>rfl
  |4=>rfl
  |5=>induction deep<;>rfl
  |6=>induction deep<;>rfl
  |_+7=>rfl
 ·obtain⟨w,a1,b1,hs,hw,oh,nk⟩:=aP a b 9 ha hb (by decide)
  unfold jM
  rw[hs]
  match w,hw with
  |0,_=>exact⟨oh,nk⟩
  |1,_=>induction f<;>exact⟨oh,nk⟩
  |2,_=>exact⟨oh,nk⟩
  |3,_=>exact⟨oh,nk⟩
  |4,_=>exact⟨oh,nk⟩
  |5,_=>
   induction deep with
   |false=>exact⟨oh,nk⟩
   |true=>
    refine ab (h rfl) λd' aU hh=>?_;subst aU
    exact(hh a1 b1 oh nk).2.2
  |6,_=>
   induction deep with
   |false=>exact⟨oh,nk⟩
   |true=>
    refine ab (h rfl) λd' aU hh=>?_;subst aU
    exact(hh a1 b1 oh nk).2.2
  |7,_=>exact⟨oh,nk⟩
  |8,_=>exact⟨oh,nk⟩
  |_+9,hw=>exact fj ‹_›
theorem eH{d:Nat}(h:Made d (aD d))(a b:Int)(ha:0<=a)(hb:0<=b):bB d true (aK d a b).1=true/\(aK d a b).1.length<=3/\0<=(aK d a b).2.1/\0<=(aK d a b).2.2:=by
 refine cZ (gS a b 4 ha hb (by decide)) λh1 h2 h3=>?_
 rw[rh]
 refine dH (rD h (dI a b 4).1 true _ _ h1 h2) λi1 i2 i3 i4=>?_
 exact⟨i1,by omega,i3,i4⟩
theorem made:∀d,Made d (aD d)
 |0=>uD 0 false (λa b=>([],a,b)) λh=>by exact nf h
 |d+1=>uD (d+1) true (aK d) λζ=>⟨d,rfl,λa b ha hb=>eH (made d) a b ha hb⟩
theorem Ap{d:Nat}{l:List Item}:∀(m:Nat) (f:Bool) (a b:Int),0<=a->0<=b->aB (dJ (aD d) m f a b).2.1 (dJ (aD d) m f a b).2.2 l->aB a b (kN d f (dM (dJ (aD d) m f a b).1) l):=by
 intro l_
 induction l_ with
 |zero=>
  intro f a b ha hb h
  exact h
 |succ m ih=>
  intro f a b ha hb h
  refine ae ((made d).pos f a b ha hb) λp1 p2=>?_
  have ih:=ih (f&&!(aD d f a b).1.eR) _ _ p1 p2 h
  show aB a b (.row d f (ao (aD d f a b).1) (aD d f a b).1::kN d (f&&!(Nat.beq (ao (aD d f a b).1) 2)) (dM (dJ (aD d) m (f&&!(aD d f a b).1.eR) (aD d f a b).2.1 (aD d f a b).2.2).1) l)
  rw[rQ]
  exact⟨rfl,rfl,ha,hb,ih⟩
theorem Cv{d:Nat}{s:Int}{l':List Row}{l:List Item}(hd:Nat.ble d 1=true)(hf:bB d true l'=true)(hl:l'.length<=3):RA (fO d s (dM l') l) (w7 d (kindB l') s l' l):=by
 unfold fO
 rw[nh,show cW (cR l') false=kindB l' from rfl,wD]
 have hk:ao (.dg l')=nA (kindB l'):=by rw[ao];rfl
 have xA:cj (d+1) (.dg l')=true:=by
  show(Nat.ble _ 3&&_)=true
  rw[hf,Nat.ble_eq_true_of_le hl];rfl
 have ht:VA (.tup [aY,.int s,.tup (kM d s 0 (dM l'))]) (.held (d+1) (nA (kindB l')) s (.dg l')):=by
  refine VA.trans (VA.tup (.cons (.refl _) (.cons (.refl _) (.cons (.tup (mY d s l' 0)) (.refl _))))) ?_
  rw[←pZ]
  exact .held hk.symm xA
 have hp:VA (.tup [aY,.int s,.tup (rf s 0 (dM l'))]) (.tup [aY,.int s,.b9 s l']):=.tup (.cons (.refl _) (.cons (.refl _) (.cons (VA.trans (.tup (wj s l' 0)) (.b9 (mN _ _ _ hd hf) hl)) (.refl _))))
 rcases bA l' with h|h|h|h<;>rw[h] at ht ⊢
 ·exact .ok (.tup (.cons ht (.refl _))) (HA.refl _)
 ·exact .ok (.tup (.cons ht (.refl _))) (HA.refl _)
 ·exact .ok (.tup (.cons ht (.refl _))) (HA.refl _)
 ·exact .ok (.tup (.cons ht (.cons hp (.refl _)))) (HA.refl _)
theorem u9{d n:Nat}(hd:Nat.ble d 1=true)(h:∀(s:Int) (l:List Item) (ks:List (Nat×Row)),ks.length<=3->Ig true ks=true->aW G n dp [.obj 0,.int s,.int (.ofNat d)] [.av (.draw 4 ks.length::kN d true ks l)] (fO d s ks l)):n4 G n d:=by
 intro s k l' l
 refine aW.eQ λa b ht=>?_
 refine rR ht ?_;clear ht;intro hr hk ha hb hl
 refine dH (eH (made d) a b ha hb) λm1 m2 m3 m4=>?_
 rw[hr] at m1 m2
 subst hk
 have e:=(h s l (dM l') (by rw[kR];exact m2) (zu l' true m1)).alike (Cv (s:=s) (l:=l) hd m1 m2)
 refine⟨_,.inr ⟨_,?_,rfl⟩,e⟩
 refine cZ (gS a b 4 ha hb (by decide)) λh1 h2 h3=>?_
 rw[rh] at hr hl
 have hlen:=(rD (made d) (dI a b 4).1 true _ _ h1 h2).2.1
 have ih:=Ap (d:=d) (dI a b 4).1 true _ _ h1 h2 hl
 rw[hr] at ih hlen
 exact⟨by decide,ha,hb,by rw[kR,hlen],ih⟩
theorem NM(g:Good G):n4 G 250 0:=u9 (by rfl) λs l ks h1 h2=>BY g s l (eM (aq g (by decide)) (oP (NG g) (Nat.le_refl 150))) ks h1 h2
theorem PK(g:Good G):Cn G 340 1:=by
 intro s free k r l
 have oo:=eM (aq g (show 60<=250 by decide)) (sS (NM g) (Nat.le_refl 250))
 refine aW.eQ λa b ht=>?_
 refine rR ht ?_;clear ht;intro hr hk ha hb hl
 obtain⟨w,a1,b1,hs,hw,oh,nk⟩:=aP a b 9 ha hb (by decide)
 have dr:=λX (h:aB a1 b1 X)=>aB.draw hs (by decide) ha hb h
 have hd:150<=340:=by decide
 have low:∀{q:Rs V} {H:List Ob},aW G (90+60) aO [.obj 0,.int s,.int (.ofNat 1),.bool free] H q->RA q (eV 1 (ao r) s r l)->aW G 340 aO [.obj 0,.int s,.int (.ofNat 1),.bool free] H (eV 1 k s r l):=λe h=>(dP e h hk).more hd
 match w,hw with
 |0,_=>
  have e:aD 1 free a b=(.bad,a1,b1):=congrArg (gK (aK 0) true free) hs
  rw[e] at hr hl
  subst hr
  exact⟨_,.inr ⟨_,dr _ hl,rfl⟩,low (SE g s 1 free l) (DZ 1 s l)⟩
 |1,_=>
  induction free with
  |true=>
   have e:aD 1 true a b=(.dZ,a1,b1):=congrArg (gK (aK 0) true true) hs
   rw[e] at hr hl
   subst hr
   exact⟨_,.inr ⟨_,dr _ hl,rfl⟩,low (J' g s 1 l) (x7 1 s l)⟩
  |false=>
   have e:aD 1 false a b=(.call,a1,b1):=congrArg (gK (aK 0) true false) hs
   rw[e] at hr hl
   subst hr
   exact⟨_,.inr ⟨_,dr _ hl,rfl⟩,low (Ku g s 1 l) (gw 1 s l)⟩
 |2,_=>
  have e:aD 1 free a b=(.fT,a1,b1):=congrArg (gK (aK 0) true free) hs
  rw[e] at hr hl
  subst hr
  exact⟨_,.inr ⟨_,dr _ hl,rfl⟩,low (Up g s 1 free l) (xN 1 s l)⟩
 |3,_=>
  have e:aD 1 free a b=(.blank,a1,b1):=congrArg (gK (aK 0) true free) hs
  rw[e] at hr hl
  subst hr
  exact⟨_,.inr ⟨_,dr _ hl,rfl⟩,low (Wi g s 1 free l) (l9 1 s l)⟩
 |4,_=>
  have e:aD 1 free a b=(.blank,a1,b1):=congrArg (gK (aK 0) true free) hs
  rw[e] at hr hl
  subst hr
  exact⟨_,.inr ⟨_,dr _ hl,rfl⟩,low (TS g s 1 free l) (l9 1 s l)⟩
 |5,_=>
  have e:aD 1 free a b=(.dg (aK 0 a1 b1).1,(aK 0 a1 b1).2.1,(aK 0 a1 b1).2.2):=congrArg (gK (aK 0) true free) hs
  have xA:=(made 1).fit free a b ha hb
  rw[e] at hr hl xA
  subst hr
  rw[hk]
  exact⟨_,.inr ⟨_,dr (.block 0 (kindB (aK 0 a1 b1).1) (aK 0 a1 b1).1::l) ⟨rfl,rfl,oh,nk,hl⟩,rfl⟩,yT g oo s free l _ xA⟩
 |6,_=>
  have e:aD 1 free a b=(.dg (aK 0 a1 b1).1,(aK 0 a1 b1).2.1,(aK 0 a1 b1).2.2):=congrArg (gK (aK 0) true free) hs
  have xA:=(made 1).fit free a b ha hb
  rw[e] at hr hl xA
  subst hr
  rw[hk]
  exact⟨_,.inr ⟨_,dr (.block 0 (kindB (aK 0 a1 b1).1) (aK 0 a1 b1).1::l) ⟨rfl,rfl,oh,nk,hl⟩,rfl⟩,Ag g oo s free l _ xA⟩
 |7,_=>
  have e:aD 1 free a b=(.call,a1,b1):=congrArg (gK (aK 0) true free) hs
  rw[e] at hr hl
  subst hr
  exact⟨_,.inr ⟨_,dr _ hl,rfl⟩,low (TZ g s 1 free l) (gw 1 s l)⟩
 |8,_=>
  have e:aD 1 free a b=(.call,a1,b1):=congrArg (gK (aK 0) true free) hs
  rw[e] at hr hl
  subst hr
  exact⟨_,.inr ⟨_,dr _ hl,rfl⟩,low (XM g s 1 free l) (gw 1 s l)⟩
 |_+9,h=>exact fj ‹_›
theorem OK(g:Good G):n4 G 440 1:=u9 (by rfl) λs l ks h1 h2=>Du g s l (eM (aq g (by decide)) (oP (PK g) (Nat.le_refl 340))) ks h1 h2
end
end
end Mine
namespace Mine
section
open PySem PySem.W PySem.Calls PyProof.Rows
section
variable{G:Gc}{c:Fc}{s:Shared}{h h':Heap}{m m':Str->Option Value}{ν:List Addr}{Mu:List Obj}{I:Led}{ρ:ah}{H H':List Ob}{n k:Nat}{sc:Sc}
noncomputable abbrev Fc.turn(c:Fc)(g:Heap):Fc:=⟨c.A,c.A₀,c.base,g,c.outer,c.dK,c.env⟩
noncomputable abbrev Fc.fs(c:Fc):List Addr:=c.outer.filterMap (·.frame)
structure Turn(c:Fc)(g:Heap):Prop where
 B:Below c.A₀ c.base c.outer g
 fr:∀b∈c.fs,∀o,c.h₀.get? b=some o->∃sl,g.get? b=some {o with slots:=sl}
 big:sysModules<g.objs.size
theorem Turn.refl(ok:c.Ok G n)(S:St G c h m ν Mu I H):Turn c c.h₀:=⟨ok.B,λb ζ o q=>⟨o.slots,q⟩,S.big⟩
theorem Turn.trans{g g':Heap}(x:Turn c g)(y:Turn (c.turn g) g'):Turn c g':=⟨y.B,λb hb o q=>by
 refine bF (x.fr b hb o q) λsl h1=>?_
 refine bF (y.fr b hb _ h1) λsl' h2=>?_
 exact⟨sl',h2⟩,y.big⟩
theorem Fc.Ok.turn(ok:c.Ok G n)(hb:Based G c.base){g:Heap}(x:Turn c g):(c.turn g).Ok G n where
 fr:=ok.fr
 B:=x.B
 ff:=ok.ff
 fk:=ok.fk
 ek:=ok.ek
 eg:=ok.eg
 eb:=ok.eb
 yF:=ok.yF
 X:=hb.keeps x.B.stays
 dep:=ok.dep
 un:=ok.un
 hd:=ok.hd
theorem uG{A₀:Around}{base h₀ h':Heap}{outer:List Env}(B:Below A₀ base outer h₀)(hb:base.StaysIn h')
  (hf:∀b∈outer.filterMap (·.frame),∀o,h₀.get? b=some o->∃sl,h'.get? b=some {o with slots:=sl}):
  ∃g,Below A₀ base outer g/\(∀b∈outer.filterMap (·.frame),∀o,h₀.get? b=some o->∃sl,g.get? b=some {o with slots:=sl})/\g.objs.size=h₀.objs.size/\
   (∀b o,g.get? b=some o->h'.get? b=some o)/\∀b o,g.get? b=some o->b∈outer.filterMap (·.frame)∨base.get? b=some o:=by
 let fs:=outer.filterMap (·.frame)
 let dead:=(List.range h₀.objs.size).filter (λb=>(base.get? b).isNone&&!(decide (b∈fs)))
 have dn:∀b,b∈dead->base.get? b=none/\b∉fs:=λb hm=>by
  refine ae (List.mem_filter.mp hm) λy1 h2=>?_
  simp only[Bool.and_eq_true,Option.isNone_iff_eq_none,Bool.not_eq_true',decide_eq_false_iff_not] at h2
  exact h2
 have live:∀b o,(hideAll h₀ dead).get? b=some o->b∉fs->base.get? b=some o:=λb o q nm=>by
  have ZT:=of_hideAll dead q
  cases e:base.get? b with
  |none=>
   have hm:b∈dead:=List.mem_filter.mpr ⟨List.mem_range.mpr (Heap.lt_size ZT),by simp[e,nm]⟩
   rw[hideAll_none dead hm] at q
   exact no q
  |some o'=>
   have:=B.stays b o' e
   rw[ZT] at this
   obtain rfl:=ai this
   rfl
 have Nr:∀b∈fs,∀o,h₀.get? b=some o->(hideAll h₀ dead).get? b=some o:=λb hb o q=>hideAll_get dead q λhm=>(dn b hm).2 hb
 obtain⟨T,S⟩:=kts_turn_at (h:=h') (fs:=fs) (g:=hideAll h₀ dead)
  (λb hb=>by
   obtain⟨_,o,ho,_⟩:=B.frames.mem hb
   exact⟨o,Nr b hb o ho⟩)
  (λb o q nm=>hb b o (live b o q nm))
  (λb o q hm=>hf b hm o (of_hideAll dead q))
 refine⟨_,⟨B.stack,λb o q=>T.other b o (hideAll_get dead (B.stays b o q) λhm=>by
  rw[(dn b hm).1] at q;exact no q) (λhm=>by rw[(B.frames.mem hm).1] at q;exact no q),?_⟩,λb hb o q=>T.frame b o (Nr b hb o q) hb,by rw[T.size,hideAll_size],S,λb o q=>?_⟩
 ·refine(funFrames_hideAll (as:=dead) B.frames λenv he b hb hf=>?_).of_keeps λb o q ζ=>?_
  ·exact(dn b hb).2 (List.mem_filterMap.mpr ⟨env,he,hf⟩)
  ·refine bF (T.up q) λsl hs=>?_
   exact⟨_,hs,rfl⟩
 ·by_cases hm:b∈fs
  ·exact .inl hm
  ·refine .inr ?_
   cases e:(hideAll h₀ dead).get? b with
   |none=>rw[T.none_ b e] at q;exact no q
   |some o'=>
    have:=T.other b o' e hm
    rw[q] at this
    cases this
    exact live b o e hm
section
variable(G)
def OO(c:Fc)(m:Str->Option Value)(ν:List Addr)(I:Led)(Q:Value->Shared->Prop)(s:Shared)(v:V)(H':List Ob):Prop:=
 ∀g h' ak aa aw I' u,Turn c g->Ext ν aa I I'->St G (c.turn g) h' m aa aw I' H'->Rep G.K aa I' u v->Q u {s with heap:=h',toks:=ak}
def jj(n:Nat)(sc:Sc)(e:Expr)(ρ:ah)(H:List Ob)(v:V)(H':List Ob):Prop:=
 ∀c s m ν Mu I Q E,c.Ok G n->Based G c.base->cM c sc ν->St G c s.heap m ν Mu I H->Loc G c m ν I ρ->OO G c m ν I Q s v H'->wpAny G.M c.A (eval e c.env) Q E s
def iY(n:Nat)(sc:Sc)(e:Expr)(ρ:ah)(H:List Ob)(b:Bool)(H':List Ob):Prop:=
 ∀c s m ν Mu I Q E,c.Ok G n->Based G c.base->cM c sc ν->St G c s.heap m ν Mu I H->Loc G c m ν I ρ->
  (∀g h' ak aa aw I',Turn c g->Ext ν aa I I'->St G (c.turn g) h' m aa aw I' H'->Q b {s with heap:=h',toks:=ak})->wpAny G.M c.A (isTrue e c.env (eval e c.env)) Q E s
def cD(n:Nat)(sc:Sc)(ss:List Stmt)(ρ:ah)(H:List Ob)(v:V)(H':List Ob):Prop:=
 ∀c s m ν Mu I Q E,c.Ok G n->Based G c.base->c.env=c.dK->cM c sc ν->St G c s.heap m ν Mu I H->cC G.K m ν I ρ->
  (∀g h' ak m' aa aw I' u,Turn c g->Ext ν aa I I'->St G (c.turn g) h' m' aa aw I' H'->Rep G.K aa I' u v->Q (.ret u) {s with heap:=h',toks:=ak})->wpAny G.M c.A (execs ss c.env) Q E s
def bx(n:Nat)(a:Addr)(vs:List V)(H:List Ob)(v:V)(H':List Ob):Prop:=
 ∀c s m ν Mu I us R,c.Ok G n->Based G c.base->St G c s.heap m ν Mu I H->ag G.K ν I us vs->
  (∀g h' ak aa aw I' u,Turn c g->Ext ν aa I I'->St G (c.turn g) h' m aa aw I' H'->Rep G.K aa I' u v->R (.ok (.ret u)) {s with heap:=h',toks:=ak})->codeAny G.M c.A (.call (.ref a) ⟨us,[]⟩) R s
end
theorem St.f6(S:St G c h m ν Mu I H):St G (c.turn c.h₀) h m ν Mu I H:=⟨S.F,S.N,S.nd,S.eP,S.len,S.aT,S.ob,S.big,S.low⟩
theorem dA.rq{e:Expr}{v:V}(x:dA G n sc e ρ H (.ok v H')):jj G n sc e ρ H v H':=λc s m ν Mu I Q E ok hb au S l post=>
 x c s m ν Mu I ok au S l Q E λh' ak aa aw I' u e S' r=>post c.h₀ h' ak aa aw I' u (.refl ok S) e S'.f6 r
theorem oz.rq{e:Expr}{v:Bool}(x:oz G n sc e ρ H (.ok v H')):iY G n sc e ρ H v H':=λc s m ν Mu I Q E ok hb au S l post=>
 x c s m ν Mu I Q E ok au S l λh' ak aa aw I' e S'=>post c.h₀ h' ak aa aw I' (.refl ok S) e S'.f6
theorem aW.rq{a:Addr}{vs:List V}{v:V}(x:aW G n a vs H (.ok v H')):bx G n a vs H v H':=λc s m ν Mu I us R ok hb S rs post=>
 x c s m ν Mu I us R ok S rs λh' ak aa aw I' u e S' r=>post c.h₀ h' ak aa aw I' u (.refl ok S) e S'.f6 r
theorem gJ.rq{ss:List Stmt}{qi:ah}{v:V}(x:gJ G n sc ss ρ H (.ok (qi,some v) H')):cD G n sc ss ρ H v H':=λc s m ν Mu I Q E ok hb he au S l post=>
 x c s m ν Mu I Q E ok he au S l λh' ak m' aa aw I' e S' k u r=>post c.h₀ h' ak m' aa aw I' u (.refl ok S) e S'.f6 r
theorem cM.turn{g:Heap}(x:cM c sc ν):cM (c.turn g) sc ν:=⟨x.ns,x.cells,x.code⟩
theorem Loc.turn{g:Heap}(l:Loc G c m ν I ρ):Loc G (c.turn g) m ν I ρ:=by
 cases l with
 |top h k=>exact .top h k
 |comp o m' h hn k=>exact .comp o m' h hn k
end
section
set_option backward.match.sparseCases true
section
variable{prog:Program}{w:World}{A₀ A:Around}{s:Shared}{base h₀:Heap}{outer:List Env}{L:Addr}{m:Str->Option Value}{env:Env}{news:List (Addr×Obj)}
 {R:Result->Shared->Prop} {name qual:Str} {params:Arguments} {body:List Stmt} {scope:Scope} {dV kV doc pm jt ct:Value} {an:Option Addr} {fo:Obj} {f:Addr} {args:Args} {binds:List (Str×Value)}
theorem Aj(B:Below A₀ base outer h₀)(F:Fr h₀ L s.heap m)(N:News h₀ L s.heap news)(Ew:h₀.NoLimit)(hA:A.frames=some (env::outer))(hf:env.frame=some L)(hke:env.scope.kind=.function)
  (ho:s.heap.get? f=some fo) (hd:fo.data=.func (fnX name qual params body scope [] dV kV doc pm an jt ct)) (mS:s.heap.CodeRec jt qual) (ZU:A.depth<recursionLimit)
  (mh:BindsTo s (fnX name qual params body scope [] dV kV doc pm an jt ct) args binds)
  (fC:∀n,∀x∈binds,scope.names.lookup x.1=some .local∨(scope.names.lookup x.1=some .cell/\((cellsFrom n scope.names []).lookup x.1).isSome=true))
  (Ju:((cellsFrom 0 scope.names []).map (·.1)).Nodup)
  (h:∀g L' bg tk cells,Fr h₀ L g m->Fr g L' bg (bindL (envOfC qual scope L' f jt).kindOf binds λζ=>none)->News g L' bg (cells++news)->
   CellsAre (bindC (envOfC qual scope L' f jt).kindOf binds λζ=>none) (cellsFrom (L'+1) scope.names []) cells->Below A base (env::outer) g->h₀.StaysIn g->(∀p∈news,p.1<L')->
   wpAny (model prog w) (A.deeper (envOfC qual scope L' f jt)) (execs body (envOfC qual scope L' f jt))
    (λfl s'=>R (.ok (.ret (match fl with|.ret v=>v|_=>.none))) s')
    (λe s'=>wpAny (model prog w) (A.deeper (envOfC qual scope L' f jt)) («leaving» (envOfC qual scope L' f jt) e) (λζ QV=>R (.error e) QV) (λe' QV=>R (.error e') QV) s')
    {s with heap:=bg,toks:=tk})
  (D5:scope.isCoroutine=false:=by rfl) (D6:scope.isGenerator=false:=by rfl) (hk:scope.kind=.function:=by rfl):codeAny (model prog w) A (.call (.ref f) args) R s:=by
 refine dH (groundX (R:=R) B F N hA hf hke) λFG BG st lv=>?_
 refine codeAny_call_function ZU ho hd D5 D6 rfl mS (mh _ _ _ _ ?_)
 refine wpAny_newFunctionEnv_cells hk (fC _) λae6 he s' x=>?_
 subst he
 refine⟨(Ew.keeps F.keep).keeps x.toInCall.keep,codeAny_func ?_⟩
 refine cz x.done λbg tk aU y2=>?_;subst aU
 have nq:=x.toInCall.keep
 refine ab (Cl.news (h₀:=s.heap) (Nat.le_refl _) λn c hm=>⟨x.cell n c (lookup_of_mem_nodup (cellsFrom_names scope.names 0 (s.heap.objs.size+1) [] [] rfl▸Ju) hm),x.above n c hm⟩) λcells NC Y=>?_
 refine wpAny_mono (h _ s.heap.objs.size bg tk cells FG ⟨x.toInCall.ns,λb o e=>nq b o (of_hideAll _ e),Nat.le_of_eq (hideAll_size _ _)⟩ (λp hp=>?_) Y BG st (λp hp=>Heap.lt_size (N p hp).1)) (λfl s' hl=>hl) λζ ζ y=>y
 rcases List.mem_append.mp hp with hp|hp
 ·refine⟨(NC p hp).1,(NC p hp).2.1,?_⟩
  cases q:(hideAll s.heap (news.map (·.1))).get? p.1 with
  |none=>rfl
  |some o=>have:=of_hideAll _ q;rw[(NC p hp).2.2] at this;exact no this
 ·exact⟨nq _ _ (N p hp).1,Nat.ne_of_lt (Heap.lt_size (N p hp).1),hideAll_none _ (List.mem_map_of_mem hp)⟩
end
variable{G:Gc}{c:Fc}{s:Shared}{h h':Heap}{m m':Str->Option Value}{ν:List Addr}{Mu:List Obj}{I:Led}{ρ:ah}{H H':List Ob}{n k:Nat}{sc:Sc}
theorem y7(ok:c.Ok G n){g g':Heap}{e:Env}(FG:Fr c.h₀ c.L g m)(big:sysModules<c.h₀.objs.size)(T:Turn (inner c g e) g')(S':St G ((inner c g e).turn g') h' m' ν Mu I H):
  ∃JF,Turn c JF/\St G (c.turn JF) h' m ν Mu I H:=by
 obtain⟨oL,es,ep,z1,z2,z3,z4⟩:=FG.ns
 have hfs:∀b,b∈c.fs->b∈(inner c g e).fs:=λb hb=>by
  show b∈(c.dK::c.outer).filterMap (·.frame)
  rw[List.filterMap_cons,ok.ff]
  exact .tail _ hb
 have hLm:c.L∈(inner c g e).fs:=by
  show c.L∈(c.dK::c.outer).filterMap (·.frame)
  rw[List.filterMap_cons,ok.ff]
  exact .head _
 have hg:∀b∈c.fs,∀o,c.h₀.get? b=some o->∃sl,g'.get? b=some {o with slots:=sl}:=λb hb o q=>T.fr b (hfs b hb) o (FG.keep b o q)
 obtain⟨sl,hL⟩:=T.fr c.L hLm oL z1
 obtain⟨JF,B'',ae7,sz,sub,lim⟩:=uG ok.B (h':=h') (λb o q=>S'.F.keep b o (T.B.stays b o q)) (λb hb o q=>by
  obtain⟨sl,q'⟩:=hg b hb o q
  exact⟨sl,S'.F.keep _ _ q'⟩)
 refine⟨JF,⟨B'',ae7,by rw[sz];exact big⟩,⟨⟨⟨_,es,ep,S'.F.keep _ _ hL,z2,z3,z4⟩,sub,by show JF.objs.size<=c.L;rw[sz];exact FG.above⟩,λp hp=>⟨(S'.N p hp).1,λq=>?_,?_⟩,S'.nd,S'.eP,S'.len,S'.aT,S'.ob,by show sysModules<JF.objs.size;rw[sz];exact big,S'.low⟩⟩
 ·have:=(S'.N p hp).2.2
  rw[q] at this
  have hL':((inner c g e).turn g').h₀.get? c.L=some {oL with slots:=sl}:=hL
  rw[hL'] at this
  cases this
 ·cases q:JF.get? p.1 with
  |none=>rfl
  |some o=>
   have hn:g'.get? p.1=none:=(S'.N p hp).2.2
   rcases lim _ _ q with hm|hm
   ·obtain⟨_,o',qk,_⟩:=ok.B.frames.mem hm
    obtain⟨sl',q'⟩:=hg _ hm o' qk
    rw[hn] at q'
    exact no q'
   ·have:=T.B.stays _ _ hm
    rw[hn] at this
    exact no this
theorem uW(gk:ko G){a:Addr}{f:nZ}{vs:List V}{b:ah}{v:V}(hf:jL a G.cf.fn=some f)(hb:eU f.me f.ps vs=some b)
  (h:cD G n ⟨f.scope.names,cG H.length (ax f.scope.names []),some (f.code,f.qual++ ".<locals>.")⟩ f.body (bu f.scope.names b) (H++cK b (ax f.scope.names [])) v H'):bx G (n+1) a vs H v H':=by
 rintro c s m ν Mu I us R ok kI S rs post
 refine ae (gk.fn a f hf) λFO y1=>?_
 obtain⟨oc,od,osl,name,qual,params,dV,kV,doc,pm,jt,ct,an,ho,mS,YV,eq,YW⟩:=FO.ex
 have X:=ok.X.X.keeps S.F.keep
 refine bH (YW s us vs b ν I X rs hb) λbinds mh vB MZ=>?_
 have M0:=iX hb
 have vC:∀k,(cellsFrom k f.scope.names []).map (·.1)=ax f.scope.names []:=λk=>d9 f.scope.names k []
 have M1:(binds.map (·.1)).Nodup:=by rw[vB,M0];exact FO.nd
 refine Aj (outer:=c.outer) ok.B S.F S.N ok.X.lim ok.fr ok.ff ok.fk (X _ _ ho) rfl (codeRec_of X mS) (Nat.lt_of_le_of_lt (m:=900) (by have:=ok.dep;exact Mm ‹_›) (by decide)) mh (λk x hx=>?_) (by rw[vC];exact FO.cnd)
  (λg L' bg tk cells kD gj jn Y Jq st kf=>?_) FO.co FO.gen FO.kind
 ·have qQ:x.1∈f.ps:=by rw[←M0,←vB];exact List.mem_map_of_mem hx
  rcases FO.loc x.1 qQ with q|q
  ·exact .inl q
  ·exact .inr ⟨q,dv (by rw[vC];exact gN _ _ (.inr q))⟩
 ·let e:Env:=envOfC qual f.scope L' a jt
  let c':Fc:=inner c g e
  have hL:sysModules<L':=Nat.lt_of_lt_of_le (Nat.lt_trans (Nat.lt_of_lt_of_le S.big kD.above) kD.ns.lt) gj.above
  have M3:sysModules<g.objs.size:=Nat.lt_trans (Nat.lt_of_lt_of_le S.big kD.above) kD.ns.lt
  have qn:c'.Ok G n:={
   fr:=Around.frames_deeper ok.fr
   B:=Jq
   ff:=rfl
   fk:=FO.kind
   ek:=FO.kind
   eg:=rfl
   eb:=rfl
   yF:=rfl
   X:=ok.X.keeps st
   dep:=by have:=ok.dep;show c.A.depth+1+n<=900;exact om2 ‹_›
   un:=by have:=ok.un;show c.A.units+3+8*n<=9000;exact om4 ‹_› (by decide)
   hd:=ok.hd}
  have jT:St G c' bg _ ν Mu I H:=⟨gj,λp hp=>jn p (List.mem_append_right _ hp),S.nd,S.eP,S.len,S.aT,S.ob,M3,S.low⟩
  refine cZ (mB Y) λy1 y2 y3=>?_
  have cs:=gH f.scope.names (L'+1) [] .nil (λζ hp=>nomatch hp)
  have yJ:∀p∈cells,L'+1<=p.1:=λp hp=>by
   have hm:p.1∈(cellsFrom (L'+1) f.scope.names []).map (·.2):=by rw[←y1];exact List.mem_map_of_mem hp
   refine ab (List.mem_map.mp hm) λq hq e=>?_
   rcases cs.2 q hq with q'|q'
   ·cases q'
   ·rw[←e];exact q'
  have dR:=jT.many cells (cK b (ax f.scope.names [])) (λp hp=>jn p (List.mem_append_left _ hp)) (by rw[y1];exact cs.1) (λp hp=>⟨λhm=>?_,λq hq e=>?_,Nat.lt_trans hL (yJ p hp)⟩)
   (λi p o hp Jr=>?_) (by rw[y2,nY,←vC (L'+1),List.length_map])
  rotate_left
  ·obtain⟨i,hi,e⟩:=List.getElem_of_mem hm
   have h1:ν[i]?=some p.1:=by rw[List.getElem?_eq_getElem hi,e]
   have h2:Mu[i]?=some (Mu[i]'(S.len▸hi)):=List.getElem?_eq_getElem (S.len▸hi)
   exact Nat.lt_irrefl _ (Nat.lt_trans (kf _ (List.mem_append_left _ (dU h1 h2))) (yJ p hp))
  ·have h1:=kf q (List.mem_append_right _ hq)
   have h2:=yJ p hp
   rw[e] at h1
   exact Nat.lt_irrefl _ (Nat.lt_trans h1 h2)
  ·refine ab (sV b _ i o Jr) λx hx aU=>?_;subst aU
   have qQ:((cellsFrom (L'+1) f.scope.names []).map (·.1))[i]?=some x:=by rw[vC];exact hx
   have hd:=y3 i p x hp qQ
   have hk:(envOfC qual f.scope L' a jt).kindOf x=some .cell:=FO.cl x (List.mem_of_getElem? hx)
   cases q:bT x b with
   |some v=>
    refine ab (jZ vB MZ q) λu hu ru=>?_
    rw[lM binds _ M1 hu (by rw[hk];simp)] at hd
    exact .cell hd ru
   |none=>
    rw[j0 binds _ (by rw[vB];exact lL q)] at hd
    exact .mf hd
  have vD:cells.map (·.1)=(cellsFrom (L'+1) f.scope.names []).map (·.2):=y1
  have jU:Ext ν (ν++cells.map (·.1)) I I:=⟨⟨_,rfl⟩,λζ h=>h,λi a hi ha p hp e=>by
   rw[List.getElem?_append_right hi] at ha
   refine ab (List.mem_map.mp (List.mem_of_getElem? ha)) λq hq eq=>?_
   have h1:=kf p (List.mem_append_right _ hp)
   have h2:=yJ q hq
   rw[eq,←e] at h2
   exact Nat.lt_irrefl _ (Nat.lt_trans h1 h2)⟩
  have au:cM c' ⟨f.scope.names,cG H.length (ax f.scope.names []),some (f.code,f.qual++ ".<locals>.")⟩ (ν++cells.map (·.1)):=by
   refine⟨λx=>(cg x _).symm,λx i hi=>?_,λa q e=>by cases e;exact⟨YV,by rw[←eq];rfl⟩⟩
   have MV:bT x (cG H.length ((cellsFrom (L'+1) f.scope.names []).map (·.1)))=some i:=by rw[vC];exact hi
   refine bH (wC _ _ MV) λad h1 h2 h3=>?_
   refine⟨ad,h1,?_⟩
   rw[←S.aT] at h2 h3
   rw[List.getElem?_append_right h2,vD]
   exact h3
  have kn:cC G.K (bindL (envOfC qual f.scope L' a jt).kindOf binds λζ=>none) (ν++cells.map (·.1)) I (bu f.scope.names b):=λx v q=>by
   refine ae (kZ q) λq1 q2=>?_
   refine ab (jZ vB MZ q1) λu hu ru=>?_
   exact⟨u,lB binds _ M1 hu ((cg x _).symm.trans q2),ru.mono jU⟩
  refine h c' {s with heap:=bg,toks:=tk} _ _ _ I _ _ qn kI rfl au dR kn ?_
  intro g' h' ak m' aa aw I' u T x S' ru
  refine ab (y7 ok kD S.big T S') λJF T'' d7=>?_
  exact post JF h' ak aa aw I' u T'' (jU.trans x) d7 ru
end
section
variable{G:Gc}{c:Fc}{s:Shared}{h h':Heap}{m m':Str->Option Value}{ν:List Addr}{Mu:List Obj}{I:Led}{ρ bj eh:ah}{H JG H₁ aQ H':List Ob}{n k:Nat}{sc:Sc}{v w x y:V}{e a b:Expr}{pos:Pos}{ss:List Stmt}
theorem yA(h:jj G n sc e ρ H v H'):cD G n sc (.Return (some e) pos::ss) ρ H v H':=by
 rintro c s m ν Mu I Q E ok hb hc au S k post
 refine wpAny_execs_cons (wpAny_Return_some (h c s m ν Mu I _ _ ok hb au S (bO hc k) λg h' ak aa aw I' u T x S' ru=>?_))
 exact post g h' ak m aa aw I' u T x S' ru
theorem kU{st:Stmt}(h1:qH G n sc st ρ H (.ok (bj,none) H₁))(h2:cD G n sc ss bj H₁ v H'):cD G n sc (st::ss) ρ H v H':=by
 rintro c s m ν Mu I Q E ok hb hc au S k post
 refine wpAny_execs_cons (h1 c s m ν Mu I _ _ ok hc au S k λh' ak m' aa aw I' x S' k'=>?_)
 exact h2 c {s with heap:=h',toks:=ak} m' aa aw I' _ _ ok hb hc (au.mono x) S' k' λg bw bY Ey aV cF dk u T x' d7 ru=>post g bw bY Ey aV cF dk u T (x.trans x') d7 ru
theorem oU{z:Str}{ap:Pos}(hn:gf e=false)(h1:jj G n sc e ρ H w H₁)(hp:sc.put ρ H₁ z w=some (eh,aQ))(h2:cD G n sc ss eh aQ v H'):cD G n sc (.Assign [.Name z ap] e pos::ss) ρ H v H':=by
 rintro c s m ν Mu I Q E ok hb hc au S k post
 refine wpAny_execs_cons (wpAny_Assign_Name (h1 c s m ν Mu I _ _ ok hb au S (bO hc k) λg h' ak aa aw I' u T x S' ru=>?_) (eD hn))
 refine kK (c:=c.turn g) (s:={s with heap:=h',toks:=ak}) (ok.turn hb T) hc (au.mono x).turn S' (k.mono x) hp ru λa9 bq iy bM bZ gQ=>?_
 exact h2 (c.turn g) {s with heap:=a9,toks:=bq} iy aa bM I' _ _ (ok.turn hb T) hb hc (au.mono x).turn bZ gQ λg' bw bY Ey aV cF dk u T' x' d7 ru=>post g' bw bY Ey aV cF dk u (T.trans T') (x.trans x') d7 ru
theorem Ca{body:List Stmt}(h1:iY G n sc e ρ H false H₁)(h2:cD G n sc ss ρ H₁ v H'):cD G n sc (.If e body [] pos::ss) ρ H v H':=by
 rintro c s m ν Mu I Q E ok hb hc au S k post
 refine wpAny_execs_cons (wpAny_If (h1 c s m ν Mu I _ _ ok hb au S (bO hc k) λg h' ak aa aw I' T x S'=>?_))
 refine wpAny_execs_nil ?_
 exact h2 (c.turn g) {s with heap:=h',toks:=ak} m aa aw I' _ _ (ok.turn hb T) hb hc (au.mono x).turn S' (k.mono x) λg' bw bY Ey aV cF dk u T' x' d7 ru=>post g' bw bY Ey aV cF dk u (T.trans T') (x.trans x') d7 ru
theorem fR(gk:ko G){z:Str}{zp:Pos}{args:List Expr}{f:Addr}{fd:nZ}{vs:List V}(hs:noStar args=true)(hf:jL f G.cf.fn=some fd)
  (h1:dA G n sc (.Name z zp) ρ H (.ok (.glob (.ref f)) JG)) (h2:hU G n sc args ρ JG (.ok vs H₁)) (h3:bx G n f vs H₁ v H'):jj G n sc (.Call (.Name z zp) args [] pos) ρ H v H':=by
 rintro c s m ν Mu I Q E ok hb au S l post
 refine Call_ (h1 c s m ν Mu I ok au S l _ _ λh' ak aa aw I' u x S' ru=>?_) rfl
 refine ru.DY rfl ?_
 refine bX (P:=λh=>G.K.In h) hs (keeps_K (gk.fn _ _ hf).2) (h2 c _ m aa aw I' _ _ pos ok (au.mono x) S' (l.mono x) λbw bY aV cF dk us x' d7 rs=>⟨ok.X.X.keeps d7.F.keep,?_⟩)
 refine wpAny_call (h3 c {s with heap:=bw,toks:=bY} m aV cF dk us _ ok hb d7 rs λg a9 bq dd bM fq u T jm bZ ru=>?_)
 exact post g a9 bq dd bM fq u T ((x.trans x').trans jm) bZ ru
theorem Dm{op:CmpOp}{t:Bool}(hs:isSet b=false)(h1:jj G n sc a ρ H x H₁)(h2:dA G n sc b ρ H₁ (.ok y aQ))(hv:Mine.cmp aQ op x y=some t):jj G n sc (.Compare a [op] [b] pos) ρ H (.bool t) aQ:=by
 rintro c s m ν Mu I Q E ok hb au S l post
 refine wpAny_Compare1 (h1 c s m ν Mu I _ _ ok hb au S l λg h' ak aa aw I' u T x S' ru=>?_) (l7 hs)
 refine h2 (c.turn g) {s with heap:=h',toks:=ak} m aa aw I' (ok.turn hb T) (au.mono x).turn S' (l.mono x).turn _ _ λbw bY aV cF dk uk x' d7 rk=>?_
 exact sm (c:=c.turn g) (s:={s with heap:=bw,toks:=bY}) (ok.turn hb T) d7 (ru.mono x') rk hv Q E λa9 bq dd bM fq u jm bZ ru=>post g a9 bq dd bM fq u T ((x.trans x').trans jm) bZ ru
theorem PV{op:CmpOp}{t:Bool}(hs:isSet b=false)(h1:jj G n sc a ρ H x H₁)(h2:dA G n sc b ρ H₁ (.ok y aQ))(hv:Mine.cmp aQ op x y=some t):iY G n sc (.Compare a [op] [b] pos) ρ H t aQ:=by
 rintro c s m ν Mu I Q E ok hb au S l post
 refine wpAny_isTrue_Compare1 (h1 c s m ν Mu I _ _ ok hb au S l λg h' ak aa aw I' u T x S' ru=>?_) (l7 hs)
 refine h2 (c.turn g) {s with heap:=h',toks:=ak} m aa aw I' (ok.turn hb T) (au.mono x).turn S' (l.mono x).turn _ _ λbw bY aV cF dk uk x' d7 rk=>?_
 refine sm (c:=c.turn g) (s:={s with heap:=bw,toks:=bY}) (ok.turn hb T) d7 (ru.mono x') rk hv _ _ λa9 bq dd bM fq u jm bZ ru=>?_
 refine ru.tf rfl ?_
 exact wpAny_truthy_bool (post g a9 bq dd bM fq T ((x.trans x').trans jm) bZ)
theorem Cw{fW jl:Expr}(h1:jj G n sc fW ρ H x H₁)(ht:truth H₁ x=some true)(h2:jj G n sc jl ρ H₁ v H'):jj G n sc (.BoolOp .And [fW,jl] pos) ρ H v H':=by
 rintro c s m ν Mu I Q E ok hb au S l post
 refine BoolOp_and (h1 c s m ν Mu I _ _ ok hb au S l λg h' ak aa aw I' u T x S' ru=>?_)
 refine iq (c:=c.turn g) (s:={s with heap:=h',toks:=ak}) (H:=H₁) ru ht ?_
 refine BoolOp_one (h2 (c.turn g) {s with heap:=h',toks:=ak} m aa aw I' _ _ (ok.turn hb T) hb (au.mono x).turn S' (l.mono x).turn λg' bw bY aV cF dk u T' x' d7 ru=>post g' bw bY aV cF dk u (T.trans T') (x.trans x') d7 ru)
theorem oN{t:Bool}(hp:plainT e=true)(h1:jj G n sc e ρ H x H₁)(ht:truth H₁ x=some t):iY G n sc e ρ H t H₁:=by
 rintro c s m ν Mu I Q E ok hb au S l post
 refine isTrue_plain (h1 c s m ν Mu I _ _ ok hb au S l λg h' ak aa aw I' u T x S' ru=>?_) (by(first|exact no e|exact nf e|subst e|obtain rfl:=ai e|induction e using Expr.casesOn)<;>first|rfl|exact nf hp)
 exact iq (c:=c.turn g) (s:={s with heap:=h',toks:=ak}) (H:=H₁) ru ht (post g h' ak aa aw I' T x S')
theorem xd{t:Bool}(h1:iY G n sc e ρ H t H₁):iY G n sc (.UnaryOp .Not e pos) ρ H (!t) H₁:=by
 rintro c s m ν Mu I Q E ok hb au S l post
 exact wpAny_isTrue_Not (h1 c s m ν Mu I _ _ ok hb au S l λg h' ak aa aw I' T x S'=>post g h' ak aa aw I' T x S')
theorem BU{es:List Expr}{t:Bool}(h1:iY G n sc e ρ H false H₁)(h2:iY G n sc (.BoolOp .Or es pos) ρ H₁ t H'):iY G n sc (.BoolOp .Or (e::es) pos) ρ H t H':=by
 rintro c s m ν Mu I Q E ok hb au S l post
 refine isTrue_or (h1 c s m ν Mu I _ _ ok hb au S l λg h' ak aa aw I' T x S'=>?_)
 exact h2 (c.turn g) {s with heap:=h',toks:=ak} m aa aw I' _ _ (ok.turn hb T) hb (au.mono x).turn S' (l.mono x).turn λg' bw bY aV cF dk T' x' d7=>post g' bw bY aV cF dk (T.trans T') (x.trans x') d7
theorem Dn:iY G n sc (.BoolOp .Or [] pos) ρ H false H:=by
 rintro c s m ν Mu I Q E ok hb au S l post
 exact isTrue_or_nil (post c.h₀ s.heap s.toks ν Mu I (.refl ok S) (Ext.refl _ _) S.f6)
end
section
section
variable{prog:Program}{w:World}{A:Around}{E:Value->Shared->Prop}{s:Shared}{K:Frag}{x C:Addr}{ox:Obj}{od:Option Obj}{name:Str}{expr:Bool}{Q:Value->Shared->Prop}{R:Result->Shared->Prop}{v:Value}{tk:Tok}
theorem Ar{M:Model}{Nt:Value}{Q:Unit->Shared->Prop}(X:K.In s.heap)(I:InstAt s.heap x ox C od)(hb:subIn K (Value.ref C) (.type "BaseException")=some true)(hq:Q () s):
  wpAny M A (checkBuiltinCall "BaseException.__getattribute__" ⟨[.ref x,Nt],[]⟩) Q E s:=by
 have hk:builtinKind "BaseException.__getattribute__" =some .slot:=by decide+kernel
 have QW:splitId "BaseException.__getattribute__" =some ("BaseException","__getattribute__"):=by decide+kernel
 have ha:=F.args_bexc_ga (.ref x) Nt
 have L:Looks M s.heap (isInstance (.ref x) (.type "BaseException")) true:=I.type.andThen (looks_subIn X hb)
 simp only[checkBuiltinCall,hk,QW]
 refine wpAny_bind (L.here ?_)
 obtain⟨hh,g,d,t,os⟩:=s
 repeat (first|assumption|wp_step)
theorem zI{Q:Fin->Shared->Prop}(X:K.In s.heap)(I:InstAt s.heap x ox C od)(hf:findObj K C od name=some (.value v))(h:Q (.done (.ret v)) s):
  wpAny (model prog w) A (Builtin.«object.__getattribute__» ⟨[.ref x,.str name tk],[]⟩) Q E s:=by
 have L0:=I.type (M:=model prog w)
 have L1:=looks_find (M:=model prog w) X I hf
 unfold Builtin.«object.__getattribute__»
 obtain⟨hh,g,d,t,os⟩:=s
 refine wpAny_bind (wpAny_pure (wpAny_bind (wpAny_pure (wpAny_bind (L0.at (wpAny_bind (L1.at ?_)))))))
 exact wpAny_pure h
theorem GO(X:K.In s.heap)(I:InstAt s.heap x ox C od)(hga:findIn K (Value.ref C) "__getattribute__" =some (some (.builtin "BaseException.__getattribute__")))(hgt:findIn K (Value.ref C) "__getattr__" =some none)
  (hb:subIn K (Value.ref C) (.type "BaseException")=some true) (hf:findObj K C od name=some (.value v)) (hh:handedIn v=true) (h:Q v {s with toks:=s.toks+1}):wpAny (model prog w) A (PySem.getAttr (.ref x) name expr) Q E s:=by
 obtain⟨hp,g,d,t,os⟩:=s
 have L0:=I.type (M:=model prog w)
 have L1:=looks_findIn (M:=model prog w) X hga
 have L2:=looks_findIn (M:=model prog w) X hgt
 refine wpAny_bind (wpAny_mkText (wpAny_holding (wpAny_bind (L0.at (wpAny_bind (L1.at ?_))))))
 have hx2:(Value.builtin "BaseException.__getattribute__" ==Value.builtin "object.__getattribute__")=false:=by decide+kernel
 dsimp only
 rw[hx2,Bool.and_false,if_neg Bool.false_ne_true]
 unfold getAttrByItsOwn hookBefore
 refine wpAny_bind ?_
 rw[if_pos (show onTheHeap (Value.ref C)=true from rfl)]
 refine L2.at ?_
 refine wpAny_bind (wpAny_attempt ?_)
 refine wpAny_holding ?_
 have hx0:(expr&&onTheHeap (Value.builtin "BaseException.__getattribute__"))=false:=by induction expr<;>rfl
 unfold callGetattribute boundAndCalled
 rw[hx0,if_neg Bool.false_ne_true,F.excAttr_ValueError.ga.bind]
 refine wpAny_bind (wpAny_pure ?_)
 refine wpAny_call (codeAny_call_builtin F.excAttr_ValueError.ga.plain F.entry_bexc_ga (Ar X I hb (zI X I hf ?_)))
 show wpAny _ _ (handedOut v) _ _ _
 rw[handedOut_of hh]
 exact wpAny_pure h
end
end
section
variable{G:Gc}{c:Fc}{s:Shared}{h h':Heap}{m m':Str->Option Value}{ν:List Addr}{Mu:List Obj}{I:Led}{ρ bj eh:ah}{H JG H₁ aQ H':List Ob}{n k:Nat}{sc:Sc}{v w x y:V}{e a b:Expr}{pos:Pos}{ss:List Stmt}
structure iR(G:Gc):Prop where
 ex:∀C C',G.cf.nH.any (Nat.beq C)=true->G.cf.nH.any (Nat.beq C')=true->exmOne G.K (.ref C) (.ref C')=some (Nat.beq C C')
 ga:∀C,G.cf.nH.any (Nat.beq C)=true->findIn G.K (.ref C) "__getattribute__" =some (some (.builtin "BaseException.__getattribute__"))/\findIn G.K (.ref C) "__getattr__" =some none/\
  subIn G.K (.ref C) (.type "BaseException")=some true/\hasDictIn G.K C=true/\findIn G.K (.ref C) "spot" =some none
noncomputable def clsAt(sc:Sc)(cf:Cf)(x:Str):Option Addr:=match du x "__debug__" with
 |true=>none
 |false=>match bT x sc.ns with
  |some .globalImplicit=>match bT x cf.glob with
   |some (.glob (.ref C))=>match cf.nH.any (Nat.beq C) with
    |true=>some C
    |false=>none
   |_=>none
  |_=>none
noncomputable def yc(sc:Sc)(x:Str):Bool:=match du x "__debug__" with
 |true=>false
 |false=>match bT x sc.ns with
  |some .local=>true
  |_=>false
noncomputable def th:Rd (List Stmt) ((((Str×Nat×Pos)×(Str×Pos)×Str×Pos)×Nat×Pos)×Pos):=Tu (Uz (sE (EY (Ry Vm (Og te)))))
noncomputable def WM(sc:Sc)(body:List Stmt)(z:Str):Option Str:=match th.f body with
 |none=>none
 |some x=>match du z x.1.1.2.1.1&&du x.1.1.2.2.1 "spot" &&yc sc z with
  |true=>some x.1.1.1.1
  |false=>none
noncomputable def wordOf(sc:Sc)(cf:Cf)(C:Addr):List ExceptHandler->Option Str
 |[]=>none
 |⟨t,nm,body,_⟩::rest=>match(sE te).f t with
  |none=>none
  |some x=>match clsAt sc cf x.1 with
   |none=>none
   |some C'=>match Nat.beq C C' with
    |false=>wordOf sc cf C rest
    |true=>match nm with
     |none=>none
     |some z=>WM sc body z
set_option tactic.hygienic true in
theorem CA(h:yc sc x'=true):(x'==("__debug__" :Str))=false/\bT x' sc.ns=some .local:=by
 refine Yh h ?_;clear h;intro q h
 refine Wn h ?_;clear h;intro _
 rename_i q';exact⟨ke q,q'⟩
theorem tR(gk:ko G)(ok:c.Ok G n)(au:cM c sc ν){A:Around}{z:Str}{zp:Pos}{C:Addr}{Q:Value->Shared->Prop}{E:Value->Shared->Prop}(B:Based G s.heap)(hz:clsAt sc G.cf z=some C)(h:Q (.ref C) s):
  wpAny G.M A (eval (.Name z zp) c.env) Q E s/\G.cf.nH.any (Nat.beq C)=true:=by
 refine n5 hz ?_;clear hz;intro MU hz
 refine RX hz ?_;clear hz;intro hk hz
 refine WL hz ?_;clear hz;intro _ hg hz
 refine ix hz ?_;clear hz;intro hx hz
 obtain rfl:=ai hz
 refine⟨?_,hx⟩
 refine ab (gk.glob _ _ hg) λu hu r=>?_
 have eu:u=.ref C:=(r [] []).gP
 subst eu
 refine Name_function_global ok.ek ((au.ns z).trans hk) ?_ (ke MU)
 rcases hu with hu|⟨h1,h2⟩
 ·exact loadGlobal_global (ok.eg▸B.g) hu h
 ·exact loadGlobal_builtin (ok.eg▸B.g) h1 (ok.eb▸B.b) h2 h
theorem wN.Tw{B:Heap}{l:List Env}{e C d:Addr}{t:Option Value}{h:Heap}(a:wN B l e C d t h):Looks G.M h (typeOf (.ref e)) (.ref C):=by
 obtain⟨_,_,_,oe,_,_,he,Ez,_⟩:=a
 exact Ez▸(Looks.ld he).andThen .now
inductive acj(G:Gc)(f:Fc)(ea C d:Addr)(h:Heap)(m:Str->Option Value)(ν:List Addr)(Mu:List Obj)(I:Led)(H:List Ob):Prop
 |mk (g:Heap) (oe:Obj) (vs:Array Value) (T:Turn f g) (S:St G (f.turn g) h m ν Mu ((ea,oe)::I) H) (st:f.base.StaysIn g) (he:h.get? ea=some oe) (hc:oe.cls=.ref C) (A6:oe.dict=some d) (hd:oe.data=.fields vs)
theorem adV{f:Fc}(ok:f.Ok G n){ea C d:Addr}{B gp:Heap}
  (nd:ν.Nodup) (eP:∀p∈I,∀(i:Nat) (b:Ob),ν[i]?=some p.1->H[i]?=some b->b.fixed=true) (len:ν.length=Mu.length) (aT:ν.length=H.length)
  (ob:∀(i:Nat) (o:Obj) (b:Ob),Mu[i]?=some o->H[i]?=some b->az G ν I o b) (big:sysModules<f.h₀.objs.size) (low:∀a∈ν,sysModules<a)
  (b1:f.base.StaysIn B) (b2:∀p∈ν.zip Mu++I,B.get? p.1=some p.2/\f.base.get? p.1=none) (f1:Fr f.h₀ f.L gp m) {a9:Heap} (QX:wN B (f.dK::f.outer) ea C d (some .none) a9) (U:gp.UpToSlots a9):acj G f ea C d a9 m ν Mu I H:=by
 obtain⟨c1,c2,c3,oe,vs,aji,he,Ez,A6,hd,_⟩:=QX
 have hFL:B.get? f.L=none/\∃o,a9.get? f.L=some o/\∀vs,o.data≠ .fields vs:=c3.mem (List.mem_filterMap.mpr ⟨f.dK,.head _,ok.ff⟩)
 have hFs:∀b∈f.fs,B.get? b=none/\∃o,a9.get? b=some o/\∀vs,o.data≠ .fields vs:=λb hb=>by
  refine ab (List.mem_filterMap.mp hb) λenv he hf=>?_
  exact c3.mem (List.mem_filterMap.mpr ⟨env,.tail _ he,hf⟩)
 obtain⟨g,Bg,frg,sz,sub,lim⟩:=uG ok.B (h':=a9) (λb o q=>c1 b o (b1 b o q)) (λb hb o q=>by
  obtain⟨_,o',qk,js⟩:=ok.B.frames.mem hb
  rw[q] at qk
  cases qk
  exact U b o (f1.keep b o q) js)
 have T:Turn f g:=⟨Bg,frg,by rw[sz];exact big⟩
 have ZV:∀b o,B.get? b=some o->f.base.get? b=none->g.get? b=none:=λb o q q'=>by
  cases e:g.get? b with
  |none=>rfl
  |some o'=>
   rcases lim b o' e with hm|hm
   ·rw[(hFs b hm).1] at q;exact no q
   ·rw[q'] at hm;exact no hm
 have gea:g.get? ea=none:=by
  cases e:g.get? ea with
  |none=>rfl
  |some o'=>
   rcases lim ea o' e with hm|hm
   ·obtain⟨_,o'',ZW,ae8⟩:=hFs ea hm
    rw[he] at ZW
    obtain rfl:=ai ZW
    exact absurd hd (ae8 vs)
   ·have:=b1 _ _ hm
    rw[c2] at this;exact no this
 have ae9:∀(i:Nat),ν[i]?≠some ea:=λi hi=>by
  have h1:Mu[i]?=some (Mu[i]'(len▸(List.getElem?_eq_some_iff.mp hi).1)):=List.getElem?_eq_getElem _
  have:=(b2 (ea,_) (List.mem_append_left _ (dU hi h1))).1
  dsimp only at this
  rw[c2] at this
  exact no this
 refine .mk g oe vs T ?_ Bg.stays he Ez A6 hd
 refine⟨⟨U.ns f1.ns,sub,by show g.objs.size<=f.L;rw[sz];exact f1.above⟩,λp hp=>?_,nd,λp hp i b hi hb=>?_,len,aT,λi o b q1 q2=>(ob i o b q1 q2).grow (List.prefix_rfl) (λp hp=>.tail _ hp),T.big,low⟩
 ·have key:p∈ν.zip Mu++I∨p=(ea,oe):=by
   rcases List.mem_append.mp hp with hp|hp
   ·exact .inl (List.mem_append_left _ hp)
   ·rcases List.mem_cons.mp hp with rfl|hp
    ·exact .inr rfl
    ·exact .inl (List.mem_append_right _ hp)
  rcases key with hp|rfl
  ·obtain⟨q1,q2⟩:=b2 p hp
   refine⟨c1 _ _ q1,λe=>?_,ZV _ _ q1 q2⟩
   have e':p.1=f.L:=e
   rw[e',hFL.1] at q1
   exact no q1
  ·refine⟨he,λe=>?_,gea⟩
   have e':ea=f.L:=e
   obtain⟨o',qk,js⟩:=hFL.2
   rw[←e',he] at qk
   obtain rfl:=ai qk
   exact js vs hd
 ·rcases List.mem_cons.mp hp with rfl|hp
  ·exact absurd hi (ae9 i)
  ·exact eP p hp i b hi hb
theorem wz(gk:ko G)(co:iR G){f:Fc}(ok:f.Ok G n){ea C d:Addr}{B gp:Heap}
  (nd:ν.Nodup) (eP:∀p∈I,∀(i:Nat) (b:Ob),ν[i]?=some p.1->H[i]?=some b->b.fixed=true) (len:ν.length=Mu.length) (aT:ν.length=H.length)
  (ob:∀(i:Nat) (o:Obj) (b:Ob),Mu[i]?=some o->H[i]?=some b->az G ν I o b) (big:sysModules<f.h₀.objs.size) (low:∀a∈ν,sysModules<a)
  (b1:f.base.StaysIn B) (b2:∀p∈ν.zip Mu++I,B.get? p.1=some p.2/\f.base.get? p.1=none) (f1:Fr f.h₀ f.L gp m) (kI:Based G f.base) (hc:f.env=f.dK) (au:cM f sc ν) {fs:List (Str×V)} {sv:V} (b3:ν[k]?=some d)
  (JC:cJ H k=some (.attrs fs)) (QY:bT "spot" fs=some sv) (ZX:∀w,sv≠ .glob w) (hex:G.cf.nH.any (Nat.beq C)=true) {Q:Flow->Shared->Prop} {E:Value->Shared->Prop} {R:Result->Shared->Prop}
  {wd z at_:Str} {kq tk:Nat} {cp zp' ap tp rp hp:Pos} (ae':at_= "spot") (hz:yc sc z=true)
  (s:Shared) (a:wN B (f.dK::f.outer) ea C d (some .none) s.heap) (xm:gp.UpToSlots s.heap)
  (hR:∀v kE,wpAny G.M f.A (do bindName f.env z .none;unbindBehindTheSuite f.env z hp) (λζ jo=>Q (.ret v) jo) E kE->R (.ok (.ret v)) kE)
  (post:∀g h' ak m' aa aw I' u,Turn f g->Ext ν aa I I'->St G (f.turn g) h' m' aa aw I' H->Rep G.K aa I' u (.tup [.str wd,sv])->Q (.ret u) {s with heap:=h',toks:=ak}):
  codeAny G.M (f.A.mark (some (.ref ea))) (.handlers (.ref ea) [.ExceptHandler none (some z) [.Return (some (.Tuple [.Constant (.str wd) kq cp,.Attribute (.Name z zp') at_ ap] tk tp)) rp] hp] f.env) R s:=by
 subst ae'
 refine ae (CA hz) λafa hlz=>?_
 have hkz:=(au.ns z).trans hlz
 have ZY:f.env.locals=f.L:=by rw[hc]
 refine codeAny_handlers_suite_as ?_
 refine iU a λa9 QX afc=>?_
 obtain⟨g,oe,vs,T,bZ,stg,he,Ez,A6,hd⟩:=adV ok nd eP len aT ob big low b1 b2 f1 QX (xm.trans afc)
 have jm:Ext ν ν I ((ea,oe)::I):=⟨List.prefix_rfl,λp hp=>.tail _ hp,λi b hi hb=>by rw[List.getElem?_eq_none hi] at hb;exact no hb⟩
 refine wpAny_storeName_local hkz (ZY▸bZ.F.ns) (λdh Nu mm=>?_) (by rw[ok.ek];rfl)
 rw[ZY] at Nu mm
 have eJ:=bZ.frame (bZ.F.set Nu mm) (bZ.N.set mm)
 have Ek:dh.get? ea=some oe:=(eJ.N _ (List.mem_append_right _ (.head _))).1
 have ZZ:Based G dh:=(kI.keeps stg).keeps eJ.F.keep
 refine wpAny_execs_cons (wpAny_Return_some ?_)
 refine Tuple_ ?_
 rw[fY (show isStar (.Constant (.str wd) kq cp)=false from rfl)]
 refine spliced_cons (wpAny_eval_const rfl λu jX hu=>?_)
 refine bF hu ?_;clear hu;intro t aU;subst aU
 rw[fY (show isStar (.Attribute (.Name z zp') "spot" ap)=false from rfl)]
 refine spliced_cons (Attribute_any_ (wpAny_Name (wpAny_loadName_local ok.ek hkz (ZY▸eJ.F.ns) (by rw[if_pos rfl]) ?_) afa) (by with_unfolding_all rfl))
 refine eJ.ba b3 JC λod y1 ag5 tL rod=>?_
 refine cz rod.sD λes kk aU re=>?_;subst aU
 refine ab (pe re QY) λuu huu ruu=>?_
 refine rR (co.ga C hex) λg1 g2 g3 g4 g5=>?_
 have IA:W.InstAt dh ea oe C (some (dictOf es kk)):=⟨Ek,Ez,by unfold notCls;rw[hd],by rw[A6];exact tL⟩
 refine GO (od:=some (dictOf es kk)) ZZ.X IA g1 g2 g3 (findObj_own g4 g5 rfl huu) (pV ruu ZX) ?_
 refine spliced_nil ?_
 have Eh:St G ⟨f.A.mark (some (.ref ea)),f.A₀,f.base,g,f.outer,f.dK,f.env⟩ dh _ ν Mu ((ea,oe)::I) H:=⟨eJ.F,eJ.N,eJ.nd,eJ.eP,eJ.len,eJ.aT,eJ.ob,eJ.big,eJ.low⟩
 refine mZ (c:=⟨f.A.mark (some (.ref ea)),f.A₀,f.base,g,f.outer,f.dK,f.env⟩) (s:=⟨dh,_,_,_,_⟩) Eh (.cons (.str wd t) (.cons ruu .nil)) rfl _ _ λdE Nl iD mj Ed uT afd iH rT=>?_
 refine hR _ _ (wpAny_nameGoes (AK f z hkz) (ZY▸iH.F.ns) (by rw[ok.ek];rfl) λqS QO yP qd=>?_)
 rw[ZY] at yP qd
 have mV:=iH.frame (iH.F.set yP qd) (iH.N.set qd)
 exact post g qS _ QO iD mj Ed uT T (jm.trans afd) ⟨mV.F,mV.N,mV.nd,mV.eP,mV.len,mV.aT,mV.ob,mV.big,mV.low⟩ rT
theorem Pp(gk:ko G)(co:iR G){f:Fc}(ok:f.Ok G n)(kI:Based G f.base)(hc:f.env=f.dK)(au:cM f sc ν){ea C d:Addr}{B gp:Heap}{wd:Str}{fs:List (Str×V)}{sv:V}
  (nd:ν.Nodup) (eP:∀p∈I,∀(i:Nat) (b:Ob),ν[i]?=some p.1->H[i]?=some b->b.fixed=true) (len:ν.length=Mu.length) (aT:ν.length=H.length)
  (ob:∀(i:Nat) (o:Obj) (b:Ob),Mu[i]?=some o->H[i]?=some b->az G ν I o b) (big:sysModules<f.h₀.objs.size) (low:∀a∈ν,sysModules<a)
  (b1:f.base.StaysIn B) (b2:∀p∈ν.zip Mu++I,B.get? p.1=some p.2/\f.base.get? p.1=none) (b3:ν[k]?=some d) (f1:Fr f.h₀ f.L gp m)
  (JC:cJ H k=some (.attrs fs)) (QY:bT "spot" fs=some sv) (ZX:∀w,sv≠ .glob w) (hex:G.cf.nH.any (Nat.beq C)=true) {Q:Flow->Shared->Prop} {E:Value->Shared->Prop}
  (s:Shared) (a:wN B (f.dK::f.outer) ea C d (some .none) s.heap) (xm:gp.UpToSlots s.heap)
  (post:∀g h' ak m' aa aw I' u,Turn f g->Ext ν aa I I'->St G (f.turn g) h' m' aa aw I' H->Rep G.K aa I' u (.tup [.str wd,sv])->Q (.ret u) {s with heap:=h',toks:=ak}) (hs:List ExceptHandler):wordOf sc G.cf C hs=some wd->
   wpAny G.M f.A (handleBy (.ref ea) f.env hs) Q E s:=by
 induction hs with
 |nil=>exact no
 |cons hd rest ih=>
  obtain⟨t,nm,body,hp⟩:=hd
  intro hw
  unfold wordOf at hw
  cases ht:(sE te).f t with
  |none=>rw[ht] at hw;exact no hw
  |some x=>
   rw[ht] at hw
   obtain rfl:=(sE te).ok _ _ ht
   dsimp only at hw
   cases qj:clsAt sc G.cf x.1 with
   |none=>rw[qj] at hw;exact no hw
   |some C'=>
    rw[qj] at hw
    dsimp only at hw
    have Bs:Based G s.heap:=kI.keeps λb o q=>a.1 b o (b1 b o q)
    have afe:=(tR (c:=f) (Q:=λζ ζ=>True) (E:=λζ ζ=>True) (A:=f.A) (zp:=x.2) gk ok au Bs qj trivial).2
    have LM:Looks G.M s.heap (excMatches (.ref ea) (.ref C')) (Nat.beq C C'):=exm_one Bs.X a.Tw (co.ex C C' hex afe)
    refine wpAny_handleBy_cons (codeAny_handlers_test (tR (c:=f) gk ok au Bs qj (LM.here ?_)).1) (by intro q;cases q)
    cases MY:Nat.beq C C' with
    |false=>
     rw[MY] at hw
     exact ih hw
    |true=>
     rw[MY] at hw
     dsimp only at hw
     induction nm with
     |none=>exact no hw
     |some z=>
      dsimp only at hw
      unfold WM at hw
      cases hb:th.f body with
      |none=>rw[hb] at hw;exact no hw
      |some y=>
       rw[hb] at hw
       obtain rfl:=th.ok _ _ hb
       dsimp only at hw
       cases kH:du z y.1.1.2.1.1&&du y.1.1.2.2.1 "spot" &&yc sc z with
       |false=>rw[kH] at hw;exact no hw
       |true=>
        rw[kH] at hw
        obtain rfl:=ai hw
        refine aJ kH λh12 h3=>?_
        refine aJ h12 λh1 h2=>?_
        obtain rfl:=aH.mp h1
        exact wz gk co ok nd eP len aT ob big low b1 b2 f1 kI hc au b3 JC QY ZX hex (aH.mp h2) h3 s a xm (λζ ζ h=>h) post
end
section
variable{G:Gc}{c:Fc}{s:Shared}{h h':Heap}{m m':Str->Option Value}{ν:List Addr}{Mu:List Obj}{I:Led}{ρ bj eh:ah}{H JG H₁ aQ H':List Ob}{n k:Nat}{sc:Sc}{v w x y:V}{e a b:Expr}{pos rp:Pos}{ss:List Stmt}{h₀:ExceptHandler}{hs:List ExceptHandler}
theorem u0(gk:ko G)(co:iR G){C:Addr}{wd:Str}{fs:List (Str×V)}{sv:V}(h1:dA G n sc e ρ H (.exc ⟨C,k⟩ H₁))(hw:wordOf sc G.cf C (h₀::hs)=some wd)(JC:cJ H₁ k=some (.attrs fs))(QY:bT "spot" fs=some sv)(ZX:∀w,sv≠ .glob w)
  (hex:G.cf.nH.any (Nat.beq C)=true):cD G n sc (.Try [.Return (some e) rp] (h₀::hs) [] [] pos::ss) ρ H (.tup [.str wd,sv]) H₁:=by
 rintro c s m ν Mu I Q E ok hb hc au S kn post
 refine wpAny_execs_cons (wpAny_Try_except ?_)
 refine wpAny_execs_cons (wpAny_Return_some (h1 c s m ν Mu I ok au S (bO hc kn) _ _ ?_))
 intro h' ak aa aw I' ea t x ht fl
 refine gr fl.yG λB d b1 b2 b3 b4=>?_
 refine cz fl.fr λgp m₂ f1 f2=>?_
 refine om (s:={s with heap:=h',toks:=ak}) (env:=c.env) (hc▸ok.fr) (by rw[hc];exact ok.ff) (by rw[hc];exact b4) ht λbg QC QD=>?_
 refine iU QC λbt Jp xm=>?_
 refine Pp gk co ok hb hc (au.mono x) fl.nd fl.eP fl.len fl.aT fl.ob S.big fl.low b1 b2 b3 f1 JC QY ZX hex _ (by rw[hc] at Jp;exact Jp) ((f2.trans QD).trans xm) ?_ (h₀::hs) hw
 intro g a9 bq iy dd bM fq u T jm bZ ru
 exact post g a9 bq iy dd bM fq u T (x.trans jm) bZ ru
theorem wI(h1:dA G n sc e ρ H (.ok v H₁)):cD G n sc (.Try [.Return (some e) rp] (h₀::hs) [] [] pos::ss) ρ H v H₁:=by
 rintro c s m ν Mu I Q E ok hb hc au S kn post
 refine wpAny_execs_cons (wpAny_Try_except ?_)
 refine wpAny_execs_cons (wpAny_Return_some (h1 c s m ν Mu I ok au S (bO hc kn) _ _ ?_))
 exact λh' ak aa aw I' u x S' ru=>post c.h₀ h' ak m aa aw I' u (.refl ok S) x S'.f6 ru
end
section
structure sC where
 x:PyData
 y:PyData
structure Rx(α:Type)where
 v:α
 H:List Ob
 cs:List sC
def sC.Ok(q:sC):Prop:=Bf 60 q.x q.y=some true
noncomputable def u5{α:Type}(v:α)(cs:List sC)(H:List Ob)(a b:V):Option (Rx α):=match dat H 60 a with
 |none=>none
 |some x=>match dat H 60 b with
  |none=>none
  |some y=>some ⟨v,H,cs++[⟨x,y⟩]⟩
def Rx.Ok{α:Type}(r:Rx α):Prop:=∀q∈r.cs,q.Ok
noncomputable def Rx.add{α:Type}(cs:List sC):Option (Rx α)->Option (Rx α)
 |none=>none
 |some r=>some ⟨r.v,r.H,cs++r.cs⟩
noncomputable def et{α:Type}:aM α->Option (Rx α)
 |none=>none
 |some r=>match r with
  |.ok v H=>some ⟨v,H,[]⟩
  |.exc _ _=>none
noncomputable abbrev RF:=Addr->List V->List Ob->Option (Rx V)
noncomputable def rE(cf:Cf)(I:Ih)(F:RF):Nat->Sc->Expr->ah->List Ob->Option (Rx V)
 |0,_,_,_,_=>none
 |k+1,sc,e,ρ,H=>match e with
  |.Call f args kws _=>match kws with
   |_::_=>none
   |[]=>match f with
    |.Name x p=>match noStar args with
     |false=>none
     |true=>match et (I.E sc (.Name x p) ρ H) with
      |none=>none
      |some r=>match r.v with
       |.glob g=>match g with
        |.ref a=>match et (I.Es sc args ρ r.H) with
         |none=>none
         |some q=>match jL a cf.fn with
          |none=>none
          |some _=>F a q.v q.H
        |_=>none
       |_=>none
    |_=>none
  |.Compare a ops rs _=>match ops with
   |[op]=>match rs with
    |[b]=>match isSet b with
     |true=>none
     |false=>match op with
      |.Eq=>match rE cf I F k sc a ρ H with
       |none=>none
       |some x=>match et (I.E sc b ρ x.H) with
        |none=>none
        |some y=>u5 (.bool true) x.cs y.H x.v y.v
      |.NotEq=>match rE cf I F k sc a ρ H with
       |none=>none
       |some x=>match et (I.E sc b ρ x.H) with
        |none=>none
        |some y=>u5 (.bool false) x.cs y.H x.v y.v
      |_=>none
    |_=>none
   |_=>none
  |.BoolOp op es p=>match op with
   |.Or=>et (I.E sc (.BoolOp .Or es p) ρ H)
   |.And=>match es with
    |[fW,jl]=>match rE cf I F k sc fW ρ H with
     |none=>none
     |some x=>match truth x.H x.v with
      |some true=>Rx.add x.cs (rE cf I F k sc jl ρ x.H)
      |_=>none
    |_=>none
  |e=>et (I.E sc e ρ H)
noncomputable def rT(cf:Cf)(I:Ih)(F:RF):Nat->Sc->Expr->ah->List Ob->Option (Rx Bool)
 |0,_,_,_,_=>none
 |k+1,sc,e,ρ,H=>match e with
  |.UnaryOp op fW _=>match op with
   |.Not=>match rT cf I F k sc fW ρ H with
    |none=>none
    |some x=>some ⟨!x.v,x.H,x.cs⟩
   |_=>none
  |.BoolOp op es p=>match op with
   |.Or=>match es with
    |[]=>some ⟨false,H,[]⟩
    |fW::es=>match rT cf I F k sc fW ρ H with
     |none=>none
     |some x=>match x.v with
      |true=>none
      |false=>Rx.add x.cs (rT cf I F k sc (.BoolOp .Or es p) ρ x.H)
   |.And=>none
  |.Compare a ops rs _=>match ops with
   |[op]=>match rs with
    |[b]=>match isSet b with
     |true=>none
     |false=>match op with
      |.NotEq=>match rE cf I F k sc a ρ H with
       |none=>none
       |some x=>match et (I.E sc b ρ x.H) with
        |none=>none
        |some y=>u5 false x.cs y.H x.v y.v
      |_=>none
    |_=>none
   |_=>none
  |e=>match plainT e with
   |false=>none
   |true=>match rE cf I F k sc e ρ H with
    |none=>none
    |some x=>match truth x.H x.v with
     |some t=>some ⟨t,x.H,x.cs⟩
     |none=>none
noncomputable def aa1:List Stmt->Bool
 |[.Return (some (.Constant (.bool false) _ _)) _]=>true
 |_=>false
noncomputable def Kh:Expr->Bool
 |.Call _ (.Lambda .. ::_) _ _=>true
 |_=>false
noncomputable abbrev RSs:=Sc->List Stmt->ah->List Ob->Option (Rx V)
noncomputable def o5(I:Ih)(rec:RSs)(sc:Sc)(st:Stmt)(ss:List Stmt)(ρ:ah)(H:List Ob):Option (Rx V):=match et (I.S sc st ρ H) with
 |none=>none
 |some r=>match r.v.2 with
  |none=>rec sc ss r.v.1 r.H
  |some _=>none
noncomputable def Kq(cf:Cf)(I:Ih)(Nv:Sc->Expr->ah->List Ob->Option (Rx V))(Z0:Sc->Expr->ah->List Ob->Option (Rx Bool))(rec:RSs)(sc:Sc)(st:Stmt)(ss:List Stmt)(ρ:ah)(H:List Ob):Option (Rx V):=
 match st with
 |.Return (some e) _=>Nv sc e ρ H
 |.Try body hs EP fin _=>match body with
  |[.Return (some e) _]=>match hs with
   |[]=>none
   |h₀::hs=>match EP with
    |_::_=>none
    |[]=>match fin with
     |_::_=>none
     |[]=>match I.E sc e ρ H with
      |none=>none
      |some r=>match r with
       |.ok v H₁=>some ⟨v,H₁,[]⟩
       |.exc x H₁=>match cf.nH.any (Nat.beq x.C) with
        |false=>none
        |true=>match wordOf sc cf x.C (h₀::hs) with
         |none=>none
         |some wd=>match cJ H₁ x.d with
          |some (.attrs fs)=>match bT "spot" fs with
           |some (.int i)=>some ⟨.tup [.str wd,.int i],H₁,[]⟩
           |_=>none
          |_=>none
  |_=>none
 |.If t a b _=>match aa1 a with
  |false=>o5 I rec sc st ss ρ H
  |true=>match b with
   |_::_=>o5 I rec sc st ss ρ H
   |[]=>match Z0 sc t ρ H with
    |none=>none
    |some x=>match x.v with
     |true=>none
     |false=>Rx.add x.cs (rec sc ss ρ x.H)
 |.Assign ts e _=>match Kh e with
  |false=>o5 I rec sc st ss ρ H
  |true=>match ts with
   |[.Name z _]=>match Nv sc e ρ H with
    |none=>none
    |some x=>match sc.put ρ x.H z x.v with
     |none=>none
     |some p=>Rx.add x.cs (rec sc ss p.1 p.2)
   |_=>none
 |_=>o5 I rec sc st ss ρ H
noncomputable def Xp(cf:Cf)(I:Ih)(F:RF):Nat->RSs
 |0=>λζ ζ ζ ζ=>none
 |k+1=>λsc ss ρ H=>match ss with
  |[]=>none
  |st::ss=>Kq cf I (rE cf I F k) (rT cf I F k) (Xp cf I F k) sc st ss ρ H
noncomputable def rF(cf:Cf)(rel:List Addr):Nat->Addr->List V->List Ob->Option (Rx V)
 |0,_,_,_=>none
 |n+1,a,vs,H=>match rel.any (Nat.beq a) with
  |false=>et ((ev cf n).F a vs H)
  |true=>match jL a cf.fn with
   |none=>none
   |some f=>match eU f.me f.ps vs with
    |none=>none
    |some b=>Xp cf (ev cf n) (rF cf rel n) 60 ⟨f.scope.names,cG H.length (ax f.scope.names []),some (f.code,f.qual++ ".<locals>.")⟩ f.body (bu f.scope.names b) (H++cK b (ax f.scope.names []))
theorem dO{α:Type}{a:aM α}{r:Rx α}(h:et a=some r):a=some (.ok r.v r.H)/\r.cs=[]:=by
 unfold et at h
 split at h
 ·exact no h
 ·split at h
  ·obtain rfl:=ai h;exact⟨rfl,rfl⟩
  ·exact no h
set_option tactic.hygienic true in
theorem pq{α:Type}{v:α}{cs:List sC}{H:List Ob}{a b:V}{r:Rx α}(h:u5 v cs H a b=some r)(ok:r.Ok):r.v=v/\r.H=H/\(∀q∈cs,q.Ok)/\p9 H a b=some true:=by
 unfold u5 at h
 split at h
 ·exact no h
 rename_i x hx
 split at h
 ·exact no h
 rename_i y hy
 obtain rfl:=ai h
 refine⟨rfl,rfl,λq hq=>ok q (List.mem_append_left _ hq),?_⟩
 have:=ok ⟨x,y⟩ (List.mem_append_right _ (.head _))
 unfold p9
 rw[hx,hy]
 exact this
theorem tw{α:Type}{cs:List sC}{a:Option (Rx α)}{r:Rx α}(h:Rx.add cs a=some r)(ok:r.Ok):∃r',a=some r'/\r.v=r'.v/\r.H=r'.H/\r'.Ok/\∀q∈cs,q.Ok:=by
 induction a with
 |none=>exact no h
 |some r'=>obtain rfl:=ai h;exact⟨r',rfl,rfl,rfl,λq hq=>ok q (List.mem_append_right _ hq),λq hq=>ok q (List.mem_append_left _ hq)⟩
end
section
theorem jb{α:Type}{r:α}{P:Prop}{x0:Option (Rx V)}{f1:(Rx V)->Option α}(h:(match x0 with|.none=>none|.some a0=>f1 a0)=some r)(k1:∀a0,x0=.some a0->f1 a0=some r->P):P:=by
 generalize e0:x0=y0 at h
 induction y0 with
 |none=>exact no h
 |some z1=>exact k1 _ e0 h
theorem Wx{α:Type}{r:α}{P:Prop}{x0:Option (Rx fi)}{f1:(Rx fi)->Option α}(h:(match x0 with|.none=>none|.some a0=>f1 a0)=some r)(k1:∀a0,x0=.some a0->f1 a0=some r->P):P:=by
 generalize e0:x0=y0 at h
 induction y0 with
 |none=>exact no h
 |some z1=>exact k1 _ e0 h
theorem RE{α:Type}{r:α}{P:Prop}{x0:Option (Rx (List V))}{f1:(Rx (List V))->Option α}(h:(match x0 with|.none=>none|.some a0=>f1 a0)=some r)(k1:∀a0,x0=.some a0->f1 a0=some r->P):P:=by
 generalize e0:x0=y0 at h
 induction y0 with
 |none=>exact no h
 |some z1=>exact k1 _ e0 h
theorem Br{α:Type}{r:α}{P:Prop}{x0:Option (Rx Bool)}{f1:(Rx Bool)->Option α}(h:(match x0 with|.none=>none|.some a0=>f1 a0)=some r)(k1:∀a0,x0=.some a0->f1 a0=some r->P):P:=by
 generalize e0:x0=y0 at h
 induction y0 with
 |none=>exact no h
 |some z1=>exact k1 _ e0 h
end
section
variable{G:Gc}{I:Ih}{F:RF}{n N k:Nat}{sc:Sc}{ρ:ah}{H H':List Ob}
theorem jj.rt{e:Expr}{v w:V}{H₁ aQ:List Ob}(h:jj G n sc e ρ H v H₁)(e1:w=v)(e2:aQ=H₁):jj G n sc e ρ H w aQ:=by rw[e1,e2];exact h
theorem bx.up{a:Addr}{vs:List V}{v:V}(h:bx G n a vs H v H'):bx G (n+1) a vs H v H':=λc s m ν Mu I us R ok=>h c s m ν Mu I us R (ok.less (Nat.le_succ _))
def FOk(G:Gc)(N:Nat)(F:RF):Prop:=∀a vs H r,F a vs H=some r->r.Ok->bx G N a vs H r.v r.H
theorem lV(gk:ko G)(so:Sound G N I)(fo:FOk G N F):∀(k:Nat) (sc:Sc) (e:Expr) (ρ:ah) (H:List Ob) (r:Rx V),rE G.cf I F k sc e ρ H=some r->r.Ok->jj G N sc e ρ H r.v r.H
 |0,_,_,_,_,_,h,_=>by exact no h
 |k+1,sc,e,ρ,H,r,h,ok=>by
  have strict:∀e,et (I.E sc e ρ H)=some r->jj G N sc e ρ H r.v r.H:=λe h=>(so.oE _ _ _ _ _ (dO h).1).rq
  refine WV h ?_ ?_ ?_ ?_
  ·clear h;intro f args kws pos ay h;subst ay
   refine Sf h ?_;clear h;intro ay h;subst ay
   refine Io h ?_;clear h;intro x p ay h;subst ay
   refine gB h ?_;clear h;intro hs h
   refine jb h ?_;clear h;intro tK h0 h
   refine Wk h ?_;clear h;intro g hg h
   refine Mn h ?_;clear h;intro a ay h;subst ay
   refine RE h ?_;clear h;intro q hq h
   refine Mf h ?_;clear h;intro fd hfd h
   have e0:=so.oE _ _ _ _ _ (dO h0).1
   rw[hg] at e0
   exact fR gk hs hfd e0 (so.qo _ _ _ _ _ (dO hq).1) (fo _ _ _ _ h ok)
  ·clear h;intro a ops rs pos ay h;subst ay
   refine JJ h ?_;clear h;intro op ay h;subst ay
   refine MF h ?_;clear h;intro b ay h;subst ay
   refine n5 h ?_;clear h;intro hs h
   refine Xa h ?_ ?_
   ·clear h;intro ay h;subst ay
    refine jb h ?_;clear h;intro x hx h
    refine jb h ?_;clear h;intro y hy h
    refine dH (pq h ok) λe1 e2 k1 hc=>?_
    exact(Dm (op:=.Eq) (t:=true) hs (lV gk so fo k _ _ _ _ _ hx k1) (so.oE _ _ _ _ _ (dO hy).1) hc).rt e1 e2
   ·clear h;intro ay h;subst ay
    refine jb h ?_;clear h;intro x hx h
    refine jb h ?_;clear h;intro y hy h
    refine dH (pq h ok) λe1 e2 k1 hc=>?_
    exact(Dm (op:=.NotEq) (t:=false) hs (lV gk so fo k _ _ _ _ _ hx k1) (so.oE _ _ _ _ _ (dO hy).1) (by show(p9 y.H x.v y.v).map not=_;rw[hc];rfl)).rt e1 e2
  ·clear h;intro op es p ay h;subst ay
   refine TU h ?_ ?_
   ·clear h;intro ay h;subst ay
    exact strict _ h
   ·clear h;intro ay h;subst ay
    refine TA h ?_;clear h;intro fW jl ay h;subst ay
    refine jb h ?_;clear h;intro x hx h
    refine Xm h ?_;clear h;intro ht h
    refine qX (tw h ok) λr' h' e1 e2 qn qh=>?_
    exact(Cw (lV gk so fo k _ _ _ _ _ hx qh) ht (lV gk so fo k _ _ _ _ _ h' qn)).rt e1 e2
  ·clear h;intro h
   exact strict _ h
theorem iY.rt{e:Expr}{v w:Bool}{H₁ aQ:List Ob}(h:iY G n sc e ρ H v H₁)(e1:w=v)(e2:aQ=H₁):iY G n sc e ρ H w aQ:=by rw[e1,e2];exact h
theorem tZ(gk:ko G)(so:Sound G N I)(fo:FOk G N F):∀(k:Nat) (sc:Sc) (e:Expr) (ρ:ah) (H:List Ob) (r:Rx Bool),rT G.cf I F k sc e ρ H=some r->r.Ok->iY G N sc e ρ H r.v r.H
 |0,_,_,_,_,_,h,_=>by exact no h
 |k+1,sc,e,ρ,H,r,h,ok=>by
  refine R4 h ?_ ?_ ?_ ?_
  ·clear h;intro op fW pos ay h;subst ay
   refine RG h ?_;clear h;intro ay h;subst ay
   refine Br h ?_;clear h;intro x hx h
   obtain rfl:=ai h
   exact xd (tZ gk so fo k _ _ _ _ _ hx ok)
  ·clear h;intro op es p ay h;subst ay
   refine XW h ?_;clear h;intro ay h;subst ay
   refine Yj h ?_ ?_
   ·clear h;intro ay h;subst ay
    obtain rfl:=ai h
    exact Dn
   ·clear h;intro fW es ay h;subst ay
    refine Br h ?_;clear h;intro x hx h
    refine n5 h ?_;clear h;intro hv h
    refine qX (tw h ok) λr' h' e1 e2 qn qh=>?_
    have t1:=tZ gk so fo k _ _ _ _ _ hx qh
    rw[hv] at t1
    exact(BU t1 (tZ gk so fo k _ _ _ _ _ h' qn)).rt e1 e2
  ·clear h;intro a ops rs pos ay h;subst ay
   refine JJ h ?_;clear h;intro op ay h;subst ay
   refine MF h ?_;clear h;intro b ay h;subst ay
   refine n5 h ?_;clear h;intro hs h
   refine Yy h ?_;clear h;intro ay h;subst ay
   refine jb h ?_;clear h;intro x hx h
   refine jb h ?_;clear h;intro y hy h
   refine dH (pq h ok) λe1 e2 k1 hc=>?_
   exact(PV (op:=.NotEq) (t:=false) hs (lV gk so fo k _ _ _ _ _ hx k1) (so.oE _ _ _ _ _ (dO hy).1) (by show(p9 y.H x.v y.v).map not=_;rw[hc];rfl)).rt e1 e2
  ·clear h;intro h
   refine gB h ?_;clear h;intro hp h
   refine jb h ?_;clear h;intro x hx h
   refine Vx h ?_;clear h;intro t ht h
   obtain rfl:=ai h
   exact oN hp (lV gk so fo k _ _ _ _ _ hx ok) ht
theorem cD.rt{ss:List Stmt}{v w:V}{H₁ aQ:List Ob}(h:cD G n sc ss ρ H v H₁)(e1:w=v)(e2:aQ=H₁):cD G n sc ss ρ H w aQ:=by rw[e1,e2];exact h
theorem w8{e:Expr}(h:Kh e=true):gf e=false:=by
 (first|exact no e|exact nf e|subst e|obtain rfl:=ai e|induction e using Expr.casesOn)<;>first|rfl|exact nf h
theorem pF(gk:ko G)(co:iR G)(so:Sound G N I)(fo:FOk G N F):∀(k:Nat) (sc:Sc) (ss:List Stmt) (ρ:ah) (H:List Ob) (r:Rx V),Xp G.cf I F k sc ss ρ H=some r->r.Ok->cD G N sc ss ρ H r.v r.H
 |0,_,_,_,_,_,h,_=>by exact no h
 |k+1,sc,[],_,_,_,h,_=>by exact no h
 |k+1,sc,st::ss,ρ,H,r,h,ok=>by
  have plain:o5 I (Xp G.cf I F k) sc st ss ρ H=some r->cD G N sc (st::ss) ρ H r.v r.H:=λh=>by
   refine Wx h ?_;clear h;intro q hq h
   refine OI h ?_;clear h;intro hn h
   have e0:=so.oS _ _ _ _ _ (dO hq).1
   have e1:q.v=(q.v.1,none):=by rw[←hn]
   rw[e1] at e0
   exact kU e0 (pF gk co so fo k _ _ _ _ _ h ok)
  change Kq _ _ _ _ _ _ _ _ _ _=_ at h
  refine TF h ?_ ?_ ?_ ?_ ?_
  ·clear h;intro _ _ ay h;subst ay
   exact yA (lV gk so fo k _ _ _ _ _ h ok)
  ·clear h;intro body hs EP fin pos ay h;subst ay
   refine Ro h ?_;clear h;intro e rp ay h;subst ay
   refine WN h ?_;clear h;intro h₀ hs ay h;subst ay
   refine Mi h ?_;clear h;intro ay h;subst ay
   refine Mi h ?_;clear h;intro ay h;subst ay
   refine TY h ?_;clear h;intro q hq h
   refine YB h ?_ ?_
   ·clear h;intro _ _ ay h;subst ay
    obtain rfl:=ai h
    exact wI (so.oE _ _ _ _ _ hq)
   ·clear h;intro x H₁ ay h;subst ay
    refine gB h ?_;clear h;intro hex h
    refine WH h ?_;clear h;intro wd hw h
    refine sp9 h ?_;clear h;intro fs JC h
    refine V7 h ?_;clear h;intro i QY h
    obtain rfl:=ai h
    obtain⟨C,d⟩:=x
    exact u0 gk co (so.oE _ _ _ _ _ hq) hw JC QY (λw e=>by cases e) hex
  ·clear h;intro t a b pos ay h;subst ay
   refine BZ h ?_ ?_
   ·clear h;intro _ h
    exact plain h
   ·clear h;intro _ h
    refine UO h ?_ ?_
    ·clear h;intro _ _ ay h;subst ay
     exact plain h
    ·clear h;intro ay h;subst ay
     refine Br h ?_;clear h;intro x hx h
     refine n5 h ?_;clear h;intro hv h
     refine qX (tw h ok) λr' h' e1 e2 qn qh=>?_
     have t1:=tZ gk so fo k _ _ _ _ _ hx qh
     rw[hv] at t1
     exact(Ca t1 (pF gk co so fo k _ _ _ _ _ h' qn)).rt e1 e2
  ·clear h;intro ts e pos ay h;subst ay
   refine BZ h ?_ ?_
   ·clear h;intro _ h
    exact plain h
   ·clear h;intro hl h
    refine RU h ?_;clear h;intro z zp ay h;subst ay
    refine jb h ?_;clear h;intro x hx h
    refine Xd h ?_;clear h;intro p hp h
    refine qX (tw h ok) λr' h' e1 e2 qn qh=>?_
    exact(oU (w8 hl) (lV gk so fo k _ _ _ _ _ hx qh) hp (pF gk co so fo k _ _ _ _ _ h' qn)).rt e1 e2
  ·clear h;intro h
   exact plain h
theorem xO{j:Nat}(gk:ko G)(lk:PN G)(xo:Ow G)(oo:rr G j)(co:iR G)(rel:List Addr):∀n,FOk G (n+j) (rF G.cf rel n)
 |0=>λa vs H r h ζ=>by exact no h
 |n+1=>λa vs H r h ok=>by
  have so:Sound G (n+j) (ev G.cf n):=sound gk lk xo oo n
  refine BZ h ?_ ?_
  ·clear h;intro _ h
   have:=(so.oF _ _ _ _ (dO h).1).rq.up
   rw[show n+1+j=n+j+1 from by exact OQ]
   exact this
  ·clear h;intro _ h
   refine Mf h ?_;clear h;intro f hf h
   refine Xz h ?_;clear h;intro b hb h
   rw[show n+1+j=n+j+1 from by exact OQ]
   exact uW gk hf hb (pF gk co so (xO gk lk xo oo co rel n) 60 _ _ _ _ _ h ok)
end
end
end Mine
namespace Mine
section
open PySem PySem.W PySem.Calls PyProof.Rows Hd
section
section
variable(P:Params)
theorem Ak:exmOne (KF P) (.ref 178) (.ref 178)=some true:=by kernel_rfl
theorem Ae:exmOne (KF P) (.ref 178) (.ref 190)=some false:=by kernel_rfl
theorem AI:exmOne (KF P) (.ref 178) (.ref 202)=some false:=by kernel_rfl
theorem zV:exmOne (KF P) (.ref 178) (.ref 214)=some false:=by kernel_rfl
theorem Ao:exmOne (KF P) (.ref 190) (.ref 178)=some false:=by kernel_rfl
theorem AM:exmOne (KF P) (.ref 190) (.ref 190)=some true:=by kernel_rfl
theorem AO:exmOne (KF P) (.ref 190) (.ref 202)=some false:=by kernel_rfl
theorem yX:exmOne (KF P) (.ref 190) (.ref 214)=some false:=by kernel_rfl
theorem zL:exmOne (KF P) (.ref 202) (.ref 178)=some false:=by kernel_rfl
theorem zc:exmOne (KF P) (.ref 202) (.ref 190)=some false:=by kernel_rfl
theorem An:exmOne (KF P) (.ref 202) (.ref 202)=some true:=by kernel_rfl
theorem zH:exmOne (KF P) (.ref 202) (.ref 214)=some false:=by kernel_rfl
theorem yV:exmOne (KF P) (.ref 214) (.ref 178)=some false:=by kernel_rfl
theorem AQ:exmOne (KF P) (.ref 214) (.ref 190)=some false:=by kernel_rfl
theorem y9:exmOne (KF P) (.ref 214) (.ref 202)=some false:=by kernel_rfl
theorem AG:exmOne (KF P) (.ref 214) (.ref 214)=some true:=by kernel_rfl
def E6(P:Params)(C:Addr):Prop:=findIn (KF P) (.ref C) "__getattribute__" =some (some (.builtin "BaseException.__getattribute__"))/\findIn (KF P) (.ref C) "__getattr__" =some none/\
  subIn (KF P) (.ref C) (.type "BaseException")=some true/\hasDictIn (KF P) C=true/\findIn (KF P) (.ref C) "spot" =some none
theorem SP:E6 P 178:=⟨by kernel_rfl,by kernel_rfl,by kernel_rfl,by kernel_rfl,by kernel_rfl⟩
theorem Yn:E6 P 190:=⟨by kernel_rfl,by kernel_rfl,by kernel_rfl,by kernel_rfl,by kernel_rfl⟩
theorem UN:E6 P 202:=⟨by kernel_rfl,by kernel_rfl,by kernel_rfl,by kernel_rfl,by kernel_rfl⟩
theorem TX:E6 P 214:=⟨by kernel_rfl,by kernel_rfl,by kernel_rfl,by kernel_rfl,by kernel_rfl⟩
theorem mR{C:Addr}(h:Jh.any (Nat.beq C)=true):C=178∨C=190∨C=214∨C=202:=by
 unfold Jh at h
 simp only[List.any_cons,List.any_nil,Bool.or_false,Bool.or_eq_true] at h
 rcases h with h|h|h|h<;>have:=Nat.eq_of_beq_eq_true h
 ·exact .inl this
 ·exact .inr (.inl this)
 ·exact .inr (.inr (.inl this))
 ·exact .inr (.inr (.inr this))
end
theorem OP(w:World)(mg mb:Str->Option Value)(fU:Nat->List V->List Ob->aM V):iR (Gw w mg mb fU) where
 ex:=λC C' h h'=>by
  rcases mR h with rfl|rfl|rfl|rfl<;>rcases mR h' with rfl|rfl|rfl|rfl
  ·exact Ak _
  ·exact Ae _
  ·exact zV _
  ·exact AI _
  ·exact Ao _
  ·exact AM _
  ·exact yX _
  ·exact AO _
  ·exact yV _
  ·exact AQ _
  ·exact AG _
  ·exact y9 _
  ·exact zL _
  ·exact zc _
  ·exact zH _
  ·exact An _
 ga:=λC h=>by
  rcases mR h with rfl|rfl|rfl|rfl
  ·exact SP _
  ·exact Yn _
  ·exact TX _
  ·exact UN _
end
section
variable{G:Gc}{cf:Cf}{c:Fc}{s:Shared}{h h':Heap}{m m':Str->Option Value}{ν:List Addr}{Mu:List Obj}{I:Led}{ρ:ah}{H H₁ aQ H' R:List Ob}{n k:Nat}{sc:Sc}{a:Addr}{vs:List V}{v:V}
structure jc(G:Gc):Prop extends Good G where
 co:∀fU,iR (G.tb (jH fU))
theorem bx.conv(e:bx (G.tb cf) n a vs H v H'):bx G n a vs H v H':=by
 rintro c s m ν Mu I us R ok hb S rs post
 exact e c s m ν Mu I us R ok.conv ⟨hb.X,hb.g,hb.b,hb.lim⟩ S.conv rs λg h' ak aa aw I' u T x S' ru=>post g h' ak aa aw I' u T x (S'.conv (cf:=G.cf)) ru
theorem bx.eY(e:bx G n a vs H v H'):bx (G.tb cf) n a vs H v H':=bx.conv (G:=G.tb cf) (cf:=G.cf) e
theorem bx.more{n':Nat}(e:bx G n a vs H v H')(h:n<=n'):bx G n' a vs H v H':=λc s m ν Mu I us R ok=>e c s m ν Mu I us R (ok.less h)
theorem bx.pre(e:bx G n a vs H v H')(y:HA aQ H):bx G n a vs aQ v H':=λc s m ν Mu I us R ok hb S rs post=>e c s m ν Mu I us R ok hb (S.alike y) rs post
theorem Ub(g:jc G){fU:Nat->List V->List Ob->aM V}(oo:Told G k fU)(rel:List Addr)(n:Nat){r:Rx V}(h:rF (jH fU) rel n a vs H=some r)(ok:r.Ok):bx G (n+k) a vs H r.v r.H:=
 (xO (G:=G.tb (jH fU)) (g.gk fU) (g.lk fU) (g.xo fU) (λa vs H r q=>(oo a vs H r q).eY) (g.co fU) rel n a vs H r h ok).conv
noncomputable def flat(p:Nat):Ob->Bool
 |.av _=>true
 |.other=>true
 |.tab _ t _=>Nat.blt t p
 |_=>false
set_option tactic.hygienic true in
theorem az.flat{ν aa:List Addr}{o:Obj}{b:Ob}{p:Nat}(r:az G ν I o b)(h:Mine.flat p b=true)(cb:∀i a,i<p->ν[i]?=some a->aa[i]?=some a):az G aa I o b:=by
 cases r<;>first|(exact nf h;done)|exact .other|(exact .av (by assumption))|skip
 rename_i q
 exact .tab (cb _ _ (Nat.le_of_ble_eq_true h) q)
theorem bx.drop{t:Bool}(e:bx G n a vs H (.bool t) (H₁++R))(hp:H.length<=H₁.length)(hf:H₁.all (Mine.flat H₁.length)=true):bx G n a vs H (.bool t) H₁:=by
 rintro c s m ν Mu I us R' ok hb S rs post
 refine e c s m ν Mu I us R' ok hb S rs λg h' ak aa aw I' u T x S' ru=>?_
 have hl:H₁.length<=aa.length:=by rw[S'.aT,List.length_append];exact Nat.le_add_right _ _
 have at_:∀{i:Nat} {b:Ob},H₁[i]?=some b->(H₁++R)[i]?=some b/\i<H₁.length:=λ{i b} q=>by
  have:=(List.getElem?_eq_some_iff.mp q).1
  exact⟨by rw[List.getElem?_append_left this];exact q,this⟩
 refine post g h' ak (aa.take H₁.length) (aw.take H₁.length) I' u T ⟨?_,x.sub,λi b hi hb p hp=>?_⟩ ⟨S'.F,fy S'.N λp hp=>?_,S'.nd.sublist (List.take_sublist _ _),λp hp i b hi hb=>?_,by rw[List.length_take,List.length_take,S'.len],by rw[List.length_take];exact Nat.min_eq_left ‹_›,λi o b h1 h2=>?_,S'.big,λb hb=>S'.low b (List.mem_of_mem_take hb)⟩ ?_
 ·exact List.prefix_take_iff.mpr ⟨x.pre,by rw[S.aT];exact hp⟩
 ·exact x.fr i b hi (by
   have:=(List.getElem?_eq_some_iff.mp hb).1
   rw[List.getElem?_take] at hb
   split at hb
   ·exact hb
   ·exact no hb) p hp
 ·rcases List.mem_append.mp hp with hp|hp
  ·refine List.mem_append_left _ ?_
   simp only[List.zip,←List.take_zipWith] at hp
   exact List.mem_of_mem_take hp
  ·exact List.mem_append_right _ hp
 ·refine ae (at_ hb) λq1 q2=>?_
  refine S'.eP p hp i b ?_ q1
  rw[List.getElem?_take_of_lt q2] at hi
  exact hi
 ·refine ae (at_ h2) λq1 q2=>?_
  rw[List.getElem?_take_of_lt q2] at h1
  exact(S'.ob i o b h1 q1).flat (List.all_eq_true.mp hf b (List.mem_of_getElem? h2)) λi a hi q=>by rw[List.getElem?_take_of_lt hi];exact q
 ·cases ru;exact .bool _
theorem rj{p:Nat}{qg:List Item}(S:St G c h m ν Mu I H)(hp:H[p]?=some (.av qg)):∃a b,aB a b qg/\∀jY,aB a b jY->St G c h m ν Mu I (H.set p (.av jY)):=by
 have kf:p<H.length:=(List.getElem?_eq_some_iff.mp hp).1
 have hl:p<Mu.length:=by rw[←S.len,S.aT];exact kf
 have hM:Mu[p]?=some Mu[p]:=List.getElem?_eq_getElem hl
 have r0:=S.ob p _ _ hM hp
 generalize Jr:Mu[p]=ob0 at r0 hM
 cases r0 with
 | @av a b t u nn _ ht=>
  refine⟨a,b,ht,λjY bg=>⟨S.F,S.N,S.nd,λq hq i b' hi hb=>?_,S.len,by rw[S.aT,List.length_set],λi o' b' h1 h2=>?_,S.big,S.low⟩⟩
  ·by_cases e:p=i
   ·subst e
    have:=S.eP q hq p _ hi hp
    exact nf this
   ·rw[List.getElem?_set_ne e] at hb
    exact S.eP q hq i b' hi hb
  ·by_cases e:p=i
   ·subst e
    rw[List.getElem?_set_self kf] at h2
    obtain rfl:=ai h2
    rw[hM] at h1
    obtain rfl:=ai h1
    exact .av bg
   ·rw[List.getElem?_set_ne e] at h2
    exact S.ob i o' b' h1 h2
theorem bx.eQ{fa:Addr}(p:Nat){qg:List Item}(hp:H[p]?=some (.av qg))(h:∀a b,aB a b qg->∃jY,aB a b jY/\bx G n fa vs (H.set p (.av jY)) v H'):bx G n fa vs H v H':=by
 rintro c s m ν Mu I us R ok hb S rs post
 refine cz (rj S hp) λa b ht k=>?_
 refine ab (h a b ht) λjY bg e=>?_
 exact e c s m ν Mu I us R ok hb (k jY bg) rs post
theorem cD.eQ(p:Nat){qg:List Item}{ss:List Stmt}(hp:H[p]?=some (.av qg))(h:∀a b,aB a b qg->∃jY,aB a b jY/\cD G n sc ss ρ (H.set p (.av jY)) v H'):cD G n sc ss ρ H v H':=by
 rintro c s m ν Mu I Q E ok hb hc au S kn post
 refine cz (rj S hp) λa b ht k=>?_
 refine ab (h a b ht) λjY bg e=>?_
 exact e c s m ν Mu I Q E ok hb hc au (k jY bg) kn post
theorem bx.alike(e:bx G n a vs H v H')(y:HA H' aQ):bx G n a vs H v aQ:=λc s m ν Mu I us R ok hb S rs post=>e c s m ν Mu I us R ok hb S rs λg h' ak aa aw I' u T x S' ru=>post g h' ak aa aw I' u T x (S'.alike y) ru
noncomputable def lU(p:Nat)(b:Ob):Ob:=match Mine.flat p b with
 |true=>b
 |false=>.other
theorem pR(p:Nat):∀H:List Ob,HA H (H.map (lU p))
 |[]=>.nil
 |b::H=>.cons (by
   unfold lU
   split
   ·exact .refl b
   ·exact .other b) (pR p H)
theorem oO(p:Nat)(b:Ob):Mine.flat p (lU p b)=true:=by
 unfold lU
 split
 ·assumption
 ·rfl
noncomputable def zO(p:Nat):Option (Rx V)->Option (Rx V)
 |none=>none
 |some r=>match r.v with
  |.bool t=>match Nat.ble p r.H.length with
   |true=>some ⟨.bool t,(r.H.take p).map (lU p),r.cs⟩
   |false=>none
  |_=>none
theorem j9(g:jc G){fU:Nat->List V->List Ob->aM V}(oo:Told G k fU)(rel:List Addr)(n:Nat){r:Rx V}(h:zO H.length (rF (jH fU) rel n a vs H)=some r)(ok:r.Ok):bx G (n+k) a vs H r.v r.H:=by
 refine jb h ?_;clear h;intro tK hr h
 refine MM h ?_;clear h;intro t ht h
 refine ix h ?_;clear h;intro hl h
 obtain rfl:=ai h
 have hl:=Nat.le_of_ble_eq_true hl
 have e:=Ub g oo rel n hr ok
 rw[ht,←List.take_append_drop H.length tK.H] at e
 have e2:=e.alike (HA.app (pR H.length _) (HA.refl _))
 have len:((tK.H.take H.length).map (lU H.length)).length=H.length:=by rw[List.length_map,List.length_take];exact Nat.min_eq_left ‹_›
 refine e2.drop (by exact Nat.le_of_eq (Eq.symm ‹_›)) ?_
 rw[len,List.all_eq_true]
 intro b hb
 refine ab (List.mem_map.mp hb) λb' y1 fH=>?_;subst fH
 exact oO _ _
end
section
noncomputable def LH(t1 t2 t3 t4 t5:List (Nat×Nat))(l:List Item):List Ob:=[.other,.tab 1742 1 t1,.tab 1709 2 t2,.tab 1716 3 t3,.tab 1730 4 t4,.tab 1735 5 t5,.av l]
noncomputable def gL:List Addr:=[tU,bz,bC,aX,aE]
def iJ(n:Nat)(d:PyData):Prop:=Bf n d d=some true
def oq(n:Nat)(ds:List PyData):Prop:=Az n ds ds=some true
theorem iJ.none_{n:Nat}:iJ (n+1) .none:=rfl
theorem iJ.Sh{n:Nat}(b:Bool):iJ (n+1) (.bool b):=by induction b<;>rfl
theorem iJ.jh{n:Nat}(i:Int):iJ (n+1) (.int i):=by
 show some (Z.eqB i i)=some true
 rw[(Z.eqB_iff i i).mpr rfl]
theorem iJ.fp{n:Nat}(x:Str):iJ (n+1) (.str x):=by
 show some (du x x)=some true
 rw[aH.mpr rfl]
theorem iJ.eO{n:Nat}{ds:List PyData}(h:oq n ds):iJ (n+1) (.tuple ds):=h
theorem iJ.KZ{n:Nat}{ds:List PyData}(h:oq n ds):iJ (n+1) (.list ds):=h
theorem oq.dB{n:Nat}:oq (n+1) []:=rfl
theorem oq.aA{n:Nat}{d:PyData}{ds:List PyData}(h:iJ n d)(hs:oq n ds):oq (n+1) (d::ds):=by
 show(match Bf n d d with|some true=>Az n ds ds|some false=>some false|none=>none)=some true
 rw[show Bf n d d=some true from h]
 exact hs
mutual
theorem I7:∀(d:Nat) (r:Row) (s:Int) (m:Nat),cj d r=true->oq (m+14*(d+1)) (qx s r)
 |d,.bad,s,m,h=>by unfold qx;rw[Nat.mul_succ];exact .dB
 |d,.dZ,s,m,h=>by unfold qx;rw[Nat.mul_succ];exact .dB
 |d,.fT,s,m,h=>by unfold qx;rw[Nat.mul_succ];exact .dB
 |d,.blank,s,m,h=>by
  unfold qx;rw[Nat.mul_succ]
  exact .aA (.fp _) (.aA (.jh _) (.aA (.eO (.aA .none_ .dB)) (.aA (.eO (.aA (.eO (.aA (.fp _) (.aA (.eO (.aA (.fp _) (.aA (.fp _) .dB))) (.aA (.jh _) (.aA (.jh _) .dB))))) .dB)) .dB)))
 |d,.call,s,m,h=>by
  unfold qx;rw[Nat.mul_succ]
  exact .aA (.fp _) (.aA (.jh _) (.aA (.eO (.aA (.fp _) (.aA (.eO (.aA (.fp _) (.aA (.eO .dB) .dB))) (.aA (.jh _) (.aA (.eO (.aA (.fp _) (.aA (.fp _) .dB))) (.aA (.eO .dB) .dB)))))) .dB))
 |0,.dg l,s,m,h=>by exact nf h
 |d+1,.dg l,s,m,h=>by
  refine aJ h λh1 h2=>?_
  have hl:=Nat.le_of_ble_eq_true h1
  have e:=lO d l true s 0 (m+9-l.length) h2
  rw[show m+9-l.length+l.length+1+14*(d+1)=(m+10+14*(d+1)) from by exact om1 ‹_› (by decide)] at e
  rw[show m+14*(d+1+1)=(m+10+14*(d+1))+4 from by exact SN (by decide)]
  exact .aA (.fp _) (.aA (.jh _) (.aA (.eO e) .dB))
theorem lO:∀(d:Nat) (l:List Row) (f:Bool) (s k:Int) (m:Nat),bB d f l=true->oq (m+l.length+1+14*(d+1)) (gg s k l)
 |d,[],f,s,k,m,h=>by rw[Nat.mul_succ];exact .dB
 |d,r::l,f,s,k,m,h=>by
  refine aJ h λh1 h2=>?_
  refine aJ h1 λh3 h4=>?_
  unfold gg
  split
  ·have:=lO d l _ s (k+1) (m+1) h2
   rw[show m+1+l.length+1+14*(d+1)=m+(r::l).length+1+14*(d+1) from by simp only[List.length_cons];exact Tt] at this
   exact this
  ·have e1:=I7 d r (10*s+k) (m+l.length) h4
   have e2:=lO d l _ s (k+1) m h2
   rw[show m+(r::l).length+1+14*(d+1)=(m+l.length+1+14*(d+1))+1 from by simp only[List.length_cons];exact SI]
   refine .aA ?_ e2
   rw[show m+l.length+1+14*(d+1)=(m+l.length+14*(d+1))+1 from by exact adW]
   exact .eO e1
end
theorem mr{l:List Row}(s:Int)(n:Nat)(hf:bB 1 true l=true)(hl:l.length<=3)(hn:32<=n):oq n (gg s 0 l):=by
 have e:=lO 1 l true s 0 (n-29-l.length) hf
 rw[show n-29-l.length+l.length+1+14*(1+1)=n from by exact Tp ‹_› ‹_›] at e
 exact e
end
section
variable{G:Gc}
noncomputable def aa'(k:Nat)(s:Int)(l':List Row):V:=match k with
 |0=>.tup [jK,.int (bp s 0 l' s)]
 |1=>.tup [fJ,.int (bp s 0 l' s)]
 |2=>.tup [fJ,.int (bp s 0 l' s)]
 |_=>.tup [aY,.int s,.b9 s l']
noncomputable def yb(k:Nat)(s:Int)(l':List Row)(l:List Item):Rs V:=.ok (.tup [.tup [aY,.int s,.aL 1 k s l'],aa' k s l']) [.av l]
theorem Pe(g:Good G)(s:Int)(k:Nat)(l':List Row)(l:List Item):aW G 440 dp [.obj 0,.int s,.int (.ofNat 1)] [.av (.block 1 k l'::l)] (yb k s l' l):=by
 refine aW.eQ λa b ht=>?_
 refine dH (eH (made 1) a b ht.2.2.1 ht.2.2.2.1) λm1 m2 m3 m4=>?_
 rw[ht.1] at m1 m2
 have hk:=ht.2.1
 refine⟨_,.inr ⟨_,ht,rfl⟩,?_⟩
 have e:=OK g s k l' l
 have key:VA (.held 2 (nA k) s (.dg l')) (.tup [aY,.int s,.aL 1 k s l']):=by
  refine VA.trans .wu ?_
  rw[pZ]
  exact .tup (.cons (.refl _) (.cons (.refl _) (.cons (.aL hk m1 m2) (.refl _))))
 subst hk
 rcases bA l' with h|h|h|h<;>rw[h] at e key ⊢
 ·exact e.alike (.ok (.tup (.cons key (.refl _))) (HA.refl _))
 ·exact e.alike (.ok (.tup (.cons key (.refl _))) (HA.refl _))
 ·exact e.alike (.ok (.tup (.cons key (.refl _))) (HA.refl _))
 ·exact e.alike (.ok (.tup (.cons key (.refl _))) (HA.refl _))
noncomputable def ud:Nat->List V->List Ob->aM V:=pW dp (bL lR (bL uZ (bL wF kA))) λx H=>lg H x.1 λy l=>wG y λd' k l'=>
 gb (Nat.beq x.2.2.1 1&&Nat.beq d' 1) (some (ip [x.1] H [.av (.block 1 k l'::l)] (yb k x.2.1 l' l)))
theorem qL(g:Good G){k:Nat}(hn:440<=k):Told G k ud:=dW λvs x H q hp hq=>by
 obtain rfl:=pn hp
 replace hq:=jQ hq
 refine cz hq ?_;clear hq;intro y l hi hq
 replace hq:=tY hq
 refine rl hq ?_;clear hq;intro d' kk l' aU hq;subst aU
 replace hq:=fu hq
 refine ae hq ?_;clear hq;intro hb hq
 refine ae (zK hb) λb1 aU=>?_;subst aU
 obtain rfl:=ai hq
 rw[b1]
 exact((Pe g x.2.1 kk l' l).frame (n8 hi) (by rfl)).more hn
noncomputable def yz(c i:Nat):List Nat:=bK (c-38) 34++bK (c-38+37) 8++[i]
noncomputable def xZ(H:List Ob)(c:Nat):Nat:=match c with
 |0=>0
 |c+1=>match cJ H c with
  |some (.attrs fs)=>match bT r8 fs with
   |some (.obj i)=>i
   |_=>0
  |_=>0
noncomputable def U3:Nat->List V->List Ob->aM V:=pW aG (bL lR (bL (Iq (bL Hs (bL uZ (bL pa kA)))) kA)) λx H=>
 gb (Nat.beq x.2.1.2.2.1.1 1&&Nat.ble 38 x.1) (iO (yz x.1 (xZ H x.1)) (gi false true++[true]) (S0 (.list [])) (kS (.list []) x.2.1.2.2.1.2.1 x.2.1.2.1 x.2.1.2.2.1.2.2.1 x.2.1.2.2.1.2.2.2) H)
theorem P'(c i:Nat)(h:38<=c):jr (yz c i) 35=c:=by
 refine bF (Nat.exists_eq_add_of_le h) λo aU=>?_;subst aU
 unfold yz
 rw[show 38+o-38=o from by exact ac4 ‹_›]
 show o+37+1=_
 exact abL
theorem Ac(g:Good G){k:Nat}(hn:340<=k):Told G k U3:=dW λvs x H q hp hq=>by
 obtain rfl:=uA hp
 replace hq:=fu hq
 refine ae hq ?_;clear hq;intro hb hq
 refine aJ hb λhd0 hc0=>?_
 have EW:=Nat.le_of_ble_eq_true hc0
 have A3:=Nat.eq_of_beq_eq_true hd0
 rw[A3]
 clear A3 hd0 hb hc0 hp
 show aW G k aG [.obj x.1,.tup [.str x.2.1.1,.int x.2.1.2.1,.aL 1 x.2.1.2.2.1.2.1 x.2.1.2.2.1.2.2.1 x.2.1.2.2.1.2.2.2]] H q
 generalize x.2.1.2.2.1.2=y at*
 obtain⟨kk,s,l⟩:=y
 dsimp only at hq ⊢
 refine aW.rH λhk hf hl=>?_
 have e:=(adb g (.str x.2.1.1) x.2.1.2.1 s l hl hf).pre (rg (d:=1) (k:=kk)) (HA.refl _)
 rw[←hk] at e
 refine(eK e hq (by rfl) ?_).more hn
 show[V.obj x.1,V.tup [.str x.2.1.1,V.int x.2.1.2.1,.aL 1 kk s l]]=[V.obj (jr (yz x.1 (xZ H x.1)) 35),V.tup [.str x.2.1.1,V.int x.2.1.2.1,.aL 1 kk s l]]
 rw[P' x.1 _ EW]
noncomputable abbrev orL:Nat->List V->List Ob->aM V:=orElse bG (orElse ud U3)
theorem jI(g:Good G):Told G 440 orL:=eM (aq g (by decide)) (eM (qL g (Nat.le_refl _)) (Ac g (by decide)))
end
section
variable{G:Gc}{n k:Nat}{a:Addr}{vs:List V}{H H₁:List Ob}
noncomputable def uP:List sC->Bool
 |[]=>true
 |q::l=>match Bf 60 q.x q.y with
  |some true=>uP l
  |_=>false
theorem jz:∀{l:List sC},uP l=true->∀q∈l,q.Ok
 |[],_,_,h=>by cases h
 |q::l,h,q',hq=>by
  refine Ys h ?_;clear h;intro e h
  rcases List.mem_cons.mp hq with rfl|hq
  ·exact e
  ·exact jz h q' hq
noncomputable def Pb(r:Option (Rx V)):Option (List Ob):=match r with
 |none=>none
 |some r=>match r.v with
  |.bool t=>match t&&uP r.cs with
   |true=>some r.H
   |false=>none
  |_=>none
theorem ft(g:jc G){fU:Nat->List V->List Ob->aM V}(oo:Told G k fU)(rel:List Addr)(n:Nat)(h:Pb (zO H.length (rF (jH fU) rel n a vs H))=some H₁):bx G (n+k) a vs H (.bool true) H₁:=by
 refine jb h ?_;clear h;intro r hr h
 refine MM h ?_;clear h;intro t ht h
 refine ix h ?_;clear h;intro hc h
 obtain rfl:=ai h
 refine aJ hc λh1 h2=>?_
 have e:=j9 g oo rel n hr (jz h2)
 rw[ht,h1] at e
 exact e
section
variable(g:jc G)(t1 t2 t3 t4:List (Nat×Nat))(l:List Item)
include g
theorem ac7:bx G 150 aE [.obj 6] (LH t1 t2 t3 t4 [] (.draw 2 0::.draw 5 0::l)) (.bool true) (LH t1 t2 t3 t4 [(1772,22)] l):=ft g (aq g.toGood (Nat.le_refl 60)) gL 90 (by kernel_rfl)
theorem ab8:bx G 150 aE [.obj 6] (LH t1 t2 t3 t4 [] (.draw 2 0::.draw 5 1::l)) (.bool true) (LH t1 t2 t3 t4 [(1772,22)] l):=ft g (aq g.toGood (Nat.le_refl 60)) gL 90 (by kernel_rfl)
theorem adF:bx G 150 aE [.obj 6] (LH t1 t2 t3 t4 [] (.draw 2 0::.draw 5 2::l)) (.bool true) (LH t1 t2 t3 t4 [(1772,22)] l):=ft g (aq g.toGood (Nat.le_refl 60)) gL 90 (by kernel_rfl)
theorem aaZ:bx G 150 aE [.obj 6] (LH t1 t2 t3 t4 [] (.draw 2 0::.draw 5 3::l)) (.bool true) (LH t1 t2 t3 t4 [(1772,22)] l):=ft g (aq g.toGood (Nat.le_refl 60)) gL 90 (by kernel_rfl)
theorem acX:bx G 150 aE [.obj 6] (LH t1 t2 t3 t4 [] (.draw 2 0::.draw 5 4::l)) (.bool true) (LH t1 t2 t3 t4 [(1772,22)] l):=ft g (aq g.toGood (Nat.le_refl 60)) gL 90 (by kernel_rfl)
theorem adJ:bx G 150 aE [.obj 6] (LH t1 t2 t3 t4 [] (.draw 2 1::.draw 5 0::l)) (.bool true) (LH t1 t2 t3 t4 [(1772,22)] l):=ft g (aq g.toGood (Nat.le_refl 60)) gL 90 (by kernel_rfl)
theorem abq:bx G 150 aE [.obj 6] (LH t1 t2 t3 t4 [] (.draw 2 1::.draw 5 1::l)) (.bool true) (LH t1 t2 t3 t4 [(1772,22)] l):=ft g (aq g.toGood (Nat.le_refl 60)) gL 90 (by kernel_rfl)
theorem abm:bx G 150 aE [.obj 6] (LH t1 t2 t3 t4 [] (.draw 2 1::.draw 5 2::l)) (.bool true) (LH t1 t2 t3 t4 [(1772,22)] l):=ft g (aq g.toGood (Nat.le_refl 60)) gL 90 (by kernel_rfl)
theorem aaX:bx G 150 aE [.obj 6] (LH t1 t2 t3 t4 [] (.draw 2 1::.draw 5 3::l)) (.bool true) (LH t1 t2 t3 t4 [(1772,22)] l):=ft g (aq g.toGood (Nat.le_refl 60)) gL 90 (by kernel_rfl)
theorem abj:bx G 150 aE [.obj 6] (LH t1 t2 t3 t4 [] (.draw 2 1::.draw 5 4::l)) (.bool true) (LH t1 t2 t3 t4 [(1772,22)] l):=ft g (aq g.toGood (Nat.le_refl 60)) gL 90 (by kernel_rfl)
theorem cr:bx G 150 aE [.obj 6] (LH t1 t2 t3 t4 [] []) (.bool true) (LH t1 t2 t3 t4 [(1772,22)] []):=by
 refine bx.eQ 6 rfl λa b ht=>?_
 refine ae ht ?_;clear ht;intro ha hb
 obtain⟨w,a1,b1,hs,hw,oh,nk⟩:=aP a b 2 ha hb (by decide)
 obtain⟨v,a2,b2,Rg,hv,Rm,QA⟩:=aP a1 b1 5 oh nk (by decide)
 refine⟨[.draw 2 w,.draw 5 v],aB.draw hs (by decide) ha hb (aB.draw Rg (by decide) oh nk ⟨Rm,QA⟩),?_⟩
 match w,hw,v,hv with
 |0,_,0,_=>exact ac7 g t1 t2 t3 t4 []
 |0,_,1,_=>exact ab8 g t1 t2 t3 t4 []
 |0,_,2,_=>exact adF g t1 t2 t3 t4 []
 |0,_,3,_=>exact aaZ g t1 t2 t3 t4 []
 |0,_,4,_=>exact acX g t1 t2 t3 t4 []
 |1,_,0,_=>exact adJ g t1 t2 t3 t4 []
 |1,_,1,_=>exact abq g t1 t2 t3 t4 []
 |1,_,2,_=>exact abm g t1 t2 t3 t4 []
 |1,_,3,_=>exact aaX g t1 t2 t3 t4 []
 |1,_,4,_=>exact abj g t1 t2 t3 t4 []
 |_+2,h,_,_=>exact fj ‹_›
 |0,_,_+5,h=>exact fj ‹_›
 |1,_,_+5,h=>exact fj ‹_›
end
end
section
variable{G:Gc}
noncomputable abbrev pJ(s:Int):PyData:=.tuple [.str (S 0x74797065206661756c74),.int s]
noncomputable abbrev pA(s:Int):PyData:=.tuple [.str (S 0x666c6f77206661756c74),.int s]
noncomputable abbrev BA(s:Int)(l:List PyData):PyData:=.tuple [my [98,108,111,99,107],.int s,.tuple l]
theorem pX{α:Type}{v:α}{H:List Ob}{d:PyData}(h:iJ 60 d):(⟨v,H,[⟨d,d⟩]⟩:Rx α).Ok:=λq hq=>by
 rw[List.mem_singleton.mp hq]
 exact h
theorem pg(s:Int):iJ 60 (pJ s):=.eO (.aA (.fp _) (.aA (.jh _) .dB))
theorem lY(s:Int):iJ 60 (pA s):=.eO (.aA (.fp _) (.aA (.jh _) .dB))
section
variable(g:jc G)(t1 t3 t4 t5:List (Nat×Nat))(l:List Item)(l':List Row)
include g
theorem br0:bx G 530 bz [.obj 6] (LH t1 [] t3 t4 t5 (.block 1 0 l'::l)) (.bool true) (LH t1 [(1734,22)] t3 t4 t5 l):=
 j9 g (jI g.toGood) gL 90 (r:=⟨.bool true,LH t1 [(1734,22)] t3 t4 t5 l,[⟨pJ (bp 2 0 l' 2),pJ (bp 2 0 l' 2)⟩]⟩) (by kernel_rfl) (pX (pg _))
theorem br1:bx G 530 bz [.obj 6] (LH t1 [] t3 t4 t5 (.block 1 1 l'::l)) (.bool true) (LH t1 [(1734,22)] t3 t4 t5 l):=
 j9 g (jI g.toGood) gL 90 (r:=⟨.bool true,LH t1 [(1734,22)] t3 t4 t5 l,[⟨pA (bp 2 0 l' 2),pA (bp 2 0 l' 2)⟩]⟩) (by kernel_rfl) (pX (lY _))
theorem br2:bx G 530 bz [.obj 6] (LH t1 [] t3 t4 t5 (.block 1 2 l'::l)) (.bool true) (LH t1 [(1734,22)] t3 t4 t5 l):=
 j9 g (jI g.toGood) gL 90 (r:=⟨.bool true,LH t1 [(1734,22)] t3 t4 t5 l,[⟨pA (bp 2 0 l' 2),pA (bp 2 0 l' 2)⟩]⟩) (by kernel_rfl) (pX (lY _))
theorem br3(hf:bB 1 true l'=true)(hl:l'.length<=3):bx G 530 bz [.obj 6] (LH t1 [] t3 t4 t5 (.block 1 3 l'::l)) (.bool true) (LH t1 [(1734,22)] t3 t4 t5 l):=
 j9 g (jI g.toGood) gL 90 (r:=⟨.bool true,LH t1 [(1734,22)] t3 t4 t5 l,[⟨BA 2 (gg 2 0 l'),BA 2 (gg 2 0 l')⟩]⟩) (by kernel_rfl)
  (pX (.eO (.aA (.fp _) (.aA (.jh _) (.aA (.eO (mr 2 _ hf hl (by decide))) .dB)))))
theorem br(k:Nat):bx G 530 bz [.obj 6] (LH t1 [] t3 t4 t5 (.block 1 k l'::l)) (.bool true) (LH t1 [(1734,22)] t3 t4 t5 l):=by
 refine bx.eQ 6 rfl λa b ht=>?_
 refine dH (eH (made 1) a b ht.2.2.1 ht.2.2.2.1) λm1 m2 m3 m4=>?_
 rw[ht.1] at m1 m2
 have hk:=ht.2.1
 refine⟨_,ht,?_⟩
 rcases bA l' with h|h|h|h<;>rw[h] at hk<;>subst hk
 ·exact br0 g t1 t3 t4 t5 l l'
 ·exact br1 g t1 t3 t4 t5 l l'
 ·exact br2 g t1 t3 t4 t5 l l'
 ·exact br3 g t1 t3 t4 t5 l l' m1 m2
end
end
section
variable{G:Gc}
noncomputable def u7(t1 t2 t3 t4 t5:List (Nat×Nat))(l:List Item):List Ob:=[.other,.tab 1742 1 t1,.tab 1709 2 t2,.tab 1716 3 t3,.tab 1730 4 t4,.tab 1735 5 t5,.av l,.other]
noncomputable def GR:V:=.tup [.str (S 0x6c6f63616c),.tup [.str p8],.int 8,.int 90]
noncomputable def Jc:V:=.tup [.str (S 0x6c6f63616c),.tup [.str td,.str (S 0x6d61696e2e42)],.int 8,.int 91]
noncomputable def IL:V:=.tup [.str AH,.tup [.str nr,.str p8],.int 8,.bool true]
noncomputable def Ir:V:=.tup [.str (S 0x6c6f63616c),.tup [.str jq,.str jq],.int 8,.int 92]
def Fits(l:List Row):Prop:=bB 1 true l=true/\l.length<=3
noncomputable abbrev Dv(s:Int)(l:List PyData):PyData:=.tuple [.str sJ,.int s,.tuple l]
noncomputable def dDo:PyData:=.tuple [.str (S 0x646f),.int 3,.tuple [.str HE,.tuple [.str (S 0x7475706c65),.tuple []],.int 3,.tuple [.str (S 0x666e),.str (S 0x6d61696e2e67)],.tuple []]]
noncomputable def Ra(mv:PyData)(l1:List Row)(mn:PyData):PyData:=.tuple [.str Bo,.int 9,mv,Dv 4 (gg 4 0 l1),mn]
noncomputable def JZ(l2:List Row):PyData:=Dv 5 [Dv 5 (gg 5 0 l2)]
noncomputable def LY(x:PyData):PyData:=.list [x]
noncomputable def Ks(x:PyData):PyData:=.list [Dv 9 [dDo,x]]
noncomputable def dM0:PyData:=.tuple [.str (S 0x6c6f63616c),.tuple [.str p8],.int 8,.int 90]
theorem TP(n:Nat):iJ (n+10) dM0:=.eO (.aA (.fp _) (.aA (.eO (.aA (.fp _) .dB)) (.aA (.jh _) (.aA (.jh _) .dB))))
noncomputable def dM1:PyData:=.tuple [.str (S 0x6c6f63616c),.tuple [.str td,.str (S 0x6d61696e2e42)],.int 8,.int 91]
theorem U8(n:Nat):iJ (n+10) dM1:=.eO (.aA (.fp _) (.aA (.eO (.aA (.fp _) (.aA (.fp _) .dB))) (.aA (.jh _) (.aA (.jh _) .dB))))
noncomputable def dM2:PyData:=.tuple [.str AH,.tuple [.str p8],.int 8,.bool true]
theorem Ul(n:Nat):iJ (n+10) dM2:=.eO (.aA (.fp _) (.aA (.eO (.aA (.fp _) .dB)) (.aA (.jh _) (.aA (.Sh _) .dB))))
theorem Tc(n:Nat):iJ (n+20) dDo:=.eO (.aA (.fp _) (.aA (.jh _) (.aA (.eO (.aA (.fp _) (.aA (.eO (.aA (.fp _) (.aA (.eO .dB) .dB))) (.aA (.jh _) (.aA (.eO (.aA (.fp _) (.aA (.fp _) .dB))) (.aA (.eO .dB) .dB)))))) .dB)))
theorem sN{n:Nat}{s:Int}{ds:List PyData}(h:oq n ds):iJ (n+5) (Dv s ds):=.eO (.aA (.fp _) (.aA (.jh _) (.aA (.eO h) .dB)))
theorem eq_if{j:Nat}{mv mn:PyData}{l1:List Row}(hj:32<=j)(hm:iJ (j+7) mv)(h1:Fits l1)(hl:iJ (j+5) mn):iJ (j+11) (Ra mv l1 mn):=
 .eO (.aA (.fp _) (.aA (.jh _) (.aA hm (.aA (sN (n:=j+1) (mr 4 _ h1.1 h1.2 (Nat.le_succ_of_le hj))) (.aA hl .dB)))))
theorem yy{j:Nat}{l2:List Row}(hj:32<=j)(h2:Fits l2):iJ (j+11) (JZ l2):=sN (n:=j+6) (.aA (sN (mr 5 _ h2.1 h2.2 hj)) .dB)
theorem Gj{mv mn:PyData}{l1:List Row}(hm:∀n,iJ (n+10) mv)(h1:Fits l1)(hl:iJ 52 mn):iJ 60 (LY (Ra mv l1 mn)):=.KZ (.aA (eq_if (j:=47) (by decide) (hm 44) h1 hl) .dB)
theorem H9{mv mn:PyData}{l1:List Row}(hm:∀n,iJ (n+10) mv)(h1:Fits l1)(hl:iJ 45 mn):iJ 60 (Ks (Ra mv l1 mn)):=.KZ (.aA (sN (n:=53) (.aA (Tc 32) (.aA (eq_if (j:=40) (by decide) (hm 37) h1 hl) .dB))) .dB)
theorem uL(l:List Row):kindB l<4:=by rcases bA l with e|e|e|e<;>rw[e]<;>decide
noncomputable def Q3(w k:Nat)(l:List Row):Option (Nat×List Row)->List Item
 |none=>[.draw 2 w,.block 1 k l,.draw 2 1]
 |some p=>[.draw 2 w,.block 1 k l,.draw 2 0,.block 1 p.1 p.2]
noncomputable def irE(s:Int)(l:List Row)(d:PyData):Nat->PyData
 |0=>pJ (bp s 0 l s)
 |1=>pA (bp s 0 l s)
 |2=>pA (bp s 0 l s)
 |_=>d
noncomputable def irD(row:PyData->PyData)(dm:PyData)(k:Nat)(l:List Row)(y:Option (Nat×List Row)):PyData:=irE 4 l (match y with
 |none=>row (Ra dm l .none)
 |some p=>irE 5 p.2 (row (Ra dm l (JZ p.2))) p.1) k
theorem wW{s:Int}{l:List Row}{d:PyData}{k:Nat}(hk:k<4)(h:iJ 60 d):iJ 60 (irE s l d k):=by
 rcases PM hk with e|e|e|e<;>rw[e]
 ·exact pg _
 ·exact lY _
 ·exact lY _
 ·exact h
noncomputable def irC(w k:Nat)(l:List Row):List (Nat×Nat×Option (Nat×List Row)):=([0,1,2,3].map λi=>(w,i,none))++([0,1,2].map λi=>(w,i,some (k,l)))++[0,1,2,3].map λi=>(w,3,some (i,l))
def NO(y:Option (Nat×List Row)):Prop:=∀p,y=some p->p.1<4/\Fits p.2
theorem Bl{w:Nat}(h:w<2):w∈[0,1]:=(by decide:∀w,w<2->w∈[0,1]) w h
theorem xK{w:Nat}(h:w<4):w∈[0,1,2,3]:=(by decide:∀w,w<4->w∈[0,1,2,3]) w h
theorem Dh{w k k2:Nat}{l2:List Row}{y:Option (Nat×List Row)}(hk:k<4)(hy:y=none∨y=some (k2,l2)/\k2<4):(w,k,y)∈irC w k2 l2:=by
 rcases hy with e|⟨e,h2⟩<;>rw[e]
 ·exact List.mem_append_left _ (List.mem_append_left _ (List.mem_map.mpr ⟨k,xK hk,rfl⟩))
 ·rcases Nat.lt_or_ge k 3 with h|h
  ·exact List.mem_append_left _ (List.mem_append_right _ (List.mem_map.mpr ⟨k,(by decide:∀w,w<3->w∈[0,1,2]) k h,rfl⟩))
  ·rw[Nat.le_antisymm (Nat.le_of_lt_succ hk) h]
   exact List.mem_append_right _ (List.mem_map.mpr ⟨k2,xK h2,rfl⟩)
section
variable(g:jc G)(t1 t2 t4 t5:List (Nat×Nat))
noncomputable def VX(m:V)(X:List Item):Option (Rx V):=zO 8 (rF (jH orL) gL 90 bC [.obj 6,m] (u7 t1 t2 [] t4 t5 X))
noncomputable def Td(d:PyData):Option (Rx V):=some ⟨.bool true,u7 t1 t2 [(1753,22)] t4 t5 [],[⟨d,d⟩]⟩
include g in
theorem irG{m:V}(h:∀w k l y,w<2->k<4->Fits l->NO y->∃d,VX t1 t2 t4 t5 m (Q3 w k l y)=Td t1 t2 t4 t5 d/\iJ 60 d):bx G 530 bC [.obj 6,m] (u7 t1 t2 [] t4 t5 []) (.bool true) (u7 t1 t2 [(1753,22)] t4 t5 []):=by
 refine bx.eQ 6 rfl λa b ht=>?_
 refine ae ht ?_;clear ht;intro ha hb
 obtain⟨w,a1,b1,hs,hw,oh,nk⟩:=aP a b 2 ha hb (by decide)
 refine dH (eH (made 1) a1 b1 oh nk) λf1 n1 Rm QA=>?_
 generalize hg:aK 1 a1 b1=z1 at*
 obtain⟨l1,a2,b2⟩:=z1
 obtain⟨o,a3,b3,Rg,ho,ha3,hb3⟩:=aP a2 b2 2 Rm QA (by decide)
 refine dH (eH (made 1) a3 b3 ha3 hb3) λf2 n2 ha4 hb4=>?_
 generalize hg2:aK 1 a3 b3=z2 at*
 obtain⟨l2,a4,b4⟩:=z2
 have top:∀X,aB a3 b3 X->aB a b (.draw 2 w::.block 1 (kindB l1) l1::.draw 2 o::X):=λX hX=>
  aB.draw hs (by decide) ha hb ⟨by rw[hg],rfl,oh,nk,by rw[hg];exact aB.draw Rg (by decide) Rm QA hX⟩
 have run:∀y,NO y->bx G 530 bC [.obj 6,m] (u7 t1 t2 [] t4 t5 (Q3 w (kindB l1) l1 y)) (.bool true) (u7 t1 t2 [(1753,22)] t4 t5 []):=λy hy=>
  ab (h w _ l1 y hw (uL l1) ⟨f1,n1⟩ hy) λd e q=>j9 g (jI g.toGood) gL 90 (r:=⟨.bool true,u7 t1 t2 [(1753,22)] t4 t5 [],[⟨d,d⟩]⟩) e (pX q)
 rcases(by decide:∀o,o<2->o=0∨o=1) o ho with e|e<;>rw[e] at top
 ·exact⟨_,top [.block 1 (kindB l2) l2] ⟨by rw[hg2],rfl,ha3,hb3,by rw[hg2];exact⟨ha4,hb4⟩⟩,run (some (kindB l2,l2)) λp e=>by rw[←Option.some.inj e];exact⟨uL l2,f2,n2⟩⟩
 ·exact⟨_,top [] ⟨ha3,hb3⟩,run none λp e=>no e⟩
noncomputable def irW:Nat->PyData->PyData
 |0=>Ks
 |_=>LY
theorem Ce{dm:PyData}(hm:∀n,iJ (n+10) dm)(w:Nat)(l:List Row)(mn:PyData)(hl:Fits l)(h1:iJ 52 mn)(h2:iJ 45 mn):iJ 60 (irW w (Ra dm l mn)):=by
 induction w using Nat.casesOn with
 |zero=>exact H9 hm hl h2
 |succ=>exact Gj hm hl h1
def IX(m:V)(dm:PyData)(w:Nat):Prop:=∀t1 t2 t4 t5 l k2 l2,(irC w k2 l2).map (λc=>VX t1 t2 t4 t5 m (Q3 c.1 c.2.1 l c.2.2))=(irC w k2 l2).map (λc=>Td t1 t2 t4 t5 (irD (irW c.1) dm c.2.1 l c.2.2))
theorem irH{m:V}{dm:PyData}(hm:∀n,iJ (n+10) dm)(h0:IX m dm 0)(h1:IX m dm 1)(w k:Nat)(l:List Row)(y:Option (Nat×List Row))(hw:w<2)(hk:k<4)(hl:Fits l)(hy:NO y):
  ∃d,VX t1 t2 t4 t5 m (Q3 w k l y)=Td t1 t2 t4 t5 d/\iJ 60 d:=by
 have h:IX m dm w:=by
  rcases(by decide:∀o,o<2->o=0∨o=1) w hw with e|e<;>rw[e]
  ·exact h0
  ·exact h1
 induction y with
 |none=>exact⟨_,List.map_inj_left.mp (h t1 t2 t4 t5 l 0 []) (w,k,none) (Dh hk (.inl rfl)),wW hk (Ce hm w l _ hl .none_ .none_)⟩
 |some p=>
  refine ae (hy p rfl) λh2 f2=>?_
  exact⟨_,List.map_inj_left.mp (h t1 t2 t4 t5 l p.1 p.2) (w,k,some p) (Dh hk (.inr ⟨rfl,h2⟩)),wW hk (wW h2 (Ce hm w l _ hl (yy (j:=41) (by decide) f2) (yy (j:=34) (by decide) f2)))⟩
theorem Vg:IX GR dM0 0:=λζ ζ ζ ζ ζ ζ ζ=>by kernel_rfl
theorem Yb:IX GR dM0 1:=λζ ζ ζ ζ ζ ζ ζ=>by kernel_rfl
theorem Ux:IX Jc dM1 0:=λζ ζ ζ ζ ζ ζ ζ=>by kernel_rfl
theorem Xw:IX Jc dM1 1:=λζ ζ ζ ζ ζ ζ ζ=>by kernel_rfl
theorem W7:IX IL dM2 0:=λζ ζ ζ ζ ζ ζ ζ=>by kernel_rfl
theorem XF:IX IL dM2 1:=λζ ζ ζ ζ ζ ζ ζ=>by kernel_rfl
include g in
theorem adk:bx G 530 bC [.obj 6,GR] (u7 t1 t2 [] t4 t5 []) (.bool true) (u7 t1 t2 [(1753,22)] t4 t5 []):=irG g t1 t2 t4 t5 (irH t1 t2 t4 t5 TP Vg Yb)
include g in
theorem abO:bx G 530 bC [.obj 6,Jc] (u7 t1 t2 [] t4 t5 []) (.bool true) (u7 t1 t2 [(1753,22)] t4 t5 []):=irG g t1 t2 t4 t5 (irH t1 t2 t4 t5 U8 Ux Xw)
include g in
theorem adP:bx G 530 bC [.obj 6,IL] (u7 t1 t2 [] t4 t5 []) (.bool true) (u7 t1 t2 [(1753,22)] t4 t5 []):=irG g t1 t2 t4 t5 (irH t1 t2 t4 t5 Ul W7 XF)
include g in
theorem abp:bx G 530 bC [.obj 6,Ir] (u7 t1 t2 [] t4 t5 []) (.bool true) (u7 t1 t2 [(1753,22)] t4 t5 []):=irG g t1 t2 t4 t5 λw k l y hw ζ ζ ζ=>⟨pJ 9,(by
 have h:([0,1].map λw=>VX t1 t2 t4 t5 Ir (Q3 w k l none))=([0,1].map λζ=>Td t1 t2 t4 t5 (pJ 9)):=by kernel_rfl
 have h':∀p,([0,1].map λw=>VX t1 t2 t4 t5 Ir (Q3 w k l (some p)))=([0,1].map λζ=>Td t1 t2 t4 t5 (pJ 9)):=λζ=>by kernel_rfl
 induction y with
 |none=>exact List.map_inj_left.mp h w (Bl hw)
 |some p=>exact List.map_inj_left.mp (h' p) w (Bl hw)),pg _⟩
end
end
section
variable{G:Gc}
noncomputable def bc(w:Nat):V:=match w with
 |0=>.none
 |_=>.str (S 0x41)
noncomputable def pickK(w:Nat):V:=match w with
 |0=>.str kx
 |1=>.str ll
 |_=>.str gA
noncomputable def EL:List V:=[.none,.str (S 0x41)]
noncomputable def Cp:List V:=[.str kx,.str ll,.str gA]
section
variable(g:Good G)(l:List Item)
include g
theorem Wa:aW G 120 eN [.obj 0,.obj 1] [.av (.draw 2 0::l),.list EL] (.ok (bc 0) [.av l,.list EL]):=bb g (aq g (Nat.le_refl 60)) 60 [0,1] [] (by kernel_rfl)
theorem Wr:aW G 120 eN [.obj 0,.obj 1] [.av (.draw 2 1::l),.list EL] (.ok (bc 1) [.av l,.list EL]):=bb g (aq g (Nat.le_refl 60)) 60 [0,1] [] (by kernel_rfl)
theorem Xn:aW G 120 eN [.obj 0,.obj 1] [.av (.draw 3 0::l),.list Cp] (.ok (pickK 0) [.av l,.list Cp]):=bb g (aq g (Nat.le_refl 60)) 60 [0,1] [] (by kernel_rfl)
theorem SK:aW G 120 eN [.obj 0,.obj 1] [.av (.draw 3 1::l),.list Cp] (.ok (pickK 1) [.av l,.list Cp]):=bb g (aq g (Nat.le_refl 60)) 60 [0,1] [] (by kernel_rfl)
theorem Te:aW G 120 eN [.obj 0,.obj 1] [.av (.draw 3 2::l),.list Cp] (.ok (pickK 2) [.av l,.list Cp]):=bb g (aq g (Nat.le_refl 60)) 60 [0,1] [] (by kernel_rfl)
theorem adY(w:Nat):aW G 120 eN [.obj 0,.obj 1] [.av (.draw 2 w::l),.list EL] (.ok (bc w) [.av l,.list EL]):=by
 refine aW.eQ λa b ht=>?_
 have hw:w<2:=by have:=(gS a b 2 ht.2.1 ht.2.2.1 (by decide)).2.2;rw[ht.2.2.2.1] at this;exact this
 refine⟨_,.inr ⟨_,ht,rfl⟩,?_⟩
 match w,hw with
 |0,_=>exact Wa g l
 |1,_=>exact Wr g l
 |_+2,h=>exact fj ‹_›
theorem ady(w:Nat):aW G 120 eN [.obj 0,.obj 1] [.av (.draw 3 w::l),.list Cp] (.ok (pickK w) [.av l,.list Cp]):=by
 refine aW.eQ λa b ht=>?_
 have hw:w<3:=by have:=(gS a b 3 ht.2.1 ht.2.2.1 (by decide)).2.2;rw[ht.2.2.2.1] at this;exact this
 refine⟨_,.inr ⟨_,ht,rfl⟩,?_⟩
 match w,hw with
 |0,_=>exact Xn g l
 |1,_=>exact SK g l
 |2,_=>exact Te g l
 |_+3,h=>exact fj ‹_›
end
theorem yt{i j:Nat}{H:List Ob}{l:List Item}{xs:List V}(h:cJ H i=some (.av l))(h':cJ H j=some (.list xs))(hx:fg [i,j] xs=xs)(hi:sY 2 xs=true):jk [i,j] H [.av l,.list xs]:=by
 refine⟨?_,rfl,λm o k h1 h2=>?_⟩
 ·have:i≠j:=λe=>by subst e;rw[h] at h';cases h'
  simp[this]
 ·match m with
  |0=>
   (first|exact no h1|exact nf h1|subst h1|obtain rfl:=ai h1);obtain rfl:=ai h2
   exact⟨_,by rw[←fb];exact h,.inr (.inl ⟨rfl,rfl⟩)⟩
  |1=>
   obtain rfl:=ai h1;cases h2
   exact⟨_,by rw[←fb];exact h',.inr (.inl ⟨by show Ob.list xs=.list (fg [i,j] xs);rw[hx],hi⟩)⟩
  |m+2=>simp at h1
noncomputable def B'(v:V):Rs V->Rs V
 |.ok _ H=>.ok v H
 |.exc x H=>.exc x H
theorem zq(σ:List Nat):∀w,nR σ (bc w)=bc w
 |0=>rfl
 |_+1=>rfl
theorem Ai(σ:List Nat):∀w,nR σ (pickK w)=pickK w
 |0=>rfl
 |1=>rfl
 |_+2=>rfl
theorem yw{σ:List Nat}{H H₁ aQ:List Ob}{v:V}(h:∀σ,nR σ v=v):B' v (ip σ H H₁ (.ok v aQ))=ip σ H H₁ (.ok v aQ):=by
 show Rs.ok v _=Rs.ok (nR _ v) _
 rw[h]
noncomputable def XR(i j:Nat)(H:List Ob)(l:List Item)(k w:Nat)(xs:List V):aM V:=match Nat.beq k 2&&(cL xs EL).b with
 |true=>some (B' (bc w) (ip [i,j] H [.av (.draw 2 w::l),.list EL] (.ok (bc w) [.av l,.list EL])))
 |false=>gb (Nat.beq k 3&&(cL xs Cp).b) (some (B' (pickK w) (ip [i,j] H [.av (.draw 3 w::l),.list Cp] (.ok (pickK w) [.av l,.list Cp]))))
noncomputable def w5(H:List Ob)(i:Nat)(X:List V->aM V):aM V:=match cJ H i with
 |some b=>(match b with
  |.list xs=>X xs
  |_=>none)
 |none=>none
theorem DJ{H:List Ob}{i:Nat}{X:List V->aM V}{r:Rs V}(h:w5 H i X=some r):∃xs,cJ H i=some (.list xs)/\X xs=some r:=by
 unfold w5 at h
 cases e:cJ H i with
 |none=>rw[e] at h;exact no h
 |some b=>rw[e] at h;induction b using Ob.casesOn<;>first|exact no h|exact⟨_,rfl,h⟩
noncomputable def JH:Nat->List V->List Ob->aM V:=pW eN (bL lR (bL lR kA)) λx H=>lg H x.1 λy l=>BE y λk w=>w5 H x.2.1 λxs=>XR x.1 x.2.1 H l k w xs
theorem xh(g:Good G){k:Nat}(hn:120<=k):Told G k JH:=dW λvs x H q hp hq=>by
 refine bP (b8 hp) λv y1 fH e1 e2=>?_;subst fH
 refine bP (b8 e2) λu y1 fH e3 e4=>?_;subst fH
 obtain rfl:=jA e4
 obtain rfl:=jN e1
 obtain rfl:=jN e3
 replace hq:=jQ hq
 refine cz hq ?_;clear hq;intro y l hi hq
 replace hq:=yj hq
 refine cz hq ?_;clear hq;intro kk w aU hq;subst aU
 replace hq:=DJ hq
 refine ab hq ?_;clear hq;intro xs hj hq
 unfold XR at hq
 cases hc:Nat.beq kk 2&&(cL xs EL).b with
 |true=>
  rw[hc] at hq
  refine aJ hc λh1 h2=>?_
  obtain rfl:=Nat.eq_of_beq_eq_true h1
  obtain rfl:=(cL _ _).ok h2
  obtain rfl:=ai hq
  rw[yw λσ=>zq σ w]
  exact((adY g l w).frame (yt hi hj (by rfl) (by rfl)) (by rfl)).more hn
 |false=>
  rw[hc] at hq
  replace hq:=fu hq
  refine ae hq ?_;clear hq;intro hc hq
  refine aJ hc λh1 h2=>?_
  obtain rfl:=Nat.eq_of_beq_eq_true h1
  obtain rfl:=(cL _ _).ok h2
  obtain rfl:=ai hq
  rw[yw λσ=>Ai σ w]
  exact((ady g l w).frame (yt hi hj (by rfl) (by rfl)) (by rfl)).more hn
noncomputable abbrev lq:Nat->List V->List Ob->aM V:=orElse JH bG
theorem Dx(g:Good G):Told G 120 lq:=eM (xh g (Nat.le_refl _)) (aq g (by decide))
end
section
variable{G:Gc}{N:Nat}{sc:Sc}{ss:List Stmt}{ρ:ah}{H H':List Ob}{v:V}
noncomputable def pP(cf:Cf)(n:Nat)(sc:Sc)(ss:List Stmt)(ρ:ah)(H:List Ob):Option (ah×List Ob×List Stmt):=match ss with
 |a::b::r=>match(ev cf n).S sc a ρ H with
  |some (.ok (bj,none) H₁)=>match(ev cf n).S sc b bj H₁ with
   |some (.ok (eh,none) aQ)=>some (eh,aQ,r)
   |_=>none
  |_=>none
 |_=>none
theorem Gu{n:Nat}{eh:ah}{aQ:List Ob}{r:List Stmt}(so:Sound G N (ev G.cf n))(h:pP G.cf n sc ss ρ H=some (eh,aQ,r))(h2:cD G N sc r eh aQ v H'):cD G N sc ss ρ H v H':=by
 refine Kl h ?_;clear h;intro _ _ _ ay h;subst ay
 refine ya h ?_;clear h;intro _ _ h1 h
 refine ya h ?_;clear h;intro _ _ h3 h
 cases h
 exact kU (so.oS _ _ _ _ _ h1) (kU (so.oS _ _ _ _ _ h3) h2)
noncomputable def vr:Sc:=⟨qC.names,cG 7 (ax qC.names []),some (1732,zy++ ".<locals>.")⟩
noncomputable def cY{α:Type}:Nat->(Nat->α)->List α
 |0,_=>[]
 |n+1,f=>f n::cY n f
theorem bW{α:Type}{x:α}{f:Nat->α}:∀{n:Nat},cY n f=cY n (λζ=>x)->∀i,i<n->f i=x
 |n+1,h,i,hi=>by
  obtain⟨h1,h2⟩:=List.cons.inj h
  rcases Nat.lt_or_eq_of_le (Nat.le_of_lt_succ hi) with q|q
  ·exact bW h2 i q
  ·rw[q];exact h1
section
variable(t1 t2 t3 t5:List (Nat×Nat))(l:List Item)
noncomputable def IT(lo ro:List V):List Ob:=[.other,
 .tab 1742 1 t1,
 .tab 1709 2 t2,
 .tab 1716 3 t3,
 .tab 1730 4 [],
 .tab 1735 5 t5,
 .av l,
 .cell none,
 .cell none,
 .cell (some (.obj 49)),
 .cell (some (.obj 56)),
 .attrs [(EX,.none),(td,.obj 16),(HY,.obj 26),(Gy,.obj 27),(Jb,.obj 28),(Gi,.obj 29),(Ie,.obj 30),(HW,.obj 31),(Ha,.obj 32),(IJ,.obj 33),(Fh,.none),(GI,.none),(uH,.obj 34),(Jj,.obj 35),(E5,.obj 36),(Fu,.obj 37),(HC,.obj 38),(GQ,.obj 39),(Jk,.obj 40),(Ga,.bool true)],
 .inst 1236 11,
 .dict [((S 0x4572726f72),.tup [.bool false,.tup [.str AS,.tup [],.tup [.tup [.str A5]],.bool false],.str (S 0x72756e74696d652e4572726f722e4572726f72)])],
 .dict [((S 0x4c6f636b),.tup [.bool true,.tup [.str AS,.tup [],.tup [],.bool false],.str (S 0x73796e632e4d757465782e4c6f636b)]),((S 0x556e6c6f636b),.tup [.bool true,.tup [.str AS,.tup [],.tup [],.bool false],.str (S 0x73796e632e4d757465782e556e6c6f636b)])],
 .dict [((S 0x416464),.tup [.bool true,.tup [.str AS,.tup [.tup [.str jq,.str jq]],.tup [],.bool false],.str (S 0x73796e632e5761697447726f75702e416464)]),((S 0x446f6e65),.tup [.bool true,.tup [.str AS,.tup [],.tup [],.bool false],.str (S 0x73796e632e5761697447726f75702e446f6e65)]),((S 0x57616974),.tup [.bool true,.tup [.str AS,.tup [],.tup [],.bool false],.str (S 0x73796e632e5761697447726f75702e57616974)])],
 .dict [((S 0x6572726f72),.obj 19),((S 0x72756e74696d652e4572726f72),.obj 21),((S 0x73796e632e4d75746578),.obj 23),((S 0x73796e632e5761697447726f7570),.obj 25),((S 0x6d61696e2e42),.obj 43)],
 .dict [],
 .attrs [(tX,.str (S 0x6572726f72)),(kB,.str (S 0x0)),(vp,.tup [.str s57,.tup [.tup [.str (S 0x4572726f72),.tup [.str AS,.tup [],.tup [.tup [.str A5]],.bool false]]]]),(uz,.obj 17)],
 .inst 1193 18,
 .attrs [(tX,.str (S 0x72756e74696d652e4572726f72)),(kB,.str (S 0x72756e74696d65)),(vp,.tup [.str A5]),(uz,.obj 13)],
 .inst 1193 20,
 .attrs [(tX,.str (S 0x73796e632e4d75746578)),(kB,.str (S 0x73796e63)),(vp,.tup [.str Fb,.tup [.tup [.str (S 0x73796e632e237374617465),.tup [.str jq,.str jq],.bool false]]]),(uz,.obj 14)],
 .inst 1193 22,
 .attrs [(tX,.str (S 0x73796e632e5761697447726f7570)),(kB,.str (S 0x73796e63)),(vp,.tup [.str Fb,.tup [.tup [.str (S 0x73796e632e23636f756e74),.tup [.str jq,.str jq],.bool false]]]),(uz,.obj 15)],
 .inst 1193 24,
 .dict [],
 .dict [],
 .dict [],
 .dict [],
 .dict [],
 .dict [],
 .list [],
 .list [],
 .dict [],
 .dict [],
 .dict [],
 .dict [],
 .list [],
 .list [],
 .list [],
 .dict [],
 .attrs [(tX,.str (S 0x6d61696e2e42)),(kB,.str (S 0x6d61696e)),(vp,.tup [.str p8]),(uz,.obj 41)],
 .inst 1193 42,
 .dict [(AD,.glob (.ref 1672)),(HE,.glob (.ref 1672))],
 .attrs [(uE,.none),(zf,.str (S 0x6d61696e2e66)),(s64,.obj 47)],
 .inst 1517 45,
 .dict [],
 .attrs [(EH,.obj 12),(kB,.str (S 0x6d61696e)),(r8,.obj 46),(AB,.str (S 0x6d61696e2e66)),(E7,.obj 44),(HN,.none),(uE,.none),(FK,.obj 50),(FJ,.tup []),(Ia,.tup []),(Fd,.tup []),(F6,.bool false),(IZ,.obj 51),(GV,.obj 52),(Gh,.obj 53),(Hl,.obj 54),(uH,.obj 55)],
 .inst 1633 48,
 .list [],
 .list [],
 .dict [],
 .list lo,
 .list [],
 .dict [],
 .list ro]
noncomputable def CG:List Ob:=IT t1 t2 t3 t5 l [] []++[]
noncomputable def iW:ah:=[(C0,.obj 6)]
noncomputable def Dz(a1 b1:V):List Ob:=IT t1 t2 t3 t5 l [.obj 60] [.tup [a1,b1]]++[.list [.none,.str (S 0x41)],.list [.str kx,.str ll,.str gA],.attrs [(uM,a1),(o8,b1),(sH,.bool true)],.inst 961 59]
noncomputable def C9:ah:=[(C0,.obj 6),((S 0x7475726e),.int 0)]
noncomputable def DW(a1 b1 a2 b2:V):List Ob:=IT t1 t2 t3 t5 l [.obj 60,.obj 64] [.tup [a1,b1],.tup [a2,b2]]++[.list [.none,.str (S 0x41)],.list [.str kx,.str ll,.str gA],.attrs [(uM,a1),(o8,b1),(sH,.bool true)],.inst 961 59,.list [.none,.str (S 0x41)],.list [.str kx,.str ll,.str gA],.attrs [(uM,a2),(o8,b2),(sH,.bool true)],.inst 961 63]
noncomputable def CK:ah:=[(C0,.obj 6),((S 0x7475726e),.int 1)]
noncomputable def sU(a1 b1 a2 b2 a3 b3:V):List Ob:=IT t1 t2 t3 t5 l [.obj 60,.obj 64,.obj 68] [.tup [a1,b1],.tup [a2,b2],.tup [a3,b3]]++[.list [.none,.str (S 0x41)],.list [.str kx,.str ll,.str gA],.attrs [(uM,a1),(o8,b1),(sH,.bool true)],.inst 961 59,.list [.none,.str (S 0x41)],.list [.str kx,.str ll,.str gA],.attrs [(uM,a2),(o8,b2),(sH,.bool true)],.inst 961 63,.list [.none,.str (S 0x41)],.list [.str kx,.str ll,.str gA],.attrs [(uM,a3),(o8,b3),(sH,.bool true)],.inst 961 67]
noncomputable def sL:ah:=[(C0,.obj 6),((S 0x7475726e),.int 2)]
theorem R3:pP (jH lq) 88 vr lJ iW (LH t1 t2 t3 [] t5 (.draw 4 0::l)++cK iW (ax qC.names []))=some (iW,CG t1 t2 t3 t5 l,lJ.drop 2):=by kernel_rfl
theorem VR(w1 v1:Nat):pP (jH lq) 88 vr lJ iW (LH t1 t2 t3 [] t5 (.draw 4 1::.draw 2 w1::.draw 3 v1::l)++cK iW (ax qC.names []))=some (C9,Dz t1 t2 t3 t5 l (bc w1) (pickK v1),lJ.drop 2):=by kernel_rfl
theorem UY(w1 v1 w2 v2:Nat):pP (jH lq) 88 vr lJ iW (LH t1 t2 t3 [] t5 (.draw 4 2::.draw 2 w1::.draw 3 v1::.draw 2 w2::.draw 3 v2::l)++cK iW (ax qC.names []))=some (CK,DW t1 t2 t3 t5 l (bc w1) (pickK v1) (bc w2) (pickK v2),lJ.drop 2):=by kernel_rfl
theorem VF(w1 v1 w2 v2 w3 v3:Nat):pP (jH lq) 88 vr lJ iW (LH t1 t2 t3 [] t5 (.draw 4 3::.draw 2 w1::.draw 3 v1::.draw 2 w2::.draw 3 v2::.draw 2 w3::.draw 3 v3::l)++cK iW (ax qC.names []))=some (sL,sU t1 t2 t3 t5 l (bc w1) (pickK v1) (bc w2) (pickK v2) (bc w3) (pickK v3),lJ.drop 2):=by kernel_rfl
noncomputable abbrev nz:List Ob:=LH t1 t2 t3 [(1765,18),(1767,22)] t5 []
noncomputable def qA(ρ:ah)(H:List Ob):Option (List Ob):=Pb (zO 7 (Xp (jH lq) (ev (jH lq) 88) (rF (jH lq) gL 88) 58 vr (lJ.drop 2) ρ H))
end
noncomputable def la(m o:Nat)(x:V):V:=match m with
 |0=>x
 |1=>match o with
  |0=>.none
  |_=>.str (S 0x41)
 |2=>x
 |_=>match o with
  |0=>x
  |1=>.none
  |2=>.str (S 0x41)
  |3=>.none
  |_=>.str (S 0x41)
noncomputable def ki(m o:Nat)(x:V):V:=match m with
 |0=>x
 |1=>x
 |2=>pickK o
 |_=>match o with
  |0=>pickK 1
  |1=>pickK 0
  |2=>pickK 0
  |3=>pickK 2
  |_=>pickK 2
section
variable(t1 t2 t3 t5:List (Nat×Nat))(x1 y1 x2 y2 x3 y3:V)
theorem FC:cY 1 (λo=>qA iW (CG t1 t2 t3 t5 [.draw 2 0,.draw 2 0]))=cY 1 λζ=>some (nz t1 t2 t3 t5):=by kernel_rfl
theorem E8:cY 1 (λo=>qA iW (CG t1 t2 t3 t5 [.draw 2 0,.draw 2 1]))=cY 1 λζ=>some (nz t1 t2 t3 t5):=by kernel_rfl
theorem GN:cY 1 (λo=>qA iW (CG t1 t2 t3 t5 [.draw 2 1,.draw 2 0]))=cY 1 λζ=>some (nz t1 t2 t3 t5):=by kernel_rfl
theorem IG:cY 1 (λo=>qA iW (CG t1 t2 t3 t5 [.draw 2 1,.draw 2 1]))=cY 1 λζ=>some (nz t1 t2 t3 t5):=by kernel_rfl
theorem HP:cY 1 (λo=>qA C9 (Dz t1 t2 t3 t5 [.draw 2 0,.draw 2 0] (la 0 (o/1%1) x1) (ki 0 (o/1%1) y1)))=cY 1 λζ=>some (nz t1 t2 t3 t5):=by kernel_rfl
theorem Je:cY 2 (λo=>qA C9 (Dz t1 t2 t3 t5 [.draw 2 0,.draw 2 1] (la 1 (o/1%2) x1) (ki 1 (o/1%2) y1)))=cY 2 λζ=>some (nz t1 t2 t3 t5):=by kernel_rfl
theorem Fj:cY 3 (λo=>qA C9 (Dz t1 t2 t3 t5 [.draw 2 1,.draw 2 0] (la 2 (o/1%3) x1) (ki 2 (o/1%3) y1)))=cY 3 λζ=>some (nz t1 t2 t3 t5):=by kernel_rfl
theorem E0:cY 5 (λo=>qA C9 (Dz t1 t2 t3 t5 [.draw 2 1,.draw 2 1] (la 3 (o/1%5) x1) (ki 3 (o/1%5) y1)))=cY 5 λζ=>some (nz t1 t2 t3 t5):=by kernel_rfl
theorem Gz:cY 1 (λo=>qA CK (DW t1 t2 t3 t5 [.draw 2 0,.draw 2 0] (la 0 (o/1%1) x1) (ki 0 (o/1%1) y1) (la 0 (o/1%1) x2) (ki 0 (o/1%1) y2)))=cY 1 λζ=>some (nz t1 t2 t3 t5):=by kernel_rfl
theorem Hp:cY 4 (λo=>qA CK (DW t1 t2 t3 t5 [.draw 2 0,.draw 2 1] (la 1 (o/1%2) x1) (ki 1 (o/1%2) y1) (la 1 (o/2%2) x2) (ki 1 (o/2%2) y2)))=cY 4 λζ=>some (nz t1 t2 t3 t5):=by kernel_rfl
theorem G3:cY 9 (λo=>qA CK (DW t1 t2 t3 t5 [.draw 2 1,.draw 2 0] (la 2 (o/1%3) x1) (ki 2 (o/1%3) y1) (la 2 (o/3%3) x2) (ki 2 (o/3%3) y2)))=cY 9 λζ=>some (nz t1 t2 t3 t5):=by kernel_rfl
theorem GZ:cY 25 (λo=>qA CK (DW t1 t2 t3 t5 [.draw 2 1,.draw 2 1] (la 3 (o/1%5) x1) (ki 3 (o/1%5) y1) (la 3 (o/5%5) x2) (ki 3 (o/5%5) y2)))=cY 25 λζ=>some (nz t1 t2 t3 t5):=by kernel_rfl
theorem Fe:cY 1 (λo=>qA sL (sU t1 t2 t3 t5 [.draw 2 0,.draw 2 0] (la 0 (o/1%1) x1) (ki 0 (o/1%1) y1) (la 0 (o/1%1) x2) (ki 0 (o/1%1) y2) (la 0 (o/1%1) x3) (ki 0 (o/1%1) y3)))=cY 1 λζ=>some (nz t1 t2 t3 t5):=by kernel_rfl
theorem I4:cY 8 (λo=>qA sL (sU t1 t2 t3 t5 [.draw 2 0,.draw 2 1] (la 1 (o/1%2) x1) (ki 1 (o/1%2) y1) (la 1 (o/2%2) x2) (ki 1 (o/2%2) y2) (la 1 (o/4%2) x3) (ki 1 (o/4%2) y3)))=cY 8 λζ=>some (nz t1 t2 t3 t5):=by kernel_rfl
theorem HM:cY 27 (λo=>qA sL (sU t1 t2 t3 t5 [.draw 2 1,.draw 2 0] (la 2 (o/1%3) x1) (ki 2 (o/1%3) y1) (la 2 (o/3%3) x2) (ki 2 (o/3%3) y2) (la 2 (o/9%3) x3) (ki 2 (o/9%3) y3)))=cY 27 λζ=>some (nz t1 t2 t3 t5):=by kernel_rfl
theorem zg:cY 25 (λo=>qA sL (sU t1 t2 t3 t5 [.draw 2 1,.draw 2 1] (la 3 (o/1%5) x1) (ki 3 (o/1%5) y1) (la 3 (o/5%5) x2) (ki 3 (o/5%5) y2) (la 3 0 x3) (ki 3 0 y3)))=cY 25 λζ=>some (nz t1 t2 t3 t5):=by kernel_rfl
theorem zi:cY 25 (λo=>qA sL (sU t1 t2 t3 t5 [.draw 2 1,.draw 2 1] (la 3 (o/1%5) x1) (ki 3 (o/1%5) y1) (la 3 (o/5%5) x2) (ki 3 (o/5%5) y2) (la 3 1 x3) (ki 3 1 y3)))=cY 25 λζ=>some (nz t1 t2 t3 t5):=by kernel_rfl
theorem AA:cY 25 (λo=>qA sL (sU t1 t2 t3 t5 [.draw 2 1,.draw 2 1] (la 3 (o/1%5) x1) (ki 3 (o/1%5) y1) (la 3 (o/5%5) x2) (ki 3 (o/5%5) y2) (la 3 2 x3) (ki 3 2 y3)))=cY 25 λζ=>some (nz t1 t2 t3 t5):=by kernel_rfl
theorem AX:cY 25 (λo=>qA sL (sU t1 t2 t3 t5 [.draw 2 1,.draw 2 1] (la 3 (o/1%5) x1) (ki 3 (o/1%5) y1) (la 3 (o/5%5) x2) (ki 3 (o/5%5) y2) (la 3 3 x3) (ki 3 3 y3)))=cY 25 λζ=>some (nz t1 t2 t3 t5):=by kernel_rfl
theorem yY:cY 25 (λo=>qA sL (sU t1 t2 t3 t5 [.draw 2 1,.draw 2 1] (la 3 (o/1%5) x1) (ki 3 (o/1%5) y1) (la 3 (o/5%5) x2) (ki 3 (o/5%5) y2) (la 3 4 x3) (ki 3 4 y3)))=cY 25 λζ=>some (nz t1 t2 t3 t5):=by kernel_rfl
end
end
section
variable{G:Gc}
theorem bx.cut{n:Nat}{a:Addr}{vs:List V}{H Hf H₁:List Ob}{t:Bool}(e:bx G n a vs H (.bool t) Hf)(hl:H.length<=Hf.length)(h:(Hf.take H.length).map (lU H.length)=H₁):bx G n a vs H (.bool t) H₁:=by
 subst h
 rw[←List.take_append_drop H.length Hf] at e
 have e2:=e.alike (HA.app (pR H.length _) (HA.refl _))
 have len:((Hf.take H.length).map (lU H.length)).length=H.length:=by rw[List.length_map,List.length_take];exact Nat.min_eq_left ‹_›
 refine e2.drop (by exact Nat.le_of_eq (Eq.symm ‹_›)) ?_
 rw[len,List.all_eq_true]
 intro b hb
 refine ab (List.mem_map.mp hb) λb' y1 fH=>?_;subst fH
 exact oO _ _
set_option tactic.hygienic true in
theorem Pg{r:Option (Rx V)}{H₁:List Ob}{p:Nat}(h:Pb (zO p r)=some H₁):∃q,r=some q/\q.Ok/\q.v=.bool true/\p<=q.H.length/\(q.H.take p).map (lU p)=H₁:=by
 unfold zO at h
 split at h
 ·exact no h
 rename_i q
 split at h
 ·rename_i t ht
  split at h
  ·rename_i hl
   refine ix h ?_;clear h;intro hc h
   obtain rfl:=ai h
   refine aJ hc λh1 h2=>?_
   exact⟨q,rfl,jz h2,by rw[ht,h1],Nat.le_of_ble_eq_true hl,rfl⟩
  ·exact no h
 ·exact no h
theorem yu(g:jc G){t1 t2 t3 t5:List (Nat×Nat)}{l:List Item}{ρ:ah}{Hm H₁:List Ob}(hp:pP (jH lq) 88 vr lJ iW (LH t1 t2 t3 [] t5 l++cK iW (ax qC.names []))=some (ρ,Hm,lJ.drop 2))
  (hs:qA ρ Hm=some H₁):bx G 209 aX [.obj 6] (LH t1 t2 t3 [] t5 l) (.bool true) H₁:=by
 have oo:rr (G.tb (jH lq)) 120:=λa vs H r q=>(Dx g.toGood a vs H r q).eY
 have so:Sound (G.tb (jH lq)) (88+120) (ev (jH lq) 88):=sound (G:=G.tb (jH lq)) (g.gk lq) (g.lk lq) (g.xo lq) oo 88
 refine qX (Pg hs) λq h1 h2 h3 h4 h5=>?_
 have e1:cD (G.tb (jH lq)) (88+120) vr (lJ.drop 2) ρ Hm q.v q.H:=
  pF (G:=G.tb (jH lq)) (g.gk lq) (g.co lq) so (xO (G:=G.tb (jH lq)) (g.gk lq) (g.lk lq) (g.xo lq) oo (g.co lq) gL 88) 58 _ _ _ _ _ h1 h2
 rw[h3] at e1
 have e2:=Gu (G:=G.tb (jH lq)) so hp e1
 have e3:bx (G.tb (jH lq)) (88+120+1) aX [.obj 6] (LH t1 t2 t3 [] t5 l) (.bool true) q.H:=uW (G:=G.tb (jH lq)) (f:=⟨acJ.args.map (·.arg),[],lJ,qC,1732,zy⟩) (b:=iW) (g.gk lq) (by kernel_rfl) (by kernel_rfl) (by
  have z:bu qC.names iW=iW:=by kernel_rfl
  show cD _ _ vr lJ (bu qC.names iW) _ _ _
  rw[z]
  exact e2)
 exact e3.conv.cut h4 h5
theorem dg2:∀a,a<2->∀b,b<2->∀c,c<2->(a+2*b+4*c)/1%2=a/\(a+2*b+4*c)/2%2=b/\(a+2*b+4*c)/4%2=c/\a+2*b+4*c<8:=by decide
theorem dg3:∀a,a<3->∀b,b<3->∀c,c<3->(a+3*b+9*c)/1%3=a/\(a+3*b+9*c)/3%3=b/\(a+3*b+9*c)/9%3=c/\a+3*b+9*c<27:=by decide
theorem cI:∀m w v:Nat,m<4->w<2->v<3->∃o,o<(match m with|0=>1|1=>2|2=>3|_=>5)/\la m o (bc w)=bc w/\ki m o (pickK v)=pickK v
 |0,_,_,_,_,_=>⟨0,by decide,rfl,rfl⟩
 |1,0,_,_,_,_=>⟨0,by decide,rfl,rfl⟩
 |1,1,_,_,_,_=>⟨1,by decide,rfl,rfl⟩
 |2,_,v,_,_,h=>⟨v,h,rfl,rfl⟩
 |3,_,1,_,_,_=>⟨0,by decide,rfl,rfl⟩
 |3,0,0,_,_,_=>⟨1,by decide,rfl,rfl⟩
 |3,1,0,_,_,_=>⟨2,by decide,rfl,rfl⟩
 |3,0,2,_,_,_=>⟨3,by decide,rfl,rfl⟩
 |3,1,2,_,_,_=>⟨4,by decide,rfl,rfl⟩
 |1,_+2,_,_,h,_=>absurd h (by exact fj ‹_›)
 |3,_+2,_,_,h,_=>absurd h (by exact fj ‹_›)
 |3,_,_+3,_,_,h=>absurd h (by exact fj ‹_›)
 |_+4,_,_,h,_,_=>absurd h (by exact fj ‹_›)
theorem I9{c o1 o2:Nat}(h1:o1<c)(h2:o2<c):(o1+c*o2)/1%c=o1/\(o1+c*o2)/c%c=o2/\o1+c*o2<c*c:=by
 have hc:0<c:=by exact adE ‹_›
 refine⟨by rw[Nat.div_one,Nat.add_mul_mod_self_left,Nat.mod_eq_of_lt h1],by rw[Nat.add_mul_div_left _ _ hc,Nat.div_eq_of_lt h1,Nat.zero_add,Nat.mod_eq_of_lt h2],?_⟩
 calc o1+c*o2<c+c*o2:=by exact abh ‹_›
  _=c*(o2+1):=by rw[Nat.mul_succ];exact Nat.add_comm _ _
  _<=c*c:=Nat.mul_le_mul_left _ h2
section
variable(g:jc G)(t1 t2 t3 t5:List (Nat×Nat))
include g
theorem lr0(x y:Nat)(hx:x<2)(hy:y<2):bx G 209 aX [.obj 6] (LH t1 t2 t3 [] t5 (.draw 4 0::[.draw 2 x,.draw 2 y])) (.bool true) (nz t1 t2 t3 t5):=by
 refine yu g (R3 t1 t2 t3 t5 _) ?_
 match x,hx,y,hy with
 |0,_,0,_=>
  exact bW (FC t1 t2 t3 t5) 0 (by decide)
 |0,_,1,_=>
  exact bW (E8 t1 t2 t3 t5) 0 (by decide)
 |1,_,0,_=>
  exact bW (GN t1 t2 t3 t5) 0 (by decide)
 |1,_,1,_=>
  exact bW (IG t1 t2 t3 t5) 0 (by decide)
 |_+2,h,_,_=>exact fj ‹_›
 |0,_,_+2,h=>exact fj ‹_›
 |1,_,_+2,h=>exact fj ‹_›
theorem lr1(w1 v1:Nat)(x y:Nat)(hx:x<2)(hy:y<2)(vO:w1<2)(tJ:v1<3):bx G 209 aX [.obj 6] (LH t1 t2 t3 [] t5 (.draw 4 1::.draw 2 w1::.draw 3 v1::[.draw 2 x,.draw 2 y])) (.bool true) (nz t1 t2 t3 t5):=by
 refine yu g (VR t1 t2 t3 t5 _ w1 v1) ?_
 match x,hx,y,hy with
 |0,_,0,_=>
  exact bW (HP t1 t2 t3 t5 (bc w1) (pickK v1)) 0 (by decide)
 |0,_,1,_=>
  refine bH (cI 1 w1 v1 (by decide) vO tJ) λo1 kC qT qU=>?_
  have ho:o1<2:=kC
  have e:=bW (Je t1 t2 t3 t5 (bc w1) (pickK v1)) o1 ho
  have d1:o1/1%2=o1:=by rw[Nat.div_one,Nat.mod_eq_of_lt ho]
  rw[d1,qT,qU] at e
  exact e
 |1,_,0,_=>
  refine bH (cI 2 w1 v1 (by decide) vO tJ) λo1 kC qT qU=>?_
  have ho:o1<3:=kC
  have e:=bW (Fj t1 t2 t3 t5 (bc w1) (pickK v1)) o1 ho
  have d1:o1/1%3=o1:=by rw[Nat.div_one,Nat.mod_eq_of_lt ho]
  rw[d1,qT,qU] at e
  exact e
 |1,_,1,_=>
  refine bH (cI 3 w1 v1 (by decide) vO tJ) λo1 kC qT qU=>?_
  have ho:o1<5:=kC
  have e:=bW (E0 t1 t2 t3 t5 (bc w1) (pickK v1)) o1 ho
  have d1:o1/1%5=o1:=by rw[Nat.div_one,Nat.mod_eq_of_lt ho]
  rw[d1,qT,qU] at e
  exact e
 |_+2,h,_,_=>exact fj ‹_›
 |0,_,_+2,h=>exact fj ‹_›
 |1,_,_+2,h=>exact fj ‹_›
theorem lr2(w1 v1 w2 v2:Nat)(x y:Nat)(hx:x<2)(hy:y<2)(vO:w1<2)(tJ:v1<3)(EA:w2<2)(EB:v2<3):bx G 209 aX [.obj 6] (LH t1 t2 t3 [] t5 (.draw 4 2::.draw 2 w1::.draw 3 v1::.draw 2 w2::.draw 3 v2::[.draw 2 x,.draw 2 y])) (.bool true) (nz t1 t2 t3 t5):=by
 refine yu g (UY t1 t2 t3 t5 _ w1 v1 w2 v2) ?_
 match x,hx,y,hy with
 |0,_,0,_=>
  exact bW (Gz t1 t2 t3 t5 (bc w1) (pickK v1) (bc w2) (pickK v2)) 0 (by decide)
 |0,_,1,_=>
  refine bH (cI 1 w1 v1 (by decide) vO tJ) λo1 kC qT qU=>?_
  refine bH (cI 1 w2 v2 (by decide) EA EB) λo2 nI xB xC=>?_
  have kC:o1<2:=kC
  have nI:o2<2:=nI
  refine cZ (I9 kC nI) λd1 d2 hb=>?_
  have e:=bW (Hp t1 t2 t3 t5 (bc w1) (pickK v1) (bc w2) (pickK v2)) _ hb
  rw[d1,d2,qT,qU,xB,xC] at e
  exact e
 |1,_,0,_=>
  refine bH (cI 2 w1 v1 (by decide) vO tJ) λo1 kC qT qU=>?_
  refine bH (cI 2 w2 v2 (by decide) EA EB) λo2 nI xB xC=>?_
  have kC:o1<3:=kC
  have nI:o2<3:=nI
  refine cZ (I9 kC nI) λd1 d2 hb=>?_
  have e:=bW (G3 t1 t2 t3 t5 (bc w1) (pickK v1) (bc w2) (pickK v2)) _ hb
  rw[d1,d2,qT,qU,xB,xC] at e
  exact e
 |1,_,1,_=>
  refine bH (cI 3 w1 v1 (by decide) vO tJ) λo1 kC qT qU=>?_
  refine bH (cI 3 w2 v2 (by decide) EA EB) λo2 nI xB xC=>?_
  have kC:o1<5:=kC
  have nI:o2<5:=nI
  refine cZ (I9 kC nI) λd1 d2 hb=>?_
  have e:=bW (GZ t1 t2 t3 t5 (bc w1) (pickK v1) (bc w2) (pickK v2)) _ hb
  rw[d1,d2,qT,qU,xB,xC] at e
  exact e
 |_+2,h,_,_=>exact fj ‹_›
 |0,_,_+2,h=>exact fj ‹_›
 |1,_,_+2,h=>exact fj ‹_›
theorem lr3(w1 v1 w2 v2 w3 v3:Nat)(x y:Nat)(hx:x<2)(hy:y<2)(vO:w1<2)(tJ:v1<3)(EA:w2<2)(EB:v2<3)(Z1:w3<2)(Z2:v3<3):bx G 209 aX [.obj 6] (LH t1 t2 t3 [] t5 (.draw 4 3::.draw 2 w1::.draw 3 v1::.draw 2 w2::.draw 3 v2::.draw 2 w3::.draw 3 v3::[.draw 2 x,.draw 2 y])) (.bool true) (nz t1 t2 t3 t5):=by
 refine yu g (VF t1 t2 t3 t5 _ w1 v1 w2 v2 w3 v3) ?_
 match x,hx,y,hy with
 |0,_,0,_=>
  exact bW (Fe t1 t2 t3 t5 (bc w1) (pickK v1) (bc w2) (pickK v2) (bc w3) (pickK v3)) 0 (by decide)
 |0,_,1,_=>
  refine bH (cI 1 w1 v1 (by decide) vO tJ) λo1 kC qT qU=>?_
  refine bH (cI 1 w2 v2 (by decide) EA EB) λo2 nI xB xC=>?_
  refine bH (cI 1 w3 v3 (by decide) Z1 Z2) λo3 EC xD xE=>?_
  have kC:o1<2:=kC
  have nI:o2<2:=nI
  have EC:o3<2:=EC
  refine dH (dg2 o1 kC o2 nI o3 EC) λd1 d2 d3 hb=>?_
  have e:=bW (I4 t1 t2 t3 t5 (bc w1) (pickK v1) (bc w2) (pickK v2) (bc w3) (pickK v3)) (o1+2*o2+4*o3) hb
  rw[d1,d2,d3,qT,qU,xB,xC,xD,xE] at e
  exact e
 |1,_,0,_=>
  refine bH (cI 2 w1 v1 (by decide) vO tJ) λo1 kC qT qU=>?_
  refine bH (cI 2 w2 v2 (by decide) EA EB) λo2 nI xB xC=>?_
  refine bH (cI 2 w3 v3 (by decide) Z1 Z2) λo3 EC xD xE=>?_
  have kC:o1<3:=kC
  have nI:o2<3:=nI
  have EC:o3<3:=EC
  refine dH (dg3 o1 kC o2 nI o3 EC) λd1 d2 d3 hb=>?_
  have e:=bW (HM t1 t2 t3 t5 (bc w1) (pickK v1) (bc w2) (pickK v2) (bc w3) (pickK v3)) (o1+3*o2+9*o3) hb
  rw[d1,d2,d3,qT,qU,xB,xC,xD,xE] at e
  exact e
 |1,_,1,_=>
  refine bH (cI 3 w1 v1 (by decide) vO tJ) λo1 kC qT qU=>?_
  refine bH (cI 3 w2 v2 (by decide) EA EB) λo2 nI xB xC=>?_
  refine bH (cI 3 w3 v3 (by decide) Z1 Z2) λo3 EC xD xE=>?_
  have kC:o1<5:=kC
  have nI:o2<5:=nI
  have EC:o3<5:=EC
  refine cZ (I9 kC nI) λd1 d2 hb=>?_
  match o3,EC,xD,xE with
  |0,_,xD,xE=>
   have e:=bW (zg t1 t2 t3 t5 (bc w1) (pickK v1) (bc w2) (pickK v2) (bc w3) (pickK v3)) _ hb
   rw[d1,d2,qT,qU,xB,xC,xD,xE] at e
   exact e
  |1,_,xD,xE=>
   have e:=bW (zi t1 t2 t3 t5 (bc w1) (pickK v1) (bc w2) (pickK v2) (bc w3) (pickK v3)) _ hb
   rw[d1,d2,qT,qU,xB,xC,xD,xE] at e
   exact e
  |2,_,xD,xE=>
   have e:=bW (AA t1 t2 t3 t5 (bc w1) (pickK v1) (bc w2) (pickK v2) (bc w3) (pickK v3)) _ hb
   rw[d1,d2,qT,qU,xB,xC,xD,xE] at e
   exact e
  |3,_,xD,xE=>
   have e:=bW (AX t1 t2 t3 t5 (bc w1) (pickK v1) (bc w2) (pickK v2) (bc w3) (pickK v3)) _ hb
   rw[d1,d2,qT,qU,xB,xC,xD,xE] at e
   exact e
  |4,_,xD,xE=>
   have e:=bW (yY t1 t2 t3 t5 (bc w1) (pickK v1) (bc w2) (pickK v2) (bc w3) (pickK v3)) _ hb
   rw[d1,d2,qT,qU,xB,xC,xD,xE] at e
   exact e
  |_+5,h,_,_=>exact fj ‹_›
 |_+2,h,_,_=>exact fj ‹_›
 |0,_,_+2,h=>exact fj ‹_›
 |1,_,_+2,h=>exact fj ‹_›
theorem lr:bx G 209 aX [.obj 6] (LH t1 t2 t3 [] t5 []) (.bool true) (nz t1 t2 t3 t5):=by
 refine bx.eQ 6 rfl λa b ht=>?_
 refine ae ht ?_;clear ht;intro ha hb
 obtain⟨n,a0,b0,hn,hnl,Nw,Nx⟩:=aP a b 4 ha hb (by decide)
 match n,hnl with
 |0,_=>
  obtain⟨x,p1,p2,hx,lx,ED,EE⟩:=aP a0 b0 2 Nw Nx (by decide)
  obtain⟨y,p3,p4,hy,ly,QZ,Q0⟩:=aP p1 p2 2 ED EE (by decide)
  exact⟨_,aB.draw hn (by decide) ha hb (aB.draw hx (by decide) Nw Nx (aB.draw hy (by decide) ED EE (l:=[]) ⟨QZ,Q0⟩)),lr0 g t1 t2 t3 t5 x y lx ly⟩
 |1,_=>
  obtain⟨w1,c1,d1,vO,OG,EW,A3⟩:=aP a0 b0 2 Nw Nx (by decide)
  obtain⟨v1,e1,f1,tJ,Z3,Ny,Nz⟩:=aP c1 d1 3 EW A3 (by decide)
  obtain⟨x,p1,p2,hx,lx,ED,EE⟩:=aP e1 f1 2 Ny Nz (by decide)
  obtain⟨y,p3,p4,hy,ly,QZ,Q0⟩:=aP p1 p2 2 ED EE (by decide)
  exact⟨_,aB.draw hn (by decide) ha hb (aB.draw vO (by decide) Nw Nx (aB.draw tJ (by decide) EW A3 (aB.draw hx (by decide) Ny Nz (aB.draw hy (by decide) ED EE (l:=[]) ⟨QZ,Q0⟩)))),lr1 g t1 t2 t3 t5 w1 v1 x y lx ly OG Z3⟩
 |2,_=>
  obtain⟨w1,c1,d1,vO,OG,EW,A3⟩:=aP a0 b0 2 Nw Nx (by decide)
  obtain⟨v1,e1,f1,tJ,Z3,Ny,Nz⟩:=aP c1 d1 3 EW A3 (by decide)
  obtain⟨w2,c2,d2,EA,W4,Z4,hd2⟩:=aP e1 f1 2 Ny Nz (by decide)
  obtain⟨v2,e2,f2,EB,lv2,Z5,Z6⟩:=aP c2 d2 3 Z4 hd2 (by decide)
  obtain⟨x,p1,p2,hx,lx,ED,EE⟩:=aP e2 f2 2 Z5 Z6 (by decide)
  obtain⟨y,p3,p4,hy,ly,QZ,Q0⟩:=aP p1 p2 2 ED EE (by decide)
  exact⟨_,aB.draw hn (by decide) ha hb (aB.draw vO (by decide) Nw Nx (aB.draw tJ (by decide) EW A3 (aB.draw EA (by decide) Ny Nz (aB.draw EB (by decide) Z4 hd2 (aB.draw hx (by decide) Z5 Z6 (aB.draw hy (by decide) ED EE (l:=[]) ⟨QZ,Q0⟩)))))),lr2 g t1 t2 t3 t5 w1 v1 w2 v2 x y lx ly OG Z3 W4 lv2⟩
 |3,_=>
  obtain⟨w1,c1,d1,vO,OG,EW,A3⟩:=aP a0 b0 2 Nw Nx (by decide)
  obtain⟨v1,e1,f1,tJ,Z3,Ny,Nz⟩:=aP c1 d1 3 EW A3 (by decide)
  obtain⟨w2,c2,d2,EA,W4,Z4,hd2⟩:=aP e1 f1 2 Ny Nz (by decide)
  obtain⟨v2,e2,f2,EB,lv2,Z5,Z6⟩:=aP c2 d2 3 Z4 hd2 (by decide)
  obtain⟨w3,c3,d3,Z1,lw3,hc3,hd3⟩:=aP e2 f2 2 Z5 Z6 (by decide)
  obtain⟨v3,e3,f3,Z2,lv3,he3,hf3⟩:=aP c3 d3 3 hc3 hd3 (by decide)
  obtain⟨x,p1,p2,hx,lx,ED,EE⟩:=aP e3 f3 2 he3 hf3 (by decide)
  obtain⟨y,p3,p4,hy,ly,QZ,Q0⟩:=aP p1 p2 2 ED EE (by decide)
  exact⟨_,aB.draw hn (by decide) ha hb (aB.draw vO (by decide) Nw Nx (aB.draw tJ (by decide) EW A3 (aB.draw EA (by decide) Ny Nz (aB.draw EB (by decide) Z4 hd2 (aB.draw Z1 (by decide) Z5 Z6 (aB.draw Z2 (by decide) hc3 hd3 (aB.draw hx (by decide) he3 hf3 (aB.draw hy (by decide) ED EE (l:=[]) ⟨QZ,Q0⟩)))))))),lr3 g t1 t2 t3 t5 w1 v1 w2 v2 w3 v3 x y lx ly OG Z3 W4 lv2 lw3 lv3⟩
 |_+4,h=>exact fj ‹_›
end
end
section
variable{G:Gc}
noncomputable def subs:Expr->List Expr
 |.Call f as _ _=>f::as
 |.BoolOp _ es _=>es
 |.UnaryOp _ e _=>[e]
 |.List es _=>es
 |.IfExp t a b _=>[t,a,b]
 |_=>[]
noncomputable def posOf:Expr->Pos
 |.Call _ _ _ p=>p
 |.BoolOp _ _ p=>p
 |.UnaryOp _ _ p=>p
 |.List _ p=>p
 |.IfExp _ _ _ p=>p
 |.Name _ p=>p
 |_=>⟨0,0,0,0⟩
noncomputable def nameOf:Expr->Str
 |.Name x _=>x
 |_=>S 0x0
noncomputable def lZ:Stmt->Expr
 |.If t _ _ _=>t
 |.Return (some e) _=>e
 |.Assign _ e _=>e
 |_=>.Name (S 0x0) ⟨0,0,0,0⟩
noncomputable def zU:Stmt->Pos
 |.If _ _ _ p=>p
 |.Return _ p=>p
 |.Assign _ _ p=>p
 |_=>⟨0,0,0,0⟩
noncomputable def y8:Stmt->Expr
 |.Assign (t::_) _ _=>t
 |_=>.Name (S 0x0) ⟨0,0,0,0⟩
noncomputable def K6:Stmt->List Stmt
 |.If _ b _ _=>b
 |_=>[]
noncomputable def sub(k:Nat)(e:Expr):Expr:=(cJ (subs e) k).getD (.Name (S 0x0) ⟨0,0,0,0⟩)
noncomputable def pL:Expr:=lZ (nS 2 vj)
noncomputable def pI:Expr:=sub 0 pL
noncomputable def B8:Stmt:=.Return (some (.List [.IfExp (sub 0 pI) (sub 1 pI) (sub 2 pI) (posOf pI),sub 1 pL] (posOf pL))) (zU (nS 2 vj))
noncomputable def EG:Sc:=⟨uc.names,[],some (1643,xe++ ".<locals>.")⟩
noncomputable def mK(a m:Int):ah:=[(S 0x736372697074,.obj 0),(S 0x746f6c64,.int a),(S 0x6d6f7374,.int m)]
noncomputable def sb:ah:=[(S 0x736372697074,.obj 0)]
noncomputable abbrev wY:Cf:=jH EK
noncomputable abbrev H6(vs:List V)(t1:List (Nat×Nat)):List Ob:=[.c9 vs,.tab 1742 1 t1,.tab 1709 2 [],.tab 1716 3 [],.tab 1730 4 [],.tab 1735 5 []]
section
variable(t1:List (Nat×Nat))
theorem Ij:pP wY 50 EG vj sb (H6 [] t1)=some (mK 0 0,H6 [] t1,[B8]):=by kernel_rfl
theorem IS(n:Nat)(vs:List V):pP wY 50 EG vj sb (H6 (.int (.ofNat n)::vs) t1)=some (mK (.ofNat n) (.ofNat n),H6 (.int (.ofNat n)::vs) t1,[B8]):=by kernel_rfl
theorem GG(n:Nat)(vs:List V):pP wY 50 EG vj sb (H6 (.int (.negSucc n)::vs) t1)=some (mK (.negSucc n) (11- .negSucc n),H6 (.int (.negSucc n)::vs) t1,[B8]):=by kernel_rfl
variable(a m:Int)(vs:List V)
theorem Yz:(ev wY 50).T EG (sub 0 pI) (mK a m) (H6 vs t1)=some (.ok (Z.leB 1000000000000000000 m) (H6 vs t1)):=by kernel_rfl
theorem R7:(ev wY 50).E EG (sub 1 pI) (mK a m) (H6 vs t1)=some (.ok (.int m) (H6 vs t1)):=by kernel_rfl
theorem Yq:(ev wY 50).E EG (sub 2 pI) (mK a m) (H6 vs t1)=some (.ok (.int 0) (H6 vs t1)):=by kernel_rfl
theorem YK:(ev wY 50).E EG (sub 1 pL) (mK a m) (H6 vs t1)=some (.ok (.int (Int.fmod m (.ofNat 1000000093)+47)) (H6 vs t1)):=by kernel_rfl
theorem W':isStar (sub 1 pL)=false:=by kernel_rfl
end
noncomputable def nj(m:Int):Int:=match Z.leB 1000000000000000000 m with
 |true=>m
 |false=>0
theorem CX(m:Int):0<=nj m:=by
 unfold nj
 split
 ·rename_i h
  have:=(Z.leB_iff _ _).mp h
  exact adu ‹_›
 ·exact Int.ofNat_nonneg _
theorem u3{n:Nat}{sc:Sc}{st:Stmt}{ss:List Stmt}{ρ bj:ah}{H H₁:List Ob}{q:Rs fi}(h1:qH G n sc st ρ H (.ok (bj,none) H₁))(h2:gJ G n sc ss bj H₁ q):gJ G n sc (st::ss) ρ H q:=by
 rintro c s m ν Mu I Q E ok hc au S k post
 refine wpAny_execs_cons (h1 c s m ν Mu I _ _ ok hc au S k λh' ak m' aa aw I' x S' k'=>?_)
 exact h2 c {s with heap:=h',toks:=ak} m' aa aw I' _ _ ok hc (au.mono x) S' k' (ik.mono x post)
theorem BN{N n:Nat}{sc:Sc}{ss:List Stmt}{ρ eh:ah}{H aQ:List Ob}{r:List Stmt}{q:Rs fi}(so:Sound G N (ev G.cf n))(h:pP G.cf n sc ss ρ H=some (eh,aQ,r))(h2:gJ G N sc r eh aQ q):gJ G N sc ss ρ H q:=by
 refine Kl h ?_;clear h;intro _ _ _ ay h;subst ay
 refine ya h ?_;clear h;intro _ _ h1 h
 refine ya h ?_;clear h;intro _ _ h3 h
 cases h
 exact u3 (so.oS _ _ _ _ _ h1) (u3 (so.oS _ _ _ _ _ h3) h2)
theorem w9(g:Good G){a m:Int}{vs:List V}{t1:List (Nat×Nat)}(h:pP wY 50 EG vj sb (H6 vs t1)=some (mK a m,H6 vs t1,[B8])):aW G 51 iv [.obj 0] (H6 vs t1) (.ok (.obj 6) (H6 vs t1++[.av []])):=by
 have so:Sound (G.tb wY) (50+0) (ev wY 50):=sound (G:=G.tb wY) (g.gk EK) (g.lk EK) (g.xo EK) (λζ ζ ζ ζ q=>by exact no q) 50
 have eT:=so.oT _ _ _ _ _ (Yz t1 a m vs)
 have eA:=so.oE _ _ _ _ _ (R7 t1 a m vs)
 have eB:=so.oE _ _ _ _ _ (Yq t1 a m vs)
 have eE:=so.oE _ _ _ _ _ (YK t1 a m vs)
 have eI:dA (G.tb wY) (50+0) EG (.IfExp (sub 0 pI) (sub 1 pI) (sub 2 pI) (posOf pI)) (mK a m) (H6 vs t1) (.ok (.int (nj m)) (H6 vs t1)):=by
  rintro c s m' ν Mu I ok au S l Q E post
  refine wpAny_IfExp (eT c s m' ν Mu I _ _ ok au S l λh' ak aa aw I' x S'=>?_)
  unfold nj at post
  cases hq:Z.leB 1000000000000000000 m with
  |true=>rw[hq] at post;exact eA c {s with heap:=h',toks:=ak} m' aa aw I' ok (au.mono x) S' (l.mono x) Q E (ja.mono x post)
  |false=>rw[hq] at post;exact eB c {s with heap:=h',toks:=ak} m' aa aw I' ok (au.mono x) S' (l.mono x) Q E (ja.mono x post)
 have eL:=sr (pos:=posOf pL) (lP (by rfl) eI (lP W' eE xR)) λQS H' q=>by cases q;rfl
 have eS:gJ (G.tb wY) (50+0) EG [B8] (mK a m) (H6 vs t1) (.ok (mK a m,some (.obj 6)) (H6 vs t1++[.list [.int (nj m),.int (Int.fmod m (.ofNat 1000000093)+47)]])):=by
  refine rS (is:=some (.ok (mK a m,some (.obj 6)) (H6 vs t1++[.list [.int (nj m),.int (Int.fmod m (.ofNat 1000000093)+47)]]))) (iss:=λζ ζ=>none) (λr q=>?_) (λζ ζ ζ q=>by exact no q) rfl
  obtain rfl:=ai q
  exact pB (ie:=some (.ok (.obj 6) (H6 vs t1++[.list [.int (nj m),.int (Int.fmod m (.ofNat 1000000093)+47)]]))) (λr q=>by obtain rfl:=ai q;exact eL) rfl
 have eB:=BN (G:=G.tb wY) so h eS
 have eF:=sg (G:=G.tb wY) (a:=iv) (vs:=[.obj 0]) (H:=H6 vs t1) (f:=⟨abE.args.map (·.arg),[],vj,uc,1643,xe⟩) (b:=sb) (r:=.ok (mK a m,some (.obj 6)) (H6 vs t1++[.list [.int (nj m),.int (Int.fmod m (.ofNat 1000000093)+47)]])) (g.gk EK) (by kernel_rfl) (by kernel_rfl) (by
   have z:bu uc.names sb=sb:=by kernel_rfl
   have z2:ax uc.names []=[]:=by kernel_rfl
   show gJ _ _ ⟨uc.names,cG 6 (ax uc.names []),some (1643,xe++ ".<locals>.")⟩ vj (bu uc.names sb) (H6 vs t1++cK sb (ax uc.names [])) _
   rw[z,z2]
   exact eB)
 refine eF.conv.alike (.ok (.refl _) (HA.app (HA.refl _) (.cons (oQ (b:=Int.fmod m (.ofNat 1000000093)+47) ⟨CX m,?_⟩) .nil)))
 have:=Int.fmod_nonneg_of_pos m (show(0:Int)< .ofNat 1000000093 from by decide)
 omega
theorem PJ(g:Good G)(t1:List (Nat×Nat)):∀ns:List Int,aW G 51 iv [.obj 0] (H6 (ns.map .int) t1) (.ok (.obj 6) (H6 (ns.map .int) t1++[.av []]))
 |[]=>w9 g (Ij t1)
 |.ofNat n::ns=>w9 g (IS t1 n _)
 |.negSucc n::ns=>w9 g (GG t1 n _)
end
section
variable{G:Gc}
theorem St.cut{c:Fc}{h:Heap}{m:Str->Option Value}{ν:List Addr}{Mu:List Obj}{I:Led}{H₁ R:List Ob}(S:St G c h m ν Mu I (H₁++R))(mv:∀b∈H₁,∀(I:Led) (o:Obj),az G ν I o b->az G (ν.take H₁.length) I o b):
  St G c h m (ν.take H₁.length) (Mu.take H₁.length) I H₁:=by
 have hl:H₁.length<=ν.length:=by rw[S.aT,List.length_append];exact Nat.le_add_right _ _
 have at_:∀{i:Nat} {b:Ob},H₁[i]?=some b->(H₁++R)[i]?=some b/\i<H₁.length:=λ{i b} q=>by
  have:=(List.getElem?_eq_some_iff.mp q).1
  exact⟨by rw[List.getElem?_append_left this];exact q,this⟩
 refine⟨S.F,fy S.N λp hp=>?_,S.nd.sublist (List.take_sublist _ _),λp hp i b hi hb=>?_,by rw[List.length_take,List.length_take,S.len],by rw[List.length_take];exact Nat.min_eq_left ‹_›,λi o b h1 h2=>?_,S.big,λb hb=>S.low b (List.mem_of_mem_take hb)⟩
 ·rcases List.mem_append.mp hp with hp|hp
  ·refine List.mem_append_left _ ?_
   simp only[List.zip,←List.take_zipWith] at hp
   exact List.mem_of_mem_take hp
  ·exact List.mem_append_right _ hp
 ·refine ae (at_ hb) λq1 q2=>?_
  refine S.eP p hp i b ?_ q1
  rw[List.getElem?_take_of_lt q2] at hi
  exact hi
 ·refine ae (at_ h2) λq1 q2=>?_
  rw[List.getElem?_take_of_lt q2] at h1
  exact mv b (List.mem_of_getElem? h2) I o (S.ob i o b h1 q1)
theorem IM{ν:List Addr}{H₁:List Ob}(hf:H₁.all (flat H₁.length)=true):∀b∈H₁,∀(I:Led) (o:Obj),az G ν I o b->az G (ν.take H₁.length) I o b:=λb hb I o r=>
 r.flat (List.all_eq_true.mp hf b hb) λi a hi q=>by rw[List.getElem?_take_of_lt hi];exact q
theorem iY.drop{n:Nat}{sc:Sc}{e:Expr}{ρ:ah}{H H₁ R:List Ob}{t:Bool}(h:iY G n sc e ρ H t (H₁++R))(hp:H.length<=H₁.length)(hf:H₁.all (flat H₁.length)=true):iY G n sc e ρ H t H₁:=by
 rintro c s m ν Mu I Q E ok hb au S l post
 refine h c s m ν Mu I Q E ok hb au S l λg h' ak aa aw I' T x S'=>?_
 refine post g h' ak _ _ I' T ⟨?_,x.sub,λi b hi hb p hp=>?_⟩ (S'.cut (IM hf))
 ·exact List.prefix_take_iff.mpr ⟨x.pre,by rw[S.aT];exact hp⟩
 ·exact x.fr i b hi (by
   rw[List.getElem?_take] at hb
   split at hb
   ·exact hb
   ·exact no hb) p hp
theorem cD.pre{n:Nat}{sc:Sc}{ss:List Stmt}{ρ:ah}{H aQ H':List Ob}{v:V}(e:cD G n sc ss ρ H v H')(y:HA aQ H):cD G n sc ss ρ aQ v H':=λc s m ν Mu I Q E ok hb hc au S kn post=>e c s m ν Mu I Q E ok hb hc au (S.alike y) kn post
noncomputable def lw(k:Nat):Stmt:=nS k qv
noncomputable def PS:Expr:=lZ (lw 3)
noncomputable def UR:Expr:=lZ (lw 4)
noncomputable def Ph:Expr:=lZ (lw 5)
def c1:Expr:=sub 0 (sub 0 UR)
def c2:Expr:=sub 0 (sub 1 UR)
def c3:Expr:=sub 0 Ph
def c4:Expr:=sub 1 Ph
noncomputable abbrev nm(c:Expr):Expr:=.Name (nameOf (sub 0 c)) (posOf (sub 0 c))
noncomputable abbrev ar(c:Expr):List Expr:=(subs c).drop 1
noncomputable abbrev cl(c:Expr):Expr:=.Call (nm c) (ar c) [] (posOf c)
theorem Ab:qv=[lw 0,lw 1,lw 2,.Assign [.Name (nameOf (y8 (lw 3))) (posOf (y8 (lw 3)))] (cl PS) (zU (lw 3)),
  .If (.BoolOp .Or [.UnaryOp .Not (cl c1) (posOf (sub 0 UR)),.UnaryOp .Not (cl c2) (posOf (sub 1 UR))] (posOf UR)) (K6 (lw 4)) [] (zU (lw 4)),
  .Return (some (.BoolOp .And [cl c3,cl c4] (posOf Ph))) (zU (lw 5))]:=by kernel_rfl
noncomputable def vR:Sc:=⟨wa.names,[],none⟩
noncomputable def lD:ah:=[(S 0x736372697074,.obj 0)]
noncomputable def mQ:ah:=[(S 0x736372697074,.obj 0),(S 0x706f74,.obj 6)]
noncomputable abbrev gy:Cf:=jH bG
section
variable(t1 t2 t3 t4 t5:List (Nat×Nat))(l:List Item)(vs:List V)
theorem X9:(ev gy 80).E vR (nm PS) lD (H6 vs t1)=some (.ok (.glob (.ref iv)) (H6 vs t1)):=by kernel_rfl
theorem Tf:(ev gy 80).Es vR (ar PS) lD (H6 vs t1)=some (.ok [.obj 0] (H6 vs t1)):=by kernel_rfl
theorem Wg:vR.put lD (H6 vs t1++[.av []]) (nameOf (y8 (lw 3))) (.obj 6)=some (mQ,H6 vs t1++[.av []]):=by kernel_rfl
theorem aaY:(ev gy 80).E vR (nm c1) mQ (LH t1 t2 t3 t4 t5 l)=some (.ok (.glob (.ref bz)) (LH t1 t2 t3 t4 t5 l)):=by kernel_rfl
theorem abv:(ev gy 80).Es vR (ar c1) mQ (LH t1 t2 t3 t4 t5 l)=some (.ok [.obj 6] (LH t1 t2 t3 t4 t5 l)):=by kernel_rfl
theorem HK:(ev gy 80).E vR (nm c2) mQ (LH t1 t2 t3 t4 t5 l)=some (.ok (.glob (.ref bC)) (LH t1 t2 t3 t4 t5 l)):=by kernel_rfl
theorem V6:(ev gy 80).Es vR (ar c2) mQ (LH t1 t2 t3 t4 t5 (.draw 4 0::l))=some (.ok [.obj 6,GR] (LH t1 t2 t3 t4 t5 l++[.list [GR,Jc,IL,Ir]])):=by kernel_rfl
theorem X3:(ev gy 80).Es vR (ar c2) mQ (LH t1 t2 t3 t4 t5 (.draw 4 1::l))=some (.ok [.obj 6,Jc] (LH t1 t2 t3 t4 t5 l++[.list [GR,Jc,IL,Ir]])):=by kernel_rfl
theorem RB:(ev gy 80).Es vR (ar c2) mQ (LH t1 t2 t3 t4 t5 (.draw 4 2::l))=some (.ok [.obj 6,IL] (LH t1 t2 t3 t4 t5 l++[.list [GR,Jc,IL,Ir]])):=by kernel_rfl
theorem V8:(ev gy 80).Es vR (ar c2) mQ (LH t1 t2 t3 t4 t5 (.draw 4 3::l))=some (.ok [.obj 6,Ir] (LH t1 t2 t3 t4 t5 l++[.list [GR,Jc,IL,Ir]])):=by kernel_rfl
theorem aaV:(ev gy 80).E vR (nm c3) mQ (LH t1 t2 t3 t4 t5 l)=some (.ok (.glob (.ref aX)) (LH t1 t2 t3 t4 t5 l)):=by kernel_rfl
theorem abR:(ev gy 80).Es vR (ar c3) mQ (LH t1 t2 t3 t4 t5 l)=some (.ok [.obj 6] (LH t1 t2 t3 t4 t5 l)):=by kernel_rfl
theorem adC:(ev gy 80).E vR (nm c4) mQ (LH t1 t2 t3 t4 t5 l)=some (.ok (.glob (.ref aE)) (LH t1 t2 t3 t4 t5 l)):=by kernel_rfl
theorem abF:(ev gy 80).Es vR (ar c4) mQ (LH t1 t2 t3 t4 t5 l)=some (.ok [.obj 6] (LH t1 t2 t3 t4 t5 l)):=by kernel_rfl
end
theorem l6{cf:Cf}{f:Addr}(h:(jL f cf.fn).isSome=true):∃d,jL f cf.fn=some d:=Option.isSome_iff_exists.mp h
theorem BH(g:jc G)(t1:List (Nat×Nat))(ns:List Int):cD (G.tb gy) 530 vR (qv.drop 3) lD (H6 (ns.map .int) t1) (.bool true) (LH t1 [(1734,22)] [(1753,22)] [(1765,18),(1767,22)] [(1772,22)] []):=by
 have so:Sound (G.tb gy) (80+450) (ev gy 80):=sound (G:=G.tb gy) (g.gk bG) (g.lk bG) (g.xo bG) (λa vs H r q=>((aq g.toGood (k:=450) (by decide)) a vs H r q).eY) 80
 refine bF (l6 (cf:=gy) (f:=iv) (by kernel_rfl)) λd0 f0=>?_
 refine bF (l6 (cf:=gy) (f:=bz) (by kernel_rfl)) λd1 f1=>?_
 refine bF (l6 (cf:=gy) (f:=bC) (by kernel_rfl)) λd2 f2=>?_
 refine bF (l6 (cf:=gy) (f:=aX) (by kernel_rfl)) λd3 f3=>?_
 refine bF (l6 (cf:=gy) (f:=aE) (by kernel_rfl)) λd4 f4=>?_
 have gk:=g.gk bG
 rw[Ab]
 refine oU (G:=G.tb gy) (by rfl) (fR gk (by kernel_rfl) f0 (so.oE _ _ _ _ _ (X9 t1 _)) (so.qo _ _ _ _ _ (Tf t1 _)) ((PJ g.toGood t1 ns).rq.more (n':=530) (by decide)).eY) (Wg t1 _) ?_
 refine cD.pre (H:=LH t1 [] [] [] [] []) ?_ (.cons (.other _) (HA.refl _))
 refine cD.eQ 6 rfl λa b ht=>?_
 refine ae ht ?_;clear ht;intro ha hb
 refine dH (eH (made 1) a b ha hb) λm1 m2 m3 m4=>?_
 obtain⟨l',a1,b1,hg⟩:∃l' a1 b1,aK 1 a b=(l',a1,b1):=⟨_,_,_,rfl⟩
 rw[hg] at m3 m4
 obtain⟨w,a2,b2,hs,hw,Rm,QA⟩:=aP a1 b1 4 m3 m4 (by decide)
 refine⟨[.block 1 (kindB l') l',.draw 4 w],⟨by rw[hg],rfl,ha,hb,by rw[hg];exact aB.draw hs (by decide) m3 m4 (l:=[]) ⟨Rm,QA⟩⟩,?_⟩
 show cD _ _ _ _ _ (LH t1 [] [] [] [] [.block 1 (kindB l') l',.draw 4 w]) _ _
 have e1:=fR (pos:=posOf c1) gk (by kernel_rfl) f1 (so.oE _ _ _ _ _ (aaY t1 [] [] [] [] [.block 1 (kindB l') l',.draw 4 w])) (so.qo _ _ _ _ _ (abv t1 [] [] [] [] [.block 1 (kindB l') l',.draw 4 w])) (br g t1 [] [] [] [.draw 4 w] l' (kindB l')).eY
 have e2:jj (G.tb gy) 530 vR (cl c2) mQ (LH t1 [(1734,22)] [] [] [] [.draw 4 w]) (.bool true) (u7 t1 [(1734,22)] [(1753,22)] [] [] []):=by
  have y:HA (LH t1 [(1734,22)] [] [] [] []++[.list [GR,Jc,IL,Ir]]) (u7 t1 [(1734,22)] [] [] [] []):=HA.app (HA.refl (LH t1 [(1734,22)] [] [] [] [])) (.cons (.other _) .nil)
  match w,hw with
  |0,_=>exact fR gk (by kernel_rfl) f2 (so.oE _ _ _ _ _ (HK t1 [(1734,22)] [] [] [] [.draw 4 0])) (so.qo _ _ _ _ _ (V6 t1 [(1734,22)] [] [] [] [])) ((adk g t1 [(1734,22)] [] []).pre y).eY
  |1,_=>exact fR gk (by kernel_rfl) f2 (so.oE _ _ _ _ _ (HK t1 [(1734,22)] [] [] [] [.draw 4 1])) (so.qo _ _ _ _ _ (X3 t1 [(1734,22)] [] [] [] [])) ((abO g t1 [(1734,22)] [] []).pre y).eY
  |2,_=>exact fR gk (by kernel_rfl) f2 (so.oE _ _ _ _ _ (HK t1 [(1734,22)] [] [] [] [.draw 4 2])) (so.qo _ _ _ _ _ (RB t1 [(1734,22)] [] [] [] [])) ((adP g t1 [(1734,22)] [] []).pre y).eY
  |3,_=>exact fR gk (by kernel_rfl) f2 (so.oE _ _ _ _ _ (HK t1 [(1734,22)] [] [] [] [.draw 4 3])) (so.qo _ _ _ _ _ (V8 t1 [(1734,22)] [] [] [] [])) ((abp g t1 [(1734,22)] [] []).pre y).eY
  |_+4,h=>exact fj ‹_›
 refine Ca (G:=G.tb gy) (H₁:=LH t1 [(1734,22)] [(1753,22)] [] [] []) (iY.drop (R:=[.other]) (BU (xd (oN rfl e1 rfl)) (BU (xd (oN rfl e2 rfl)) Dn)) (Nat.le_refl 7) rfl) ?_
 have e3:=fR (pos:=posOf c3) gk (by kernel_rfl) f3 (so.oE _ _ _ _ _ (aaV t1 [(1734,22)] [(1753,22)] [] [] [])) (so.qo _ _ _ _ _ (abR t1 [(1734,22)] [(1753,22)] [] [] [])) ((lr g t1 [(1734,22)] [(1753,22)] []).more (n':=530) (by decide)).eY
 have e4:=fR (pos:=posOf c4) gk (by kernel_rfl) f4 (so.oE _ _ _ _ _ (adC t1 [(1734,22)] [(1753,22)] [(1765,18),(1767,22)] [] [])) (so.qo _ _ _ _ _ (abF t1 [(1734,22)] [(1753,22)] [(1765,18),(1767,22)] [] [])) ((cr g t1 [(1734,22)] [(1753,22)] [(1765,18),(1767,22)]).more (n':=530) (by decide)).eY
 exact yA (Cw e3 rfl e4)
end
section
variable{G:Gc}{n p:Nat}{sc:Sc}{st:Stmt}{ss:List Stmt}{e:Expr}{ρ bj eh:ah}{H H₁ aQ H':List Ob}{v w:V}{pos:Pos}
def je(G:Gc)(p n:Nat)(sc:Sc)(ss:List Stmt)(ρ:ah)(H:List Ob)(v:V)(H':List Ob):Prop:=
 ∀c s m ν Mu I Q E,c.Ok G n->Based G c.base->c.env=c.dK->cM c sc ν->St G c s.heap m ν Mu I H->cC G.K m ν I ρ->
  (∀g h' ak m' aa aw I' u,Turn c g->ν.take p<+:aa->(∀q∈I,q∈I')->St G (c.turn g) h' m' aa aw I' H'->Rep G.K aa I' u v->Q (.ret u) {s with heap:=h',toks:=ak})->wpAny G.M c.A (execs ss c.env) Q E s
theorem pk{ν aa aV:List Addr}(x:ν<+:aa)(hp:p<=ν.length)(y:aa.take p<+:aV):ν.take p<+:aV:=by
 refine bF x ?_;clear x;intro r aU;subst aU
 rw[List.take_append_of_le_length hp] at y
 exact y
theorem xi(hp:p<=H.length)(h1:qH G n sc st ρ H (.ok (bj,none) H₁))(h2:je G p n sc ss bj H₁ v H'):je G p n sc (st::ss) ρ H v H':=by
 rintro c s m ν Mu I Q E ok hb hc au S k post
 refine wpAny_execs_cons (h1 c s m ν Mu I _ _ ok hc au S k λh' ak m' aa aw I' x S' k'=>?_)
 exact h2 c {s with heap:=h',toks:=ak} m' aa aw I' _ _ ok hb hc (au.mono x) S' k' λg bw bY Ey aV cF dk u T y z d7 ru=>post g bw bY Ey aV cF dk u T (pk x.pre (by rw[S.aT];exact hp) y) (λq hq=>z q (x.sub q hq)) d7 ru
theorem wk{z:Str}{ap:Pos}(hp:p<=H.length)(hn:gf e=false)(h1:jj G n sc e ρ H w H₁)(hw:sc.put ρ H₁ z w=some (eh,aQ))(h2:je G p n sc ss eh aQ v H'):je G p n sc (.Assign [.Name z ap] e pos::ss) ρ H v H':=by
 rintro c s m ν Mu I Q E ok hb hc au S k post
 refine wpAny_execs_cons (wpAny_Assign_Name (h1 c s m ν Mu I _ _ ok hb au S (bO hc k) λg h' ak aa aw I' u T x S' ru=>?_) (eD hn))
 refine kK (c:=c.turn g) (s:={s with heap:=h',toks:=ak}) (ok.turn hb T) hc (au.mono x).turn S' (k.mono x) hw ru λa9 bq iy bM bZ gQ=>?_
 exact h2 (c.turn g) {s with heap:=a9,toks:=bq} iy aa bM I' _ _ (ok.turn hb T) hb hc (au.mono x).turn bZ gQ λg' bw bY Ey aV cF dk u T' y z d7 ru=>post g' bw bY Ey aV cF dk u (T.trans T') (pk x.pre (by rw[S.aT];exact hp) y) (λq hq=>z q (x.sub q hq)) d7 ru
theorem NH{body:List Stmt}(hp:p<=H.length)(h1:iY G n sc e ρ H false H₁)(h2:je G p n sc ss ρ H₁ v H'):je G p n sc (.If e body [] pos::ss) ρ H v H':=by
 rintro c s m ν Mu I Q E ok hb hc au S k post
 refine wpAny_execs_cons (wpAny_If (h1 c s m ν Mu I _ _ ok hb au S (bO hc k) λg h' ak aa aw I' T x S'=>?_))
 refine wpAny_execs_nil ?_
 exact h2 (c.turn g) {s with heap:=h',toks:=ak} m aa aw I' _ _ (ok.turn hb T) hb hc (au.mono x).turn S' (k.mono x) λg' bw bY Ey aV cF dk u T' y z d7 ru=>post g' bw bY Ey aV cF dk u (T.trans T') (pk x.pre (by rw[S.aT];exact hp) y) (λq hq=>z q (x.sub q hq)) d7 ru
theorem cM.bare{c:Fc}{sc:Sc}{ν aa:List Addr}(x:cM c sc ν):cM c ⟨sc.ns,[],none⟩ aa:=⟨x.ns,λζ ζ q=>(by cases q),λζ ζ q=>(by cases q)⟩
theorem AF{ns:List Int}{t1:List (Nat×Nat)}{ν:List Addr}(cb:6<=ν.length):∀b∈H6 (ns.map .int) t1,∀(I:Led) (o:Obj),az G ν I o b->az G (ν.take 6) I o b:=by
 have mvI:∀(I:Led) (ns:List Int) (us:List Value),ag G.K ν I us (ns.map .int)->ag G.K (ν.take 6) I us (ns.map .int):=by
  intro I ns
  induction ns with
  |nil=>intro us r;cases r;exact .nil
  |cons a ns ih=>
   intro us r
   refine ag.dj r rfl λx xs h1 h2=>?_
   refine h1.cA rfl λt=>?_
   exact .cons (.int _ _) (ih _ h2)
 have tab:∀(P t:Nat) (l:List (Nat×Nat)) (I:Led) (o:Obj),t<6->az G ν I o (.tab P t l)->az G (ν.take 6) I o (.tab P t l):=by
  intro P t l I o ht r
  exact r.flat (p:=6) (by unfold flat;exact Nat.ble_eq_true_of_le ht) λi a hi q=>by rw[List.getElem?_take_of_lt hi];exact q
 intro b hb I o r
 simp only[List.mem_cons,List.not_mem_nil,or_false] at hb
 rcases hb with rfl|rfl|rfl|rfl|rfl|rfl
 ·refine bP r.nT λxs k aU h hl=>?_;subst aU
  exact .c9 (mvI I ns xs h) hl
 ·exact tab _ _ _ _ _ (by decide) r
 ·exact tab _ _ _ _ _ (by decide) r
 ·exact tab _ _ _ _ _ (by decide) r
 ·exact tab _ _ _ _ _ (by decide) r
 ·exact tab _ _ _ _ _ (by decide) r
theorem FW{ns:List Int}{t1:List (Nat×Nat)}{R:List Ob}(hk:bT (S 0x736372697074) ρ=some (.obj 0))(hH:HA H (H6 (ns.map .int) t1++R))(h2:cD G n ⟨sc.ns,[],none⟩ ss lD (H6 (ns.map .int) t1) v H'):je G 6 n sc ss ρ H v H':=by
 rintro c s m ν Mu I Q E ok hb hc au S k post
 have jT:=S.alike hH
 have hl:6<=ν.length:=by rw[jT.aT,List.length_append];show 6<=6+_;exact Nat.le_add_right _ _
 have dR:=jT.cut (AF hl)
 refine h2 c s m (ν.take 6) (Mu.take 6) I Q E ok hb hc au.bare dR (λx u q=>?_) λg h' ak m' aa aw I' u T x S' ru=>post g h' ak m' aa aw I' u T x.pre x.sub S' ru
 unfold lD at q
 rw[bU] at q
 cases hx:du (Hd.S 0x736372697074) x with
 |true=>
  rw[hx] at q
  cases q
  have:=aH.mp hx
  subst this
  refine ab (k _ _ hk) λuu h1 h2=>?_
  refine ab h2.yd λa aU ha=>?_;subst aU
  exact⟨_,h1,.obj (by rw[List.getElem?_take_of_lt (by decide)];exact ha)⟩
 |false=>rw[hx] at q;cases q
noncomputable def xj:Sc:=⟨wa.names,cG 6 (ax wa.names []),some (1746,pS++ ".<locals>.")⟩
noncomputable def H0(vs:List V):List Ob:=H6 vs []++cK lD (ax wa.names [])
noncomputable def OL(vs:List V):Option (ah×List Ob):=match(ev gy 80).S xj (lw 0) lD (H0 vs) with
 |some (.ok (bj,none) H₁)=>match rE gy (ev gy 80) (rF gy gL 80) 58 xj (lZ (lw 1)) bj H₁ with
  |none=>none
  |some x=>match uP x.cs with
   |false=>none
   |true=>match xj.put bj x.H (nameOf (y8 (lw 1))) x.v with
    |none=>none
    |some q=>match rT gy (ev gy 80) (rF gy gL 80) 58 xj (lZ (lw 2)) q.1 q.2 with
     |none=>none
     |some y=>match y.v with
      |true=>none
      |false=>match uP y.cs with
       |false=>none
       |true=>match Nat.ble 6 H₁.length&&Nat.ble 6 q.2.length with
        |false=>none
        |true=>some (q.1,y.H)
 |_=>none
theorem OG:lw 1=.Assign [.Name (nameOf (y8 (lw 1))) (posOf (y8 (lw 1)))] (lZ (lw 1)) (zU (lw 1)):=by kernel_rfl
theorem W4:lw 2=.If (lZ (lw 2)) (K6 (lw 2)) [] (zU (lw 2)):=by kernel_rfl
theorem abg:gf (lZ (lw 1))=false:=by kernel_rfl
theorem Pk:qv=lw 0::lw 1::lw 2::qv.drop 3:=by kernel_rfl
set_option tactic.hygienic true in
theorem F7(g:jc G){vs:List V}(h:OL vs=some (ρ,H))(h2:je (G.tb gy) 6 530 xj (qv.drop 3) ρ H v H'):je (G.tb gy) 6 530 xj qv lD (H0 vs) v H':=by
 have oo:rr (G.tb gy) 450:=λa vs H r q=>((aq g.toGood (k:=450) (by decide)) a vs H r q).eY
 have so:Sound (G.tb gy) (80+450) (ev gy 80):=sound (G:=G.tb gy) (g.gk bG) (g.lk bG) (g.xo bG) oo 80
 have fo:=xO (G:=G.tb gy) (g.gk bG) (g.lk bG) (g.xo bG) oo (g.co bG) gL 80
 have h0:6<=(H0 vs).length:=by unfold H0;rw[List.length_append];show 6<=6+_;omega
 unfold OL at h
 split at h
 ·rename_i bj H₁ e1
  split at h
  ·cases h
  rename_i x hx
  split at h
  ·cases h
  rename_i okx
  split at h
  ·cases h
  rename_i q hq
  split at h
  ·cases h
  rename_i y hy
  split at h
  ·cases h
  rename_i hv
  split at h
  ·cases h
  rename_i oky
  split at h
  ·cases h
  rename_i hl
  cases h
  refine aJ hl λl1 l2=>?_
  have t:=tZ (G:=G.tb gy) (g.gk bG) so fo 58 _ _ _ _ _ hy (jz oky)
  rw[hv] at t
  rw[Pk,OG,W4]
  exact xi h0 (so.oS _ _ _ _ _ e1) (wk (Nat.le_of_ble_eq_true l1) abg (lV (G:=G.tb gy) (g.gk bG) so fo 58 _ _ _ _ _ hx (jz okx)) hq (NH (Nat.le_of_ble_eq_true l2) t h2))
 ·cases h
end
section
set_option backward.match.sparseCases true
section
variable{prog:Program}{w:World}{s:Shared}{news:List (Addr×Obj)}
 {R:Result->Shared->Prop} {name qual:Str} {params:Arguments} {body:List Stmt} {scope:Scope} {dV kV doc pm jt ct:Value} {an:Option Addr} {fo:Obj} {f:Addr} {args:Args} {binds:List (Str×Value)}
theorem uO(hn:∀p∈news,s.heap.get? p.1=some p.2)(Ew:s.heap.NoLimit)
  (ho:s.heap.get? f=some fo) (hd:fo.data=.func (fnX name qual params body scope [] dV kV doc pm an jt ct)) (mS:s.heap.CodeRec jt qual)
  (mh:BindsTo s (fnX name qual params body scope [] dV kV doc pm an jt ct) args binds)
  (fC:∀n,∀x∈binds,scope.names.lookup x.1=some .local∨(scope.names.lookup x.1=some .cell/\((cellsFrom n scope.names []).lookup x.1).isSome=true))
  (Ju:((cellsFrom 0 scope.names []).map (·.1)).Nodup)
  (h:∀L' bg tk cells,Fr (hideAll s.heap (news.map (·.1))) L' bg (bindL (envOfC qual scope L' f jt).kindOf binds λζ=>none)->News (hideAll s.heap (news.map (·.1))) L' bg (cells++news)->
   CellsAre (bindC (envOfC qual scope L' f jt).kindOf binds λζ=>none) (cellsFrom (L'+1) scope.names []) cells->(∀p∈news,p.1<L')->
   wpAny (model prog w) (callerA.deeper (envOfC qual scope L' f jt)) (execs body (envOfC qual scope L' f jt))
    (λfl s'=>R (.ok (.ret (match fl with|.ret v=>v|_=>.none))) s')
    (λe s'=>wpAny (model prog w) (callerA.deeper (envOfC qual scope L' f jt)) («leaving» (envOfC qual scope L' f jt) e) (λζ QV=>R (.error e) QV) (λe' QV=>R (.error e') QV) s')
    {s with heap:=bg,toks:=tk})
  (D5:scope.isCoroutine=false:=by rfl) (D6:scope.isGenerator=false:=by rfl) (hk:scope.kind=.function:=by rfl):codeAny (model prog w) callerA (.call (.ref f) args) R s:=by
 refine codeAny_call_function (by decide) ho hd D5 D6 rfl mS (mh _ _ _ _ ?_)
 refine wpAny_newFunctionEnv_cells hk (fC _) λae6 he s' x=>?_
 subst he
 refine⟨Ew.keeps x.toInCall.keep,codeAny_func ?_⟩
 refine cz x.done λbg tk aU y2=>?_;subst aU
 have nq:=x.toInCall.keep
 refine ab (Cl.news (h₀:=s.heap) (Nat.le_refl _) λn c hm=>⟨x.cell n c (lookup_of_mem_nodup (cellsFrom_names scope.names 0 (s.heap.objs.size+1) [] [] rfl▸Ju) hm),x.above n c hm⟩) λcells NC Y=>?_
 refine wpAny_mono (h s.heap.objs.size bg tk cells ⟨x.toInCall.ns,λb o e=>nq b o (of_hideAll _ e),Nat.le_of_eq (hideAll_size _ _)⟩ (λp hp=>?_) Y (λp hp=>Heap.lt_size (hn p hp))) (λfl s' hl=>hl) λζ ζ y=>y
 rcases List.mem_append.mp hp with hp|hp
 ·refine⟨(NC p hp).1,(NC p hp).2.1,?_⟩
  cases q:(hideAll s.heap (news.map (·.1))).get? p.1 with
  |none=>rfl
  |some o=>have:=of_hideAll _ q;rw[(NC p hp).2.2] at this;exact no this
 ·exact⟨nq _ _ (hn p hp),Nat.ne_of_lt (Heap.lt_size (hn p hp)),hideAll_none _ (List.mem_map_of_mem hp)⟩
end
variable{G:Gc}{s:Shared}{ν:List Addr}{Mu:List Obj}{I:Led}{H H':List Ob}{n p:Nat}
theorem HQ(gk:ko G){a:Addr}{f:nZ}{vs:List V}{us:List Value}{b:ah}{v:V}{R:Result->Shared->Prop}(hf:jL a G.cf.fn=some f)(hb:eU f.me f.ps vs=some b)
  (hX:Based G (hideAll s.heap ((ν.zip Mu++I).map (·.1)))) (Ew:s.heap.NoLimit) (hN:∀q∈ν.zip Mu++I,s.heap.get? q.1=some q.2) (K:Core G ν Mu I H) (big:sysModules<s.heap.objs.size) (rs:ag G.K ν I us vs) (hp:p<=H.length) (hn:n<=590)
  (h:je G p n ⟨f.scope.names,cG H.length (ax f.scope.names []),some (f.code,f.qual++ ".<locals>.")⟩ f.body (bu f.scope.names b) (H++cK b (ax f.scope.names [])) v H')
  (post:∀c h' ak m' aa aw I' u,(∀b o,(hideAll s.heap ((ν.zip Mu++I).map (·.1))).get? b=some o->h'.get? b=some o)->ν.take p<+:aa->(∀q∈I,q∈I')->St G c h' m' aa aw I' H'->Rep G.K aa I' u v->R (.ok (.ret u)) {s with heap:=h',toks:=ak}):
  codeAny G.M callerA (.call (.ref a) ⟨us,[]⟩) R s:=by
 refine ae (gk.fn a f hf) λFO y1=>?_
 obtain⟨oc,od,osl,name,qual,params,dV,kV,doc,pm,jt,ct,an,ho,mS,YV,eq,YW⟩:=FO.ex
 have X:=hX.X.keeps λb o q=>of_hideAll _ q
 refine bH (YW s us vs b ν I X rs hb) λbinds mh vB MZ=>?_
 have M0:=iX hb
 have vC:∀k,(cellsFrom k f.scope.names []).map (·.1)=ax f.scope.names []:=λk=>d9 f.scope.names k []
 have M1:(binds.map (·.1)).Nodup:=by rw[vB,M0];exact FO.nd
 refine uO hN Ew (X _ _ ho) rfl (codeRec_of X mS) mh (λk x hx=>?_) (by rw[vC];exact FO.cnd)
  (λL' bg tk cells gj jn Y kf=>?_) FO.co FO.gen FO.kind
 ·have qQ:x.1∈f.ps:=by rw[←M0,←vB];exact List.mem_map_of_mem hx
  rcases FO.loc x.1 qQ with q|q
  ·exact .inl q
  ·exact .inr ⟨q,dv (by rw[vC];exact gN _ _ (.inr q))⟩
 ·let g:=hideAll s.heap ((ν.zip Mu++I).map (·.1))
  let e:Env:=envOfC qual f.scope L' a jt
  let c':Fc:=⟨callerA.deeper e,callerA,g,g,[],e,e⟩
  have M3:sysModules<g.objs.size:=by show sysModules<(hideAll s.heap _).objs.size;rw[hideAll_size];exact big
  have hL:sysModules<L':=Nat.lt_of_lt_of_le M3 gj.above
  have qn:c'.Ok G n:={
   fr:=Around.frames_deeper rfl
   B:=below_caller g
   ff:=rfl
   fk:=FO.kind
   ek:=FO.kind
   eg:=rfl
   eb:=rfl
   yF:=rfl
   X:=hX
   dep:=by show 301+1+n<=900;omega
   un:=by show 4+3+8*n<=9000;omega
   hd:=rfl}
  have jT:St G c' bg _ ν Mu I H:=⟨gj,λp hp=>jn p (List.mem_append_right _ hp),K.nd,K.eP,K.len,K.aT,K.ob,M3,K.low⟩
  refine cZ (mB Y) λy1 y2 y3=>?_
  have cs:=gH f.scope.names (L'+1) [] .nil (λζ hp=>nomatch hp)
  have yJ:∀p∈cells,L'+1<=p.1:=λp hp=>by
   have hm:p.1∈(cellsFrom (L'+1) f.scope.names []).map (·.2):=by rw[←y1];exact List.mem_map_of_mem hp
   refine ab (List.mem_map.mp hm) λq hq e=>?_
   rcases cs.2 q hq with q'|q'
   ·cases q'
   ·rw[←e];exact q'
  have dR:=jT.many cells (cK b (ax f.scope.names [])) (λp hp=>jn p (List.mem_append_left _ hp)) (by rw[y1];exact cs.1) (λp hp=>⟨λhm=>?_,λq hq e=>?_,Nat.lt_trans hL (yJ p hp)⟩)
   (λi p o hp Jr=>?_) (by rw[y2,nY,←vC (L'+1),List.length_map])
  rotate_left
  ·obtain⟨i,hi,e⟩:=List.getElem_of_mem hm
   have h1:ν[i]?=some p.1:=by rw[List.getElem?_eq_getElem hi,e]
   have h2:Mu[i]?=some (Mu[i]'(K.len▸hi)):=List.getElem?_eq_getElem (K.len▸hi)
   exact Nat.lt_irrefl _ (Nat.lt_trans (kf _ (List.mem_append_left _ (dU h1 h2))) (yJ p hp))
  ·have h1:=kf q (List.mem_append_right _ hq)
   have h2:=yJ p hp
   rw[e] at h1
   exact Nat.lt_irrefl _ (Nat.lt_trans h1 h2)
  ·refine ab (sV b _ i o Jr) λx hx aU=>?_;subst aU
   have qQ:((cellsFrom (L'+1) f.scope.names []).map (·.1))[i]?=some x:=by rw[vC];exact hx
   have hd:=y3 i p x hp qQ
   have hk:(envOfC qual f.scope L' a jt).kindOf x=some .cell:=FO.cl x (List.mem_of_getElem? hx)
   cases q:bT x b with
   |some v=>
    refine ab (jZ vB MZ q) λu hu ru=>?_
    rw[lM binds _ M1 hu (by rw[hk];simp)] at hd
    exact .cell hd ru
   |none=>
    rw[j0 binds _ (by rw[vB];exact lL q)] at hd
    exact .mf hd
  have vD:cells.map (·.1)=(cellsFrom (L'+1) f.scope.names []).map (·.2):=y1
  have jU:Ext ν (ν++cells.map (·.1)) I I:=⟨⟨_,rfl⟩,λζ h=>h,λi a hi ha p hp e=>by
   rw[List.getElem?_append_right hi] at ha
   refine ab (List.mem_map.mp (List.mem_of_getElem? ha)) λq hq eq=>?_
   have h1:=kf p (List.mem_append_right _ hp)
   have h2:=yJ q hq
   rw[eq,←e] at h2
   exact Nat.lt_irrefl _ (Nat.lt_trans h1 h2)⟩
  have au:cM c' ⟨f.scope.names,cG H.length (ax f.scope.names []),some (f.code,f.qual++ ".<locals>.")⟩ (ν++cells.map (·.1)):=by
   refine⟨λx=>(cg x _).symm,λx i hi=>?_,λa q e=>by cases e;exact⟨YV,by rw[←eq];rfl⟩⟩
   have MV:bT x (cG H.length ((cellsFrom (L'+1) f.scope.names []).map (·.1)))=some i:=by rw[vC];exact hi
   refine bH (wC _ _ MV) λad h1 h2 h3=>?_
   refine⟨ad,h1,?_⟩
   rw[←K.aT] at h2 h3
   rw[List.getElem?_append_right h2,vD]
   exact h3
  have kn:cC G.K (bindL (envOfC qual f.scope L' a jt).kindOf binds λζ=>none) (ν++cells.map (·.1)) I (bu f.scope.names b):=λx v q=>by
   refine ae (kZ q) λq1 q2=>?_
   refine ab (jZ vB MZ q1) λu hu ru=>?_
   exact⟨u,lB binds _ M1 hu ((cg x _).symm.trans q2),ru.mono jU⟩
  refine h c' {s with heap:=bg,toks:=tk} _ _ _ I _ _ qn hX rfl au dR kn ?_
  intro g' h' ak m' aa aw I' u T x y S' ru
  refine post (c'.turn g') h' ak m' aa aw I' u (λb o q=>S'.F.keep b o (T.B.stays b o q)) ?_ y S' ru
  rw[List.take_append_of_le_length (by rw[K.aT];exact hp)] at x
  exact x
end
section
variable{G:Gc}
noncomputable abbrev MD:List Ob:=LH [(1775,22)] [(1734,22)] [(1753,22)] [(1765,18),(1767,22)] [(1772,22)] []
theorem Ii(vs:List V):(OL vs).map (λr=>(r.2.take 6,bT (S 0x736372697074) r.1))=some (H6 vs [(1775,22)],some (.obj 0)):=by kernel_rfl
theorem I8(g:jc G)(ns:List Int):je (G.tb gy) 6 530 xj qv lD (H0 (ns.map .int)) (.bool true) MD:=by
 obtain⟨⟨ρ,H⟩,h1,h2⟩:=Option.map_eq_some_iff.mp (Ii (ns.map .int))
 have e1:=congrArg Prod.fst h2
 have e2:=congrArg Prod.snd h2
 dsimp only at e1 e2
 refine F7 g h1 (FW (ns:=ns) (t1:=[(1775,22)]) (R:=H.drop 6) e2 ?_ (BH g [(1775,22)] ns))
 rw[←e1,List.take_append_drop]
 exact HA.refl H
noncomputable def gu:List (Addr×Addr):=[(1746,1742),(1713,1709),(1720,1716),(1732,1730),(1739,1735)]
noncomputable def Om:Frag:=gu.map λq=>(q.2,tabObj #[])
theorem IH(P:Params):Om.In (absHeap (t9 P) 1748 {}):=C1 (by kernel_rfl) (by kernel_rfl)
theorem IW(P:Params){h:Heap}(X:(KF P).In h)(Y:Om.In h):TabsAt gu h:=λq hq=>by
 have hc:tQ (KF P) Pr=true:=by kernel_rfl
 unfold gu at hq
 simp only[List.mem_cons,List.not_mem_nil,or_false] at hq
 rcases hq with rfl|rfl|rfl|rfl|rfl
 ·exact⟨codeHd_of_K X (gV hc rfl),Y _ _ rfl⟩
 ·exact⟨codeHd_of_K X (gV hc rfl),Y _ _ rfl⟩
 ·exact⟨codeHd_of_K X (gV hc rfl),Y _ _ rfl⟩
 ·exact⟨codeHd_of_K X (gV hc rfl),Y _ _ rfl⟩
 ·exact⟨codeHd_of_K X (gV hc rfl),Y _ _ rfl⟩
theorem az.Um{ν:List Addr}{I:Led}{o:Obj}{P:Addr}{t:Nat}{l:List (Nat×Nat)}(r:az G ν I o (.tab P t l)):(∃ps,o=tabObj ps)/\ν[t]?=some P:=by
 generalize hb:Ob.tab P t l=b at r
 cases r<;>first|(cases hb;done)|skip
 cases hb
 exact⟨⟨_,rfl⟩,by assumption⟩
end
end
end Mine
namespace Hd
section
open PySem PySem.W PySem.Calls PyProof.Rows Value
section
set_option maxHeartbeats 0
theorem F4(w:World)(p:Program)(b:List Stmt)(os:OsState):i0 p (w.withFollow "special-get-raises" false) 11 (some (ref 6)) 1 1400 (St (w.withFollow "special-get-raises" false) t0 15 187 os) (piecesOf (gs 0 33) env (Code.body b env) ⟨0,0,0,0⟩ [topFrame p0])=some (.next,(St (w.withFollow "special-get-raises" false) t1 193 433 os),Code.body b env,⟨117,0,118,8⟩):=by kernel_rfl
theorem OE(w:World)(p:Program)(b:List Stmt)(os:OsState):i0 p (w.withFollow "special-get-raises" true) 11 (some (ref 6)) 1 1400 (St (w.withFollow "special-get-raises" true) t0 15 187 os) (piecesOf (gs 0 33) env (Code.body b env) ⟨0,0,0,0⟩ [topFrame p0])=some (.next,(St (w.withFollow "special-get-raises" true) t1 193 433 os),Code.body b env,⟨117,0,118,8⟩):=by kernel_rfl
theorem g1(w:World)(p:Program)(b:List Stmt)(os:OsState):i0 p w 11 (some (ref 6)) 1 1497 (St w t1 193 433 os) (piecesOf (gs 33 25) env (Code.body b env) ⟨117,0,118,8⟩ [topFrame p0])=some (.next,(St w t2 382 726 os),Code.body b env,⟨288,0,294,46⟩):=by kernel_rfl
theorem G9(w:World)(p:Program)(b:List Stmt)(os:OsState):i0 p (w.withFollow "special-get-raises" false) 11 (some (ref 6)) 1 1077 (St (w.withFollow "special-get-raises" false) t2 382 726 os) (piecesOf (gs 58 37) env (Code.body b env) ⟨288,0,294,46⟩ [topFrame p0])=some (.next,(St (w.withFollow "special-get-raises" false) t3 563 1031 os),Code.body b env,⟨504,0,512,61⟩):=by kernel_rfl
theorem NQ(w:World)(p:Program)(b:List Stmt)(os:OsState):i0 p (w.withFollow "special-get-raises" true) 11 (some (ref 6)) 1 1077 (St (w.withFollow "special-get-raises" true) t2 382 726 os) (piecesOf (gs 58 37) env (Code.body b env) ⟨288,0,294,46⟩ [topFrame p0])=some (.next,(St (w.withFollow "special-get-raises" true) t3 563 1031 os),Code.body b env,⟨504,0,512,61⟩):=by kernel_rfl
theorem g3(w:World)(p:Program)(b:List Stmt)(os:OsState):i0 p w 11 (some (ref 6)) 1 1479 (St w t3 563 1031 os) (piecesOf (gs 95 22) env (Code.body b env) ⟨504,0,512,61⟩ [topFrame p0])=some (.next,(St w t4 782 1416 os),Code.body b env,⟨763,0,764,29⟩):=by kernel_rfl
theorem g4(w:World)(p:Program)(b:List Stmt)(os:OsState):i0 p w 11 (some (ref 6)) 1 1085 (St w t4 782 1416 os) (piecesOf (gs 117 31) env (Code.body b env) ⟨763,0,764,29⟩ [topFrame p0])=some (.next,(St w t5 980 1714 os),Code.body b env,⟨935,0,942,62⟩):=by kernel_rfl
theorem g5(w:World)(p:Program)(b:List Stmt)(os:OsState):i0 p w 11 (some (ref 6)) 1 1293 (St w t5 980 1714 os) (piecesOf (gs 148 6) env (Code.body b env) ⟨935,0,942,62⟩ [topFrame p0])=some (.next,(St w t6 1177 2052 os),Code.body b env,⟨1237,0,1237,5⟩):=by kernel_rfl
theorem g6(w:World)(p:Program)(b:List Stmt)(os:OsState):i0 p w 11 (some (ref 6)) 1 1439 (St w t6 1177 2052 os) (piecesOf (gs 154 33) env (Code.body b env) ⟨1237,0,1237,5⟩ [topFrame p0])=some (.next,(St w t7 1413 2440 os),Code.body b env,⟨1500,0,1501,80⟩):=by kernel_rfl
theorem FY(w:World)(p:Program)(b:List Stmt)(os:OsState):i0 p (w.withFollow "special-get-raises" false) 11 (some (ref 6)) 1 1051 (St (w.withFollow "special-get-raises" false) t7 1413 2440 os) (piecesOf (gs 187 8) env (Code.body b env) ⟨1500,0,1501,80⟩ [topFrame p0])=some (.next,(St (w.withFollow "special-get-raises" false) t8 1523 2632 os),Code.body b env,⟨1569,0,1569,25⟩):=by kernel_rfl
theorem PI(w:World)(p:Program)(b:List Stmt)(os:OsState):i0 p (w.withFollow "special-get-raises" true) 11 (some (ref 6)) 1 1051 (St (w.withFollow "special-get-raises" true) t7 1413 2440 os) (piecesOf (gs 187 8) env (Code.body b env) ⟨1500,0,1501,80⟩ [topFrame p0])=some (.next,(St (w.withFollow "special-get-raises" true) t8 1523 2632 os),Code.body b env,⟨1569,0,1569,25⟩):=by kernel_rfl
theorem g8(w:World)(p:Program)(b:List Stmt)(os:OsState):i0 p w 11 (some (ref 6)) 1 1204 (St w t8 1523 2632 os) (piecesOf (gs 195 18) env (Code.body b env) ⟨1569,0,1569,25⟩ [topFrame p0])=some (.next,(St w t9 1748 2970 os),Code.body b env,⟨1773,0,1781,58⟩):=by kernel_rfl
end
end
end Hd
namespace Hd
section
open PySem PySem.W PySem.Calls PyProof.Rows
section
set_option maxHeartbeats 0
noncomputable abbrev pw:Program:=PySem.Challenge.pw_xm0203_01
noncomputable abbrev mq:OpenLaw:=PySem.Challenge.rw_xm0203_01
theorem Cj(lk:Look)(b:List Stmt):∀a:List Stmt,noRoadLSs lk (a++b)=(noRoadLSs lk a&&noRoadLSs lk b)
 |[]=>(Bool.true_and _).symm
 |s::a=>by
  show(noRoadLS lk s&&noRoadLSs lk (a++b))=((noRoadLS lk s&&noRoadLSs lk a)&&noRoadLSs lk b)
  rw[Cj lk b a,Bool.and_assoc]
theorem tC{lk:Look}{l:List Stmt}(n:Nat)(h1:noRoadLSs lk (l.take n)=true)(h2:noRoadLSs lk (l.drop n)=true):noRoadLSs lk l=true:=by
 rw[←List.take_append_drop n l,Cj,h1,h2];rfl
theorem Gg:readsOut pw pw.main.body "vars" =false:=by rw[PySem.W.Fast.te13343964577679436407];kernel_rfl
theorem OH:readsOut pw pw.main.body "dir" =false:=by rw[PySem.W.Fast.te13343964577679436407];kernel_rfl
theorem yZ:readsOut pw pw.main.body "locals" =false:=by rw[PySem.W.Fast.te13343964577679436407];kernel_rfl
theorem OD:({strict:=!(importedModules pw.main.body).all cThrough.contains,foot:=none,bare:=(["vars","dir","locals"]:List Str).filter (readsOut pw pw.main.body)}:Look)={strict:=!(importedModules pw.main.body).all cThrough.contains,foot:=none,bare:=[]}:=by
 simp only[List.filter_cons,Gg,OH,yZ,List.filter_nil,Bool.false_eq_true,if_false]
theorem imp_nil:importedModules pw.main.body=[]:=by kernel_rfl
noncomputable abbrev Sm:Look:={strict:=false,foot:=none,bare:=[]}
theorem nr0:noRoadLSs Sm ((pw.main.body.drop 0).take 50)=true:=by rw[PySem.W.Fast.te8326940854005059898];kernel_rfl
theorem nr1:noRoadLSs Sm ((pw.main.body.drop 50).take 55)=true:=by rw[PySem.W.Fast.te8326940854005059898];kernel_rfl
theorem nr2:noRoadLSs Sm ((pw.main.body.drop 105).take 55)=true:=by rw[PySem.W.Fast.te8326940854005059898];kernel_rfl
theorem nr3:noRoadLSs Sm ((pw.main.body.drop 160).take 60)=true:=by rw[PySem.W.Fast.te8326940854005059898];kernel_rfl
theorem acu:noRoadLSs {strict:=!(importedModules mq.row.prog.main.body).all cThrough.contains,foot:=none,bare:=(["vars","dir","locals"]:List Str).filter (readsOut mq.row.prog mq.row.prog.main.body)} mq.row.prog.main.body=true:=by
 show noRoadLSs ({strict:=!(importedModules pw.main.body).all cThrough.contains,foot:=none,bare:=(["vars","dir","locals"]:List Str).filter (readsOut pw pw.main.body)}:Look) pw.main.body=true
 rw[OD,imp_nil]
 show noRoadLSs Sm pw.main.body=true
 have d (a n:Nat):((pw.main.body.drop a).drop n)=pw.main.body.drop (a+n):=List.drop_drop ..
 refine tC 50 nr0 ?_
 refine tC 55 nr1 ?_
 rw[d]
 refine tC 55 nr2 ?_
 rw[d]
 refine tC 60 nr3 ?_
 rw[d]
 rw[PySem.W.Fast.te8326940854005059898]
 kernel_rfl
theorem w_res:namesResolve mq.row.prog=true:=by rw[PySem.W.Fast.te8377067652309620493];kernel_rfl
theorem adm:(namesMeet mq.row.prog mq.row.prog.main.body λζ n=>attrL n)=true:=by rw[PySem.W.Fast.te17119622794617984870,PySem.W.Fast.te17868728402115742887];kernel_rfl
theorem W9:(namesMeet mq.prog mq.above λζ n=>!mq.own.contains n)=true:=by rw[PySem.W.Fast.te17119622794617984870,PySem.W.Fast.te3471404346716756564,PySem.W.Fast.sDec_eq,PySem.W.Fast.te10792542408131684335];kernel_rfl
theorem ws:mq.wellSaid=true:=by
 unfold OpenLaw.wellSaid OpenRow.wellSaid OpenRow.partSaid looksOpen
 repeat' (with_reducible refine look_both ?_ ?_)
 all_goals first
  |with_reducible exact acu
  |with_reducible exact w_res
  |with_reducible exact adm
  |with_reducible exact W9
  |(as_aux_lemma=>((try rw[PySem.W.Fast.te11788848310118352699];try rw[PySem.W.Fast.te9807087744658564304];try rw[PySem.W.Fast.te12862048085361865435];try rw[PySem.W.Fast.te18344453789297297638];try rw[PySem.W.Fast.te3471404346716756564];try rw[PySem.W.Fast.te14412699480532031325];try rw[PySem.W.Fast.te8326940854005059898];try rw[PySem.W.Fast.te13343964577679436407];try rw[PySem.W.Fast.te17119622794617984870];try rw[PySem.W.Fast.te17868728402115742887];try rw[PySem.W.Fast.te13582783067957832011];try rw[PySem.W.Fast.te5318747976498570220];try rw[PySem.W.Fast.te10501279942588096481];try rw[PySem.W.Fast.te8179353310426384613];try rw[PySem.W.Fast.te797321630700447069];try rw[PySem.W.Fast.te9572597257264208301];try rw[PySem.W.Fast.te9558739934217749035];try rw[PySem.W.Fast.te16286561074155671207];try rw[PySem.W.Fast.te6984425678791042302];try rw[PySem.W.Fast.te10792542408131684335];try rw[PySem.W.Fast.te7723801398212525404];try rw[PySem.W.Fast.sDec_eq];try rw[PySem.W.R.allR_eq]);kernel_rfl))
end
end
end Hd
namespace Hd
section
open PySem PySem.W PySem.Calls PyProof.Rows Value
section
set_option maxHeartbeats 0
theorem lS{w:World}{p:Program}{b:List Stmt}{os:OsState}{N n k n' k':Nat}{t t':Params->BT}{l:List Stmt}{pos pos':Pos}
  (h:i0 p w 11 (some (ref 6)) 1 N (St w t n k os) (piecesOf l env (Code.body b env) pos [topFrame p0])=some (.next,St w t' n' k' os,Code.body b env,pos')):
  segRun treeTable p w 11 (some (ref 6)) 1 N (St w t n k os).abs (piecesOf l env (Code.body b env) pos [topFrame p0])=some (.next,(St w t' n' k' os).abs,Code.body b env,pos'):=
 segRun_of (by rw[PySem.W.Fast.te10110043849684766642,PySem.W.Fast.te14364793385576792824];exact h)
theorem g0(w:World)(p:Program)(b:List Stmt)(os:OsState):i0 p w 11 (some (ref 6)) 1 1400 (St w t0 15 187 os) (piecesOf (gs 0 33) env (Code.body b env) ⟨0,0,0,0⟩ [topFrame p0])=some (.next,(St w t1 193 433 os),Code.body b env,⟨117,0,118,8⟩):=byRow2 "special-get-raises" (P:=λw=>i0 p w 11 (some (ref 6)) 1 1400 (St w t0 15 187 os) (piecesOf (gs 0 33) env (Code.body b env) ⟨0,0,0,0⟩ [topFrame p0])=some (.next,(St w t1 193 433 os),Code.body b env,⟨117,0,118,8⟩)) (λw=>F4 w p b os) (λw=>OE w p b os) w
theorem g2(w:World)(p:Program)(b:List Stmt)(os:OsState):i0 p w 11 (some (ref 6)) 1 1077 (St w t2 382 726 os) (piecesOf (gs 58 37) env (Code.body b env) ⟨288,0,294,46⟩ [topFrame p0])=some (.next,(St w t3 563 1031 os),Code.body b env,⟨504,0,512,61⟩):=byRow2 "special-get-raises" (P:=λw=>i0 p w 11 (some (ref 6)) 1 1077 (St w t2 382 726 os) (piecesOf (gs 58 37) env (Code.body b env) ⟨288,0,294,46⟩ [topFrame p0])=some (.next,(St w t3 563 1031 os),Code.body b env,⟨504,0,512,61⟩)) (λw=>G9 w p b os) (λw=>NQ w p b os) w
theorem g7(w:World)(p:Program)(b:List Stmt)(os:OsState):i0 p w 11 (some (ref 6)) 1 1051 (St w t7 1413 2440 os) (piecesOf (gs 187 8) env (Code.body b env) ⟨1500,0,1501,80⟩ [topFrame p0])=some (.next,(St w t8 1523 2632 os),Code.body b env,⟨1569,0,1569,25⟩):=byRow2 "special-get-raises" (P:=λw=>i0 p w 11 (some (ref 6)) 1 1051 (St w t7 1413 2440 os) (piecesOf (gs 187 8) env (Code.body b env) ⟨1500,0,1501,80⟩ [topFrame p0])=some (.next,(St w t8 1523 2632 os),Code.body b env,⟨1569,0,1569,25⟩)) (λw=>FY w p b os) (λw=>PI w p b os) w
theorem chain(w:World)(p:Program)(b:List Stmt)(os:OsState)(rest:List Stmt)(N:Nat)(r:Shared)
  (h:topRun treeTable p w 11 (some (ref 6)) N (St w t9 1748 2970 os).abs (restOf rest env (Code.body b env) ⟨1773,0,1781,58⟩ [topFrame p0])=some r):
  topRun treeTable p w 11 (some (ref 6)) (1400+(1497+(1077+(1479+(1085+(1293+(1439+(1051+(1204+N))))))))) (St w t0 15 187 os).abs (restOf (gs 0 33++(gs 33 25++(gs 58 37++(gs 95 22++(gs 117 31++(gs 148 6++(gs 154 33++(gs 187 8++(gs 195 18++rest))))))))) env (Code.body b env) ⟨0,0,0,0⟩ [topFrame p0])=some r:=
 (piece_app (lS (g0 w p b os)) (piece_app (lS (g1 w p b os)) (piece_app (lS (g2 w p b os)) (piece_app (lS (g3 w p b os)) (piece_app (lS (g4 w p b os)) (piece_app (lS (g5 w p b os)) (piece_app (lS (g6 w p b os)) (piece_app (lS (g7 w p b os)) (piece_app (lS (g8 w p b os)) h)))))))))
noncomputable abbrev Sk(w:World)(os:OsState):Shared:=(St w t9 1748 2970 os).abs
theorem CL:kF=(gs 0 33++(gs 33 25++(gs 58 37++(gs 95 22++(gs 117 31++(gs 148 6++(gs 154 33++(gs 187 8++(gs 195 18++[]))))))))):=by kernel_rfl
theorem fin(w:World)(os:OsState):topRun treeTable pw w 11 (some (ref 6)) 2 (Sk w os) (restOf [] env (Code.body kF env) ⟨1773,0,1781,58⟩ [topFrame p0])=some (Sk w os):=by kernel_rfl
theorem block(w:World)(os:OsState):segRun treeTable pw w 11 (some (ref 6)) 1 1 (St w t0 15 187 os).abs (blockOf kF env (Code.body kF env) p0 [topFrame p0])=some (.next,(St w t0 15 187 os).abs,Code.body kF env,p0):=by kernel_rfl
theorem pre(w:World)(os:OsState):topGo treeTable pw w 11 (some (ref 6)) 12 ⟨boot_heap w.params,Array.mk [],boot_drawn,boot_toks,os⟩ (topStub pw)=some ((St w t0 15 187 os).abs,⟨denote treeTable (Code.body kF env),Code.body kF env,p0,[topFrame p0]⟩):=by
 rw[PySem.W.Fast.te15667345088766844465,PySem.W.Fast.te14364793385576792824,PySem.W.Fast.te11892475500146522536]
 kernel_rfl
theorem run(w:World)(os:OsState):topRun treeTable pw w 11 (some (ref 6)) (12+(1+(1400+(1497+(1077+(1479+(1085+(1293+(1439+(1051+(1204+2))))))))))) ⟨boot_heap w.params,Array.mk [],boot_drawn,boot_toks,os⟩ (topStub pw)=some (Sk w os):=by
 refine go_top (pre w os) (piece_block (block w os) ?_)
 have h:=chain w pw kF os [] 2 _ (fin w os)
 rw[←CL] at h
 exact h
theorem Cg:opening pw=plainProg pw.main.scope.names:=by kernel_rfl
theorem NZ(s:Shared):fenceModules? pw s=some s:=by kernel_rfl
theorem U0(w:World):(fencedOpening treeTable pw w 23200).map (λs=>(s.heap,s.gens,s.drawn,s.toks))=some (boot_heap w.params,Array.mk [],boot_drawn,boot_toks):=
 boot_open Cg (by decide+kernel) NZ w
theorem size(w:World):((boot_heap w.params).isNs mainGlobals&&(Array.mk []:Array GenState).size==0,(boot_heap w.params).objs.size,(boot_heap w.params).nsMap mainGlobals "__annotations__")=(true,11,some (ref 6)):=by kernel_rfl
end
section
set_option maxHeartbeats 0
noncomputable def loose:List Str:=[s15,s16,Z9,s18,s19,s20,s21,s22,s23,s24,s25,s26,s27,s28,s29,s30,s31,Z',s33,s34,s35,s36,s37,s38,s39,s40,s41,ye,CH,DR,EI,EJ,s87,I1,s90,s91,s92,s93,s94,FL,s96,s97,s98,s99,UJ,TQ,WA,UH,US,Tq,Wz,Qf,U2,Xh,U7,YH,U4,XQ,YL,WO,Xu,SA,XK,VH,Tx,T9,G1,Yx,We,XD,Yg,T2,Hz,RH,UU,PD,Of,B6,Cb,NY,NP,Qh,Qa,CW,Bz,Ou,se,VL,T8,X6,Wj,TL,r6,Iw,I6,Sg,Rt,Vo,RM,OX,ON,NX,NS,NF,Pn,OU,YF,Xb,XA,X',Xq,SW,Uv,TN,He,VB,VP,Yr,R9,VT,Ip,U5,XN,WE,Xe,Yt,Rr,Ym,FF,RY,VQ,Ud,XY,qD,Iz,zS,qO,PZ,qE,B5,qK,FR,qM,W2,FU,Fg,Gs,Wu,RK,Vf,Uu,Av,Gn,Hx,II,Vs,Vi,Sx,VV,VZ,WG,YA,G8,Vl,Yf,I0,UE,Ic,Gp,HZ,FT,zv,B7,DM,CR,pH,ot,Cr,qz,xe,Il,Gv,FV,GC,G6,IQ,HH,FP,Ft,zb,zt,Gm,zy,yR]
noncomputable def q:Program:={pw with main:={pw.main with body:=[aF 212]}}
noncomputable abbrev Xt:Shared->Bool:=λs=>xlAt q [] s&&recOk [] s
noncomputable abbrev H1(w:World):Heap:=absHeap (t9 w.params) 1748 {}
theorem Xl(w:World):(staticsOk (importedModules pw.main.body) (boot_heap w.params) (H1 w)&&namesBound pw (H1 w))=true:=by kernel_rfl
theorem W6(w:World)(os:OsState):(gensDone (Sk w os)&&laidKept (boot_heap w.params) (H1 w))=true:=by kernel_rfl
theorem Wb(w:World)(os:OsState):openSeen q loose (importedModules pw.main.body) Xt true (Sk w os)=openGood q loose:=by
 rw[PySem.W.Fast.te4187177175401517315]
 kernel_rfl
end
section
set_option maxHeartbeats 0
theorem LN(w:World)(os:OsState):Sk w os=⟨absHeap (t9 w.params) 1748 {},Array.mk [],{},2970,os⟩:=by kernel_rfl
theorem run'(w:World)(os:OsState):topRun treeTable pw w 11 (some (ref 6)) 11540 ⟨boot_heap w.params,Array.mk [],boot_drawn,boot_toks,os⟩ (topStub pw)=some ⟨absHeap (t9 w.params) 1748 {},Array.mk [],{},2970,os⟩:=by
 have h:=run w os
 rw[LN] at h
 exact h
theorem Ov(w:World)(os:OsState):((staticsOk (importedModules pw.main.body) (boot_heap w.params) (absHeap (t9 w.params) 1748 {})&&namesBound pw (absHeap (t9 w.params) 1748 {})&&gensDone ⟨absHeap (t9 w.params) 1748 {},Array.mk [],{},2970,os⟩&&laidKept (boot_heap w.params) (absHeap (t9 w.params) 1748 {})),
    openSeen q loose (importedModules pw.main.body) Xt true ⟨absHeap (t9 w.params) 1748 {},Array.mk [],{},2970,os⟩,((λs=>(s.heap,s.toks)):Shared->Heap×Nat) ⟨absHeap (t9 w.params) 1748 {},Array.mk [],{},2970,os⟩)=(true,openGood q loose,(absHeap (t9 w.params) 1748 {},2970)):=by
 have h1:=Xl w
 have h2:=W6 w os
 have h3:=Wb w os
 rw[LN] at h2 h3
 obtain⟨a,b⟩:=Bool.and_eq_true_iff.mp h1
 obtain⟨c,d⟩:=Bool.and_eq_true_iff.mp h2
 exact looks_pair (look_both (look_both (look_both a b) c) d) (looks_pair h3 rfl)
theorem left:LeftO pw q loose Xt (λs=>(s.heap,s.toks)) (λw=>(absHeap (t9 w.params) 1748 {},2970)) 23200 true:=
 @LeftO.of_pieces pw q loose Xt (Heap×Nat) (λs=>(s.heap,s.toks)) (λw=>(absHeap (t9 w.params) 1748 {},2970)) 23200 true (λP=>boot_heap P) (λP=>absHeap (t9 P) 1748 {}) (Array.mk []) (Array.mk []) boot_drawn {} boot_toks 2970 11 (some (ref 6)) 11540
  U0 size run' (by decide+kernel) (λw=>funext λos=>Ov w os)
end
section
set_option maxHeartbeats 0
open TablesWhole in
theorem Cq(top:Scope)(cx:TablesWhole.Ctx)(sc:Scope)(b:List Stmt):∀a:List Stmt,wSs holds top cx sc (a++b)=(wSs holds top cx sc a&&wSs holds top cx sc b)
 |[]=>(Bool.true_and _).symm
 |s::a=>by
  show(wS holds top cx sc s&&wSs holds top cx sc (a++b))=((wS holds top cx sc s&&wSs holds top cx sc a)&&wSs holds top cx sc b)
  rw[Cq top cx sc b a,Bool.and_assoc]
open TablesWhole in
theorem k9{top:Scope}{cx:TablesWhole.Ctx}{sc:Scope}{l:List Stmt}(n:Nat)(h1:wSs holds top cx sc (l.take n)=true)(h2:wSs holds top cx sc (l.drop n)=true):wSs holds top cx sc l=true:=by
 rw[←List.take_append_drop n l,Cq,h1,h2];rfl
open TablesWhole in
theorem Hn:wSs gather pw.main.scope ⟨pw.main.scope,[],[],[],none⟩ pw.main.scope pw.main.body=[]:=by kernel_rfl
noncomputable abbrev LP:TablesWhole.Ctx:=⟨pw.main.scope,[],[],[],none⟩
theorem tb0:TablesWhole.wSs TablesWhole.holds pw.main.scope LP pw.main.scope ((pw.main.body.drop 0).take 30)=true:=by kernel_rfl
theorem tb1:TablesWhole.wSs TablesWhole.holds pw.main.scope LP pw.main.scope ((pw.main.body.drop 30).take 30)=true:=by kernel_rfl
theorem tb2:TablesWhole.wSs TablesWhole.holds pw.main.scope LP pw.main.scope ((pw.main.body.drop 60).take 30)=true:=by kernel_rfl
theorem tb3:TablesWhole.wSs TablesWhole.holds pw.main.scope LP pw.main.scope ((pw.main.body.drop 90).take 30)=true:=by kernel_rfl
theorem tb4:TablesWhole.wSs TablesWhole.holds pw.main.scope LP pw.main.scope ((pw.main.body.drop 120).take 30)=true:=by kernel_rfl
theorem tb5:TablesWhole.wSs TablesWhole.holds pw.main.scope LP pw.main.scope ((pw.main.body.drop 150).take 30)=true:=by kernel_rfl
theorem tb6:TablesWhole.wSs TablesWhole.holds pw.main.scope LP pw.main.scope ((pw.main.body.drop 180).take 33)=true:=by kernel_rfl
end
section
set_option maxHeartbeats 400000
theorem Hc:TablesWhole.wSs TablesWhole.holds pw.main.scope LP pw.main.scope pw.main.body=true:=by
 have d (a n:Nat):((pw.main.body.drop a).drop n)=pw.main.body.drop (a+n):=List.drop_drop ..
 refine k9 30 tb0 ?_
 refine k9 30 tb1 ?_
 rw[d]
 refine k9 30 tb2 ?_
 rw[d]
 refine k9 30 tb3 ?_
 rw[d]
 refine k9 30 tb4 ?_
 rw[d]
 refine k9 30 tb5 ?_
 rw[d]
 refine k9 33 tb6 ?_
 rw[d]
 kernel_rfl
theorem D0:TablesWhole.noTwice pw.main.scope=true:=by kernel_rfl
theorem BR(told:List Str):(TablesWhole.holds.all [TablesWhole.holds.enter pw.main.scope,TablesWhole.holds.check "no name twice in a table, but a class's lawful pair" pw.main.scope ("(the table)" :Str) (TablesWhole.noTwice pw.main.scope),TablesWhole.wSs TablesWhole.holds pw.main.scope ⟨pw.main.scope,[],told,[],none⟩ pw.main.scope pw.main.body]:Bool)=(true&&(TablesWhole.noTwice pw.main.scope&&(TablesWhole.wSs TablesWhole.holds pw.main.scope ⟨pw.main.scope,[],told,[],none⟩ pw.main.scope pw.main.body&&true))):=by
 generalize TablesWhole.wSs TablesWhole.holds pw.main.scope ⟨pw.main.scope,[],told,[],none⟩ pw.main.scope pw.main.body=x
 generalize TablesWhole.noTwice pw.main.scope=y
 rfl
theorem Qd:TablesWhole.wModule TablesWhole.holds pw.main=true:=by
 unfold TablesWhole.wModule
 rw[Hn,BR,D0,Hc]
 rfl
end
section
set_option maxHeartbeats 0
noncomputable def tu:DefRec:=⟨"law",fA (aF 212),fB (aF 212),fS (aF 212),⟨1773,0,1781,58⟩⟩
theorem ada:defOf q mq.row.name=some (tu,[]):=by kernel_rfl
theorem acx:mq.row.prog.theDef mq.row.name=some (tu.params,tu.body,tu.scope):=by kernel_rfl
theorem hkw:kwWritten? tu.params.kwonlyargs tu.params.kw_defaults=some []:=by kernel_rfl
theorem ab7:chainsOk q=true:=by kernel_rfl
theorem R5:(!bearImports (behindTheImports pw))=true:=by kernel_rfl
theorem XP:(plainProg pw.main.scope.names).tameTopW=true:=by kernel_rfl
theorem abA:opensWell mq.row.prog=true:=by
 show opensWell pw=true
 unfold opensWell
 rw[Cg]
 exact look_both XP R5
theorem adj:(frees mq.row.toRowW&&mq.row.within.isEmpty)=true:=by kernel_rfl
theorem rX:(chainsOk q&&opensWell mq.row.prog&&(frees mq.row.toRowW&&mq.row.within.isEmpty))=true:=look_both (look_both ab7 abA) adj
theorem FE:pw.tablesWhole=true:=by
 show TablesWhole.wProgram TablesWhole.holds pw=true
 unfold TablesWhole.wProgram
 rw[Qd]
 rfl
theorem R1:mq.row.prog.bare:=⟨by kernel_rfl,by kernel_rfl,by kernel_rfl,by kernel_rfl,by kernel_rfl,FE⟩
theorem abt:mq.row.toRowW.promised:=⟨[.list [.int 3,.int 1]],by decide+kernel,by decide+kernel⟩
end
section
set_option maxHeartbeats 1000000
noncomputable abbrev sX:Prop:=WalkX q loose (XL q []) (λs=>(s.heap,s.toks)) (λw=>(absHeap (t9 w.params) 1748 {},2970)) mq.row.toRowW tu [] λf vs=>PySem.call f vs
theorem AN(call:sX):mq.row.Holds:=
 @holds_openX mq.row q loose Xt (XL q []) (Heap×Nat) (λs=>(s.heap,s.toks)) (λw=>(absHeap (t9 w.params) 1748 {},2970)) tu [] 23200 left
  (λs e=>xl_of s (Bool.and_eq_true_iff.mp e).1) XL.keeps ada acx hkw (λs e=>recFacts_of (Bool.and_eq_true_iff.mp e).2) rfl (row_said ws) rX R1 abt call
theorem law_holds(call:sX):PySem.Challenge.rw_xm0203_01.Holds:=⟨ws,AN call⟩
end
end
end Hd
namespace Mine
section
open PySem PySem.W PySem.Calls PyProof.Rows Hd
section
theorem P2(w:World)(mg mb:Str->Option Value)(fX:∀x,mg x=nsFind (Rf w.params) x)(mX:∀x:Str,x≠ "__name__" ->mb x=bootBuiltins x):jc (Gw w mg mb EK):=
 {goodG w mg mb fX mX EK with co:=λo=>OP w mg mb o}
noncomputable abbrev Rc(aS:Addr):List Addr:=[aS,1742,1709,1716,1730,1735]
noncomputable abbrev MuL(us:List Value):List Obj:=[bI us 0,tabObj #[],tabObj #[],tabObj #[],tabObj #[],tabObj #[]]
noncomputable abbrev vv(aS:Addr):List Addr:=[aS,1742,1709,1716,1730,1735,aS]
noncomputable def aaR(K:Frag):Bool:=K.all λp=>Nat.blt p.1 1748&&!(gu.any λq=>Nat.beq q.2 p.1)
theorem Ol(P:Params):aaR (KF P)=true:=by kernel_rfl
theorem n0{aS b:Nat}(h1:1748<=aS)(h2:b<1748)(h3:(gu.any λq=>Nat.beq q.2 b)=false):b∉vv aS:=by
 intro hm
 have e:∀q∈gu,Nat.beq q.2 b=false:=λq hq=>by
  have:=List.any_eq_false.mp h3 q hq
  cases e:Nat.beq q.2 b with
  |false=>rfl
  |true=>exact absurd e this
 have nb:∀q∈gu,b≠q.2:=λq hq r=>by
  have:=e q hq
  rw[←r,Nat.beq_refl] at this
  cases this
 simp only[vv,List.mem_cons,List.not_mem_nil,or_false] at hm
 rcases hm with r|r|r|r|r|r|r
 ·exact absurd (Nat.lt_of_lt_of_le h2 h1) (by rw[r];exact Nat.lt_irrefl _)
 ·exact nb (1746,1742) (by simp[gu]) r
 ·exact nb (1713,1709) (by simp[gu]) r
 ·exact nb (1720,1716) (by simp[gu]) r
 ·exact nb (1732,1730) (by simp[gu]) r
 ·exact nb (1739,1735) (by simp[gu]) r
 ·exact absurd (Nat.lt_of_lt_of_le h2 h1) (by rw[r];exact Nat.lt_irrefl _)
theorem Qq(G:Gc){aS:Nat}(h1:1748<=aS){us:List Value}{ns:List Int}(hl:ns.length<=256)(rs:ag G.K (Rc aS) [(aS,bI us 0)] us (ns.map .int)):Core G (Rc aS) (MuL us) [(aS,bI us 0)] (H6 (ns.map .int) []) where
 nd:=by
  refine List.nodup_cons.mpr ⟨λhm=>?_,by decide⟩
  simp only[List.mem_cons,List.not_mem_nil,or_false] at hm
  rcases hm with rfl|rfl|rfl|rfl|rfl<;>exact absurd h1 (by decide)
 eP:=λp hp i b hi hb=>by
  obtain rfl:=List.mem_singleton.mp hp
  match i with
  |0=>obtain rfl:=ai hb;rfl
  |1=>obtain rfl:=ai hi;exact absurd h1 (by decide)
  |2=>obtain rfl:=ai hi;exact absurd h1 (by decide)
  |3=>obtain rfl:=ai hi;exact absurd h1 (by decide)
  |4=>obtain rfl:=ai hi;exact absurd h1 (by decide)
  |5=>obtain rfl:=ai hi;exact absurd h1 (by decide)
  |i+6=>exact no hi
 len:=rfl
 aT:=rfl
 ob:=λi o b ho hb=>by
  match i with
  |0=>(first|exact no ho|exact nf ho|subst ho|obtain rfl:=ai ho);obtain rfl:=ai hb;exact .c9 rs (by rw[List.length_map];exact hl)
  |1=>(first|exact no ho|exact nf ho|subst ho|obtain rfl:=ai ho);obtain rfl:=ai hb;exact .tab (l:=[]) (t:=1) rfl
  |2=>(first|exact no ho|exact nf ho|subst ho|obtain rfl:=ai ho);obtain rfl:=ai hb;exact .tab (l:=[]) (t:=2) rfl
  |3=>(first|exact no ho|exact nf ho|subst ho|obtain rfl:=ai ho);obtain rfl:=ai hb;exact .tab (l:=[]) (t:=3) rfl
  |4=>(first|exact no ho|exact nf ho|subst ho|obtain rfl:=ai ho);obtain rfl:=ai hb;exact .tab (l:=[]) (t:=4) rfl
  |5=>(first|exact no ho|exact nf ho|subst ho|obtain rfl:=ai ho);obtain rfl:=ai hb;exact .tab (l:=[]) (t:=5) rfl
  |i+6=>exact no ho
 low:=λa ha=>by
  simp only[List.mem_cons,List.not_mem_nil,or_false] at ha
  rcases ha with rfl|rfl|rfl|rfl|rfl|rfl
  ·exact Nat.lt_of_lt_of_le (by decide) h1
  ·decide
  ·decide
  ·decide
  ·decide
  ·decide
theorem rK{P:Params}{h:Heap}{K:Frag}{ν:List Addr}{I:Led}:∀{us:List Value} {ns:List Int},WellAll P h us (ns.map .int)->ag K ν I us (ns.map .int)
 |_,[],h=>by cases h;exact .nil
 |_,n::ns,h=>by
  cases h with
  |cons h1 h2=>
   cases h1
   exact .cons (.int _ _) (rK h2)
theorem H3{ns:List Int}(h:mq.row.toRowW.pre.holds mq.row.toRowW.records {args:=[.list (ns.map .int)]}=true):ns.length<=256:=by
 change WTm.holds [] (.and (.not (.lt (.lit (.int ((63:Nat):Int))) (.len (.arg 0)))) (.lit (.bool true))) _=true at h
 by_cases hl:ns.length<=256
 ·exact hl
 ·exfalso
  simp[WTm.holds,WTm.value] at h
  have e:less? (WData.int 63) (WData.int ns.length)=some true:=by
   have:(63:Int)<ns.length:=by omega
   simp[less?,Num.less?]
   omega
  rw[e] at h
  simp at h
theorem jy{G:Gc}{c:Fc}{h:Heap}{m:Str->Option Value}{ν:List Addr}{Mu:List Obj}{I:Led}{H:List Ob}(S:St G c h m ν Mu I H){i:Nat}{P:Addr}{t:Nat}{l:List (Nat×Nat)}(cb:ν[i]?=some P)(hH:H[i]?=some (.tab P t l)):GrownAt P h:=by
 have hi:i<Mu.length:=by rw[←S.len];exact(List.getElem?_eq_some_iff.mp cb).1
 have hM:Mu[i]?=some Mu[i]:=List.getElem?_eq_getElem hi
 obtain⟨⟨ps,e⟩,_⟩:=(S.ob i _ _ hM hH).Um
 have:=(S.N _ (List.mem_append_left _ (dU cb hM))).1
 rw[e] at this
 exact⟨ps,this⟩
theorem DH:sX:=by
 intro w Q1 dC mg mb Gr hY a o pm cd doc dV kV ho hd mS hdf hm Z7 args vals as L afi ajy hrd Z8 Eb
 have hh:Q1.heap=absHeap (t9 w.params) 1748 {}:=congrArg Prod.fst hY
 refine ae (pre_splitW afi) λq1 q2=>?_
 refine bP (hasAllW_cons q1) λd r aU A3 hr=>?_;subst aU
 obtain rfl:=hasAllW_nil hr
 refine ab (hasW_list A3) λxs aU hx=>?_;subst aU
 refine bF (items_int hx) λns aU=>?_;subst aU
 have hlen:=H3 q2
 cases Z8 with
 |cons hw hws=>
 cases hws
 cases hw with
 | @list aS us _ hS hus=>
 have Rn:1748<=aS:=by
  have h1:aS∈as:=by
   cases hrd with
   |cons h1 h2=>cases h1 with|list=>exact .head _
  have:=(L.within.2.2 aS h1).1
  rw[hh,absHeap_size] at this
  exact this
 have Q2:(KF w.params).In dC.heap:=λb x q=>L.keeps b x (by rw[hh];exact kf_in w.params b x q)
 have A4:Om.In dC.heap:=λb x q=>L.keeps b x (by rw[hh];exact IH w.params b x q)
 have hT:=IW w.params Q2 A4
 have fX:∀x,mg x=nsFind (Rf w.params) x:=by
  refine hW Gr.T.g λog es ep e1 e2 e3 e4=>?_
  rw[show dC.heap.get? mainGlobals=some (Co w.params) from Q2 3 (Co w.params) (by kernel_rfl)] at e1
  obtain rfl:=ai e1
  intro x
  rw[←e4]
  congr 1
  unfold Rf
  rw[e2]
 have mX:=Gr.T.builtins
 have g:=P2 w mg mb fX mX
 have gk:=g.gk bG
 obtain rfl:a=1747:=by
  refine ab (gk.glob pS (.glob (.ref 1747)) (by kernel_rfl)) λu h1 h2=>?_
  have h3:=(h2 [] []).gP
  have h4:tu.name=pS:=by kernel_rfl
  rw[h4] at hm
  rcases h1 with h1|⟨h1,_⟩
  ·have h1:mg pS=some u:=h1
   rw[hm] at h1
   obtain rfl:=ai h1
   cases h3
   rfl
  ·have h1:mg pS=none:=h1
   rw[hm] at h1
   cases h1
 have yQ:∀b x,dC.heap.get? b=some x->b∉vv aS->(hideAll dC.heap (vv aS)).get? b=some x:=λb x q n=>hideAll_get _ q n
 have nK:∀b x,(KF w.params).lookup b=some x->b∉vv aS:=λb x q=>by
  have:=List.all_eq_true.mp (Ol w.params) (b,x) (mem_of_lookupK q)
  refine aJ this λh1 h2=>?_
  exact n0 Rn (Nat.le_of_ble_eq_true h1) (by simpa using h2)
 have hB:Based ((Gw w mg mb EK).tb gy) (hideAll dC.heap (vv aS)):=by
  refine⟨λb x q=>yQ b x (Q2 b x q) (nK b x q),?_,?_,?_⟩
  ·refine rl Gr.T.g λog es ep e1 r=>?_
   exact⟨og,es,ep,yQ _ _ e1 (n0 Rn (by decide) (by decide)),r⟩
  ·refine rl Gr.T.b λog es ep e1 r=>?_
   exact⟨og,es,ep,yQ _ _ e1 (n0 Rn (by decide) (by decide)),r⟩
  ·obtain⟨mc,⟨og,es,ep,e1,r⟩,z⟩:=Gr.T.nolimit
   exact⟨mc,⟨og,es,ep,yQ _ _ e1 (n0 Rn (by decide) (by decide)),r⟩,z⟩
 have rs:ag (KF w.params) (Rc aS) [(aS,bI us 0)] us (ns.map .int):=rK hus
 have hN:∀q∈(Rc aS).zip (MuL us)++[(aS,bI us 0)],dC.heap.get? q.1=some q.2:=by
  intro q hq
  simp only[List.zip_cons_cons,List.zip_nil_right,List.cons_append,List.nil_append,List.mem_cons,List.not_mem_nil,or_false] at hq
  rcases hq with rfl|rfl|rfl|rfl|rfl|rfl|rfl
  ·exact hS
  ·exact A4 1742 _ rfl
  ·exact A4 1709 _ rfl
  ·exact A4 1716 _ rfl
  ·exact A4 1730 _ rfl
  ·exact A4 1735 _ rfl
  ·exact hS
 refine wpAny_call (codeAny_mono (kn_post (cw:=mq.row.toRowW.claim) (cl:=classAt Q1.heap) (mean:=ExcName.means Q1.heap) (args:=[.list (ns.map .int)]) hT (λζ ζ=>rfl) ?_) λr s' z=>?_)
 rotate_left
 ·match r,z with
  |.ok (.ret v),z=>exact z
  |.error e,z=>exact z
  |.ok .next,z=>rcases z.1 with⟨_,_,_,e,_⟩|⟨_,_,_,e,_⟩<;>cases e
  |.ok .brk,z=>rcases z.1 with⟨_,_,_,e,_⟩|⟨_,_,_,e,_⟩<;>cases e
  |.ok .cont,z=>rcases z.1 with⟨_,_,_,e,_⟩|⟨_,_,_,e,_⟩<;>cases e
 have big:sysModules<dC.heap.objs.size:=Nat.lt_of_lt_of_le (show 1<1748 by decide) (Nat.le_trans Rn (Nat.le_of_lt (Heap.lt_size hS)))
 refine HQ (G:=(Gw w mg mb EK).tb gy) (p:=6) (n:=530) (ν:=Rc aS) (Mu:=MuL us) (I:=[(aS,bI us 0)]) (H:=H6 (ns.map .int) []) (vs:=[.obj 0]) (b:=lD) (v:=.bool true) (H':=MD) gk
  (f:=⟨ac8.args.map (·.arg),[],qv,wa,1746,pS⟩) (by kernel_rfl) (by kernel_rfl) hB Gr.T.nolimit hN (Qq _ Rn hlen rs) big (.cons (.obj rfl) .nil) (Nat.le_refl 6) (by decide) ?_ ?_
 ·have z:bu wa.names lD=lD:=by kernel_rfl
  show je _ 6 530 _ qv (bu wa.names lD) _ _ _
  rw[z]
  exact I8 g ns
 ·intro c h' ak m' aa aw I' u keep pre sub S' ru
  refine ru.tf rfl ?_
  have at_:∀i P,(Rc aS)[i]?=some P->aa[i]?=some P:=λi P q=>fh pre q
  refine⟨⟨.inl ⟨_,_,[],rfl,λζ=>rfl,ReadsW.bool true,?_,λζ=>⟨List.nodup_nil,λζ hm=>(nomatch hm)⟩⟩,λb x q=>?_,rfl,Z7⟩,?_⟩
  ·kernel_rfl
  ·have q1:=of_hideAll _ q
   by_cases e:b=aS
   ·subst e
    rw[hS] at q1
    obtain rfl:=ai q1
    exact(S'.N _ (List.mem_append_right _ (sub _ (.head _)))).1
   ·refine keep b x (hideAll_get _ q1 λhm=>?_)
    have hm:b∈vv aS:=hm
    simp only[vv,List.mem_cons,List.not_mem_nil,or_false] at hm
    have nt:b∉gu.map (·.2):=λhm=>by rw[hideAll_none _ hm] at q;exact no q
    simp only[gu,List.map_cons,List.map_nil,List.mem_cons,List.not_mem_nil,or_false] at nt
    rcases hm with h|h|h|h|h|h|h<;>first|exact e h|exact nt (by simp[h])
  ·exact⟨jy S' (at_ 1 _ rfl) rfl,jy S' (at_ 2 _ rfl) rfl,jy S' (at_ 3 _ rfl) rfl,jy S' (at_ 4 _ rfl) rfl,jy S' (at_ 5 _ rfl) rfl,trivial⟩
theorem law_holds:PySem.Challenge.rw_xm0203_01.Holds:=Hd.law_holds DH
end
end
end Mine
end
theorem PySem.Challenge.cw_xm0203_01_holds : PySem.Challenge.rw_xm0203_01.Holds :=
  Mine.law_holds
