import PyProof.Rows.All
import Wide.All
import OpenK.AllK
import Wide.FinOn
import Lean
import PySem.Challenge.RW_tk0066_01
set_option Elab.async false
set_option autoImplicit false
set_option genInjectivity false
set_option genSizeOf false
set_option genSizeOfSpec false
set_option tactic.hygienic false
set_option maxRecDepth 100000
set_option linter.all false
set_option backward.match.sparseCases false
set_option bootstrap.genMatcherCode false
set_option compiler.extract_closed false
set_option maxHeartbeats 8000000
namespace Mine
section
open PySem
noncomputable def m9:List Str:=["len","ord","chr","bytes","list","min","max","sum","all","range","abs","int"]
noncomputable def ZZ:List Stmt->Nat->Option Stmt
 |[],_=>none
 |s::_,0=>some s
 |_::r,n+1=>ZZ r n
noncomputable def i4 (b:List Stmt) (i:Nat):Stmt:=(ZZ b i).getD (.Pass ⟨0,0,0,0⟩)
noncomputable def g9:Nat:=2 ^20
theorem VZ {a k m j:Nat} (h:a-k<=m+1) (hj:k<j):a-j<=m:=Nat.le_of_lt_succ (Nat.lt_of_lt_of_le (m:=m+1) (Nat.lt_succ_of_le (Nat.le_trans (Nat.sub_le_sub_left hj a) (Nat.sub_succ a k▸Nat.pred_le_pred h))) (Nat.le_refl _))
theorem VM {n i:Nat} (h:i<n):n+1-(i+1)<n+1-i:=Nat.sub_lt_sub_left (Nat.lt_succ_of_lt h) (Nat.lt_succ_self i)
theorem os1 {a r:Nat} (h:r+1<=a):a-r=a-(r+1)+1:=(Nat.succ_pred_eq_of_pos (Nat.sub_pos_of_lt h)).symm
theorem oa1 {k n b:Nat}:k+1+n-b=k+(n+1)-b:=by rw[Nat.add_assoc,Nat.add_comm 1 n]
theorem RT {n:Nat}:(-1+(n:Int)).toNat=n-1:=(congrArg Int.toNat (Int.add_comm (-1) n)).trans (Int.toNat_sub n 1)
theorem VN {k n t:Nat} (h:k<t) (h2:n<=t-(k+1)):k+1+n<=t:=Nat.add_comm n (k+1)▸Nat.add_le_of_le_sub h h2
theorem VO {p m T L:Nat} (h:p<T) (hm:m<=L) (e:T-p=L):p+m<=T:=Nat.add_comm m p▸Nat.add_le_of_le_sub (Nat.le_of_lt h) (e▸hm)
theorem RU {p T r:Nat} (h:p+1<T) (e:T-p=r+1+1+1):p+r+3=T:=(congrArg (p+ ·) e).symm.trans (Nat.add_sub_cancel' (Nat.le_of_lt (Nat.lt_of_succ_lt h)))
theorem oT {p r T:Nat} (e:p+r+3=T):(p:Int)<(T:Int)-1:=Int.lt_sub_right_of_add_lt (Int.ofNat_lt.mpr (e▸Nat.succ_le_succ (Nat.succ_le_succ (Nat.le_trans (Nat.le_add_right p r) (Nat.le_succ _)))))
theorem DS {a b N:Nat} (h:a<=b) (h2:b<=N) (hN:N<=g9):a<=g9:=Nat.le_trans (Nat.le_trans h h2) hN
theorem OK {a b N:Nat} (h:a<=b+1) (h2:b<=N) (hN:N+1<=g9):a<=g9:=Nat.le_trans (Nat.le_trans h (Nat.succ_le_succ h2)) hN
theorem JU {a p T N:Nat} (h:a<=p) (h1:p<T) (h2:T<=N) (hN:N<=g9):a<g9:=Nat.lt_of_lt_of_le (Nat.lt_of_le_of_lt h h1) (Nat.le_trans h2 hN)
theorem wQ {n N:Nat} (h:n<=N) (hN:N<=1000000):(n:Int).natAbs<2 ^40:=Nat.lt_of_le_of_lt (Nat.le_trans h hN) (by decide)
theorem SH {k T N:Nat} (h:k<T) (hT:T<=N) (hN:N<=1000000):(k:Int).natAbs<2 ^40:=wQ (Nat.le_of_lt (Nat.lt_of_lt_of_le h hT)) hN
theorem WA {k T N:Nat} (h:k<T) (hT:T<=N) (hN:N<=1000000):((k+1:Nat):Int).natAbs<2 ^40:=wQ (Nat.le_trans h hT) hN
theorem WB {p n T N:Nat} (h:p+n<=T) (hT:T<=N) (hN:N<=1000000):((p+n:Nat):Int).natAbs<2 ^40:=wQ (Nat.le_trans h hT) hN
theorem olp {p r T N:Nat} (e:p+r+3=T) (hT:T<=N) (hN:N<=900000):p<=900000:=Nat.le_trans (Nat.le_trans (Nat.le_add_right p (r+3)) (Nat.le_of_eq e)) (Nat.le_trans hT hN)
theorem WC {p r c T N:Nat} (e:p+r+3=T) (hT:T<=N) (hN:N<=900000) (hc:c<=9):((p+c:Nat):Int).natAbs<2 ^40:=wQ (N:=1000000) (Nat.le_trans (Nat.add_le_add (olp e hT hN) hc) (by decide)) (Nat.le_refl _)
theorem WD {p r w T N:Nat} (e:p+r+3=T) (hT:T<=N) (hw:w<=3) (hN:N<=900000):((p+1+w:Nat):Int).natAbs<2 ^40:=wQ (N:=1000000) (Nat.le_trans (Nat.add_le_add (Nat.succ_le_succ (olp e hT hN)) hw) (by decide)) (Nat.le_refl _)
theorem DW {p c T N:Nat} (h:p<=T) (hT:T<=N) (hN:N<=900000) (hc:c<=9):((p+c:Nat):Int).natAbs<2 ^40:=wQ (N:=1000000) (Nat.le_trans (Nat.add_le_add (Nat.le_trans h (Nat.le_trans hT hN)) hc) (by decide)) (Nat.le_refl _)
theorem WE {u k L:Nat} (h:u+8*(k+1)+40<L):u+3+8*k+40<L:=Nat.lt_of_le_of_lt (Nat.add_le_add_right (Nat.add_right_comm u 3 (8*k)▸Nat.add_le_add_left (show 3<=8 by decide) (u+8*k)) 40) h
theorem WF {d k L:Nat} (h:d+(k+1)+10<L):d+1+k+10<L:=Nat.add_right_comm d 1 k▸h
theorem ou3 {u k k' L a b:Nat} (h':k'<=k) (h:u+a*k+b<L):u+a*k'+b<L:=Nat.lt_of_le_of_lt (Nat.add_le_add_right (Nat.add_le_add_left (Nat.mul_le_mul_left a h') u) b) h
theorem oc1 {c l r:Nat} (h:c+(r+1)<=l):c+1+r<=l:=Nat.add_right_comm c 1 r▸h
theorem WG {a p w:Nat} (h:a<=p):a+1<=p+1+w:=Nat.le_trans (Nat.succ_le_succ h) (Nat.le_add_right _ _)
theorem omx {a:Nat} (h:a<=19):max 0 (max a 0)<=20:=by rw[Nat.zero_max,Nat.max_zero];exact Nat.le_succ_of_le h
theorem oj2 {T:Nat} (h:2<=T):T-1-1+1=T-1:=Nat.sub_add_cancel (Nat.le_sub_of_add_le h)
theorem ohs {r k:Nat}:r+1-1-(k+1)=r-1-k:=by rw[Nat.add_sub_cancel,Nat.sub_sub,Nat.add_comm 1 k]
theorem on1 {n:Nat} (h:1<=n):n=n-1+1:=(Nat.sub_add_cancel h).symm
theorem SI {n i:Nat} (h:i<=n) (h': ¬i<n):n=i:=Nat.le_antisymm (Nat.le_of_not_lt h') h
theorem VP {a p T N:Nat} (h:a<=p) (h1:p+1<T) (h2:T<=N) (hN:N<=g9):a+1<=g9:=Nat.le_trans (Nat.le_trans (Nat.succ_le_succ h) (Nat.le_of_lt h1)) (Nat.le_trans h2 hN)
theorem WH {a p T N:Nat} (h:a<=p) (h1:p<T) (h2:T<=N) (hN:N<=g9):a+1<=g9:=Nat.le_trans (Nat.le_trans (Nat.succ_le_succ h) h1) (Nat.le_trans h2 hN)
theorem okk {k n:Nat}:k+1+n-k=n+1:=by rw[Nat.add_assoc,Nat.add_sub_cancel_left,Nat.add_comm]
theorem VQ {e' e n c:Nat} {P:Prop} (h:e'+1=e+c+n/\P):e'+1=e+(n+c)/\P:=⟨h.1.trans (by rw[Nat.add_assoc,Nat.add_comm c n]),h.2⟩
theorem WI {n N:Nat} (h:n<=N) (hN:N<=g9):(n:Int).natAbs<=g9:=Nat.le_trans h hN
theorem VR {a b c N:Nat} (h1:a<=b) (h2:b<=c) (h:c<=N) (hN:N<=g9):a<=g9:=Nat.le_trans (Nat.le_trans h1 (Nat.le_trans h2 h)) hN
theorem oda {a b d c N:Nat} (h:a+(b+d)+c<=N):a+d<=N:=Nat.le_trans (Nat.add_le_add_left (Nat.le_add_left d b) a) (Nat.le_trans (Nat.le_add_right _ c) h)
theorem obb {b k T N:Nat} (hb:b<=k) (h:k<T) (hT:T<=N) (hN:N<=1000000):(b:Int).natAbs<2 ^40:=SH (Nat.lt_of_le_of_lt hb h) hT hN
theorem ozn {v:Int} (h:0<=v):v.natAbs=v.toNat:=Int.ofNat.inj ((Int.natAbs_of_nonneg h).trans (Int.toNat_of_nonneg h).symm)
theorem ozt {j:Int} {k:Nat} (h:(k:Int)=j):j.toNat=k:=by rw[<-h];rfl
theorem oz1 {k n t N:Nat} (h:k<t) (h2:n<=t-(k+1)) (h3:t<=N) (hN:N<=1000000):((k+1+n:Nat):Int).natAbs<2 ^40:=wQ (Nat.le_trans (VN h h2) h3) hN
theorem oz3 {n N:Nat} (h:n<N) (hN:N<=g9):(n:Int).natAbs<=g9:=WI (Nat.le_of_lt h) hN
theorem DY {a b c:Nat} (h:a+b<c):a<c:=Nat.lt_of_le_of_lt (Nat.le_add_right _ _) h
theorem oz5 {a r m:Nat} (h:r+1<=m) (d:m<=a):a-r=a-(r+1)+1:=os1 (Nat.le_trans h d)
theorem oz6 {n:Nat}:(-1+(n:Int)).toNat-1=n-1-1:=congrArg (· -1) RT
theorem JV {a k m:Nat} (h:a-k<=m+1):a-(k+1)<=m:=VZ h (Nat.lt_succ_self _)
theorem oz8 {a k m n:Nat} (h:a-k<=m+1):a-(k+(n+1))<=m:=VZ h (Nat.lt_add_of_pos_right (Nat.succ_pos _))
theorem oz9 {a k m n:Nat} (h:a-k<=m+1):a-(k+1+n)<=m:=VZ h (Nat.lt_of_lt_of_le (Nat.lt_succ_self _) (Nat.le_add_right _ _))
def SJ (A:Array Lean.Term) (s:String):Array Lean.Term:=(s.splitOn " ").toArray.map fun p=>let l:=p.splitOn "/";Lean.Syntax.mkApp (Lean.mkIdent l.head!.toName) ((l.getD 1 "").toList.toArray.map fun c=>A[c.toNat-48]!)
theorem q1 {p T:Nat} (h:p+1<T) (e:T-p=2):p+2=T:=(congrArg (p+ ·) e).symm.trans (Nat.add_sub_cancel' (Nat.le_of_lt (Nat.lt_of_succ_lt h)))
theorem q2 {a r:Nat} (h:r<a):a-r=a-(r+1)+1:=os1 h
theorem q3 {k b t N:Nat} (h:k<t) (h2:t<=N) (hN:N<=g9):min (k-b) (t-b)<=g9:=Nat.le_trans (Nat.min_le_left _ _) (Nat.le_trans (Nat.sub_le k b) (Nat.le_trans (Nat.le_of_lt h) (Nat.le_trans h2 hN)))
theorem q4 {c n L:Nat} (h:c<=L):min c n<=L:=Nat.le_trans (Nat.min_le_left _ _) h
theorem q5 {a c n L:Nat} (h:a+c<=L):a+min c n<=L:=Nat.le_trans (Nat.add_le_add_left (Nat.min_le_left _ _) a) h
theorem q6 {k e t:Nat} (h:k+3-e<=0):min ((k:Int)+3) (t:Int)<=e:=Int.le_trans (Int.min_le_left _ _) (Int.ofNat_le.mpr (Nat.le_of_sub_eq_zero (Nat.le_zero.mp h)))
theorem q7 {k e t:Nat} (h: ¬(e<k+3/\e<t)):min ((k:Int)+3) (t:Int)<=e:=(Nat.lt_or_ge e (k+3)).elim (fun z=>Int.le_trans (Int.min_le_right _ _) (Int.ofNat_le.mpr (Nat.le_of_not_lt fun y=>h ⟨z,y⟩))) fun z=>Int.le_trans (Int.min_le_left _ _) (Int.ofNat_le.mpr z)
theorem q8 {a e t:Nat} (h: ¬(e<a/\e<t)) (z:e<a):t<=e:=Nat.le_of_not_lt fun y=>h ⟨z,y⟩
theorem q9 {x b:Int} (h0:0<=x) (h:x<=b):x.natAbs<=b.natAbs:=Int.ofNat_le.mp (by rw[Int.natAbs_of_nonneg h0,Int.natAbs_of_nonneg (Int.le_trans h0 h)];exact h)
theorem q10 {s k n x:Nat} (h:s<=k):s+(min n x+1)<=k+1+n:=Nat.le_trans (Nat.add_le_add h (Nat.succ_le_succ (Nat.min_le_left n x))) (Nat.le_of_eq (Nat.add_right_comm k n 1))
theorem q11 {a w N M k:Nat} (h:a<=w) (h2:w<=N) (hN:N<=M):a-1-k<=M:=Nat.le_trans (Nat.sub_le _ _) (Nat.le_trans (Nat.sub_le _ _) (Nat.le_trans h (Nat.le_trans h2 hN)))
theorem q12 {a w N k:Nat} (h:a<=w) (h2:w<=N) (hN:N<=1000000):(a:Int)-1-(k:Int)<=1000000:=Int.le_trans (Int.sub_le_self _ (Int.natCast_nonneg k)) (Int.le_trans (Int.sub_le_self _ (by decide)) (Int.ofNat_le.mpr (Nat.le_trans h (Nat.le_trans h2 hN))))
theorem q13 {a k:Nat} (h:k<a):0<=(a:Int)-1-(k:Int):=Int.sub_nonneg_of_le (Int.le_sub_one_of_lt (Int.ofNat_lt.mpr h))
theorem q14 {v c M:Nat} (h2:c<=55) (h:v<M):8*v+(c-48)<8*M:=Nat.lt_of_lt_of_le (Nat.lt_of_le_of_lt (Nat.add_le_add_left (Nat.sub_le_sub_right h2 48) (8*v)) (Nat.lt_succ_self (8*v+7))) (Nat.mul_le_mul_left 8 h)
theorem VS {mu d:Int} {q:Nat} (e:3+d=(q:Int)) (hd:d<2+mu) (hm:0<=mu/\mu<=5):q<=9:=by omega
theorem q16 {mu d:Int} {q:Nat} (e:3+d=(q:Int)) (hd:d<2+mu) (hm:0<=mu/\mu<=5):q<1000:=Nat.lt_of_le_of_lt (VS e hd hm) (by decide)
theorem q17 {mu d:Int} {q c:Nat} (e:3+d=(q:Int)) (hd:d<2+mu) (hm:0<=mu/\mu<=5) (h:c<1000):c+1+q<1000000:=Nat.lt_of_le_of_lt (Nat.add_le_add h (VS e hd hm)) (by decide)
theorem q18 {mu d:Int} {q l:Nat} (h:l<=10*q) (e:3+d=(q:Int)) (hd:d<2+mu) (hm:0<=mu/\mu<=5):l<=500:=Nat.le_trans h (Nat.le_trans (Nat.mul_le_mul_left 10 (VS e hd hm)) (by decide))
theorem q19 {mu d x:Int} {q c:Nat} (h:x<=((c+1+q:Nat):Int)) (e:3+d=(q:Int)) (hd:d<2+mu) (hm:0<=mu/\mu<=5):x<=((c+10:Nat):Int):=Int.le_trans h (Int.ofNat_le.mpr (Nat.add_le_add_left (VS e hd hm) (c+1)))
theorem q20 {a d:Int} (ha:0<=a) (h:0<=d):a+d=((a+d).toNat:Int):=(Int.toNat_of_nonneg (Int.add_nonneg ha h)).symm
theorem q22 {p T:Nat} (h:p<T) (e:T-p=1):(p:Int)=(T:Int)-1:=((congrArg (p+ ·) e).symm.trans (Nat.add_sub_cancel' (Nat.le_of_lt h)):p+1=T)▸(Int.add_sub_cancel (p:Int) 1).symm
theorem q23 {p T r:Nat} (h:p<T) (e:T-p=r+1+1):(p:Int)+1<(T:Int):=Int.ofNat_lt.mpr (((congrArg (p+ ·) e).symm.trans (Nat.add_sub_cancel' (Nat.le_of_lt h)):p+(r+1+1)=T)▸Nat.succ_lt_succ (Nat.lt_succ_of_le (Nat.le_add_right p r)))
theorem q24 {p I r:Nat} (h:p+1<I) (e:I-(p+1+1)=r) (h2:2<=r):p+4<=I:=Nat.le_trans (Nat.add_le_add_left h2 (p+2)) (Nat.le_of_eq ((congrArg (p+2+ ·) e).symm.trans (Nat.add_sub_cancel' h)))
theorem q25 {x:Nat} (h:x<128):((x:Int)-48).natAbs<=128:=by omega
theorem q26 {v:Int} (h0:0<=v) (h:v<=99):v.natAbs<=99:=Int.ofNat_le.mp ((Int.natAbs_of_nonneg h0).symm▸h)
theorem q27 {i n S:Nat} (h:i<n) (h2:g9<=S) (d:n<=g9):i<=S:=Nat.le_trans (Nat.le_of_lt h) (Nat.le_trans d h2)
theorem q29 {n:Nat}:0<=min (n:Int) 5/\min (n:Int) 5<=5:=⟨Int.le_min.mpr ⟨Int.natCast_nonneg n,by decide⟩,Int.min_le_right _ _⟩
theorem q30 {v b d M:Nat} (h2:v*b<=v*16) (h:v<M) (hd:d<16):v*b+d<16*M:=Nat.lt_of_lt_of_le (Nat.add_lt_add_of_le_of_lt h2 hd) (Nat.le_trans (Nat.le_of_eq (congrArg (· +16) (Nat.mul_comm v 16))) (Nat.mul_le_mul_left 16 h))
theorem q31 {a b k:Nat} (d:a<=b):a-k<=b:=Nat.le_trans (Nat.sub_le _ _) d
theorem q34 {d k R:Nat} (h:d+k+10<R):d+1+1<R:=Nat.lt_of_le_of_lt (Nat.add_le_add (Nat.le_add_right d k) (by decide:2<=10):d+2<=d+k+10) h
theorem WJ {a b c R:Nat} (h:a+b+c<R):a<R:=DY (DY h)
theorem q36 {u x n c:Nat} (h:u+x+n<c):u+n<c:=Nat.lt_of_le_of_lt (Nat.add_le_add_right (Nat.le_add_right u x) n) h
theorem q37 {d k k' b R:Nat} (h':k'<=k) (h:d+k+b<R):d+k'+b<R:=Nat.lt_of_le_of_lt (Nat.add_le_add_right (Nat.add_le_add_left h' d) b) h
theorem q38 {u k k' L:Nat} (h':k'+2<=k) (h:u+8*k+40<L):u+3+8*(k'+1)+40<L:=WE (ou3 h' h)
theorem q39 {u n c:Nat} (h:u+(n+1)<c):u+1+n<c:=Nat.add_right_comm u 1 n▸h
theorem q40 {i i' r c N:Nat} (h':i'<=i+1) (h:i+(r+1)+c<=N):i'+r+c<=N:=Nat.le_trans (Nat.add_le_add_right (Nat.add_le_add_right h' r) c) ((Nat.add_right_comm i 1 r).symm▸(h:i+r+1+c<=N))
theorem q41 {a b d:Nat} (h:a<=b):a<=max d b:=Nat.le_trans h (Nat.le_max_right _ _)
theorem q42 {x y F:Int} (h:max x y<=F):x<=F:=Int.le_trans (Int.le_max_left _ _) h
theorem q43 {x y F:Int} (h:max x y<=F):y<=F:=Int.le_trans (Int.le_max_right _ _) h
theorem q44 {x y:Int} (h: ¬x<=y):max x y=x:=Int.max_eq_left (Int.le_of_lt (Int.not_le.mp h))
theorem q45 {c d:Int} (h: ¬d<c):min c d=c:=Int.min_eq_left (Int.not_lt.mp h)
theorem q46 {b k t:Nat} (h:b<=k) (h2: ¬k<t):t<=k-b+b:=(Nat.sub_add_cancel h).symm▸Nat.le_of_not_lt h2
theorem q47 {t a b:Nat} (h:t<=b):t<=b-a+a:=Nat.le_trans h (Nat.sub_le_iff_le_add.mp (Nat.le_refl _))
theorem q48 {a b n:Nat} (h:a+b=n):a+1+b=n+1:=(Nat.add_right_comm a 1 b).trans (congrArg (· +1) h)
theorem q49: ∀{x:Int},x.toNat<=x.natAbs
 | .ofNat n=>Nat.le_refl n
 | .negSucc _=>Nat.zero_le _
theorem q51 {x n:Nat} (h0:0<n) (h:x<=n-1):x<n:=Nat.lt_of_le_of_lt h (Nat.sub_lt h0 (by decide))
theorem q52 {T:Nat} (h:2<=T):T-1<T:=Nat.sub_lt (Nat.lt_of_lt_of_le (by decide) h) (by decide)
theorem q53 {a m:Nat} (e:a=m) (h:m<1000):10*a<=g9:=e▸Nat.le_trans (Nat.mul_le_mul_left 10 (Nat.le_of_lt h)) (by decide)
theorem RV {t e:Nat} (h:t+2-e<=0):t<=e:=Nat.le_trans (Nat.le_add_right t 2) (Nat.le_of_sub_eq_zero (Nat.le_zero.mp h))
theorem q55 {P:Prop} {a k:Nat} (h:a+1-k<=0) (h':k<=a):P:=absurd (Nat.le_of_sub_eq_zero (Nat.le_zero.mp h)) (Nat.not_le.mpr (Nat.lt_succ_of_le h'))
theorem q56 {n m i:Nat} (e:n=m) (h:i<=n) (h': ¬i<n):i=m:=(SI h h').symm.trans e
theorem q57 {n:Nat}:(-1+((n+1:Nat):Int)).toNat=n:=RT (n:=n+1)
theorem q58 {d:Int} (h0:0<=d) (h:d<300):(1+d).natAbs<1000000:=Int.ofNat_lt.mp ((Int.natAbs_of_nonneg (Int.add_nonneg (a:=1) (by decide) h0)).symm▸Int.lt_trans (Int.add_lt_add_left h 1) (by decide))
theorem q59 {m:Int} (h0:0<m) (h:m<1000000):m.natAbs<2 ^30:=Int.ofNat_lt.mp ((Int.natAbs_of_nonneg (Int.le_of_lt h0)).symm▸Int.lt_trans h (by decide))
theorem q60 {b t N:Nat} (h:b<=t) (h2:t<=N) (hN:N<=1000000):(b:Int).natAbs<2 ^40:=wQ (Nat.le_trans h h2) hN
theorem q61 {mu:Int} (h:0<=mu/\mu<=5):(1+mu).natAbs<=g9:=Int.ofNat_le.mp ((Int.natAbs_of_nonneg (Int.add_nonneg (a:=1) (by decide) h.1)).symm▸Int.le_trans (Int.add_le_add_left h.2 1) (by decide))
theorem q62 {n:Nat} (h:0<n):n=n-1+1:=on1 h
theorem q63 {p L n:Nat} (h:p<=L-n):p<=L:=Nat.le_trans h (Nat.sub_le _ _)
theorem q64 {w r n:Nat} (h:w<=r+1-n) (h1:1<=n):w<=r:=Nat.le_trans h (Nat.sub_le_sub_left h1 (r+1))
theorem q66 {e p m:Nat} (h:e+1=p+1+m):e+1=p+(m+1):=h.trans (Nat.add_right_comm p 1 m)
theorem q67 {x s r:Nat} (h:x<=10) (h2:s<=10*r):x+s<=10*(r+1):=Nat.le_trans (Nat.add_le_add h h2) (Nat.le_of_eq (Nat.add_comm 10 (10*r)))
theorem WK {b:Nat}:(b:Int)=10↔b=10:=Int.ofNat_inj (n:=10)
theorem q69 {v b d:Nat} (h:d<b):v*b+d+1<=v*b+1*b:=Nat.add_le_add_left ((Nat.one_mul b).symm▸h) (v*b)
theorem WL {a I D:Nat} (e:a=I) (h:I<D):a<=D:=e▸Nat.le_of_lt h
theorem q71 {a I D c:Nat} (e:a=I) (e2:c=D+1) (h:I<D):a<=c:=e2▸Nat.le_succ_of_le (WL e h)
theorem q72 {i n m K:Nat} (h:i<n) (e:n=m) (h2:m<K):i<K:=Nat.lt_trans h (e▸h2)
theorem q73 {r:Nat} (h: ¬r<2):2<=((min 2 r:Nat):Int):=Int.ofNat_le.mpr (Nat.le_min.mpr ⟨Nat.le_refl _,Nat.le_of_not_lt h⟩)
theorem RW {a b:Int}:a+1+b=a+(b+1):=(Int.add_assoc _ _ _).trans (congrArg _ (Int.add_comm _ _))
theorem WM {a k b c:Nat} (h:a<=k):a<=k+b+c:=Nat.le_trans h (Nat.le_trans (Nat.le_add_right k b) (Nat.le_add_right _ c))
theorem q76 {c b:Nat}:(65<=(c:Int)/\(c:Int)<91)/\ ¬(b:Int)=10↔(65<=c/\c<91)/\ ¬b=10:=and_congr (and_congr (Int.ofNat_le (m:=65)) (Int.ofNat_lt (m:=91))) (not_congr WK)
theorem q77 {P:Prop} {D:Nat} (h:P/\D<=1):max (max 0 (max 0 0)+1) D<=1:=Nat.max_le.mpr ⟨by decide,h.2⟩
theorem q78 {a:Nat} (h: ¬a=2->a=3):a=2\/a=3:=if z:a=2 then .inl z else .inr (h z)
theorem q79 {v c:Nat} (h:48<=c/\c<=55):(v:Int)*8+((c:Int)-48)=((8*v+(c-48):Nat):Int):=(congr (congrArg (· + ·) (Int.mul_comm (v:Int) 8)) (Int.ofNat_sub h.1).symm)
theorem q80 {j n:Nat} (h:j<n):j<=n-1:=Nat.le_sub_one_of_lt h
theorem q82 {z:Int} (h:0<=z/\z<256):((z.toNat%2 ^8:Nat):Int)=z:=(congrArg Int.ofNat (Nat.mod_eq_of_lt ((Int.toNat_lt (n:=256) h.1).mpr h.2))).trans (Int.toNat_of_nonneg h.1)
theorem q84 {mu:Int} {n:Nat} (e:n=(1+mu).toNat) (h:0<=mu/\mu<=5):n<=6:=e▸(Int.toNat_le (n:=6)).mpr (Int.add_le_add_left h.2 1)
theorem q83 {mu:Int} {n i:Nat} (hi:i<n) (e:n=(1+mu).toNat) (h:0<=mu/\mu<=5):11*i<900:=Nat.lt_of_le_of_lt (Nat.mul_le_mul_left 11 (Nat.le_of_lt (Nat.lt_of_lt_of_le hi (q84 e h)))) (by decide)
theorem q86 {mu d:Int} {n i:Nat} (h1:d<=((11*i:Nat):Int)) (hi:i<=n) (e:n=(1+mu).toNat) (h:0<=mu/\mu<=5):d<=((100:Nat):Int):=Int.le_trans h1 (Int.ofNat_le.mpr (Nat.le_trans (Nat.mul_le_mul_left 11 (Nat.le_trans hi (q84 e h))) (by decide)))
theorem q85 {c:Nat} (h: ¬(32<=c/\c<=126\/c=9)):((c:Int)<32\/126<(c:Int))/\ ¬c=9:=⟨(Nat.lt_or_ge c 32).elim (fun z=>.inl (Int.ofNat_lt.mpr z)) fun z=>.inr (Int.ofNat_lt.mpr (Nat.lt_of_not_le fun y=>h (.inl ⟨z,y⟩))),fun z=>h (.inr z)⟩
theorem q88 {v y r B:Int} (h:v<B) (hy:y*2+r<=B) (h0:0<=v):v*1000003+y*2+r<B*1048576:=by omega
theorem r1 {k' k d R:Nat} (h':k'+2<=k) (h:d+k+10<R):d+1+(k'+1)+10<R:=WF (q37 h' h)
theorem r2 {e k t:Nat} (h:e<k+3) (h2:e<t):(e:Int)<min ((k:Int)+3) (t:Int):=Int.lt_min.mpr ⟨Int.ofNat_lt.mpr h,Int.ofNat_lt.mpr h2⟩
theorem r4 {c m n i K:Nat} (hi:i<n) (e:n=m) (h:c+m<K):c+i<K:=Nat.lt_trans (Nat.add_lt_add_left (e▸hi) c) h
theorem r5 {P:Prop} {t e:Nat} (h:t+2-e<=0) (h2:(e:Int)<(t:Int)):P:=absurd (Int.ofNat_lt.mp h2) (Nat.not_lt.mpr (RV h))
theorem r7 {i:Int} {n:Nat} (h:i<(n:Int)) (h0:0<=i):i.toNat<n:=(Int.toNat_lt h0).mpr h
theorem r8 {c d:Int} (h:d<c):min c d=d:=Int.min_eq_right (Int.le_of_lt h)
theorem r9 {P:Prop} {T:Nat} (e:T-1=0) (h:2<=T):P:=absurd (Nat.le_of_sub_eq_zero e) (Nat.not_le.mpr h)
theorem r11 {c:Nat} (h:48<=c/\c<58):48<=(c:Int)/\(c:Int)<58:=⟨Int.ofNat_le.mpr h.1,Int.ofNat_lt.mpr h.2⟩
theorem r12 {c:Nat} (h:97<=c/\c<123):97<=(c:Int)/\(c:Int)<123:=⟨Int.ofNat_le.mpr h.1,Int.ofNat_lt.mpr h.2⟩
theorem r13 {r:Nat} (h:r<2):((min 2 r:Nat):Int)<2:=Int.ofNat_lt.mpr (Nat.lt_of_le_of_lt (Nat.min_le_right _ _) h)
theorem r14 {e:Nat} (h:e<=30):102+20*e<=4096:=Nat.le_trans (Nat.add_le_add_left (Nat.mul_le_mul_left 20 h) 102) (by decide)
theorem r15 {i x c N:Nat} (h:i+x+c<=N):i+c<=N:=Nat.le_trans (Nat.add_le_add_right (Nat.le_add_right i x) c) h
theorem r16 {a b c:Nat} (h:a=b) (h2:b=c):c=a:=(h.trans h2).symm
theorem r17 {P:Prop} {D:Nat} (h:P/\D<=0):max 0 D<=0:=Nat.max_le.mpr ⟨Nat.le_refl _,h.2⟩
theorem r18 {i N:Nat} (h:i+2<=N) (d:N<=g9):i+1<=g9:=Nat.le_trans (Nat.le_of_succ_le h) d
theorem r19 {t e:Nat} (h:t-e<=0):t<=e:=Nat.le_of_sub_eq_zero (Nat.le_zero.mp h)
theorem r20 {r n k:Nat} {Q:Prop} (h:r+1<=n+1) (h2:1<=k/\Q):r+1<=n+k:=Nat.le_trans h (Nat.add_le_add_left h2.1 n)
theorem r22 {I D c:Nat} (e:c=D+1) (h:I<D): ¬I=c:=e▸Nat.ne_of_lt (Nat.lt_succ_of_lt h)
theorem r25 {T:Nat} (h:T<=5000):T<=g9:=Nat.le_trans h (by decide)
theorem r24 {T:Nat} (h:T<=1000):T<=g9:=Nat.le_trans h (by decide)
theorem r26 {m n:Nat} (h:m<=n+1) (h2: ¬m<=n):m=n+1:=Nat.le_antisymm h (Nat.succ_le_of_lt (Nat.not_le.mp h2))
theorem r27 {l:Int} (h:1<=l/\l<=300):l.natAbs<1000000:=Int.ofNat_lt.mp ((Int.natAbs_of_nonneg (Int.le_trans (by decide) h.1)).symm▸Int.lt_of_le_of_lt h.2 (by decide))
theorem r28 {n:Nat} (h:0<n):n-1<n:=Nat.sub_lt h (by decide)
theorem r29 {a D c:Nat} (e:a=D) (e2:c=D+1):a<=c:=Nat.le_trans (Nat.le_of_eq e) (e2▸Nat.le_succ D)
theorem r30 {e t:Nat} (h: ¬e+1<t):t<=e+2:=Nat.le_succ_of_le (Nat.le_of_not_lt h)
theorem r31 {r n w:Nat} (h:r+1+1<=n+1):r+1<=n+w:=Nat.le_trans (Nat.le_of_succ_le_succ h) (Nat.le_add_right n w)
theorem RX {e x N:Nat} (h:e+x<=N):e<=N:=Nat.le_trans (Nat.le_add_right e x) h
theorem r34 {a r N:Nat} (h:a+(r+1)<=N) (d:N<=g9):a<g9:=Nat.lt_of_lt_of_le (Nat.lt_add_of_pos_right (Nat.succ_pos r)) (Nat.le_trans h d)
theorem r35 {P:Prop} {n N:Nat} (h:P/\n<N) (d:N<=g9):n<=g9:=Nat.le_trans (Nat.le_of_lt h.2) d
theorem r36 {T N b:Nat} (h:T<=N) (d:N<=g9):T<=g9+b:=Nat.le_trans h (Nat.le_trans d (Nat.le_add_right g9 b))
theorem r37 {x:Nat} (h:x<=21):5+x<=16777216:=Nat.le_trans (Nat.add_le_add_left h 5) (by decide)
theorem r38 {p b N M:Nat} (h:p<=b+1) (h2:b<=N) (d:N+1<=M):p<=M:=Nat.le_trans h (Nat.le_trans (Nat.succ_le_succ h2) d)
theorem r39 {i:Int} (h:0<=i/\i<=1114111): ¬i<0/\ ¬i>1114111:=⟨Int.not_lt.mpr h.1,Int.not_lt.mpr h.2⟩
theorem r41 {k n:Nat}:(k:Int)+1+(n:Int)=(k:Int)+((n+1:Nat):Int):=RW
theorem WN {k b c:Nat}:k<=k+b+c:=WM (Nat.le_refl k)
theorem r44 {r N:Nat} (h:r<=N) (d:N+1<=g9):r+1<=g9:=Nat.le_trans (Nat.succ_le_succ h) d
theorem r46 {a T N:Nat} (h:a<=T) (h2:T<=N) (d:N<g9):a<g9:=Nat.lt_of_le_of_lt h (Nat.lt_of_le_of_lt h2 d)
theorem r51 {w n m:Nat} (h:w<=n) (h2:n+1<=m):w+1<=m:=Nat.le_trans (Nat.succ_le_succ h) h2
theorem r52 {n:Nat} (h:n<=255):(n:Int)<=255:=Int.ofNat_le.mpr h
theorem VT {p o N M:Nat} (h:p<=o) (h2:o<=N) (d:N<=M):p<=M:=Nat.le_trans h (Nat.le_trans h2 d)
theorem r57 {i S:Nat} (h:i<1000) (h2:g9<=S):i<=S:=q27 h h2 (by decide)
theorem r55 {c:Nat} (h:c<900):c+10<1000:=Nat.lt_of_lt_of_le (Nat.add_lt_add_right h 10) (by decide)
theorem r58 {x:Nat}:(48<=(x:Int)/\(x:Int)-48<8)↔(48<=x/\x<=55):=and_congr (Int.ofNat_le (m:=48)) ⟨fun h=>Nat.le_of_lt_succ (Int.ofNat_lt.mp (Int.lt_add_of_sub_right_lt h)),fun h=>Int.sub_right_lt_of_lt_add (Int.ofNat_lt.mpr (Nat.lt_succ_of_le h))⟩
theorem f8 {p0 p1:Prop} {G:Prop} (h:p0/\p1) (k:p0->p1->G):G:=k h.1 h.2
theorem n5 {p0 p1 p2:Prop} {G:Prop} (h:p0/\p1/\p2) (k:p0->p1->p2->G):G:=k h.1 h.2.1 h.2.2
theorem Q1 {p0 p1 p2 p3:Prop} {G:Prop} (h:p0/\p1/\p2/\p3) (k:p0->p1->p2->p3->G):G:=k h.1 h.2.1 h.2.2.1 h.2.2.2
theorem OL {p0 p1 p2 p3 p4:Prop} {G:Prop} (h:p0/\p1/\p2/\p3/\p4) (k:p0->p1->p2->p3->p4->G):G:=k h.1 h.2.1 h.2.2.1 h.2.2.2.1 h.2.2.2.2
theorem JW {p0 p1 p2 p3 p4 p5:Prop} {G:Prop} (h:p0/\p1/\p2/\p3/\p4/\p5) (k:p0->p1->p2->p3->p4->p5->G):G:=k h.1 h.2.1 h.2.2.1 h.2.2.2.1 h.2.2.2.2.1 h.2.2.2.2.2
theorem WO {p0 p1 p2 p3 p4 p5 p6:Prop} {G:Prop} (h:p0/\p1/\p2/\p3/\p4/\p5/\p6) (k:p0->p1->p2->p3->p4->p5->p6->G):G:=k h.1 h.2.1 h.2.2.1 h.2.2.2.1 h.2.2.2.2.1 h.2.2.2.2.2.1 h.2.2.2.2.2.2
theorem SK {p0 p1 p2 p3 p4 p5 p6 p7 p8 p9:Prop} {G:Prop} (h:p0/\p1/\p2/\p3/\p4/\p5/\p6/\p7/\p8/\p9) (k:p0->p1->p2->p3->p4->p5->p6->p7->p8->p9->G):G:=k h.1 h.2.1 h.2.2.1 h.2.2.2.1 h.2.2.2.2.1 h.2.2.2.2.2.1 h.2.2.2.2.2.2.1 h.2.2.2.2.2.2.2.1 h.2.2.2.2.2.2.2.2.1 h.2.2.2.2.2.2.2.2.2
theorem d6.{u0} {α:Sort u0} {p0:α->Prop} {G:Prop} (h: ∃a,p0 a) (k: ∀a,p0 a->G):G:=h.elim fun a h=>k a h
theorem e8 {α:Type} {p0 p1:α->Prop} {G:Prop} (h: ∃a,p0 a/\p1 a) (k: ∀a,p0 a->p1 a->G):G:=h.elim fun a h=>k a h.1 h.2
theorem s5 {α:Type} {p0 p1 p2:α->Prop} {G:Prop} (h: ∃a,p0 a/\p1 a/\p2 a) (k: ∀a,p0 a->p1 a->p2 a->G):G:=h.elim fun a h=>k a h.1 h.2.1 h.2.2
theorem iK {α:Type} {p0 p1 p2 p3:α->Prop} {G:Prop} (h: ∃a,p0 a/\p1 a/\p2 a/\p3 a) (k: ∀a,p0 a->p1 a->p2 a->p3 a->G):G:=h.elim fun a h=>k a h.1 h.2.1 h.2.2.1 h.2.2.2
theorem DZ {α:Type} {p0 p1 p2 p3 p4:α->Prop} {G:Prop} (h: ∃a,p0 a/\p1 a/\p2 a/\p3 a/\p4 a) (k: ∀a,p0 a->p1 a->p2 a->p3 a->p4 a->G):G:=h.elim fun a h=>k a h.1 h.2.1 h.2.2.1 h.2.2.2.1 h.2.2.2.2
theorem C1 {α β:Type} {p0:α->β->Prop} {G:Prop} (h: ∃a b,p0 a b) (k: ∀a b,p0 a b->G):G:=h.elim fun a h=>h.elim fun b h=>k a b h
theorem r0 {α β:Type} {p0 p1:α->β->Prop} {G:Prop} (h: ∃a b,p0 a b/\p1 a b) (k: ∀a b,p0 a b->p1 a b->G):G:=h.elim fun a h=>h.elim fun b h=>k a b h.1 h.2
theorem v9 {α β:Type} {p0 p1 p2:α->β->Prop} {G:Prop} (h: ∃a b,p0 a b/\p1 a b/\p2 a b) (k: ∀a b,p0 a b->p1 a b->p2 a b->G):G:=h.elim fun a h=>h.elim fun b h=>k a b h.1 h.2.1 h.2.2
theorem cR {α β:Type} {p0 p1 p2 p3:α->β->Prop} {G:Prop} (h: ∃a b,p0 a b/\p1 a b/\p2 a b/\p3 a b) (k: ∀a b,p0 a b->p1 a b->p2 a b->p3 a b->G):G:=h.elim fun a h=>h.elim fun b h=>k a b h.1 h.2.1 h.2.2.1 h.2.2.2
theorem iL {α β:Type} {p0 p1 p2 p3 p4:α->β->Prop} {G:Prop} (h: ∃a b,p0 a b/\p1 a b/\p2 a b/\p3 a b/\p4 a b) (k: ∀a b,p0 a b->p1 a b->p2 a b->p3 a b->p4 a b->G):G:=h.elim fun a h=>h.elim fun b h=>k a b h.1 h.2.1 h.2.2.1 h.2.2.2.1 h.2.2.2.2
theorem OM {α β:Type} {p0 p1 p2 p3 p4 p5:α->β->Prop} {G:Prop} (h: ∃a b,p0 a b/\p1 a b/\p2 a b/\p3 a b/\p4 a b/\p5 a b) (k: ∀a b,p0 a b->p1 a b->p2 a b->p3 a b->p4 a b->p5 a b->G):G:=h.elim fun a h=>h.elim fun b h=>k a b h.1 h.2.1 h.2.2.1 h.2.2.2.1 h.2.2.2.2.1 h.2.2.2.2.2
theorem wR {α β γ:Type} {p0:α->β->γ->Prop} {G:Prop} (h: ∃a b c,p0 a b c) (k: ∀a b c,p0 a b c->G):G:=h.elim fun a h=>h.elim fun b h=>h.elim fun c h=>k a b c h
theorem F6 {α β γ:Type} {p0 p1:α->β->γ->Prop} {G:Prop} (h: ∃a b c,p0 a b c/\p1 a b c) (k: ∀a b c,p0 a b c->p1 a b c->G):G:=h.elim fun a h=>h.elim fun b h=>h.elim fun c h=>k a b c h.1 h.2
theorem nK {α β γ:Type} {p0 p1 p2:α->β->γ->Prop} {G:Prop} (h: ∃a b c,p0 a b c/\p1 a b c/\p2 a b c) (k: ∀a b c,p0 a b c->p1 a b c->p2 a b c->G):G:=h.elim fun a h=>h.elim fun b h=>h.elim fun c h=>k a b c h.1 h.2.1 h.2.2
theorem X1 {α β γ:Type} {p0 p1 p2 p3:α->β->γ->Prop} {G:Prop} (h: ∃a b c,p0 a b c/\p1 a b c/\p2 a b c/\p3 a b c) (k: ∀a b c,p0 a b c->p1 a b c->p2 a b c->p3 a b c->G):G:=h.elim fun a h=>h.elim fun b h=>h.elim fun c h=>k a b c h.1 h.2.1 h.2.2.1 h.2.2.2
theorem ON {α β γ:Type} {p0 p1 p2 p3 p4:α->β->γ->Prop} {G:Prop} (h: ∃a b c,p0 a b c/\p1 a b c/\p2 a b c/\p3 a b c/\p4 a b c) (k: ∀a b c,p0 a b c->p1 a b c->p2 a b c->p3 a b c->p4 a b c->G):G:=h.elim fun a h=>h.elim fun b h=>h.elim fun c h=>k a b c h.1 h.2.1 h.2.2.1 h.2.2.2.1 h.2.2.2.2
theorem WP {α β γ:Type} {p0 p1 p2 p3 p4 p5:α->β->γ->Prop} {G:Prop} (h: ∃a b c,p0 a b c/\p1 a b c/\p2 a b c/\p3 a b c/\p4 a b c/\p5 a b c) (k: ∀a b c,p0 a b c->p1 a b c->p2 a b c->p3 a b c->p4 a b c->p5 a b c->G):G:=h.elim fun a h=>h.elim fun b h=>h.elim fun c h=>k a b c h.1 h.2.1 h.2.2.1 h.2.2.2.1 h.2.2.2.2.1 h.2.2.2.2.2
theorem JX {α β γ:Type} {p0 p1 p2 p3 p4 p5 p6 p7:α->β->γ->Prop} {G:Prop} (h: ∃a b c,p0 a b c/\p1 a b c/\p2 a b c/\p3 a b c/\p4 a b c/\p5 a b c/\p6 a b c/\p7 a b c) (k: ∀a b c,p0 a b c->p1 a b c->p2 a b c->p3 a b c->p4 a b c->p5 a b c->p6 a b c->p7 a b c->G):G:=h.elim fun a h=>h.elim fun b h=>h.elim fun c h=>k a b c h.1 h.2.1 h.2.2.1 h.2.2.2.1 h.2.2.2.2.1 h.2.2.2.2.2.1 h.2.2.2.2.2.2.1 h.2.2.2.2.2.2.2
theorem nL {α β γ δ:Type} {p0 p1:α->β->γ->δ->Prop} {G:Prop} (h: ∃a b c d,p0 a b c d/\p1 a b c d) (k: ∀a b c d,p0 a b c d->p1 a b c d->G):G:=h.elim fun a h=>h.elim fun b h=>h.elim fun c h=>h.elim fun d h=>k a b c d h.1 h.2
theorem sX {α β γ δ:Type} {p0 p1 p2:α->β->γ->δ->Prop} {G:Prop} (h: ∃a b c d,p0 a b c d/\p1 a b c d/\p2 a b c d) (k: ∀a b c d,p0 a b c d->p1 a b c d->p2 a b c d->G):G:=h.elim fun a h=>h.elim fun b h=>h.elim fun c h=>h.elim fun d h=>k a b c d h.1 h.2.1 h.2.2
theorem sY {α β γ δ:Type} {p0 p1 p2 p3:α->β->γ->δ->Prop} {G:Prop} (h: ∃a b c d,p0 a b c d/\p1 a b c d/\p2 a b c d/\p3 a b c d) (k: ∀a b c d,p0 a b c d->p1 a b c d->p2 a b c d->p3 a b c d->G):G:=h.elim fun a h=>h.elim fun b h=>h.elim fun c h=>h.elim fun d h=>k a b c d h.1 h.2.1 h.2.2.1 h.2.2.2
theorem AS {α β γ δ:Type} {p0 p1 p2 p3 p4:α->β->γ->δ->Prop} {G:Prop} (h: ∃a b c d,p0 a b c d/\p1 a b c d/\p2 a b c d/\p3 a b c d/\p4 a b c d) (k: ∀a b c d,p0 a b c d->p1 a b c d->p2 a b c d->p3 a b c d->p4 a b c d->G):G:=h.elim fun a h=>h.elim fun b h=>h.elim fun c h=>h.elim fun d h=>k a b c d h.1 h.2.1 h.2.2.1 h.2.2.2.1 h.2.2.2.2
theorem X2 {α β γ δ:Type} {p0 p1 p2 p3 p4 p5:α->β->γ->δ->Prop} {G:Prop} (h: ∃a b c d,p0 a b c d/\p1 a b c d/\p2 a b c d/\p3 a b c d/\p4 a b c d/\p5 a b c d) (k: ∀a b c d,p0 a b c d->p1 a b c d->p2 a b c d->p3 a b c d->p4 a b c d->p5 a b c d->G):G:=h.elim fun a h=>h.elim fun b h=>h.elim fun c h=>h.elim fun d h=>k a b c d h.1 h.2.1 h.2.2.1 h.2.2.2.1 h.2.2.2.2.1 h.2.2.2.2.2
theorem V7 {α β γ δ ε:Type} {p0 p1:α->β->γ->δ->ε->Prop} {G:Prop} (h: ∃a b c d e,p0 a b c d e/\p1 a b c d e) (k: ∀a b c d e,p0 a b c d e->p1 a b c d e->G):G:=h.elim fun a h=>h.elim fun b h=>h.elim fun c h=>h.elim fun d h=>h.elim fun e h=>k a b c d e h.1 h.2
theorem AT {α β γ δ ε:Type} {p0 p1 p2 p3:α->β->γ->δ->ε->Prop} {G:Prop} (h: ∃a b c d e,p0 a b c d e/\p1 a b c d e/\p2 a b c d e/\p3 a b c d e) (k: ∀a b c d e,p0 a b c d e->p1 a b c d e->p2 a b c d e->p3 a b c d e->G):G:=h.elim fun a h=>h.elim fun b h=>h.elim fun c h=>h.elim fun d h=>h.elim fun e h=>k a b c d e h.1 h.2.1 h.2.2.1 h.2.2.2
theorem SL {α β γ δ ε:Type} {p0 p1 p2 p3 p4 p5 p6 p7 p8 p9:α->β->γ->δ->ε->Prop} {G:Prop} (h: ∃a b c d e,p0 a b c d e/\p1 a b c d e/\p2 a b c d e/\p3 a b c d e/\p4 a b c d e/\p5 a b c d e/\p6 a b c d e/\p7 a b c d e/\p8 a b c d e/\p9 a b c d e) (k: ∀a b c d e,p0 a b c d e->p1 a b c d e->p2 a b c d e->p3 a b c d e->p4 a b c d e->p5 a b c d e->p6 a b c d e->p7 a b c d e->p8 a b c d e->p9 a b c d e->G):G:=h.elim fun a h=>h.elim fun b h=>h.elim fun c h=>h.elim fun d h=>h.elim fun e h=>k a b c d e h.1 h.2.1 h.2.2.1 h.2.2.2.1 h.2.2.2.2.1 h.2.2.2.2.2.1 h.2.2.2.2.2.2.1 h.2.2.2.2.2.2.2.1 h.2.2.2.2.2.2.2.2.1 h.2.2.2.2.2.2.2.2.2
theorem WQ {α β γ δ ε ζ:Type} {p0 p1:α->β->γ->δ->ε->ζ->Prop} {G:Prop} (h: ∃a b c d e f,p0 a b c d e f/\p1 a b c d e f) (k: ∀a b c d e f,p0 a b c d e f->p1 a b c d e f->G):G:=h.elim fun a h=>h.elim fun b h=>h.elim fun c h=>h.elim fun d h=>h.elim fun e h=>h.elim fun f h=>k a b c d e f h.1 h.2
theorem WR {α β γ δ ε ζ η θ ι:Type} {p0 p1:α->β->γ->δ->ε->ζ->η->θ->ι->Prop} {G:Prop} (h: ∃a b c d e f g i j,p0 a b c d e f g i j/\p1 a b c d e f g i j) (k: ∀a b c d e f g i j,p0 a b c d e f g i j->p1 a b c d e f g i j->G):G:=h.elim fun a h=>h.elim fun b h=>h.elim fun c h=>h.elim fun d h=>h.elim fun e h=>h.elim fun f h=>h.elim fun g h=>h.elim fun i h=>h.elim fun j h=>k a b c d e f g i j h.1 h.2
theorem WS {α β γ δ ε ζ η θ ι:Type} {p0 p1 p2:α->β->γ->δ->ε->ζ->η->θ->ι->Prop} {G:Prop} (h: ∃a b c d e f g i j,p0 a b c d e f g i j/\p1 a b c d e f g i j/\p2 a b c d e f g i j) (k: ∀a b c d e f g i j,p0 a b c d e f g i j->p1 a b c d e f g i j->p2 a b c d e f g i j->G):G:=h.elim fun a h=>h.elim fun b h=>h.elim fun c h=>h.elim fun d h=>h.elim fun e h=>h.elim fun f h=>h.elim fun g h=>h.elim fun i h=>h.elim fun j h=>k a b c d e f g i j h.1 h.2.1 h.2.2
theorem SM {α β γ δ ε ζ η θ ι:Type} {p0 p1 p2 p3:α->β->γ->δ->ε->ζ->η->θ->ι->Prop} {G:Prop} (h: ∃a b c d e f g i j,p0 a b c d e f g i j/\p1 a b c d e f g i j/\p2 a b c d e f g i j/\p3 a b c d e f g i j) (k: ∀a b c d e f g i j,p0 a b c d e f g i j->p1 a b c d e f g i j->p2 a b c d e f g i j->p3 a b c d e f g i j->G):G:=h.elim fun a h=>h.elim fun b h=>h.elim fun c h=>h.elim fun d h=>h.elim fun e h=>h.elim fun f h=>h.elim fun g h=>h.elim fun i h=>h.elim fun j h=>k a b c d e f g i j h.1 h.2.1 h.2.2.1 h.2.2.2
end
section
set_option hygiene false in
local macro_rules | `(tactic| show $t) => `(tactic| refine(?_ : $t))
set_option hygiene false in
local macro_rules | `(tactic| omega) => do
  let f := SJ #[<- `(by assumption), <- `(by decide)]
  let a := f "SH/001 WA/001 WB/001 WC/0011 WD/0001 DW/0011 obb/0001 oz1/0001 q60/001"
  let b := f "r25/0 r24/0 Nat.le_trans/01 DS/001 OK/001 VR/0001 VP/0001 WH/0001 q4/1"
  `(tactic| first | (with_reducible first | assumption | (show Int.natAbs _ < _; first $[| exact $a]*) | (show _ <= g9; first $[| exact $b]*)) | decide | (simp; done) | omega +splitMinMax)
section
open PySem PySem.W PyProof.Rows
noncomputable abbrev SN:=PySem.Challenge.rw_tk0066_01
noncomputable abbrev pw:=PySem.Challenge.pw_tk0066_01
noncomputable def oQ:List Nat:=[10,11,12,13,14,15,16,17,18,19,20,21,22,23,25,26,27,28,29,30,31,32,33,34,35,36,37,38,39,40,41,42,43,44]
noncomputable def qv:Program:={pw with main:={pw.main with body:=oQ.map (i4 pw.main.body)}}
noncomputable def EA:List Str:=[Str.ofString "BoardError",Str.ofString "BadText",Str.ofString "ESCAPES",Str.ofString "LETTERS",Str.ofString "FIGURES",Str.ofString "OCTAL",Str.ofString "NAME_SIGNS",Str.ofString "QUOTES"]
noncomputable def OO (h:Heap):Frag:=[2,52,32,31,51,29,49].filterMap fun a=>(h.get? a).map fun o=>(a,o)
noncomputable def jS (v:Option Value) (s:String):Bool:=match v with
 |some (.str x _)=>x==Str.ofString s
 |_=>false
noncomputable def ND (c:Option CFound) (v:Value):Bool:=match c with
 |some (.val u)=>u==v
 |_=>false
noncomputable def WT (s:Shared):Bool:=
 let h:=s.heap;let K:=OO h;let m:=h.nsMap mainGlobals
 h.isNs 51 &&h.isNs 31 &&
 ((h.nsMap 51 "__setattr__").isNone &&(h.nsMap 51 "line").isNone &&(h.nsMap 51 "reason").isNone &&(h.nsMap 51 "__getattribute__").isNone &&(h.nsMap 51 "__getattr__").isNone &&(h.nsMap 31 "__getattribute__").isNone &&(h.nsMap 31 "__getattr__").isNone &&(h.nsMap 31 "__setattr__").isNone &&(h.nsMap 31 "line").isNone &&(h.nsMap 31 "reason").isNone &&h.nsMap 51 "__init__"==some (.ref 49)) &&
 (m "BoardError"==some (.ref 32) &&m "BadText"==some (.ref 52) &&m "ESCAPES"==some (.ref 55) &&(m "ValueError").isNone &&m "_law_told"==some (.ref 242) &&m "_law_atom_right"==some (.ref 263) &&m "_law_line_right"==some (.ref 268) &&m "law"==some (.ref 275)) &&
 (jS (m "FIGURES") "0123456789" &&jS (m "OCTAL") "01234567" &&jS (m "NAME_SIGNS") "abcdefghijklmnopqrstuvwxyzABCDEFGHIJKLMNOPQRSTUVWXYZ0123456789_.$" &&jS (m "QUOTES") "\"'") &&
 (m9.all fun f=>(m f).isNone) &&
 (readsIn K 32 (.type "type") &&ND (findCls K (.ref 32) (.type "type") "__init__") (.ref 29) &&specialIn K (.ref 32) "__getattribute__"==some (some (.builtin "type.__getattribute__")))
noncomputable def qN (o:Obj):Option (Option Value):=match o.data with
 | .fields vs=>some vs[1]?
 |_=>none
noncomputable def wS (o:Obj):Option (Value×Value):=match o.data with
 | .func fd=>some (o.cls,fd.code)
 |_=>none
noncomputable def wT (nm:String) (t l n ref P:Nat) (x1 x2 x3:Value) (tt:Nat):Obj:={cls:=.type "code",data:=.fields #[.str (Str.ofString nm) t,.str (Str.ofString nm) (t+1),.str "/claim/cut.py" (t+2),.int l 0,.int n 0,.int 0 0,.int 0 0,.int 3 0,.ref ref,.bool true,.int 181 0,.ref P,.none,x1,x2,x3,.int tt 0,.int l 0,.str "/claim/cut.py" (tt+1)]}
noncomputable def EB (i:Nat):Option (Arguments×List Stmt×Scope):=match i4 pw.main.body i with
 | .ClassDef (body:=.FunctionDef (args:=ps) (body:=b) (scope:=sc) .. ::_) .. =>some (ps,b,sc)
 |_=>none
noncomputable def iP (i:Nat):Arguments:=match EB i with|some q=>q.1|none=>⟨[],[],none,[],[],none,[]⟩
noncomputable def iB (i:Nat):List Stmt:=match EB i with|some q=>q.2.1|none=>[]
noncomputable def iS (i:Nat):Scope:=match EB i with|some q=>q.2.2|none=>pw.main.scope
noncomputable def JT (q:String) (i:Nat) (d:Value) (c:Addr):FuncData:={name:="__init__",qualname:=Str.ofString q,params:=iP i,body:=.stmts (iB i),scope:=iS i,globals:=3,closure:=[],defaults:=d,kwdefaults:=.none,doc:=.none,pyModule:=.str "pipeboard.errors" 187,code:=.ref c}
noncomputable def NF:Obj:={cls:=.type "type",data:=.cls {name:="BadText",bases:=[.ref 32],mro:=[.ref 52,.ref 32,.type "ValueError",.type "Exception",.type "BaseException",.type "object"],ns:=51,qualname:="BadText"},slots:= #[some (.ref 36),none,some (.str "BadText" 217),some (.str "BadText" 225),some (.builtin "ValueError.__new__"),some (.bool true)]}
noncomputable def NG:Obj:={cls:=.type "type",data:=.cls {name:="BoardError",bases:=[.type "ValueError"],mro:=[.ref 32,.type "ValueError",.type "Exception",.type "BaseException",.type "object"],ns:=31,qualname:="BoardError",subclasses:=[.ref 52]},slots:= #[some (.ref 15),none,some (.str "BoardError" 189),some (.str "BoardError" 197),some (.builtin "ValueError.__new__"),some (.bool true)]}
noncomputable def jT (w:World) (k:String) (t:Nat) (v:Int):DictEntry:=⟨PyData.keyHash w.params (Str.ofString k),.str (Str.ofString k) t,.int v (t+1)⟩
noncomputable def NH (w:World):Obj:={cls:=.type "dict",data:=.dict #[jT w "n" 245 10,jT w "t" 247 9,jT w "r" 249 13,jT w "\\" 251 92,jT w "'" 253 39,jT w "\"" 255 34] 6}
noncomputable def OP (o:Obj):Option (Value×FuncData):=match o.data with
 | .func fd=>some (o.cls,fd)
 |_=>none
noncomputable def Yf (s:Shared):=([52,32,22,262,258,267,265,274,270,55].map s.heap.get?,[29,49].map (fun a=>(s.heap.get? a).map OP),[28,48].map (fun a=>(s.heap.get? a).map qN),[242,263,268,275].map (fun a=>(s.heap.get? a).map wS))
noncomputable def Ya (w:World):List (Option Obj)×List (Option (Option (Value×FuncData)))×List (Option (Option (Option Value)))×List (Option (Option (Value×Value))):=
 ([some NF,some NG,some {cls:=.type "tuple",data:=.seq #[.str "" 201]},
  some (wT "_law_atom_right" 552 278 2 257 258 (.ref 259) (.ref 260) (.ref 261) 561),some (tabObj #[]),some (wT "_law_line_right" 564 289 2 264 265 .none .none (.ref 266) 567),some (tabObj #[]),
  some (wT "law" 570 314 1 269 270 (.ref 271) (.ref 272) (.ref 273) 581),some (tabObj #[]),some (NH w)],
  [some (some (.type "function",JT "BoardError.__init__" 1 (.ref 22) 28)),some (some (.type "function",JT "BadText.__init__" 2 .none 48))],
  [some (some (some (.str "BoardError.__init__" 203))),some (some (some (.str "BadText.__init__" 230)))],
  [some (some (.type "function",.ref 241)),some (some (.type "function",.ref 262)),some (some (.type "function",.ref 267)),some (some (.type "function",.ref 274))])
theorem SO:OpenLaw.wellSaid SN=true:=by kernel_rfl
theorem SP:LeftO SN.row.toRowW.prog qv EA WT Yf Ya 3506:=.of_split "special-get-raises" fun w=>by kernel_rfl
noncomputable def o4 (a:Addr):Prop:=a=258\/a=265\/a=270
structure GX (mg:Str->Option Value) (h:Heap) (mC mB:Str->Option Value) (K:Frag):Prop where
 nC:h.Ns 51 mC
 nB:h.Ns 31 mB
 kin:K.In h
 kt: ∀a o,K.lookup a=some o-> ¬o4 a
 c:mC "__setattr__"=none/\mC "line"=none/\mC "reason"=none/\mC "__getattribute__"=none/\mC "__getattr__"=none/\mC "__init__"=some (.ref 49)
 b:mB "__setattr__"=none/\mB "line"=none/\mB "reason"=none/\mB "__getattribute__"=none/\mB "__getattr__"=none
 m:mg "BoardError"=some (.ref 32)/\mg "BadText"=some (.ref 52)/\mg "ESCAPES"=some (.ref 55)/\mg "ValueError"=none/\mg "_law_told"=some (.ref 242)/\mg "_law_atom_right"=some (.ref 263)/\mg "_law_line_right"=some (.ref 268)/\mg "law"=some (.ref 275)
 t:(∃t,mg "FIGURES"=some (.str "0123456789" t))/\(∃t,mg "OCTAL"=some (.str "01234567" t))/\(∃t,mg "NAME_SIGNS"=some (.str "abcdefghijklmnopqrstuvwxyzABCDEFGHIJKLMNOPQRSTUVWXYZ0123456789_.$" t))/\ ∃t,mg "QUOTES"=some (.str "\"'" t)
 nine: ∀f,m9.contains f=true->mg f=none
 k:readsIn K 32 (.type "type")=true/\findCls K (.ref 32) (.type "type") "__init__"=some (.val (.ref 29))/\specialIn K (.ref 32) "__getattribute__"=some (some (.builtin "type.__getattribute__"))
noncomputable def RY (mg:Str->Option Value) (h:Heap):Prop:= ∃mC mB K,GX mg h mC mB K
noncomputable def EC (h:Heap) (a:Addr) (fd:FuncData):Prop:= ∃o,h.get? a=some o/\o.data=.func fd/\o.cls=.type "function"
noncomputable def X3 (h:Heap) (a:Addr) (c:Value):Prop:= ∃o fd,h.get? a=some o/\o.data=.func fd/\fd.code=c/\o.cls=.type "function"
noncomputable def AU (h:Heap) (a:Addr) (v:Value):Prop:= ∃o vs,h.get? a=some o/\o.data=.fields vs/\vs[1]? =some v
structure GY (w:World) (h:Heap):Prop where
 o52:h.get? 52=some NF
 o32:h.get? 32=some NG
 o22:h.get? 22=some {cls:=.type "tuple",data:=.seq #[.str "" 201]}
 t:h.get? 262=some (wT "_law_atom_right" 552 278 2 257 258 (.ref 259) (.ref 260) (.ref 261) 561)/\h.get? 258=some (tabObj #[])/\h.get? 267=some (wT "_law_line_right" 564 289 2 264 265 .none .none (.ref 266) 567)/\h.get? 265=some (tabObj #[])/\
  h.get? 274=some (wT "law" 570 314 1 269 270 (.ref 271) (.ref 272) (.ref 273) 581)/\h.get? 270=some (tabObj #[])
 o55:h.get? 55=some (NH w)
 f29:EC h 29 (JT "BoardError.__init__" 1 (.ref 22) 28)
 f49:EC h 49 (JT "BadText.__init__" 2 .none 48)
 c28:AU h 28 (.str "BoardError.__init__" 203)
 c48:AU h 48 (.str "BadText.__init__" 230)
 c242:X3 h 242 (.ref 241)
 c263:X3 h 263 (.ref 262)
 c268:X3 h 268 (.ref 267)
 c275:X3 h 275 (.ref 274)
noncomputable def K2 (i:Nat):DefRec:=match i4 pw.main.body i with
 | .FunctionDef name ps b _ _ _ sc _ _ pos=>⟨name,ps,b,sc,pos⟩
 |_=>⟨"",⟨[],[],none,[],[],none,[]⟩,[],pw.main.scope,⟨0,0,0,0⟩⟩
noncomputable def Wk (v:World):Prop:=WalkO qv EA RY (fun u h=>GY u h/\u=v) SN.row.toRowW (K2 44) [] fun f vs=>PySem.call f vs
@[irreducible] noncomputable def w:World:= @Classical.epsilon World ⟨{draws:=fun _ _=>0,params:={strHash:=fun _=>0,shareClass:=fun _=>0,mergeTok:=id,idOf:=fun _=>0,idOfShared:=fun _ _=>0,followText:=fun _=>false,idOfImm:=fun _=>0}}⟩ fun v=> ¬Wk v
theorem OQ (h:Wk w) (v:World):Wk v:=Classical.byContradiction fun z=>by unfold w at h;exact Classical.epsilon_spec (p:=fun v=> ¬Wk v) ⟨v,z⟩ h
@[irreducible] noncomputable def prog:Program:=SN.row.toRowW.prog
theorem JY:prog=SN.row.toRowW.prog:=by unfold prog;rfl
end
section
open PySem
section
noncomputable abbrev b9:=List Nat
set_option genInjectivity true in
inductive V where
 |none
 |bool (b:Bool)
 |int (i:Int)
 |str (x:b9)
 |bytes (b:List Int)
 |tup (vs:List V)
 |list (vs:List V)
 |olist (vs:List V)
 |rng (n:Int)
 |dict (kvs:List (b9×Int))
set_option genInjectivity true in
inductive R (α:Type) where
 |stuck
 |err (line:Int)
 |ok (a:α)
namespace R
noncomputable def bind {α β:Type}:R α->(α->R β)->R β
 |stuck,_=>stuck
 |err l,_=>err l
 |ok a,f=>f a
noncomputable def map {α β:Type} (f:α->β):R α->R β
 |stuck=>stuck
 |err l=>err l
 |ok a=>ok (f a)
noncomputable def calm {α:Type}:R α->R α
 |err _=>stuck
 |r=>r
theorem bind_assoc {α β γ:Type} (r:R α) (f:α->R β) (h:β->R γ):(r.bind f).bind h=r.bind fun a=>(f a).bind h:=by cases r<;>rfl
theorem map_bind {α β γ:Type} (r:R α) (f:α->β) (h:β->R γ):(r.map f).bind h=r.bind fun a=>h (f a):=by cases r<;>rfl
theorem OR {α:Type} (r:R α):(r.bind fun a=>.ok a)=r:=by cases r<;>rfl
end R
noncomputable def C0 {α β:Type} (f:α->R β):List α->R (List β)
 |[]=>.ok []
 |x::r=>(f x).bind fun y=>(C0 f r).map (y:: ·)
noncomputable def D5 {α β:Type} (f:α->R (Option β)):List α->R (List β)
 |[]=>.ok []
 |x::r=>(f x).bind fun y=>(D5 f r).map fun ys=>match y with|some v=>v::ys|none=>ys
noncomputable def cS {α:Type} (f:α->R Bool):List α->R Bool
 |[]=>.ok true
 |x::r=>(f x).bind fun b=>if b then cS f r else .ok false
noncomputable def sZ {α:Type} (f:α->R Bool):List α->R Bool
 |[]=>.ok false
 |x::r=>(f x).bind fun b=>if b then .ok true else sZ f r
noncomputable abbrev d9:=List (Str×V)
noncomputable def d9.get (σ:d9) (x:Str):Option V:=List.lookup x σ
noncomputable def d9.set:d9->Str->V->d9
 |[],x,v=>[(x,v)]
 |(y,u)::r,x,v=>if x=y then (x,v)::r else (y,u)::d9.set r x v
structure G where
 const:Str->Option V
 fn:Str->Option (List V->R V)
 low:Str->Option (List V->R V)
 lam:Bool
noncomputable def G.lows (g:G):G:={g with fn:=g.low,lam:=false}
noncomputable def V.open? :V->Bool
 | .olist _=>true
 |_=>false
noncomputable def V.freeze:V->V
 | .olist vs=>.list vs
 |v=>v
noncomputable def qO:Const->R V
 | .none=>.ok .none
 | .bool b=>.ok (.bool b)
 | .int i=>.ok (.int i)
 | .str s=>.ok (.str s.cps.toList)
 |_=>.stuck
noncomputable def B3:V->R Bool
 | .none=>.ok false
 | .bool b=>.ok b
 | .int i=>.ok (i !=0)
 | .str x=>if x.length<=g9 then .ok (!x.isEmpty) else .stuck
 | .list vs=>if vs.length<=g9 then .ok (!vs.isEmpty) else .stuck
 |_=>.stuck
noncomputable def small (i:Int):Bool:=decide (i.natAbs<2 ^4096)
section
variable {β:Type}
noncomputable def strM (f:b9->R β):V->R β
 | .str x=>f x
 |_=>.stuck
noncomputable def intM (f:Int->R β):V->R β
 | .int i=>f i
 |_=>.stuck
noncomputable def AV (f:List V->R β):V->R β
 | .list x=>f x
 |_=>.stuck
noncomputable def SQ (f:List V->R β):V->R β
 | .tup x=>f x
 |_=>.stuck
noncomputable def seqM (f:List V->R β):V->R β
 | .list x=>f x
 | .olist x=>f x
 |_=>.stuck
noncomputable def dictM (f:List (b9×Int)->R β):V->R β
 | .dict x=>f x
 |_=>.stuck
noncomputable def arg0 (r:R β):List V->R β
 |[]=>r
 |_=>.stuck
noncomputable def arg1 (f:V->R β):List V->R β
 |[v]=>f v
 |_=>.stuck
noncomputable def arg2 (f:V->V->R β):List V->R β
 |[u,v]=>f u v
 |_=>.stuck
noncomputable def oneM (x:b9) (f:Nat->R β):R β:=match x with
 |[c]=>f c
 |_=>.stuck
noncomputable def needR {α:Type} (o:Option α) (f:α->R β):R β:=match o with
 |some a=>f a
 |none=>.stuck
end
noncomputable def SR (x y:V):R V:=match x with
 | .int a=>intM (fun b=>.ok (.int (a+b))) y
 | .str x=>strM (fun y=>if x.length+y.length<=g9 then .ok (.str (x++y)) else .stuck) y
 | .list x=>AV (fun y=>if x.length+y.length<=g9 then .ok (.list (x++y)) else .stuck) y
 |_=>.stuck
noncomputable def R1 (op:Operator) (x y:V):R V:=match op with
 | .Add=>SR x y
 | .Sub=>intM (fun a=>intM (fun b=>.ok (.int (a-b))) y) x
 | .Mult=>intM (fun a=>intM (fun b=>if small a &&small b then .ok (.int (a*b)) else .stuck) y) x
 | .Pow=>intM (fun a=>intM (fun b=>if 0<=b/\b<=1000000/\a.natAbs<2 ^64 then .ok (.int (a ^b.toNat)) else .stuck) y) x
 | .Mod=>intM (fun a=>intM (fun b=>if 0<b then .ok (.int (a%b)) else .stuck) y) x
 | .FloorDiv=>intM (fun a=>intM (fun b=>if 0<b/\small b=true then .ok (.int (a/b)) else .stuck) y) x
 |_=>.stuck
noncomputable def OS:V->R V:=intM fun i=>.ok (.int (-i))
noncomputable def M1:List V->Option (List b9)
 |[]=>some []
 | .str x::r=>(M1 r).map (x:: ·)
 |_::_=>none
noncomputable def J4:List V->Option (List Int)
 |[]=>some []
 | .int x::r=>(J4 r).map (x:: ·)
 |_::_=>none
noncomputable def U6:List V->Option (List Bool)
 |[]=>some []
 | .bool x::r=>(U6 r).map (x:: ·)
 |_::_=>none
mutual
noncomputable def RZ:V->Prop
 | .none| .bool _| .int _| .str _| .bytes _=>True
 | .tup vs=>Dats vs
 | .list vs=>Dats vs
 |_=>False
noncomputable def Dats:List V->Prop
 |[]=>True
 |v::r=>RZ v/\Dats r
end
mutual
noncomputable def gR:V->Nat
 | .tup vs=>deepVs vs+1
 | .list vs=>deepVs vs+1
 |_=>0
noncomputable def deepVs:List V->Nat
 |[]=>0
 |v::r=>max (gR v) (deepVs r)
end
open Classical in
noncomputable def WU (x y:V):R Bool:=match x with
 | .int a=>intM (fun b=>.ok (a==b)) y
 | .str a=>strM (fun b=>.ok (a==b)) y
 | .list a=>AV (fun b=>match b with|[]=>if a.length<=g9 then .ok a.isEmpty else .stuck|_=>.stuck) y
 | .tup a=>SQ (fun b=>if a=b/\Dats a/\deepVs a<=20 then .ok true else .stuck) y
 |_=>.stuck
noncomputable def Z7 (x:V) (ys:List V):R Bool:=
 if ys.length<=g9 then (match x with
  | .str a=>needR (M1 ys) fun l=>.ok (l.contains a)
  | .int a=>needR (J4 ys) fun l=>.ok (l.contains a)
  |_=>.stuck)
 else .stuck
noncomputable def WV (x y:V):R Bool:=match y with
 | .str y=>strM (fun x=>oneM x fun c=>if y.length<=g9 then .ok (y.contains c) else .stuck) x
 | .list ys=>Z7 x ys
 | .olist ys=>Z7 x ys
 | .tup ys=>Z7 x ys
 | .dict kvs=>strM (fun a=>.ok ((kvs.lookup a).isSome)) x
 |_=>.stuck
noncomputable def qP:V->Bool
 | .none=>true
 |_=>false
noncomputable def WW (x y:V):R Bool:=match y with
 | .none=>.ok (qP x)
 | .bool b=>(match x with| .bool a=>.ok (a==b)|_=>.stuck)
 |_=>.stuck
noncomputable def JZ (f:Int->Int->Bool) (x y:V):R Bool:=intM (fun a=>intM (fun b=>.ok (f a b)) y) x
noncomputable def w9 (op:CmpOp) (x y:V):R Bool:=match op with
 | .Eq=>WU x y
 | .NotEq=>(WU x y).map (!·)
 | .Lt=>JZ (fun a b=>decide (a<b)) x y
 | .LtE=>JZ (fun a b=>decide (a<=b)) x y
 | .Gt=>JZ (fun a b=>decide (b<a)) x y
 | .GtE=>JZ (fun a b=>decide (b<=a)) x y
 | .In=>WV x y
 | .NotIn=>(WV x y).map (!·)
 | .Is=>WW x y
 | .IsNot=>(WW x y).map (!·)
noncomputable def G3 (i:Int) (n:Nat):Option Nat:=
 if 0<=i then (if i<n then some i.toNat else none) else (if -(n:Int)<=i then some (i+n).toNat else none)
noncomputable def ED (vs:List V) (i:Int):R V:=if vs.length<=g9 then needR (G3 i vs.length) fun k=>needR vs[k]? .ok else .stuck
noncomputable def P2 (x i:V):R V:=match x with
 | .str x=>intM (fun i=>if x.length<=g9 then needR (G3 i x.length) fun k=>.ok (.str [x.getD k 0]) else .stuck) i
 | .list vs=>intM (ED vs) i
 | .olist vs=>intM (ED vs) i
 | .tup vs=>intM (ED vs) i
 | .bytes b=>intM (fun i=>if b.length<=g9/\0<=i/\i<b.length then .ok (.int (b.getD i.toNat 0)) else .stuck) i
 | .dict kvs=>strM (fun a=>needR (kvs.lookup a) fun i=>.ok (.int i)) i
 |_=>.stuck
noncomputable def P5 (i:Int) (n:Nat):Nat:=
 if i<0 then (i+n).toNat else min i.toNat n
noncomputable def AW {α:Type} (x:List α) (lo hi:Nat):List α:=(x.take hi).drop lo
noncomputable def j9 {α:Type} (x:List α) (lo hi:Option Int):List α:=
 AW x (match lo with|some i=>P5 i x.length|none=>0) (match hi with|some i=>P5 i x.length|none=>x.length)
noncomputable def R2:Option V->R (Option Int)
 |none=>.ok none
 |some (.int i)=>if i.natAbs<2 ^40 then .ok (some i) else .stuck
 |some _=>.stuck
noncomputable def wU (v:V) (lo hi:Option Int):R V:=
 match v with
 | .str x=>if x.length<=g9 then .ok (.str (j9 x lo hi)) else .stuck
 |_=>.stuck
noncomputable def j4 (c:Nat):Bool:=c==32
noncomputable def i6 (x:b9):b9:=((x.dropWhile j4).reverse.dropWhile j4).reverse
noncomputable def cH (c:Nat):Nat:=if 65<=c/\c<=90 then c+32 else c
noncomputable def X4 (c:Nat):Bool:=decide (65<=c/\c<=90)||decide (97<=c/\c<=122)
noncomputable def j6 (x:b9):Bool:=x.all (fun c=>decide (c<128))
noncomputable def J5 (c:Nat):b9->Nat
 |[]=>0
 |d::r=>if d=c then 0 else J5 c r+1
noncomputable def X5 (l:List b9):Nat:=(l.map List.length).sum
noncomputable def w4 (m:Str) (o:V) (as:List V):R V:=
 if m="strip" then strM (fun x=>arg1 (strM fun y=>if y=[32]/\x.length<=g9 then .ok (.str (i6 x)) else .stuck) as) o
 else if m="lower" then strM (fun x=>arg0 (if x.length<=g9/\j6 x then .ok (.str (x.map cH)) else .stuck) as) o
 else if m="isalpha" then strM (fun x=>arg0 (oneM x fun c=>if c<128 then .ok (.bool (X4 c)) else .stuck) as) o
 else if m="find" then strM (fun x=>arg1 (strM fun y=>oneM y fun c=>if x.length<=g9 then .ok (.int (if x.contains c then (J5 c x:Int) else -1)) else .stuck) as) o
 else if m="index" then strM (fun x=>arg1 (strM fun y=>oneM y fun c=>if x.length<=g9/\x.contains c then .ok (.int (J5 c x:Int)) else .stuck) as) o
 else if m="join" then strM (fun x=>arg1 (seqM fun vs=>needR (M1 vs) fun l=>if x=[]/\X5 l<=g9/\l.length<=g9 then .ok (.str l.flatten) else .stuck) as) o
 else if m="get" then dictM (fun kvs=>arg2 (fun a d=>strM (fun a=>intM (fun d=>.ok (.int ((kvs.lookup a).getD d))) d) a) as) o
 else .stuck
noncomputable def wV:List Int->Int
 |[]=>0
 |x::r=>r.foldl max x
noncomputable def KA (n:Nat):R V:=if n<=g9 then .ok (.int n) else .stuck
noncomputable def SS:List V->R V:=arg1 fun v=>match v with
 | .str x=>KA x.length
 | .list x=>KA x.length
 | .olist x=>KA x.length
 | .bytes x=>KA x.length
 |_=>.stuck
noncomputable def ST:List V->R V:=arg1 (strM fun x=>oneM x fun c=>.ok (.int c))
noncomputable def SU:List V->R V:=arg1 (intM fun i=>if 0<=i/\i<=1114111 then .ok (.str [i.toNat]) else .stuck)
noncomputable def wW:List V->R V:=arg1 (seqM fun vs=>needR (J4 vs) fun l=>if l.length<=g9/\l.all (fun n=>decide (0<=n/\n<256)) then .ok (.bytes l) else .stuck)
noncomputable def NI:List V->R V:=arg1 (strM fun x=>if x.length<=g9 then .ok (.list (x.map fun c=>.str [c])) else .stuck)
noncomputable def SV:List V->R V:=arg2 fun a b=>intM (fun a=>intM (fun b=>.ok (.int (min a b))) b) a
noncomputable def OT:List V->R V:=arg1 (seqM fun vs=>needR (J4 vs) fun l=>if l≠[] then .ok (.int (wV l)) else .stuck)
noncomputable def OU:List V->R V:=arg1 (AV fun vs=>needR (J4 vs) fun l=>.ok (.int l.sum))
noncomputable def OV:List V->R V:=arg1 (AV fun vs=>needR (U6 vs) fun l=>.ok (.bool (l.all id)))
noncomputable def jU:List V->R V:=arg1 (intM fun n=>if n.natAbs<=g9 then .ok (.rng n) else .stuck)
noncomputable def SW:List V->R V:=arg1 (intM fun n=>.ok (.int (if n<0 then -n else n)))
noncomputable def SX:List V->R V:=arg1 fun v=>match v with
 | .bool b=>.ok (.int (if b then 1 else 0))
 |_=>.stuck
noncomputable def fJ (f:Str) (as:List V):R V:=
 if f="len" then SS as
 else if f="ord" then ST as
 else if f="chr" then SU as
 else if f="bytes" then wW as
 else if f="list" then NI as
 else if f="min" then SV as
 else if f="max" then OT as
 else if f="sum" then OU as
 else if f="all" then OV as
 else if f="range" then jU as
 else if f="abs" then SW as
 else if f="int" then SX as
 else .stuck
noncomputable def aH (g:G) (f:Str) (as:List V):R V:=
 match g.fn f with
 |some F=>if as.any V.open? then .stuck else F as
 |none=>if m9.contains f then fJ f as else .stuck
noncomputable def s9:V->R (List V)
 | .str x=>if x.length<=g9 then .ok (x.map fun c=>.str [c]) else .stuck
 | .list vs=>if vs.length<=g9 then .ok vs else .stuck
 | .rng n=>if n.natAbs<=g9 then .ok ((List.range n.toNat).map fun(k:Nat)=>V.int (k:Int)) else .stuck
 |_=>.stuck
noncomputable def s0 (g:G) (sc:Scope) (σ:d9) (x:Str):R V:=
 if x="__debug__"\/x="__classdict__" then .stuck else
 match sc.names.lookup x with
 |some .local|some .cell|some .free=>(match σ.get x with|some v=>.ok v|none=>.stuck)
 |some .globalImplicit=>(match g.const x with|some v=>.ok v|none=>.stuck)
 |_=>.stuck
noncomputable def OW:Expr->Option Const
 | .Constant c _ _=>some c
 |_=>none
noncomputable def SY:Const->Option Str
 | .str k=>some k
 |_=>none
noncomputable def SZ:Const->Option Int
 | .int k=>some k
 |_=>none
noncomputable def wX:Expr->Option (Expr×List Expr×Pos)
 | .Call fn as kws p=>(match kws with|[]=>some (fn,as,p)|_=>none)
 |_=>none
noncomputable def EE:Expr->Option (Expr×Str×Pos)
 | .Attribute o m ap=>some (o,m,ap)
 |_=>none
noncomputable def EF:Option Expr->Option Str
 |some e=>(OW e).bind SY
 |none=>none
noncomputable def EG (e:Expr):Option Int:=(OW e).bind SZ
noncomputable def bT:List (Option Expr)->List Expr->Option (List (b9×Int))
 |[],[]=>some []
 |k::ks,v::vs=>(EF k).bind fun k=>(EG v).bind fun i=>(bT ks vs).map ((k.cps.toList,i):: ·)
 |_,_=>none
noncomputable def TA {β:Type} (f:V->V->R β):V->R β
 | .tup [a,b]=>f a b
 |_=>.stuck
noncomputable def X6:Expr->Option Str
 | .Name x _=>some x
 |_=>none
noncomputable def NJ:List Expr->Option Expr
 |[a]=>some a
 |_=>none
noncomputable def wY:List Expr->Option (Expr×Expr)
 |[a,b]=>some (a,b)
 |_=>none
noncomputable def yT (l:List Expr):Option (Str×Str):=(wY l).bind fun q=>(X6 q.1).bind fun x=>(X6 q.2).map fun y=>(x,y)
noncomputable def tA:Expr->Option (Str ⊕ List Expr)
 | .Name x _=>some (.inl x)
 | .Tuple ts _ _=>some (.inr ts)
 |_=>none
noncomputable def TB (σ:d9) (v:V):Str ⊕ List Expr->R d9
 | .inl x=>.ok (σ.set x v)
 | .inr ts=>needR (yT ts) fun q=>TA (fun a b=>.ok ((σ.set q.1 a).set q.2 b)) v
noncomputable def t7 (σ:d9) (t:Expr) (v:V):R d9:=needR (tA t) (TB σ v)
noncomputable def i5 (σ:d9) (sc csc:Scope):d9:=
 σ.filter fun p=>csc.names.lookup p.1==some .free &&(sc.names.lookup p.1==some .cell||sc.names.lookup p.1==some .free)
noncomputable def u6 (sc csc:Scope):Bool:=
 csc.names.all (fun p=>p.1 !=("_law_told":Str) &&(p.2 !=.cell &&(p.2 !=.local||csc.names.lookup p.1==some .local) &&(p.2 !=.free||sc.names.lookup p.1==some .cell||sc.names.lookup p.1==some .free))) &&csc.kind==.function
noncomputable def aJ (a:Arguments) (lsc:Scope):Bool:=
 a.posonlyargs.isEmpty &&a.args.isEmpty &&a.vararg.isNone &&a.kwonlyargs.isEmpty &&a.kw_defaults.isEmpty &&a.kwarg.isNone &&a.defaults.isEmpty && !lsc.isGenerator && !lsc.isCoroutine &&lsc.names.all (fun p=>p.2 !=.local)
noncomputable def X7 (csc:Scope) (t:Expr):Bool:=(tA t).any fun
 | .inl x=>csc.names.lookup x==some .local
 | .inr ts=>(match yT ts with
  |some q=>csc.names.lookup q.1==some .local &&csc.names.lookup q.2==some .local &&q.1 !=q.2
  |none=>false)
noncomputable def l7 (v:V):R Bool:=match v with| .bool b=>.ok b|_=>.stuck
noncomputable def R3:Expr->Bool
 | .Call (.Name _ _) [] [] _=>false
 |_=>true
noncomputable def Q2:Expr->Bool
 | .Starred .. =>true
 |_=>false
noncomputable def aK (sc:Scope) (f:Str) (as:List Expr):Bool:=sc.names.lookup f==some .globalImplicit &&f !="__debug__" && !(as.any Q2)
noncomputable def iM (v:V):R V:=if v.open? then .stuck else .ok v
noncomputable def N2 (vs:List V):R (List V):=if vs.any V.open? ||decide (g9<vs.length) then .stuck else .ok vs
section
variable (E T:Expr->R V)
noncomputable def AX (l:Expr) (op:CmpOp) (r:Expr):R V:=if behindInMarks op r=true then .stuck else (E l).bind fun a=>(E r).bind fun b=>(w9 op a b).map .bool
noncomputable def cmp2 (l:Expr) (G8 I4:CmpOp) (Z5 aG:Expr):R V:=
 if lastMarks [G8,I4] [Z5,aG]=true then .stuck else (E l).bind fun a=>(E Z5).bind fun b=>(w9 G8 a b).bind fun c=>if c then (E aG).bind fun d=>(w9 I4 b d).map .bool else .ok (.bool false)
noncomputable def nM:Option Expr->R (Option V)
 |none=>.ok none
 |some e=>(E e).map some
noncomputable def jV (o:V) (lo hi:Option Expr):R V:=
 (nM E lo).bind fun lv=>(nM E hi).bind fun hv=>(R2 lv).bind fun a=>(R2 hv).bind fun b=>wU o a b
end
noncomputable def F7 (E T:d9->Expr->R V) (σ:d9) (t elt:Expr) (ifs:List Expr) (v:V):R (Option V):=
 (t7 σ t v).bind fun σ'=>(cS (fun x=>((T σ' x).bind l7).calm) ifs).bind fun c=>
  if c then ((E σ' elt).bind iM).calm.map some else .ok none
noncomputable def D0 (r:R V):R V:=
 match r with
 | .stuck=>.stuck
 | .ok v=>if v.open? then .stuck else .ok (.tup [.str [108,101,116],v])
 | .err l=>.ok (.tup [.str [114,101,102,117,115,101,100],.int l])
noncomputable def oR:List Expr->Option (Arguments×Expr×Scope)
 |[a]=>(match a with| .Lambda as body lsc _=>some (as,body,lsc)|_=>none)
 |_=>none
noncomputable def X8:Expr->Option (Option Expr×Option Expr×Option Expr)
 | .Slice lo hi st _=>some (lo,hi,st)
 |_=>none
noncomputable def TC (E:Expr->R V) (l:Expr) (ops:List CmpOp) (rs:List Expr):R V:=match ops with
 |[op]=>(match rs with|[r]=>AX E l op r|_=>.stuck)
 |[G8,I4]=>(match rs with|[Z5,aG]=>cmp2 E l G8 I4 Z5 aG|_=>.stuck)
 |_=>.stuck
noncomputable def TD (E:Expr->R V) (o:Expr) (m:Str) (as:List Expr):R V:=match as with
 |[]=>(E o).calm.bind fun ov=>w4 m ov []
 |[a]=>(E o).calm.bind fun ov=>(E a).calm.bind fun v=>w4 m ov [v]
 |[a,b]=>(E o).calm.bind fun ov=>(E a).calm.bind fun v=>(E b).calm.bind fun u=>w4 m ov [v,u]
 |_=>.stuck
noncomputable def tB (g:G) (E:Expr->R V) (told:Scope->Expr->R V) (sc:Scope) (fn:Expr) (as:List Expr) (p:Pos):R V:=match fn with
 | .Attribute o m ap=>if ap.endLine=p.line/\R3 o=true then TD E o m as else .stuck
 | .Name f _=>(match oR as with
  |some (la,body,lsc)=>if f="_law_told"/\g.lam=true/\sc.names.lookup f=some .globalImplicit/\aJ la lsc=true/\u6 sc lsc=true then told lsc body else .stuck
  |none=>if aK sc f as=true/\((g.fn f).isSome||m9.contains f)=true then (C0 E as).bind fun vs=>aH g f vs else .stuck)
 |_=>.stuck
noncomputable def EH (E:Expr->R V) (v i:Expr):R V:=match v with
 | .Name x xp=>(match X8 i with
  |some (lo,hi,st)=>(match st with
   |none=>(E (.Name x xp)).bind fun o=>jV E o lo hi
   |some _=>.stuck)
  |none=>(E (.Name x xp)).bind fun o=>(E i).bind fun k=>P2 o k)
 |_=>.stuck
noncomputable def ev (g:G):Nat->Bool->Scope->d9->Expr->R V
 |0,_,_,_,_=>.stuck
 |n+1,true,sc,σ,e=>
  match e with
  | .UnaryOp op x _=>(match op with| .Not=>((ev g n true sc σ x).bind l7).map fun b=>.bool !b|_=>.stuck)
  | .BoolOp op vs _=>(match op with
   | .And=>(cS (fun x=>(ev g n true sc σ x).bind l7) vs).map .bool
   | .Or=>(sZ (fun x=>(ev g n true sc σ x).bind l7) vs).map .bool)
  | .Compare l ops rs _=>TC (ev g n false sc σ) l ops rs
  | .IfExp .. =>.stuck
  |_=>(ev g n false sc σ e).bind fun v=>(B3 v).map .bool
 |n+1,false,sc,σ,e=>
  match e with
  | .Constant c _ _=>qO c
  | .Name x _=>s0 g sc σ x
  | .BinOp l op r _=>(ev g n false sc σ l).bind fun a=>(ev g n false sc σ r).bind fun b=>R1 op a b
  | .UnaryOp op x _=>(match op with
   | .Not=>(ev g n false sc σ x).bind fun a=>(B3 a).bind fun b=>.ok (.bool !b)
   | .USub=>(ev g n false sc σ x).bind OS
   |_=>.stuck)
  | .IfExp t b o _=>((ev g n true sc σ t).bind l7).bind fun c=>if c then ev g n false sc σ b else ev g n false sc σ o
  | .BoolOp op vs p=>(match vs with
   |[]=>.stuck
   |[x]=>ev g n false sc σ x
   |x::y::r=>(match op with
    | .And=>(ev g n false sc σ x).bind fun a=>(B3 a).bind fun t=>if t then ev g n false sc σ (.BoolOp .And (y::r) p) else .ok a
    | .Or=>(ev g n false sc σ x).bind fun a=>(B3 a).bind fun t=>if t then .ok a else ev g n false sc σ (.BoolOp .Or (y::r) p)))
  | .Compare l ops rs _=>TC (ev g n false sc σ) l ops rs
  | .Tuple es _ _=>((C0 (ev g n false sc σ) es).bind N2).map .tup
  | .List es _=>((C0 (ev g n false sc σ) es).bind N2).map .list
  | .Dict ks vs _=>needR (bT ks vs) fun kvs=>if 1<=kvs.length/\kvs.length<=15/\(kvs.map (·.1)).Nodup then .ok (.dict kvs) else .stuck
  | .Subscript v i _=>EH (ev g n false sc σ) v i
  | .Call fn as kws p=>(match kws with
   |[]=>tB g (ev g n false sc σ) (fun lsc body=>D0 (ev g.lows n false lsc (i5 σ sc lsc) body)) sc fn as p
   |_=>.stuck)
  | .ListComp elt gens csc _=>(match gens with
   |[⟨t,it,ifs,a⟩]=>if u6 sc csc &&X7 csc t then (if a=0 then
    (ev g n false sc σ it).bind fun iv=>(s9 iv).bind fun items=>
     (D5 (F7 (ev g n false csc) (ev g n true csc) (i5 σ sc csc) t elt ifs) items).map .list else .stuck) else .stuck
   |_=>.stuck)
  |_=>.stuck
set_option genInjectivity true in
inductive Fl where
 |next
 |brk
 |ret (v:V)
noncomputable def TE (k:d9->R (Fl×d9)):Fl×d9->R (Fl×d9)
 |(.next,σ')=>k σ'
 |(.brk,σ')=>.ok (.brk,σ')
 |(.ret v,σ')=>.ok (.ret v,σ')
noncomputable def D2 {α:Type} (f:d9->α->R (Fl×d9)):d9->List α->R (Fl×d9)
 |σ,[]=>.ok (.next,σ)
 |σ,x::r=>(f σ x).bind (TE fun σ'=>D2 f σ' r)
noncomputable def oS (k:d9->R (Fl×d9)):Fl×d9->R (Fl×d9)
 |(.next,σ')=>k σ'
 |(.brk,σ')=>.ok (.next,σ')
 |(.ret v,σ')=>.ok (.ret v,σ')
noncomputable def tC (f:d9->V->R (Fl×d9)):d9->List V->R (Fl×d9)
 |σ,[]=>.ok (.next,σ)
 |σ,x::r=>(f σ x).bind (oS fun σ'=>tC f σ' r)
noncomputable def O2:Expr->Bool
 | .List .. =>true
 |_=>false
noncomputable def E8 (opn:Option Str) (σ:d9) (x:Str) (e:Expr) (v:V):R d9:=
 if opn=some x then (match v with| .list vs=>if O2 e then .ok (σ.set x (.olist vs)) else .stuck|_=>.stuck)
 else if v.open? then .stuck else .ok (σ.set x v)
noncomputable def G4:List Expr->Option (List Str)
 |[]=>some []
 |e::r=>(X6 e).bind fun x=>(G4 r).map (x:: ·)
noncomputable def oU:V->Bool
 | .none| .bool _| .int _| .str _| .bytes _=>true
 |_=>false
noncomputable def N3:d9->List Str->List V->R d9
 |σ,[],[]=>.ok σ
 |σ,x::xs,v::vs=>if v.open? then .stuck else N3 (σ.set x v) xs vs
 |_,_,_=>.stuck
noncomputable def U7 (opn:Option Str) (σ:d9):List Str->List Expr->List V->R d9
 |x::xs,e::es,v::vs=>
  if opn=some x then (match v with
   | .list ds=>if O2 e &&vs.all oU then N3 (σ.set x (.olist ds)) xs vs else .stuck
   |_=>.stuck)
  else if (x::xs).any (fun y=>opn==some y) then .stuck else N3 σ (x::xs) (v::vs)
 |_,_,_=>.stuck
noncomputable def h7 (sc:Scope) (x:Str):Bool:=sc.names.lookup x==some .local||sc.names.lookup x==some .cell
noncomputable def dQ (sc:Scope) (opn:Option Str) (t:Expr):Bool:=(tA t).any fun
 | .inl x=>h7 sc x &&opn !=some x
 | .inr ts=>(match yT ts with
  |some q=>h7 sc q.1 &&h7 sc q.2 &&opn !=some q.1 &&opn !=some q.2
  |none=>false)
noncomputable def aM (es:List Expr):Bool:= !(es.all (constantsAlone 8))||es.all (foldedForSure 8)
noncomputable def X9 (v:V) (vs:List V) (σ:d9) (x:Str):R (Fl×d9):=
 if v.open? ||decide (g9<=vs.length) then .stuck else .ok (.next,σ.set x (.olist (vs++[v])))
noncomputable def oV (v:V) (vs:List V) (σ:d9) (x:Str):R (Fl×d9):=
 if v.open? ||vs.isEmpty||decide (g9<vs.length) then .stuck else .ok (.next,σ.set x (.olist (vs.dropLast++[v])))
noncomputable def WX:V->Option (List V)
 | .olist vs=>some vs
 |_=>none
noncomputable def TF:R V->Option (List V)
 | .ok v=>WX v
 |_=>none
noncomputable def Y0 (r:R V) (k:List V->R (Fl×d9)):R (Fl×d9):=needR (TF r) k
noncomputable def KB (a:V) (v:V) (σ:d9) (x:Str):R (Fl×d9):=intM (fun a=>intM (fun b=>.ok (.next,σ.set x (.int (a+b)))) v) a
noncomputable def KC (v:V):R (Fl×d9):=match v with| .int i=>if i.natAbs<1000000 then .err i else .stuck|_=>.stuck
noncomputable def EI:Expr->Bool
 | .UnaryOp op e _=>(match op with| .USub=>EG e==some 1|_=>false)
 |_=>false
noncomputable def dR:Expr->Bool
 | .ListComp .. =>true
 |_=>false
noncomputable def jB (e:Expr):Option (Str×Str):=(wX e).bind fun q=>(wY q.2.1).bind fun z=>
 (X6 q.1).bind fun f=>(X6 z.1).bind fun l=>(EF (some z.2)).bind fun c=>if c.length<=1000 then some (f,l) else none
noncomputable def yU (e:Expr):Option (Str×Str×Pos×Expr×Pos):=(wX e).bind fun q=>(NJ q.2.1).bind fun a=>
 (EE q.1).bind fun z=>(X6 z.1).map fun x=>(x,z.2.1,z.2.2,a,q.2.2)
noncomputable def assignE (g:G) (opn:Option Str) (sc:Scope) (σ:d9) (E:Expr->R V) (t e:Expr):R (Fl×d9):=match t with
 | .Name x _=>if h7 sc x=true/\(opn=some x->O2 e=true) then (E e).bind fun v=>(E8 opn σ x e v).map fun σ'=>(.next,σ') else .stuck
 | .Tuple ts _ _=>(match e with
  | .Tuple es _ _=>needR (G4 ts) fun xs=>if xs.Nodup/\aM es=true/\xs.all (h7 sc)=true/\xs.length<=8 then (C0 E es).bind fun vs=>(U7 opn σ xs es vs).map fun σ'=>(.next,σ') else .stuck
  |_=>.stuck)
 | .Subscript v i _=>needR (X6 v) fun x=>
   if EI i=true/\dR e=false/\opn=some x/\h7 sc x=true then (E e).bind fun v=>Y0 (s0 g sc σ x) fun vs=>oV v vs σ x else .stuck
 |_=>.stuck
noncomputable def ex (g:G) (opn:Option Str) (sc:Scope):Nat->d9->Stmt->R (Fl×d9)
 |0,_,_=>.stuck
 |n+1,σ,s=>
  match s with
  | .Expr e _=>needR (yU e) fun(x,m,ap,a,p)=>
   if m="append"/\opn=some x/\ap.endLine=p.line/\h7 sc x=true then Y0 (s0 g sc σ x) fun vs=>(ev g n false sc σ a).bind fun v=>X9 v vs σ x else .stuck
  | .Assign ts e _=>(match ts with
   |[t]=>assignE g opn sc σ (ev g n false sc σ) t e
   |_=>.stuck)
  | .AugAssign t op e _=>(match op with
   | .Add=>(match t with
    | .Name x xp=>if opn=some x\/h7 sc x=false then .stuck else (ev g n false sc σ (.Name x xp)).bind fun a=>(ev g n false sc σ e).bind fun v=>KB a v σ x
    |_=>.stuck)
   |_=>.stuck)
  | .If t b o _=>((ev g n true sc σ t).bind l7).bind fun c=>if c then D2 (ex g opn sc n) σ b else D2 (ex g opn sc n) σ o
  | .While t b o p=>(match o with
   |[]=>((ev g n true sc σ t).bind l7).bind fun c=>if c then (D2 (ex g opn sc n) σ b).bind (oS fun σ'=>ex g opn sc n σ' (.While t b [] p)) else .ok (.next,σ)
   |_=>.stuck)
  | .For t it b o _=>(match o with
   |[]=>if dQ sc opn t=true then (ev g n false sc σ it).bind fun iv=>(s9 iv).bind fun items=>
    tC (fun σ v=>(t7 σ t v).bind fun σ'=>D2 (ex g opn sc n) σ' b) σ items else .stuck
   |_=>.stuck)
  | .Return e _=>needR e fun e=>(ev g n false sc σ e).map fun v=>(.ret v.freeze,σ)
  | .Raise x c _=>(match c with
   |none=>needR x fun x=>needR (jB x) fun(f,l)=>if f="BadText"/\sc.names.lookup f=some .globalImplicit then (s0 g sc σ l).bind KC else .stuck
   |_=>.stuck)
  | .Break _=>.ok (.brk,σ)
  |_=>.stuck
noncomputable def wZ (g:G) (opn:Option Str) (sc:Scope) (ps:List Str) (body:List Stmt) (n:Nat) (as:List V):R V:=
 if as.length=ps.length then
  (D2 (ex g opn sc n) (ps.zip as) body).bind fun q=>match q with|(.ret v,_)=>.ok v|(.next,_)=>.ok .none|_=>.stuck
 else .stuck
open PySem
theorem qQ (a b:String):(Str.ofString a=Str.ofString b)=(a=b):=by
 refine propext ⟨fun h=> ?_,fun h=>h▸rfl⟩;rw[Str.ofString_eq_toList,Str.ofString_eq_toList] at h;have h1:(a.toList.map Char.toNat).toArray=(b.toList.map Char.toNat).toArray:=(Str.mk.injEq _ _).mp h;have h2:a.toList.map Char.toNat=b.toList.map Char.toNat:=by simpa using h1
 have h3:a.toList=b.toList:=by
  refine(List.map_inj_right fun c d e=> ?_).mp h2;exact Char.toNat_inj.mp e
 exact String.toList_inj.mp h3
section
variable {α β:Type} (a:α) (f:α->R β) (h:α->β) (l:Int)
theorem AY (x:α) (r:List α):C0 f (x::r)=(f x).bind fun y=>(C0 f r).map (y:: ·):=rfl
theorem fL (p:α->R Bool) (x:α) (r:List α):cS p (x::r)=(p x).bind fun b=>if b then cS p r else .ok false:=rfl
theorem AZ (p:α->R Bool) (x:α) (r:List α):sZ p (x::r)=(p x).bind fun b=>if b then .ok true else sZ p r:=rfl
end
section
variable (a b:Int) (x y:b9) (c:Nat) (us vs:List V)
theorem cT:R1 .Add (.int a) (.int b)=.ok (.int (a+b)):=rfl
theorem fM:R1 .Sub (.int a) (.int b)=.ok (.int (a-b)):=rfl
theorem OX:R1 .Mult (.int a) (.int b)=if small a &&small b then .ok (.int (a*b)) else .stuck:=by unfold R1;simp only[intM]
theorem OY:R1 .Add (.list us) (.list vs)=if us.length+vs.length<=g9 then .ok (.list (us++vs)) else .stuck:=rfl
theorem OZ:R1 .Pow (.int a) (.int b)=if 0<=b/\b<=1000000/\a.natAbs<2 ^64 then .ok (.int (a ^b.toNat)) else .stuck:=rfl
theorem yV:w9 .Eq (.int a) (.int b)=.ok (a==b):=rfl
theorem dS:w9 .Eq (.str x) (.str y)=.ok (x==y):=rfl
theorem TH:w9 .Eq (.list us) (.list [])=if us.length<=g9 then .ok us.isEmpty else .stuck:=rfl
theorem EJ:w9 .NotEq (.int a) (.int b)=.ok (!(a==b)):=rfl
theorem NK:w9 .NotEq (.str x) (.str y)=.ok (!(x==y)):=rfl
theorem TI:w9 .NotEq (.list us) (.list [])=if us.length<=g9 then .ok (!us.isEmpty) else .stuck:=by
 show(if us.length<=g9 then R.ok us.isEmpty else .stuck).map (!·)=_;split<;>rfl
theorem NL (h:Dats us) (h':deepVs us<=20):w9 .Eq (.tup us) (.tup us)=.ok true:=if_pos ⟨rfl,h,h'⟩
theorem NM (h:Dats us) (h':deepVs us<=20):w9 .NotEq (.tup us) (.tup us)=.ok false:=congrArg (R.map (!·)) (NL us h h')
theorem gS:w9 .Lt (.int a) (.int b)=.ok (decide (a<b)):=rfl
theorem NN:w9 .LtE (.int a) (.int b)=.ok (decide (a<=b)):=rfl
theorem NO:w9 .Gt (.int a) (.int b)=.ok (decide (b<a)):=rfl
theorem NP:w9 .GtE (.int a) (.int b)=.ok (decide (b<=a)):=rfl
theorem TK:w9 .In (.str [c]) (.str y)=if y.length<=g9 then .ok (y.contains c) else .stuck:=rfl
theorem EK:w9 .NotIn (.str [c]) (.str y)=if y.length<=g9 then .ok (!y.contains c) else .stuck:=by
 show(if y.length<=g9 then R.ok (y.contains c) else .stuck).map (!·)=_;split<;>rfl
theorem PA (v:V):w9 .In v (.list us)=Z7 v us:=by
 rcases v with _|_|_|(_|⟨c,_|_⟩)|_|_|_|_|_|_<;>rfl
theorem WY (v:V):w9 .In v (.olist us)=Z7 v us:=by
 rcases v with _|_|_|(_|⟨c,_|_⟩)|_|_|_|_|_|_<;>rfl
theorem WZ (v:V):w9 .In v (.tup us)=Z7 v us:=by
 rcases v with _|_|_|(_|⟨c,_|_⟩)|_|_|_|_|_|_<;>rfl
theorem yW (v:V):w9 .NotIn v (.list us)=(Z7 v us).map (!·):=by rw[<-PA];rfl
theorem XB (kvs:List (b9×Int)):w9 .In (.str x) (.dict kvs)=.ok ((kvs.lookup x).isSome):=by
 rcases x with _|⟨c,_|_⟩<;>rfl
theorem KD (kvs:List (b9×Int)):w9 .NotIn (.str x) (.dict kvs)=.ok (!(kvs.lookup x).isSome):=by
 rcases x with _|⟨c,_|_⟩<;>rfl
theorem T8:w9 .Is .none .none=.ok true:=rfl
theorem jW:w9 .Is (.str x) .none=.ok false:=rfl
theorem gT:w9 .Is (.list us) .none=.ok false:=rfl
theorem xA:w9 .Is (.int a) .none=.ok false:=rfl
theorem yX (p q:Bool):w9 .Is (.bool p) (.bool q)=.ok (p==q):=rfl
theorem cU:B3 .none=.ok false:=rfl
theorem N4 (p:Bool):B3 (.bool p)=.ok p:=rfl
theorem xB:B3 (.list us)=if us.length<=g9 then .ok (!us.isEmpty) else .stuck:=rfl
theorem NQ:P2 (.str x) (.int a)=if x.length<=g9 then needR (G3 a x.length) (fun k=>.ok (.str [x.getD k 0])) else .stuck:=rfl
end
theorem no {α:Type} {x:α} {P:Prop} (h:none=some x):P:=by injection h
theorem tD {r:R V} {vs:List V} (h:TF r=some vs):r=.ok (.olist vs):=by
 cases r with
 |ok v=>cases v<;>first|exact congrArg (fun vs=>R.ok (V.olist vs)) (Option.some.inj h)|exact no h
 |_=>exact no h
theorem VU {P:Prop} (h:false=true):P:=Bool.noConfusion h
noncomputable def XD (x:Str) (e:Expr):Prop:= ∃p,e=.Name x p
theorem H0 {e:Expr} {x:Str} (h:X6 e=some x):XD x e:=by
 cases e<;>first|exact⟨_,congrArg (Expr.Name · _) (Option.some.inj h)⟩|exact no h
noncomputable def XE (c:Const) (e:Expr):Prop:= ∃j p,e=.Constant c j p
theorem oW {e:Expr} {c:Const} (h:OW e=some c):XE c e:=by
 cases e<;>first|exact⟨_,_,congrArg (Expr.Constant · _ _) (Option.some.inj h)⟩|exact no h
theorem BB {c:Const} {k:Str} (h:SY c=some k):c=.str k:=by
 cases c<;>first|exact congrArg Const.str (Option.some.inj h)|exact no h
theorem BC {c:Const} {k:Int} (h:SZ c=some k):c=.int k:=by
 cases c<;>first|exact congrArg Const.int (Option.some.inj h)|exact no h
theorem jX {e:Option Expr} {x:Str} (h:EF e=some x): ∃j p,e=some (.Constant (.str x) j p):=by
 cases e with
 |none=>exact no h
 |some e=>
  refine e8 (Option.bind_eq_some_iff.mp h) fun c hc h=> ?_;refine C1 (oW hc) fun j p e=> ?_;exact⟨j,p,by rw[e,BB h]⟩
theorem jY {e:Expr} {x:Int} (h:EG e=some x): ∃j p,e=.Constant (.int x) j p:=by
 refine e8 (Option.bind_eq_some_iff.mp h) fun c hc h=> ?_;refine C1 (oW hc) fun j p e=> ?_;exact⟨j,p,by rw[e,BC h]⟩
noncomputable def PB (q:Expr×List Expr×Pos) (e:Expr):Prop:=e=.Call q.1 q.2.1 [] q.2.2
theorem gU {e:Expr} {q:Expr×List Expr×Pos} (h:wX e=some q):PB q e:=by
 cases e with
 |Call fn as kws p=>
  cases kws with
  |cons _ _=>exact no h
  |nil=>cases h;rfl
 |_=>exact no h
noncomputable def PC (q:Expr×Str×Pos) (e:Expr):Prop:=e=.Attribute q.1 q.2.1 q.2.2
theorem tE {e:Expr} {q:Expr×Str×Pos} (h:EE e=some q):PC q e:=by
 cases e<;>first|(cases h;rfl)|exact no h
noncomputable def TL (q:Arguments×Expr×Scope) (as:List Expr):Prop:= ∃lp,as=[.Lambda q.1 q.2.1 q.2.2 lp]
theorem xC {as:List Expr} {q:Arguments×Expr×Scope} (h:oR as=some q):TL q as:=by
 rcases as with _|⟨a,_|_⟩
 ·exact no h
 ·cases a<;>first|exact⟨_,congrArg (fun q:Arguments×Expr×Scope=>[Expr.Lambda q.1 q.2.1 q.2.2 _]) (Option.some.inj h)⟩|exact no h
 ·exact no h
noncomputable def XF (q:Option Expr×Option Expr×Option Expr) (e:Expr):Prop:= ∃p,e=.Slice q.1 q.2.1 q.2.2 p
theorem qR {e:Expr} {q:Option Expr×Option Expr×Option Expr} (h:X8 e=some q):XF q e:=by
 cases e<;>first|exact⟨_,congrArg (fun q:Option Expr×Option Expr×Option Expr=>Expr.Slice q.1 q.2.1 q.2.2 _) (Option.some.inj h)⟩|exact no h
theorem xD {l:List Expr} {a:Expr} (h:NJ l=some a):l=[a]:=by
 rcases l with _|⟨b,_|_⟩
 ·exact no h
 ·exact congrArg (fun a=>[a]) (Option.some.inj h)
 ·exact no h
theorem gV {l:List Expr} {q:Expr×Expr} (h:wY l=some q):l=[q.1,q.2]:=by
 rcases l with _|⟨b,_|⟨c,_|_⟩⟩
 ·exact no h
 ·exact no h
 ·exact congrArg (fun q:Expr×Expr=>[q.1,q.2]) (Option.some.inj h)
 ·exact no h
theorem xE {ts:List Expr} {q:Str×Str} (h:yT ts=some q): ∃p p',ts=[.Name q.1 p,.Name q.2 p']:=by
 refine e8 (Option.bind_eq_some_iff.mp h) fun z hz h=> ?_;refine e8 (Option.bind_eq_some_iff.mp h) fun x hx h=> ?_;refine e8 (Option.map_eq_some_iff.mp h) fun y hy h=> ?_;refine d6 (H0 hx) fun p e=> ?_;refine d6 (H0 hy) fun p' e'=> ?_;exact⟨p,p',(gV hz).trans (by rw[e,e',<-h])⟩
noncomputable def NR (tg:Expr):Prop:=(∃x p,tg=.Name x p)\/(∃es j p,tg=.Tuple es j p)
noncomputable def XG (t:Expr):Str ⊕ List Expr->Prop
 | .inl x=> ∃p,t=.Name x p
 | .inr ts=> ∃j p,t=.Tuple ts j p
theorem jZ {t:Expr} {q:Str ⊕ List Expr} (h:tA t=some q):XG t q:=by
 cases t<;>first|exact no h|(cases h;first|exact⟨_,rfl⟩|exact⟨_,_,rfl⟩)
theorem EL {α:Type} {o:Option α} {f:α->Bool} (h:o.any f=true): ∃a,o=some a:=by
 cases o with
 |none=>exact VU h
 |some a=>exact⟨a,rfl⟩
theorem EM {t:Expr} {f:Str ⊕ List Expr->Bool} (h:(tA t).any f=true):NR t:=by
 refine d6 (EL h) fun q e=> ?_;have:=jZ e;cases q with
 |inl x=>exact .inl ⟨x,this⟩
 |inr ts=>exact .inr ⟨ts,this⟩
theorem dT {e:Expr} {r:List Expr} {xs:List Str} (h:G4 (e::r)=some xs): ∃x p ys,e=.Name x p/\G4 r=some ys/\xs=x::ys:=by
 refine e8 (Option.bind_eq_some_iff.mp h) fun x hx h=> ?_;refine e8 (Option.map_eq_some_iff.mp h) fun ys hy h=> ?_;refine d6 (H0 hx) fun p e=> ?_;exact⟨x,p,ys,e,hy,h.symm⟩
noncomputable def KE (q:Str×Str) (e:Expr):Prop:= ∃fp lp c kk cp p,e=.Call (.Name q.1 fp) [.Name q.2 lp,.Constant (.str c) kk cp] [] p/\c.length<=1000
theorem qS {e:Expr} {q:Str×Str} (h:jB e=some q):KE q e:=by
 refine e8 (Option.bind_eq_some_iff.mp h) fun y hy h=> ?_;refine e8 (Option.bind_eq_some_iff.mp h) fun z hz h=> ?_;refine e8 (Option.bind_eq_some_iff.mp h) fun f hf h=> ?_;refine e8 (Option.bind_eq_some_iff.mp h) fun l hl h=> ?_;refine e8 (Option.bind_eq_some_iff.mp h) fun c hc h=> ?_;refine d6 (H0 hf) fun fp e1=> ?_;refine d6 (H0 hl) fun lp e2=> ?_;refine C1 (jX hc) fun j cp e3=> ?_;by_cases hl:c.length<=1000
 ·rw[if_pos hl] at h;exact⟨fp,lp,c,j,cp,y.2.2,(gU hy).trans (by rw[e1,gV hz,e2,Option.some.inj e3,<-Option.some.inj h]),hl⟩
 ·rw[if_neg hl] at h;exact no h
noncomputable def TM (r:Str×Str×Pos×Expr×Pos) (e:Expr):Prop:= ∃xp,e=.Call (.Attribute (.Name r.1 xp) r.2.1 r.2.2.1) [r.2.2.2.1] [] r.2.2.2.2
theorem xF {e:Expr} {r:Str×Str×Pos×Expr×Pos} (h:yU e=some r):TM r e:=by
 refine e8 (Option.bind_eq_some_iff.mp h) fun q hq h=> ?_;refine e8 (Option.bind_eq_some_iff.mp h) fun a ha h=> ?_;refine e8 (Option.bind_eq_some_iff.mp h) fun z hz h=> ?_;refine e8 (Option.map_eq_some_iff.mp h) fun x hx h=> ?_;refine d6 (H0 hx) fun xp e1=> ?_;subst h;exact⟨xp,(gU hq).trans (by rw[tE hz,xD ha,e1])⟩
noncomputable def XH (e:Expr):Prop:= ∃j p q,e=.UnaryOp .USub (.Constant (.int 1) j p) q
theorem KF {e:Expr} (h:EI e=true):XH e:=by
 cases e with
 |UnaryOp op e q=>cases op with
  |USub=>
   refine C1 (jY (eq_of_beq h)) fun j p e=> ?_;exact⟨j,p,q,by rw[e]⟩
  |_=>exact VU h
 |_=>exact VU h
theorem KG {β:Type} {f:V->V->R β} {v:V} (h:TA f v≠.stuck): ∃a b,v=.tup [a,b]:=by
 cases v with
 |tup vs=>rcases vs with _|⟨a,_|⟨b,_|_⟩⟩<;>first|exact⟨_,_,rfl⟩|exact absurd rfl h
 |_=>exact absurd rfl h
theorem u7 {α β:Type} {o:Option α} {f:α->R β} (h:needR o f≠.stuck): ∃a,o=some a/\f a≠.stuck:=by
 cases o with
 |none=>exact absurd rfl h
 |some a=>exact⟨a,rfl,h⟩
noncomputable def XI (σ:d9) (t:Expr) (v:V) (r:R d9):Prop:=(∃x p,t=.Name x p/\r=.ok (σ.set x v))\/
  ∃x px y py j p a b,t=.Tuple [.Name x px,.Name y py] j p/\v=.tup [a,b]/\r=.ok ((σ.set x a).set y b)
theorem kA {σ:d9} {t:Expr} {v:V} (h:t7 σ t v≠.stuck):XI σ t v (t7 σ t v):=by
 refine e8 (u7 h) fun q hq h2=> ?_;have e:=jZ hq;cases q with
 |inl x=>refine d6 e fun p e=> ?_;subst e;exact .inl ⟨x,p,rfl,rfl⟩
 |inr ts=>
  refine C1 e fun j p e=> ?_;subst e;refine e8 (u7 h2) fun q2 hq2 h3=> ?_;refine C1 (xE hq2) fun px py z2r=> ?_;subst z2r;refine C1 (KG h3) fun a b z1r=> ?_;subst z1r;exact .inr ⟨_,px,_,py,j,p,a,b,rfl,rfl,rfl⟩
theorem kB (v:V):(∃ds,v=.olist ds)\/v.open? =false:=by cases v<;>first|exact .inr rfl|exact .inl ⟨_,rfl⟩
theorem BD {v:V} (h:v.open? =false):v.freeze=v:=by cases v<;>first|rfl|exact VU h.symm
theorem oY {d:Option V} {l:Int} (h:R2 d=.err l):False:=by
 cases d with
 |none=>injection h
 |some d=>
  cases d with
  |int i=>
   have h:(if i.natAbs<2 ^40 then R.ok (some i) else .stuck)=.err l:=h;by_cases c:i.natAbs<2 ^40
   ·rw[if_pos c] at h;injection h
   ·rw[if_neg c] at h;injection h
  |_=>injection h
theorem tF {σ:d9} {x:Str} {xs:List Str} {v:V} {vs:List V}:N3 σ (x::xs) (v::vs)=if v.open? then .stuck else N3 (σ.set x v) xs vs:=rfl
end
end
section
open PySem PySem.W PyProof.Rows
noncomputable abbrev Xs:=Addr->Prop
section
mutual
inductive Rp (h:Heap) (X:Xs):Value->V->Prop
 |none:Rp h X .none .none
 |bool (b:Bool):Rp h X (.bool b) (.bool b)
 |int (i:Int) (t:Tok):Rp h X (.int i t) (.int i)
 |str (x:b9) (t:Tok):Rp h X (.str ⟨x.toArray⟩ t) (.str x)
 |bytes (b:List Int) (t:Tok):(∀n∈b,0<=n/\n<256)->Rp h X (.bytes (b.map fun n=>UInt8.ofNat n.toNat).toArray t) (.bytes b)
 |tup {a:Addr} {o:Obj} {vs:List Value} {n:Nat} {ds:List V}:h.get? a=some o->o.cls=.type "tuple"->o.data=.seq vs.toArray n-> ¬X a->Rps h X vs ds->Rp h X (.ref a) (.tup ds)
 |list {a:Addr} {o:Obj} {vs:List Value} {n:Nat} {ds:List V}:h.get? a=some o->o.cls=.type "list"->o.data=.seq vs.toArray n-> ¬X a->Rps h X vs ds->Rp h X (.ref a) (.list ds)
 |rng {a:Addr} {n:Int} {t u v:Tok}:IsRange h a 0 n 1 t u v-> ¬X a->Rp h X (.ref a) (.rng n)
 |dict {a:Addr} {f:Str->Option Value} {kvs:List (b9×Int)}:h.MapOf (strKind prog w) a f->a≠sysModules-> ¬X a->
   (∀x:b9,match kvs.lookup x with|some i=> ∃t,f ⟨x.toArray⟩=some (.int i t)| .none=>f ⟨x.toArray⟩=.none)->Rp h X (.ref a) (.dict kvs)
inductive Rps (h:Heap) (X:Xs):List Value->List V->Prop
 |nil:Rps h X [] []
 |cons {v:Value} {vs:List Value} {d:V} {ds:List V}:Rp h X v d->Rps h X vs ds->Rps h X (v::vs) (d::ds)
end
end
noncomputable def I8 (o:Obj):Prop:=(o.cls=.type "list"\/o.cls=.type "tuple"\/o.cls=.type "range"\/o.cls=.type "dict")/\ ∀v,o.data≠.cell v
noncomputable def R4 (X:Xs) (h h':Heap):Prop:= ∀b o,h.get? b=some o-> ¬X b->I8 o->h'.get? b=some o
section
variable {h h':Heap} {X X':Xs} {v:Value} {d:V} {vs us:List Value} {ds es:List V}
theorem Rp.carry (k:R4 X h h') (r:Rp h X v d):Rp h' X v d:=
 r.rec (motive_1:=fun v d Z=>Rp h' X v d) (motive_2:=fun vs ds Z=>Rps h' X vs ds) .none .bool .int .str .bytes
  (fun e c q n Z r=>.tup (k _ _ e n ⟨.inr (.inl c),fun v z=>nomatch q.symm.trans z⟩) c q n r)
  (fun e c q n Z r=>.list (k _ _ e n ⟨.inl c,fun v z=>nomatch q.symm.trans z⟩) c q n r)
  (fun e n=>.rng (k _ _ e n ⟨.inr (.inr (.inl rfl)),fun v z=>nomatch z⟩) n)
  (fun m s n q=>.dict (nK (m) fun o es ep e x r=>⟨o,es,ep,k _ _ e n ⟨.inr (.inr (.inr x.1)),fun v z=>nomatch r.1.symm.trans z⟩,x,r⟩) s n q)
  .nil fun Z Z a r=>.cons a r
theorem Rp.more (k: ∀a,X' a->X a\/ ∀o,h.get? a=some o-> ¬I8 o) (r:Rp h X v d):Rp h X' v d:=
 r.rec (motive_1:=fun v d Z=>Rp h X' v d) (motive_2:=fun vs ds Z=>Rps h X' vs ds) .none .bool .int .str .bytes
  (fun e c q n Z r=>.tup e c q (fun x=>(k _ x).elim n fun y=>y _ e ⟨.inr (.inl c),fun v z=>nomatch q.symm.trans z⟩) r)
  (fun e c q n Z r=>.list e c q (fun x=>(k _ x).elim n fun y=>y _ e ⟨.inl c,fun v z=>nomatch q.symm.trans z⟩) r)
  (fun e n=>.rng e (fun x=>(k _ x).elim n fun y=>y _ e ⟨.inr (.inr (.inl rfl)),fun v z=>nomatch z⟩))
  (fun m s n q=>.dict m s (fun x=>(k _ x).elim n fun y=>nK (m) fun Z Z Z e x r=>y _ e ⟨.inr (.inr (.inr x.1)),fun v z=>nomatch r.1.symm.trans z⟩) q)
  .nil fun Z Z a r=>.cons a r
theorem yY {h':Heap} (k: ∀{v:Value} {d:V},Rp h X v d->Rp h' X' v d) (r:Rps h X vs ds):Rps h' X' vs ds:=
 r.rec (motive_1:=fun Z Z Z=>True) (motive_2:=fun vs ds Z=>Rps h' X' vs ds) trivial (fun Z=>trivial) (fun Z Z=>trivial) (fun Z Z=>trivial) (fun Z Z Z=>trivial)
  (fun Z Z Z Z Z Z=>trivial) (fun Z Z Z Z Z Z=>trivial) (fun Z Z=>trivial) (fun Z Z Z Z=>trivial) .nil fun a Z Z r=>.cons (k a) r
theorem Rps.carry (k:R4 X h h') (r:Rps h X vs ds):Rps h' X vs ds:=yY (Rp.carry k) r
theorem Rps.more (k: ∀a,X' a->X a\/ ∀o,h.get? a=some o-> ¬I8 o) (r:Rps h X vs ds):Rps h X' vs ds:=yY (Rp.more k) r
theorem Rp.less (k: ∀a,X' a->X a) (r:Rp h X v d):Rp h X' v d:=r.more fun a q=>.inl (k a q)
theorem Rps.less (k: ∀a,X' a->X a) (r:Rps h X vs ds):Rps h X' vs ds:=r.more fun a q=>.inl (k a q)
variable (h X v) in
noncomputable def XJ:V->Prop
 | .none=>v=.none
 | .bool b=>v=.bool b
 | .int i=> ∃t,v=.int i t
 | .str x=> ∃t,v=.str ⟨x.toArray⟩ t
 | .bytes b=>(∃t,v=.bytes (b.map fun n=>UInt8.ofNat n.toNat).toArray t)/\ ∀n∈b,0<=n/\n<256
 | .tup ds=> ∃a o vs n,v=.ref a/\h.get? a=some o/\o.cls=.type "tuple"/\o.data=.seq vs.toArray n/\ ¬X a/\Rps h X vs ds
 | .list ds=> ∃a o vs n,v=.ref a/\h.get? a=some o/\o.cls=.type "list"/\o.data=.seq vs.toArray n/\ ¬X a/\Rps h X vs ds
 | .rng n=> ∃a t u t',v=.ref a/\IsRange h a 0 n 1 t u t'/\ ¬X a
 | .dict kvs=> ∃a f,v=.ref a/\h.MapOf (strKind prog w) a f/\a≠sysModules/\ ¬X a/\
   ∀x:b9,match kvs.lookup x with|some i=> ∃t,f ⟨x.toArray⟩=some (.int i t)| .none=>f ⟨x.toArray⟩=.none
 | .olist _=>False
theorem Rp.inv (r:Rp h X v d):XJ h X v d:=by
 cases r with
 |none=>exact rfl
 |bool _=>exact rfl
 |int _ _=>exact⟨_,rfl⟩
 |str _ _=>exact⟨_,rfl⟩
 |bytes _ _ q=>exact⟨⟨_,rfl⟩,q⟩
 |tup e c q n r=>exact⟨_,_,_,_,rfl,e,c,q,n,r⟩
 |list e c q n r=>exact⟨_,_,_,_,rfl,e,c,q,n,r⟩
 |rng e n=>exact⟨_,_,_,_,rfl,e,n⟩
 |dict m s n q=>exact⟨_,_,rfl,m,s,n,q⟩
theorem bU (r:Rp h X v .none):v=.none:=r.inv
theorem M2 {b:Bool} (r:Rp h X v (.bool b)):v=.bool b:=r.inv
theorem A2 {i:Int} (r:Rp h X v (.int i)): ∃t,v=.int i t:=r.inv
theorem t8 {x:b9} (r:Rp h X v (.str x)): ∃t,v=.str ⟨x.toArray⟩ t:=r.inv
theorem R5 {b:List Int} (r:Rp h X v (.bytes b)):(∃t,v=.bytes (b.map fun n=>UInt8.ofNat n.toNat).toArray t)/\ ∀n∈b,0<=n/\n<256:=r.inv
theorem dU (r:Rp h X v (.list ds)): ∃a o vs n,v=.ref a/\h.get? a=some o/\o.cls=.type "list"/\o.data=.seq vs.toArray n/\ ¬X a/\Rps h X vs ds:=r.inv
variable (h X) in
noncomputable def XK:List Value->List V->Prop
 |[],[]=>True
 |v::vs,d::ds=>Rp h X v d/\Rps h X vs ds
 |_,_=>False
theorem Rps.inv (r:Rps h X vs ds):XK h X vs ds:=by
 cases r with
 |nil=>exact trivial
 |cons a r=>exact⟨a,r⟩
theorem K3 (r:Rps h X vs []):vs=[]:=by
 cases vs with
 |nil=>rfl
 |cons _ _=>exact r.inv.elim
theorem D3 (r:Rps h X vs (d::ds)): ∃v us,vs=v::us/\Rp h X v d/\Rps h X us ds:=by
 cases vs with
 |nil=>exact r.inv.elim
 |cons v us=>exact⟨v,us,rfl,r.inv⟩
theorem Rps.length (r:Rps h X vs ds):vs.length=ds.length:=by
 induction ds generalizing vs with
 |nil=>rw[K3 r];rfl
 |cons d ds ih=>
  refine v9 (D3 r) fun v us e Z q=> ?_;rw[e];exact congrArg Nat.succ (ih q)
theorem Rps.append (r:Rps h X vs ds) (q:Rps h X us es):Rps h X (vs++us) (ds++es):=by
 induction ds generalizing vs with
 |nil=>rw[K3 r];exact q
 |cons d ds ih=>
  refine v9 (D3 r) fun v us e a z=> ?_;rw[e];exact .cons a (ih z)
theorem Rps.get (r:Rps h X vs ds) {k:Nat} {d:V} (hk:ds[k]? =some d): ∃v,vs[k]? =some v/\Rp h X v d:=by
 induction ds generalizing vs k with
 |nil=>nomatch hk
 |cons d' ds ih=>
  refine v9 (D3 r) fun v us e a z=> ?_;rw[e];cases k with
  |zero=>exact⟨v,rfl,Option.some.inj hk▸a⟩
  |succ k=>exact ih z hk
theorem Rps.dropLast (r:Rps h X vs ds):Rps h X vs.dropLast ds.dropLast:=by
 induction ds generalizing vs with
 |nil=>rw[K3 r];exact .nil
 |cons d ds ih=>
  refine v9 (D3 r) fun v us e a z=> ?_;rw[e];cases ds with
  |nil=>rw[K3 z];exact .nil
  |cons d' ds=>
   refine v9 (D3 z) fun v' us' e' a' z'=> ?_;have:=ih z;rw[e'] at this ⊢;exact .cons a this
theorem Rp.not_open (r:Rp h X v d):d.open? =false:=by
 cases d<;>first|rfl|exact r.inv.elim
theorem oZ {d:V} {ds:List V} {l:List Int} (e:J4 (d::ds)=some l): ∃i l',d=.int i/\J4 ds=some l'/\l=i::l':=by
 cases d with
 |int i=>
  refine e8 (Option.map_eq_some_iff.mp (show(J4 ds).map (i:: ·)=some l from e)) fun l' q z4r=> ?_;subst z4r;exact⟨i,l',rfl,q,rfl⟩
 |_=>nomatch e
theorem Rps.ofInts (r:Rps h X vs ds) {l:List Int} (e:J4 ds=some l):IntsAre vs l:=by
 induction ds generalizing vs l with
 |nil=>rw[K3 r,<-Option.some.inj e];exact .nil
 |cons d ds ih=>
  refine v9 (oZ e) fun i l' z2r q' z3r=> ?_;subst z2r;subst z3r;refine v9 (D3 r) fun v us e' a z=> ?_;refine d6 (A2 a) fun t z1r=> ?_;subst z1r;rw[e'];exact .cons _ _ (ih z q')
end
section
variable {h h' h'':Heap}
structure aM7 (h h':Heap):Prop where
 keep: ∀b o,h.get? b=some o-> ¬o4 b->h'.get? b=some o
end
structure Wd where
 G:Heap
 mg:Str->Option Value
 mb:Str->Option Value
noncomputable def E9:List (Addr×Addr×Str):=[(262,258,"_law_atom_right.<locals>.<lambda>"),(267,265,"_law_line_right.<locals>.<lambda>"),(274,270,"law.<locals>.<lambda>")]
structure Wd.Ok (W:Wd):Prop where
 g:W.G.Ns mainGlobals W.mg
 b:W.G.Ns builtinsNs W.mb
 nolimit:W.G.NoLimit
 boot: ∀x:Str,x≠"__name__"->W.mb x=bootBuiltins x
 bm: ∀P,o4 P->W.G.BuiltinsAt W.mg P
noncomputable def NS (h:Heap) (c P:Addr) (q:Str):Prop:=
 CodeHd h c P/\ ∃ps,h.get? P=some (tabObj ps)/\TriplesOk ps.toList/\ ∀pos cv,codeAmong pos ps.toList=some cv->h.CodeRec cv q
noncomputable def o3 (h:Heap):Prop:= ∀x∈E9,NS h x.1 x.2.1 x.2.2
theorem o3.keeps {h h':Heap} (x:o3 h) (k: ∀b o,h.get? b=some o->h'.get? b=some o):o3 h':=fun y m=>f8 (x y m) fun a z=>s5 z fun ps b c d=>
 ⟨a.keeps k,ps,k _ _ b,c,fun pos cv e=>(d pos cv e).keeps k⟩
noncomputable def v0 (h:Heap) (a:Addr):Prop:= ∀x∈E9,∀ps,h.get? x.2.1=some (tabObj ps)-> ∀pos,codeAmong pos ps.toList≠some (.ref a)
theorem v0.keeps {h h':Heap} {a:Addr} (t:o3 h) (k: ∀b o,h.get? b=some o->h'.get? b=some o) (n:v0 h a):v0 h' a:=fun x m ps e=>by
 refine f8 (t x m) fun Z z12t=> ?_;refine e8 z12t fun ps' e' Z=> ?_;clear z12t;have:=k _ _ e';rw[e] at this;injection this with this;injection this with _ _ this _;injection this with this;subst this;exact n x m ps e'
noncomputable def nN (h:Heap) (a:Addr):Prop:= ∃o,h.get? a=some o/\((∀vs,o.data≠.fields vs)\/(o.cls≠.none/\o.cls≠.type "code"/\v0 h a))
theorem nN.notab {h:Heap} {a:Addr} (m:nN h a) (t:o3 h): ∀x∈E9,x.1≠a/\x.2.1≠a:=fun x hx=>by
 refine e8 m fun o e d=> ?_;clear m;refine f8 (t x hx) fun z10n z11t=> ?_;refine e8 z11t fun ps p1 Z=> ?_;clear z11t;refine SM z10n fun oc vs Z Z Z Z Z Z Z c1 c2 c3 Z=> ?_;clear z10n;refine⟨fun q=> ?_,fun q=> ?_⟩
 ·rw[q,e] at c1;injection c1 with c1;subst c1;rcases d with d|⟨_,d,_⟩
  ·exact d _ c3
  ·exact d c2
 ·rw[q,e] at p1;injection p1 with p1;subst p1;rcases d with d|⟨d,_⟩
  ·exact d _ rfl
  ·exact d rfl
theorem o3.but {h h':Heap} {a:Addr} (t:o3 h) (m:nN h a) (k: ∀b o,b≠a->h.get? b=some o->h'.get? b=some o):o3 h':=fun x hx=>by
 refine f8 (m.notab t x hx) fun n1 n2=> ?_;refine f8 (t x hx) fun z8n z9t=> ?_;refine s5 z9t fun ps p1 p2 p3=> ?_;clear z9t;refine WR z8n fun oc vs a1 a2 a3 a4 a5 a6 a7 c1 cr=> ?_;clear z8n;refine⟨⟨oc,vs,a1,a2,a3,a4,a5,a6,a7,k _ _ n1 c1,cr⟩,ps,k _ _ n2 p1,p2,fun pos cv e=> ?_⟩;refine sY (p3 pos cv e) fun c o vs' tq e1 e2 e3 e4=> ?_;refine⟨c,o,vs',tq,e1,k _ _ (fun q=> ?_) e2,e3,e4⟩;refine e8 m fun o' e' d=> ?_;clear m;rw[q,e'] at e2;injection e2 with e2;subst e2;rcases d with d|⟨_,_,d⟩
 ·exact d _ e3
 ·exact d x hx ps p1 pos (by rw[e,e1,q])
theorem v0.but {h h':Heap} {a b:Addr} (t:o3 h) (m:nN h a) (k: ∀b o,b≠a->h.get? b=some o->h'.get? b=some o) (n:v0 h b):v0 h' b:=fun x hx ps e=>by
 refine f8 (m.notab t x hx) fun Z n2=> ?_;refine f8 (t x hx) fun Z z7t=> ?_;refine e8 z7t fun ps' e' Z=> ?_;clear z7t;have:=k _ _ n2 e';rw[e] at this;injection this with this;injection this with _ _ this _;injection this with this;subst this;exact n x hx ps e'
structure Cx where
 A:Around
 fr:List Env
 base:Heap
 X:Xs
 tb:Prop
noncomputable def Cx.locs (C:Cx):List Addr:=C.fr.filterMap (·.frame)
structure Cx.Ok (C:Cx) (k:Nat):Prop where
 frames:C.A.frames=some C.fr
 handled:C.A.handled=none
 depth:C.A.depth+k+10<recursionLimit
 units:C.A.units+8*k+40<cLine
 locs: ∀a∈C.locs,C.X a
 tab:C.tb-> ∀a,o4 a->C.base.get? a=none
 loct: ∀a∈C.locs,¬o4 a
theorem Cx.Ok.less {C:Cx} {k k':Nat} (o:C.Ok k) (h:k'<=k):C.Ok k':=
 ⟨o.frames,o.handled,by have:=o.depth;exact q37 h this,by have:=o.units;exact ou3 h this,o.locs,o.tab,o.loct⟩
structure aN (W:Wd) (C:Cx) (h:Heap):Prop where
 G: ∀b o,W.G.get? b=some o->h.get? b=some o
 base:C.base.StaysIn h
 frames:h.FunFrames C.base C.fr
 tabs:o3 h
 Gl: ∀a∈C.locs,W.G.get? a=none
structure Gr (C:Cx) (h h':Heap):Prop where
 keep: ∀b o,h.get? b=some o-> ¬(C.tb/\o4 b)->b∉C.locs->h'.get? b=some o
 slots: ∀b o,h.get? b=some o-> ¬(C.tb/\o4 b)-> ∃sl,h'.get? b=some {o with slots:=sl}
 tabs:o3 h->o3 h'
 codes:o3 h-> ∀a o,h.get? a=some o-> ¬o4 a->v0 h a->v0 h' a
section
variable {W:Wd} {C:Cx} {h h' h'':Heap}
theorem Gr.of_keep (k: ∀b o,h.get? b=some o->h'.get? b=some o):Gr C h h':=
 ⟨fun b o e Z Z=>k b o e,fun b o e Z=>⟨o.slots,k b o e⟩,fun t=>t.keeps k,fun t a o Z Z n=>n.keeps t k⟩
theorem Gr.refl:Gr C h h:=.of_keep fun Z Z e=>e
theorem Gr.push (o:Obj):Gr C h (h.push o):=.of_keep fun Z Z e=>Heap.get?_push_of_some _ e
theorem Gr.trans (a:Gr C h h') (b:Gr C h' h''):Gr C h h'':=
 ⟨fun x o e n m=>b.keep x o (a.keep x o e n m) n m,fun x o e n=>d6 (a.slots x o e n) fun Z I5=>d6 (b.slots x _ I5 n) fun sl oP=>⟨sl,oP⟩,fun t=>b.tabs (a.tabs t),
  fun t x o e n nc=>d6 (a.slots x o e (fun z=>n z.2)) fun Z I5=>b.codes (a.tabs t) x _ I5 n (a.codes t x o e n nc)⟩
theorem Gr.but {a:Addr} (gr:Gr C h h') (hn:h.get? a=none) (t:o3 h) (m:nN h' a) (k: ∀b o,b≠a->h'.get? b=some o->h''.get? b=some o):Gr C h h'':=
 ⟨fun b o e n l=>k b o (fun q=>by rw[q,hn] at e;injection e) (gr.keep b o e n l),fun b o e n=>d6 (gr.slots b o e n) fun sl I5=>⟨sl,k b _ (fun q=>by rw[q,hn] at e;injection e) I5⟩,
  fun t=>(gr.tabs t).but m k,fun t b o e n nc=>(gr.codes t b o e n nc).but (gr.tabs t) m k⟩
theorem aN.tabNone {a:Addr} (i:aN W C h) (t:o4 a): ∃ps,h.get? a=some (tabObj ps):=by
 rcases t with e|e|e
 ·refine f8 (i.tabs (262,258,_) (.head _)) fun Z z6t=> ?_;refine e8 z6t fun ps q Z=> ?_;clear z6t;exact⟨ps,e▸q⟩
 ·refine f8 (i.tabs (267,265,_) (.tail _ (.head _))) fun Z z5t=> ?_;refine e8 z5t fun ps q Z=> ?_;clear z5t;exact⟨ps,e▸q⟩
 ·refine f8 (i.tabs (274,270,_) (.tail _ (.tail _ (.head _)))) fun Z z4t=> ?_;refine e8 z4t fun ps q Z=> ?_;clear z4t;exact⟨ps,e▸q⟩
theorem aN.locSome {a:Addr} (i:aN W C h) (m:a∈C.locs):C.base.get? a=none/\ ∃o,h.get? a=some o/\ ∀vs,o.data≠.fields vs:=i.frames.mem m
structure Wd.Fits (W:Wd) (C:Cx):Prop where
 notab:C.tb-> ∀a,o4 a->W.G.get? a=none
theorem aN.gr {k:Nat} (ok:C.Ok k) (wf:W.Fits C) (i:aN W C h) (g:Gr C h h'):aN W C h':=by
 refine⟨fun b o e=> ?_,fun b o e=> ?_,i.frames.of_keeps fun b o e hn=> ?_,g.tabs i.tabs,i.Gl⟩
 ·refine g.keep b o (i.G b o e) (fun⟨t,q⟩=>by rw[wf.notab t b q] at e;injection e) fun m=>by rw[i.Gl b m] at e;injection e
 ·refine g.keep b o (i.base b o e) (fun⟨t,q⟩=>by rw[ok.tab t b q] at e;injection e) fun m=>by rw[(i.locSome m).1] at e;injection e
 ·obtain⟨sl,q⟩:=g.slots b o e fun⟨_,t⟩=>by
   refine d6 (i.tabNone t) fun ps z=> ?_;rw[z] at e;injection e with e;subst e;exact hn _ rfl
  exact⟨_,q,rfl⟩
theorem aN.carry {k:Nat} {X:Xs} (ok:C.Ok k) (i:aN W C h) (g:Gr C h h') (hX: ∀a,C.X a->X a):R4 X h h':=fun b o e n d=>by
 refine g.keep b o e (fun⟨_,t⟩=> ?_) fun m=>n (hX _ (ok.locs b m));refine d6 (i.tabNone t) fun ps z=> ?_;rw[z] at e;injection e with e;subst e;rcases d.1 with q|q|q|q<;>cases q
theorem Gr.upTo (g:Gr C h h') (nt: ¬C.tb\/o3 h):h.UpToSlots h':=fun b o e hn=>g.slots b o e fun⟨t,q⟩=>by
 rcases nt with n|x
 ·exact n t
 ·rcases q with q|q|q
  ·refine f8 (x (262,258,_) (.head _)) fun Z z3t=> ?_;refine e8 z3t fun ps z Z=> ?_;clear z3t;rw[q] at e;rw[z] at e;injection e with e;subst e;exact hn _ rfl
  ·refine f8 (x (267,265,_) (.tail _ (.head _))) fun Z z2t=> ?_;refine e8 z2t fun ps z Z=> ?_;clear z2t;rw[q] at e;rw[z] at e;injection e with e;subst e;exact hn _ rfl
  ·refine f8 (x (274,270,_) (.tail _ (.tail _ (.head _)))) fun Z z1t=> ?_;refine e8 z1t fun ps z Z=> ?_;clear z1t;rw[q] at e;rw[z] at e;injection e with e;subst e;exact hn _ rfl
end
section
noncomputable def B2 (h:Heap) (X:Xs) (oa:Option Addr) (u:Value):V->Prop
 | .olist ds=> ∃a o vs n,oa=some a/\u=.ref a/\h.get? a=some o/\(o.cls=.type "list"/\o.dict=none)/\o.data=.seq vs.toArray n/\Rps h X vs ds
 |v=>Rp h X u v
noncomputable def v7 (h:Heap) (X:Xs) (oa:Option Addr):List Value->List V->Prop
 |[],[]=>True
 |u::us,v::vs=>B2 h X oa u v/\v7 h X oa us vs
 |_,_=>False
structure St (env:Env) (oa:Option Addr) (X:Xs) (h:Heap) (σ:d9):Prop where
 cells: ∀x,env.kindOf x=some .cell\/env.kindOf x=some .free-> ∃c v,env.cells.lookup x=some c/\h.IsCell c v
 vals: ∃m,h.Ns env.locals m/\ ∀x v,σ.get x=some v-> ∃u,B2 h X oa u v/\
  ((env.kindOf x=some .local/\m x=some u)\/((env.kindOf x=some .cell\/env.kindOf x=some .free)/\ ∃c,env.cells.lookup x=some c/\h.IsCell c (some u)))
noncomputable def k9 (C:Cx) (s s':Shared):Prop:= ∃h' tk,s'={s with heap:=h',toks:=tk}/\Gr C s.heap h'
noncomputable def g5 (C:Cx) (X:Xs) (oa:Option Addr) (s:Shared) (d:V) (v:Value) (s':Shared):Prop:=k9 C s s'/\B2 s'.heap X oa v d
noncomputable def xG (C:Cx) (X:Xs) (oa:Option Addr) (s:Shared) (d:List V) (v:List Value) (s':Shared):Prop:=k9 C s s'/\v7 s'.heap X oa v d
noncomputable def P6 (C:Cx) (s:Shared) (d:Bool) (v:Bool) (s':Shared):Prop:=k9 C s s'/\v=d
noncomputable def Y1 (h:Heap) (e:Addr) (l:Int):Prop:= ∃o d m t,h.get? e=some o/\o.dict=some d/\h.Ns d m/\m "line"=some (.int l t)
noncomputable def kC:Value:=.ref 52
noncomputable def C7 (C:Cx) (s:Shared) (l:Int) (e:Value) (s':Shared):Prop:=
 ∃ae a0 h' tk,e=.ref ae/\s'={s with heap:=h',toks:=tk}/\Heap.FlyingW C.base C.fr ae kC a0 h'/\s.heap.UpToSlots h'/\Y1 h' ae l
noncomputable abbrev Tr (β:Type):=(β->Shared->Prop)->(Value->Shared->Prop)->Shared->Prop
noncomputable def w5 {α β:Type} (r:R α) (F:Tr β) (P:α->β->Shared->Prop) (E:Int->Value->Shared->Prop) (s:Shared):Prop:=
 match r with
 | .stuck=>True
 | .ok d=>F (P d) (fun Z Z=>False) s
 | .err l=>F (fun Z Z=>False) (E l) s
noncomputable abbrev Ou {α β:Type} (C:Cx) (r:R α) (t:Sem β) (P:α->β->Shared->Prop) (E:Int->Value->Shared->Prop) (s:Shared):Prop:=
 w5 r (fun Q E s=>wpAny (model prog w) C.A t Q E s) P E s
end
section
variable {W:Wd} {C:Cx} {X:Xs} {oa:Option Addr} {s s₁ e7:Shared}
theorem k9.refl:k9 C s s:=⟨s.heap,s.toks,rfl,.refl⟩
theorem k9.trans (a:k9 C s s₁) (b:k9 C s₁ e7):k9 C s e7:=by
 refine r0 a fun y6 n7 z6r RD=> ?_;clear a;subst z6r;refine r0 b fun i8 dK z5r ZI=> ?_;clear b;subst z5r;exact⟨i8,dK,rfl,RD.trans ZI⟩
theorem k9.gr (a:k9 C s s₁):Gr C s.heap s₁.heap:=by refine r0 a fun Z Z z4r g=> ?_;clear a;subst z4r;exact g
theorem k9.of_keep {h':Heap} {tk:Nat} (k: ∀b o,s.heap.get? b=some o->h'.get? b=some o):k9 C s {s with heap:=h',toks:=tk}:=⟨h',tk,rfl,.of_keep k⟩
theorem g5.from {d:V} {v:Value} {s':Shared} (a:k9 C s s₁) (p:g5 C X oa s₁ d v s'):g5 C X oa s d v s':=⟨a.trans p.1,p.2⟩
theorem C7.from {l:Int} {e:Value} {s':Shared} (a:k9 C s s₁) (nt: ¬C.tb\/o3 s.heap) (p:C7 C s₁ l e s'):C7 C s l e s':=by
 refine r0 a fun y6 n7 z3r RD=> ?_;clear a;subst z3r;refine AS p fun ae a0 h' tk z1r z2r f u li=> ?_;clear p;subst z1r;subst z2r;exact⟨ae,a0,h',tk,rfl,rfl,f,(RD.upTo nt).trans u,li⟩
theorem Ou.bind {α β γ δ:Type} {r:R α} {f:α->R γ} {t:Sem β} {F:β->Tr δ} {G:Tr δ} {P:α->β->Shared->Prop} {P':γ->δ->Shared->Prop} {E:Int->Value->Shared->Prop}
  (rule: ∀(Q:δ->Shared->Prop) (E':Value->Shared->Prop),wpAny (model prog w) C.A t (fun v s₁=>F v Q E' s₁) E' s->G Q E' s)
  (h:Ou C r t P E s) (hk: ∀a v s₁,r=.ok a->P a v s₁->w5 (f a) (F v) P' E s₁):w5 (r.bind f) G P' E s:=by
 cases r with
 |stuck=>trivial
 |err l=>exact rule _ _ (wpAny_mono h (fun Z Z x=>x.elim) fun Z Z x=>x)
 |ok a=>
  show w5 (f a) G P' E s;have hk':=fun v s₁ p=>hk a v s₁ rfl p;cases hf:f a with
  |stuck=>trivial
  |err l=>
   rw[hf] at hk';exact rule _ _ (wpAny_mono h (fun v s₁ p=>hk' v s₁ p) fun Z Z x=>x.elim)
  |ok c=>
   rw[hf] at hk';exact rule _ _ (wpAny_mono h (fun v s₁ p=>hk' v s₁ p) fun Z Z x=>x.elim)
theorem Ou.mono {α β:Type} {r:R α} {t:Sem β} {P P':α->β->Shared->Prop} {E E':Int->Value->Shared->Prop} (h:Ou C r t P E s)
  (hp: ∀a v s',r=.ok a->P a v s'->P' a v s') (he: ∀l e s',r=.err l->E l e s'->E' l e s'):Ou C r t P' E' s:=by
 cases r with
 |stuck=>trivial
 |err l=>exact wpAny_mono h (fun Z Z x=>x) fun e s' x=>he l e s' rfl x
 |ok a=>exact wpAny_mono h (fun v s' x=>hp a v s' rfl x) fun Z Z x=>x
theorem Ou.map {α β γ:Type} {r:R α} {g:α->γ} {t:Sem β} {P:α->β->Shared->Prop} {P':γ->β->Shared->Prop} {E:Int->Value->Shared->Prop} (h:Ou C r t P E s)
  (hp: ∀a v s',r=.ok a->P a v s'->P' (g a) v s'):Ou C (r.map g) t P' E s:=by
 cases r with
 |stuck=>trivial
 |err l=>exact h
 |ok a=>exact wpAny_mono h (fun v s' x=>hp a v s' rfl x) fun Z Z x=>x
theorem aN.slot {h h':Heap} {b:Addr} {o:Obj} (i:aN W C h) (g:Gr C h h') (e:h.get? b=some o) (hn: ∀vs,o.data≠.fields vs): ∃sl,h'.get? b=some {o with slots:=sl}:=
 g.upTo (.inr i.tabs) b o e hn
theorem B2.plain {h:Heap} {u:Value} {v:V} (r:B2 h X oa u v) (n:v.open? =false):Rp h X u v:=by
 cases v<;>first|exact r|injection n
theorem B2.of {h:Heap} {u:Value} {v:V} (r:Rp h X u v):B2 h X oa u v:=by cases r<;>(unfold B2;constructor<;>assumption)
theorem B2.gr {h h':Heap} {k:Nat} {u:Value} {v:V} (ok:C.Ok k) (i:aN W C h) (g:Gr C h h') (hX: ∀a,C.X a->X a) (r:B2 h X oa u v):B2 h' X oa u v:=by
 rcases kB v with⟨ds,rfl⟩|q
 ·refine X2 r fun a o vs n e1 e2 e3 e4 e5 e6=> ?_;clear r;refine d6 (i.slot g e3 fun vs z=>by rw[e5] at z;injection z) fun sl hs=> ?_;exact⟨a,_,vs,n,e1,e2,hs,e4,e5,e6.carry (i.carry ok g hX)⟩
 ·exact B2.of ((r.plain q).carry (i.carry ok g hX))
theorem v7.gr {h h':Heap} {k:Nat} (ok:C.Ok k) (i:aN W C h) (g:Gr C h h') (hX: ∀a,C.X a->X a): ∀{us:List Value} {vs:List V},v7 h X oa us vs->v7 h' X oa us vs
 |[],[],_=>trivial
 |_::_,_::_,r=>⟨r.1.gr ok i g hX,v7.gr ok i g hX r.2⟩
theorem v7.plain {h:Heap}: ∀{us:List Value} {vs:List V},v7 h X oa us vs->vs.any V.open? =false->Rps h X us vs
 |[],[],_,_=>.nil
 |_::_,v::vs,r,n=>by
  rw[List.any_cons,Bool.or_eq_false_iff] at n;exact .cons (r.1.plain n.1) (v7.plain r.2 n.2)
theorem v7.of {h:Heap} {us:List Value} {vs:List V} (r:Rps h X us vs):v7 h X oa us vs:=by
 induction us generalizing vs with
 |nil=>cases r;trivial
 |cons u us ih=>cases r with|cons a r=>exact⟨.of a,ih r⟩
theorem St.gr {h h':Heap} {k:Nat} {env:Env} {σ:d9} (ok:C.Ok k) (i:aN W C h) (g:Gr C h h') (hX: ∀a,C.X a->X a) (t:St env oa X h σ):St env oa X h' σ:=by
 refine e8 t.vals fun m hm hv=> ?_;have cell: ∀c v,h.IsCell c v->h'.IsCell c v:=fun c v ⟨o,ho,hd⟩=>by
  refine d6 (i.slot g ho fun vs z=>by rw[hd] at z;injection z) fun sl hs=> ?_;exact⟨_,hs,hd⟩
 refine⟨fun x hx=> ?_,m,(g.upTo (.inr i.tabs)).ns hm,fun x v e=> ?_⟩
 ·refine r0 (t.cells x hx) fun c v hc hi=> ?_;exact⟨c,v,hc,cell c v hi⟩
 refine e8 (hv x v e) fun u hu hk=> ?_;refine⟨u,hu.gr ok i g hX,?_⟩;rcases hk with q|⟨q,c,hc,hi⟩
 ·exact .inl q
 ·exact .inr ⟨q,c,hc,cell c _ hi⟩
end
end
section
open PySem PySem.W PyProof.Rows PySem.Builtin.Str PySem.Builtin
noncomputable abbrev S (x:b9):Str:=⟨x.toArray⟩
theorem gW (x:b9):(S x).length=x.length:=by simp[Str.length]
theorem EN (x:b9):(S x).cps.toList=x:=rfl
theorem NT (x y:b9):S x++S y=S (x++y):=by
 show Str.append _ _=_;simp[Str.append]
theorem EO {x y:b9}:S x=S y↔x=y:=by simp[S]
theorem EP (x y:b9):(S x==S y)=(x==y):=by
 rw[Bool.eq_iff_iff,beq_iff_eq,beq_iff_eq];exact EO
theorem XM (x:Str):S x.cps.toList=x:=rfl
theorem qT (x:b9) (c:Nat):Txt.contains (S x) (S [c])=x.contains c:=by
 have h:=StrLaws.found_one (S x) c;rw[EN] at h;show(!(occurrences (S x) ⟨#[c]⟩ 0 (S x).length 1).isEmpty)=_;rw[h,Bool.eq_iff_iff];simp
theorem pA {c:Nat}: ∀{x:b9},c∈x->x[J5 c x]? =some c
 |d::r,h=>by
  unfold J5;split
  ·rename_i q;subst q;rfl
  ·rename_i q;have:c∈r:=by
    rcases List.mem_cons.mp h with e|e
    ·exact absurd e.symm q
    ·exact e
   simpa using pA this
theorem pD {c:Nat}: ∀{x:b9} {i:Nat},x[i]? =some c->J5 c x<=i
 |[],i,h=>by simp at h
 |d::r,i,h=>by
  unfold J5;split
  ·omega
  ·rename_i q;cases i with
   |zero=>simp at h;exact absurd h q
   |succ i=>have:=pD (x:=r) (i:=i) (by simpa using h);exact Nat.succ_le_succ this
theorem yZ (x:b9) (c:Nat):(x.contains c=false/\occurrences (S x) (S [c]) 0 (S x).length 1=[])\/(x.contains c=true/\ ∃r,occurrences (S x) (S [c]) 0 (S x).length 1=J5 c x::r):=by
 have at_iff: ∀i,StrLaws.At (S x) (S [c]) (S x).length i↔x[i]? =some c:=fun i=>StrLaws.subAt_one (S x) c i;rcases StrLaws.occ_head (S x) (S [c]) 1 (Nat.le_refl _) with⟨h,hn⟩|⟨i,r,h,ha,hm⟩
 ·refine .inl ⟨?_,h⟩;rw[Bool.eq_false_iff];intro q;refine d6 (List.mem_iff_getElem?.mp (List.contains_iff_mem.mp q)) fun i hi=> ?_;exact hn i ((at_iff i).mpr hi)
 ·have hi:=(at_iff i).mp ha;refine .inr ⟨List.contains_iff_mem.mpr (List.mem_iff_getElem?.mpr ⟨i,hi⟩),r,?_⟩;have h1:=pD hi;have h2:=pA (List.mem_iff_getElem?.mpr ⟨i,hi⟩);have:i=J5 c x:=by
   apply Nat.le_antisymm _ h1
   apply Nat.le_of_not_lt
   intro q;exact hm _ q ((at_iff _).mpr h2)
  rw[h,this]
theorem EQ (x:b9) (c:Nat):Txt.find (S x) (S [c])=if x.contains c then (J5 c x:Int) else -1:=by
 unfold Txt.find;rcases yZ x c with⟨a,b⟩|⟨a,r,b⟩
 ·rw[b,a];rfl
 ·rw[b,a];rfl
theorem pE {i:Int} {n:Nat} (h:i<0):P5 i n=(i+n).toNat:=if_pos h
theorem fN {i:Int} {n:Nat} (h: ¬i<0):P5 i n=min i.toNat n:=if_neg h
theorem dW (i:Int) (n:Nat):P5 i n<=n:=by
 by_cases h:i<0
 ·rw[pE h];exact Int.toNat_le.mpr (Int.add_le_of_le_sub_right (by rw[Int.sub_self];exact Int.le_of_lt h))
 ·rw[fN h];exact Nat.min_le_right _ _
theorem BE {m n:Nat} (h:m<=n):P5 (m:Int) n=m:=by
 rw[fN (Int.not_lt.mpr (Int.natCast_nonneg m)),Int.toNat_natCast,Nat.min_eq_left h]
theorem pF (i:Int) (n:Nat):max (0:Int) (min (if i<0 then i+n else i) n)=(P5 i n:Nat):=by
 by_cases h:i<0
 ·rw[pE h,if_pos h,Int.min_eq_left (Int.add_le_of_le_sub_right (by rw[Int.sub_self];exact Int.le_of_lt h)),Int.max_comm,Int.ofNat_toNat]
 ·have h0:=Int.not_lt.mp h;rw[fN h,if_neg h,Int.max_eq_right (Int.le_min.mpr ⟨h0,Int.natCast_nonneg n⟩)];rcases Int.le_total i n with q|q
  ·rw[Int.min_eq_left q,Nat.min_eq_left (Int.toNat_le.mpr q),Int.toNat_of_nonneg h0]
  ·rw[Int.min_eq_right q,Nat.min_eq_right ((Int.le_toNat h0).mpr q)]
noncomputable def ER (lo:Option Int) (n:Nat):Nat:=match lo with|some i=>P5 i n|none=>0
noncomputable def xH (hi:Option Int) (n:Nat):Nat:=match hi with|some i=>P5 i n|none=>n
theorem kD (m n:Nat) (h:m<=n):max (0:Int) (min (if (m:Int)<0 then (m:Int)+n else m) n)=m:=by
 rw[pF,BE h]
theorem tG (lo hi:Option Int) (n:Nat):
  strSliceIndices lo hi 1 n=strSliceIndices (some ((ER lo n:Nat):Int)) (some ((xH hi n:Nat):Int)) 1 n:=by
 unfold strSliceIndices;have key: ∀a b a' b':Int,a=a'->b=b'->sliceRange a b 1=sliceRange a' b' 1:=by intro a b a' b' p q;rw[p,q]
 have c (i:Int):=dW i n;cases lo<;>cases hi<;>simp only[show(1:Int)>0 by decide,if_true,pF,ER,xH]<;>refine key _ _ _ _ ?_ ?_<;>
  first
  |exact(kD 0 n (Nat.zero_le _)).symm
  |exact(kD n n (Nat.le_refl _)).symm
  |exact(kD _ n (dW _ _)).symm
theorem ES (x:b9) (lo hi:Option Int):Txt.slice (S x) lo hi=S (j9 x lo hi):=by
 show StrLaws.sliceText (S x) lo hi=_;unfold StrLaws.sliceText;rw[tG];generalize ha:ER lo (S x).length=a;generalize hb:xH hi (S x).length=b;have hbn:b<=(S x).length:=by
  rw[<-hb];cases hi with
  |none=>exact Nat.le_refl _
  |some i=>exact dW _ _
 have e:j9 x lo hi=AW x a b:=by
  rw[gW] at ha hb;rw[<-ha,<-hb];cases lo<;>cases hi<;>rfl
 rw[e];rcases Nat.le_total a b with hab|hba
 ·have:=StrLaws.sliceText_nat (S x) hab hbn;unfold StrLaws.sliceText at this;rw[this,EN];unfold AW;rw[List.drop_take]
 ·have e0:AW x a b=[]:=by
   unfold AW;rw[List.drop_eq_nil_iff,List.length_take];exact q4 hba
  have e1:strSliceIndices (some (a:Int)) (some (b:Int)) 1 (S x).length=[]:=by
   have han:a<=(S x).length:=by
    rw[<-ha];cases lo with
    |none=>exact Nat.zero_le _
    |some i=>exact dW _ _
   unfold strSliceIndices;simp only[show(1:Int)>0 by decide,if_true];rw[kD a _ han,kD b _ hbn];unfold sliceRange;rw[if_pos (by decide),if_neg (Int.not_lt.mpr (Int.ofNat_le.mpr hba))];rfl
  rw[e0,e1];split
  ·rename_i q;have:(S x).length=0:=by have:=q;simp at this;exact Eq.symm this
   rw[gW] at this;rw[List.eq_nil_of_length_eq_zero this]
  ·simp[S]
theorem BF {x:b9} {lo hi:Option Int}:(j9 x lo hi).length<=x.length:=by
 unfold j9 AW;rw[List.length_drop,List.length_take];omega
theorem K4 {α:Type} (p:α->Bool): ∀l:List α,l.drop (l.takeWhile p).length=l.dropWhile p
 |[]=>rfl
 |a::r=>by
  cases h:p a with
  |true=>simp[List.takeWhile_cons,List.dropWhile_cons,h,K4 p r]
  |false=>simp[List.takeWhile_cons,List.dropWhile_cons,h]
theorem M3 {α:Type} (p:α->Bool): ∀l:List α,(l.takeWhile p).length+(l.dropWhile p).length=l.length
 |[]=>rfl
 |a::r=>by
  have:=M3 p r;cases h:p a with
  |true=>simp only[List.takeWhile_cons,List.dropWhile_cons,h,if_true,List.length_cons];exact q48 this
  |false=>simp only[List.takeWhile_cons,List.dropWhile_cons,h,Bool.false_eq_true,if_false,List.length_cons,List.length_nil];exact Nat.add_comm _ _
theorem pG (x:b9):i6 x=(x.drop (x.takeWhile j4).length).take ((x.drop (x.takeWhile j4).length).length-((x.drop (x.takeWhile j4).length).reverse.takeWhile j4).length):=by
 unfold i6;rw[K4];generalize x.dropWhile j4=y;rw[<-K4,List.drop_reverse,List.reverse_reverse]
theorem ET (x:b9):Txt.stripChars (S x) (S [32])=S (i6 x):=by
 unfold Txt.stripChars Txt.stripBy;have hg:(S [32]).cps.contains=j4:=by
  funext c
  show(#[32]:Array Nat).contains c=(c==32);rw[Bool.eq_iff_iff,beq_iff_eq];simp
 rw[hg];have hlo:stripLo j4 true (S x)=(x.takeWhile j4).length:=rfl;have hhi:stripHi j4 true (S x) (x.takeWhile j4).length=x.length-((x.drop (x.takeWhile j4).length).reverse.takeWhile j4).length:=by
  show(S x).length-_=_;rw[gW]
 have hsub:PySem.stripped j4 true true (S x)=S (i6 x):=by
  unfold PySem.stripped;rw[hlo,hhi];unfold strSub;rw[pG];show Str.mk (x.toArray.extract _ _)=_;have h1:=M3 j4 x;have h2:(x.drop (x.takeWhile j4).length).length=x.length-(x.takeWhile j4).length:=List.length_drop;rw[List.extract_toArray,List.extract_eq_drop_take,h2];congr 3
  exact Nat.sub_right_comm _ _ _
 split
 ·rename_i h;unfold stripSame at h;rw[hlo,hhi,gW,Bool.and_eq_true,beq_iff_eq,beq_iff_eq] at h;refine f8 h fun h1 h2=> ?_;clear h;rw[pG,h1];have h3:((x.drop 0).reverse.takeWhile j4).length<=(x.drop 0).length:=by
   have:=M3 j4 (x.drop 0).reverse;rw[List.length_reverse] at this;exact Nat.le.intro this
  rw[h1] at h2;rw[List.drop_zero] at h2 h3 ⊢;congr 1
  rw[List.take_of_length_le];omega
 ·exact hsub
theorem nO: ∀c,c<128->Unicode.lowerOf c=[cH c]:=by decide+kernel
theorem EU (x:b9) (h:j6 x=true):Txt.lower (S x)=S (x.map cH):=by
 unfold Txt.lower placed;have ha: ∀c∈x,c<128:=fun c hc=>of_decide_eq_true (List.all_eq_true.mp h c hc);have h1:(S x).cps.mapIdx (fun i c=>(Unicode.lowerAt (S x).cps i).toArray)=(x.map fun c=> #[cH c]).toArray:=by
  apply Array.ext
  ·simp
  ·intro i h1 h2;have hi:i<x.length:=by simpa using h1
   simp only[Array.getElem_mapIdx,List.getElem_toArray,List.getElem_map];have he:(S x).cps[i]? =some x[i]:=by simp[hi]
   unfold Unicode.lowerAt;rw[he];have hc:=ha x[i] (List.getElem_mem hi);have hne:(x[i]==0x3A3)=false:=by
    rw[beq_eq_false_iff_ne];omega
   simp only[hne,Bool.false_and,Bool.false_eq_true,if_false,nO _ hc]
 rw[h1];show Str.mk _=Str.mk _;congr 1
 clear h1 h ha;induction x with
 |nil=>rfl
 |cons a r ih=>
  simp only[List.map_cons];rw[<-Array.toList_inj];have ih':=congrArg Array.toList ih;simp at ih' ⊢;try exact ih'
theorem EV: ∀c,c<128->Txt.isalpha (S [c])=X4 c:=by decide+kernel
end
section
open PySem PySem.W PyProof.Rows
theorem D6:g9<=sizeLine:=by decide
theorem fO:(g9:Int)<2 ^63:=by decide
section
variable {W:Wd} {C:Cx} {X:Xs} {oa:Option Addr} {s:Shared} {k:Nat}
theorem g5.mk_int {i:Int} {t:Tok} {h':Heap} {tk:Nat} (q: ∀b o,s.heap.get? b=some o->h'.get? b=some o):g5 C X oa s (.int i) (.int i t) {s with heap:=h',toks:=tk}:=
 ⟨.of_keep q,.int i t⟩
theorem g5.mk_str {x:b9} {t:Tok} {h':Heap} {tk:Nat} (q: ∀b o,s.heap.get? b=some o->h'.get? b=some o):g5 C X oa s (.str x) (.str (S x) t) {s with heap:=h',toks:=tk}:=
 ⟨.of_keep q,.str x t⟩
theorem g5.mk_bool {b:Bool} {h':Heap} {tk:Nat} (q: ∀b o,s.heap.get? b=some o->h'.get? b=some o):g5 C X oa s (.bool b) (.bool b) {s with heap:=h',toks:=tk}:=
 ⟨.of_keep q,.bool b⟩
theorem Rps.items {h:Heap} {vs:List Value} {ds:List V} (r:Rps h X vs ds):vs.toArray.size=ds.length:=by
 rw[List.size_toArray];exact r.length
theorem kE {b:Int} (h:small b=true):b.natAbs.log2<4096:=by
 have h1:b.natAbs<2 ^4096:=of_decide_eq_true h;by_cases h0:b.natAbs=0
 ·rw[h0];decide+kernel
 ·exact(Nat.log2_lt h0).mpr h1
theorem PD {a b:Int} (ha:small a=true) (hb:small b=true):IntMulOk a b:=by
 unfold IntMulOk;have bits: ∀x:Int,small x=true->Builtin.Int.intBits x<=4096:=fun x hx=>by
  unfold Builtin.Int.intBits;split
  ·omega
  ·have:=kE hx;exact Nat.succ_le_of_lt this
 have:=bits a ha;have:=bits b hb;have hb':Builtin.Int.intTooBig (Builtin.Int.intBits a+Builtin.Int.intBits b)=false:=by
  unfold Builtin.Int.intTooBig;refine decide_eq_false ?_;have:(8192:Int)<=bitsLine:=by decide+kernel
  omega
 rw[hb'];simp
theorem u8 {h:Heap} {u:Value} {d:V} {ds:List V} (hd:d=.list ds\/d=.olist ds) (r:B2 h X oa u d): ∃a vs,u=.ref a/\h.IsList a vs.toArray/\Rps h X vs ds:=by
 rcases hd with e|e
 ·subst e;refine X2 (dU r) fun a o vs n e1 e2 e3 e4 Z e5=> ?_;exact⟨a,vs,e1,⟨o,e2,e3,n,e4⟩,e5⟩
 ·subst e;refine X2 r fun a o vs n Z e1 e2 e3 e4 e5=> ?_;clear r;exact⟨a,vs,e1,⟨o,e2,e3.1,n,e4⟩,e5⟩
theorem Q3 {h:Heap} {u:Value} {ds:List V} (r:Rp h X u (.tup ds)): ∃a vs,u=.ref a/\IsTup h a vs.toArray/\Rps h X vs ds:=by
 refine X2 r.inv fun a o vs n e h1 h2 h3 Z h4=> ?_;exact⟨a,vs,e,⟨o,h1,h2,n,h3⟩,h4⟩
theorem B2.any {h:Heap} {u:Value} {d:V} (r:B2 h X none u d):B2 h X oa u d:=by
 cases d<;>first|exact r|(refine nL r fun Z Z Z Z e Z=> ?_;clear r;injection e)
theorem B2.keep {h h':Heap} {u:Value} {d:V} (k: ∀b o,h.get? b=some o->h'.get? b=some o) (r:B2 h X oa u d):B2 h' X oa u d:=by
 cases d with
 |olist ds=>refine X2 r fun b o vs n e1 e2 e3 e4 e5 e6=> ?_;clear r;exact⟨b,o,vs,n,e1,e2,k _ _ e3,e4,e5,e6.carry fun b o e Z Z=>k b o e⟩
 |_=>exact Rp.carry (fun b o e Z Z=>k b o e) r
theorem g5.mk_list {vs:List Value} {ds:List V} {tk:Nat} (hf: ¬X s.heap.objs.size) (r:Rps s.heap X vs ds) (keep:R4 X s.heap (s.heap.push {cls:=.type "list",data:=.seq vs.toArray})):
  g5 C X oa s (.list ds) (.ref s.heap.objs.size) {s with heap:=s.heap.push {cls:=.type "list",data:=.seq vs.toArray},toks:=tk}:=
 ⟨.of_keep fun Z Z e=>Heap.get?_push_of_some _ e,.list (n:=0) (Heap.get?_push_size _ rfl) rfl rfl hf (r.carry keep)⟩
theorem g5.mk_tup {vs:List Value} {ds:List V} {tk:Nat} (hf: ¬X s.heap.objs.size) (r:Rps s.heap X vs ds) (keep:R4 X s.heap (s.heap.push {cls:=.type "tuple",data:=.seq vs.toArray})):
  g5 C X oa s (.tup ds) (.ref s.heap.objs.size) {s with heap:=s.heap.push {cls:=.type "tuple",data:=.seq vs.toArray},toks:=tk}:=
 ⟨.of_keep fun Z Z e=>Heap.get?_push_of_some _ e,.tup (n:=0) (Heap.get?_push_size _ rfl) rfl rfl hf (r.carry keep)⟩
theorem R4.push {h:Heap} (o:Obj):R4 X h (h.push o):=fun Z Z e Z Z=>Heap.get?_push_of_some _ e
noncomputable def Xn (X:Xs) (h:Heap):Prop:= ∀a,X a->a<h.objs.size
theorem w5.guard {α β:Type} {r:R α} {G:Tr β} {P:α->β->Shared->Prop} {E:Int->Value->Shared->Prop} {c:Prop} [Decidable c] (h:c->w5 r G P E s):w5 (if c then r else .stuck) G P E s:=by
 by_cases hc:c
 ·rw[if_pos hc];exact h hc
 ·rw[if_neg hc];trivial
theorem w5.need1 {α γ β:Type} {o:Option γ} {f:γ->R α} {G:Tr β} {P:α->β->Shared->Prop} {E:Int->Value->Shared->Prop} (h: ∀a,o=some a->w5 (f a) G P E s):w5 (needR o f) G P E s:=by
 cases o with
 |none=>trivial
 |some a=>exact h a rfl
theorem PE {α β:Type} {r:R α} {G:Tr β} {P:α->β->Shared->Prop} {E:Int->Value->Shared->Prop} (h:r≠.stuck->w5 r G P E s):w5 r G P E s:=by
 cases r with
 |stuck=>trivial
 |_=>exact h nofun
theorem Y2 {α β:Type} {r:R α} {t:Sem β} {P:α->β->Shared->Prop} {E:Int->Value->Shared->Prop} (h:r≠.stuck->Ou C r t P E s):Ou C r t P E s:=by
 cases r with
 |stuck=>trivial
 |_=>exact h nofun
theorem Ou.guard {α β:Type} {r:R α} {t:Sem β} {P:α->β->Shared->Prop} {E:Int->Value->Shared->Prop} {c:Prop} [Decidable c] (h:c->Ou C r t P E s):Ou C (if c then r else .stuck) t P E s:=by
 by_cases hc:c
 ·rw[if_pos hc];exact h hc
 ·rw[if_neg hc];trivial
section
variable {β γ:Type} {P:γ->β->Shared->Prop} {E:Int->Value->Shared->Prop} {T:Value->Sem β} {TT:List Value->Sem β} {t:Sem β} {u:Value} {v:V} {us:List Value} {vs:List V}
theorem bV {f:b9->R γ} (h:strM f v≠.stuck): ∃x,v=.str x:=by cases v<;>first|exact⟨_,rfl⟩|exact absurd rfl h
theorem dX {f:Int->R γ} (h:intM f v≠.stuck): ∃x,v=.int x:=by cases v<;>first|exact⟨_,rfl⟩|exact absurd rfl h
theorem qU {f:List V->R γ} (h:AV f v≠.stuck): ∃x,v=.list x:=by cases v<;>first|exact⟨_,rfl⟩|exact absurd rfl h
theorem zA {f:List V->R γ} (h:seqM f v≠.stuck): ∃x,(v=.list x\/v=.olist x)/\seqM f v=f x:=by cases v<;>first|exact⟨_,.inl rfl,rfl⟩|exact⟨_,.inr rfl,rfl⟩|exact absurd rfl h
theorem KH {f:List V->R γ} (h:SQ f v≠.stuck): ∃x,v=.tup x:=by cases v<;>first|exact⟨_,rfl⟩|exact absurd rfl h
theorem EW {f:List (b9×Int)->R γ} (h:dictM f v≠.stuck): ∃x,v=.dict x:=by cases v<;>first|exact⟨_,rfl⟩|exact absurd rfl h
theorem V8 {α:Type} {r:R α} {d:α} (h:r=.ok d):r≠.stuck:=fun q=>nomatch q.symm.trans h
theorem O3 {f:b9->R γ} {d:γ} (h:strM f v=.ok d): ∃x,v=.str x/\f x=.ok d:=by
 refine d6 (bV (V8 h)) fun x z9r=> ?_;subst z9r;exact⟨x,rfl,h⟩
theorem KI {f:Int->R γ} {d:γ} (h:intM f v=.ok d): ∃x,v=.int x/\f x=.ok d:=by
 refine d6 (dX (V8 h)) fun x z8r=> ?_;subst z8r;exact⟨x,rfl,h⟩
theorem EX {f:List (b9×Int)->R γ} {d:γ} (h:dictM f v=.ok d): ∃x,v=.dict x/\f x=.ok d:=by
 refine d6 (EW (V8 h)) fun x z7r=> ?_;subst z7r;exact⟨x,rfl,h⟩
theorem KJ {f:List V->R γ} {d:γ} (h:seqM f v=.ok d): ∃x,(v=.list x\/v=.olist x)/\f x=.ok d:=
 have⟨x,e,q⟩:=zA (V8 h)
 ⟨x,e,q▸h⟩
theorem qV {f:Nat->R γ} {x:b9} {d:γ} (h:oneM x f=.ok d): ∃c,x=[c]/\f c=.ok d:=by
 rcases x with _|⟨c,_|_⟩
 ·injection h
 ·exact⟨c,rfl,h⟩
 ·injection h
theorem kF {α:Type} {o:Option α} {f:α->R γ} {d:γ} (h:needR o f=.ok d): ∃a,o=some a/\f a=.ok d:=by
 cases o with
 |none=>injection h
 |some a=>exact⟨a,rfl,h⟩
theorem D7 {α:Type} {c:Prop} [Decidable c] {d:α} {r:R α} (h:(if c then r else .stuck)=.ok d):c/\r=.ok d:=by
 by_cases hc:c
 ·rw[if_pos hc] at h;exact⟨hc,h⟩
 ·rw[if_neg hc] at h;injection h
theorem v1 {α:Type} {c d:α} (h:R.ok c=.ok d):c=d:=by cases h;rfl
theorem Ou.strM {f:b9->R γ} (a:B2 s.heap X oa u v) (h: ∀x t,v=.str x->Ou C (f x) (T (.str (S x) t)) P E s):Ou C (strM f v) (T u) P E s:=Y2 fun hne=>by
 refine d6 (bV hne) fun x z6r=> ?_;subst z6r;refine d6 (t8 a) fun t e=> ?_;rw[e];exact h x t rfl
theorem Ou.intM {f:Int->R γ} (a:B2 s.heap X oa u v) (h: ∀x t,v=.int x->Ou C (f x) (T (.int x t)) P E s):Ou C (intM f v) (T u) P E s:=Y2 fun hne=>by
 refine d6 (dX hne) fun x z5r=> ?_;subst z5r;refine d6 (A2 a) fun t e=> ?_;rw[e];exact h x t rfl
theorem Ou.oneM {f:Nat->R γ} {x:b9} (h: ∀c,x=[c]->Ou C (f c) t P E s):Ou C (oneM x f) t P E s:=by
 rcases x with _|⟨c,_|_⟩
 ·trivial
 ·exact h c rfl
 ·trivial
theorem Ou.need1 {α:Type} {o:Option α} {f:α->R γ} (h: ∀a,o=some a->Ou C (f a) t P E s):Ou C (needR o f) t P E s:=by
 cases o with
 |none=>trivial
 |some a=>exact h a rfl
theorem Ou.arg1 {f:V->R γ} (a:v7 s.heap X oa us vs) (h: ∀u v,B2 s.heap X oa u v->Ou C (f v) (TT [u]) P E s):Ou C (arg1 f vs) (TT us) P E s:=by
 rcases vs with _|⟨v,_|_⟩
 ·trivial
 ·rcases us with _|⟨u,_|_⟩
  ·exact a.elim
  ·exact h u v a.1
  ·exact a.2.elim
 ·trivial
theorem Ou.arg2 {f:V->V->R γ} (a:v7 s.heap X oa us vs) (h: ∀u v u' v',B2 s.heap X oa u v->B2 s.heap X oa u' v'->Ou C (f v v') (TT [u,u']) P E s):Ou C (arg2 f vs) (TT us) P E s:=by
 rcases vs with _|⟨v,_|⟨v',_|_⟩⟩
 ·trivial
 ·trivial
 ·rcases us with _|⟨u,_|⟨u',_|_⟩⟩
  ·exact a.elim
  ·exact a.2.elim
  ·exact h u v u' v' a.1 a.2.1
  ·exact a.2.2.elim
 ·trivial
end
noncomputable def NE {α:Type} (r:R α):Prop:= ∀l,r≠.err l
section
variable {γ:Type} {r r':R γ} {v:V} {vs:List V}
theorem NE.ok {a:γ}:NE (.ok a):=nofun
theorem NE.stuck:NE (.stuck:R γ):=nofun
theorem NE.or {c:Prop} [Decidable c] (h:NE r) (h':NE r'):NE (if c then r else r'):=by
 by_cases e:c
 ·rw[if_pos e];exact h
 ·rw[if_neg e];exact h'
theorem NE.strM {f:b9->R γ} (h: ∀x,NE (f x)):NE (strM f v):=by cases v<;>first|exact NE.stuck|exact h _
theorem NE.intM {f:Int->R γ} (h: ∀x,NE (f x)):NE (intM f v):=by cases v<;>first|exact NE.stuck|exact h _
theorem NE.seqM {f:List V->R γ} (h: ∀x,NE (f x)):NE (seqM f v):=by cases v<;>first|exact NE.stuck|exact h _
theorem NE.dictM {f:List (b9×Int)->R γ} (h: ∀x,NE (f x)):NE (dictM f v):=by cases v<;>first|exact NE.stuck|exact h _
theorem NE.arg0 (h:NE r):NE (arg0 r vs):=by cases vs<;>first|exact NE.stuck|exact h
theorem NE.arg1 {f:V->R γ} (h: ∀x,NE (f x)):NE (arg1 f vs):=by rcases vs with _|⟨_,_|_⟩<;>first|exact NE.stuck|exact h _
theorem NE.arg2 {f:V->V->R γ} (h: ∀x y,NE (f x y)):NE (arg2 f vs):=by rcases vs with _|⟨_,_|⟨_,_|_⟩⟩<;>first|exact NE.stuck|exact h _ _
theorem NE.oneM {f:Nat->R γ} {x:b9} (h: ∀x,NE (f x)):NE (oneM x f):=by rcases x with _|⟨_,_|_⟩<;>first|exact NE.stuck|exact h _
theorem NE.needR {α:Type} {o:Option α} {f:α->R γ} (h: ∀x,NE (f x)):NE (needR o f):=by cases o<;>first|exact NE.stuck|exact h _
end
theorem KL {x y:V} {u v:Value} (a:B2 s.heap X oa u x) (b:B2 s.heap X oa v y) (hf:Xn X s.heap):
  Ou C (SR x y) (binaryOp .Add u v) (g5 C X oa s) (C7 C s) s:=by
 cases x with
 |int i=>
  refine d6 (A2 a) fun Z e=> ?_;rw[e];exact Ou.intM (T:=fun v=>binaryOp .Add _ v) b fun j t Z=>add_int (.mk_int fun Z Z e=>e)
 |str c=>
  refine d6 (t8 a) fun Z e=> ?_;rw[e];refine Ou.strM (T:=fun v=>binaryOp .Add _ v) b fun d t Z=>Ou.guard fun h=>add_str (fun t' tk=> ?_) (Nat.le_trans h D6);have:(S c++S d)=S (c++d):=NT c d;show g5 C X oa s (.str (c++d)) (.str (S c++S d) t') _;rw[this];exact .mk_str fun Z Z e=>e
 |list c=>
  refine Y2 fun hne=> ?_;refine d6 (qU hne) fun d z3r=> ?_;subst z3r;refine Ou.guard fun h=> ?_;refine X2 (dU a) fun l o vs n z2r e1 e2 e3 Z e4=> ?_;subst z2r;refine X2 (dU b) fun l' o' vs' n' z1r f1 f2 f3 Z f4=> ?_;subst z1r;obtain⟨cls,dd,data,sl⟩:=o;obtain⟨cls',dd',data',sl'⟩:=o';cases e2;cases e3;cases f2;cases f3;refine concat_meets ⟨_,e1,rfl⟩ ⟨_,f1,rfl⟩ noFill_list_add seq_list_add PySem.F.slot_list_add PySem.F.entry_list_add (PySem.F.args_list_add_2 _ _)
   (list_addW l l' vs.toArray vs'.toArray n n' dd dd' sl sl' (by rw[e4.items,f4.items];exact Nat.le_trans h D6)) ⟨e1,f1,?_⟩
  rw[List.append_toArray];exact .mk_list (fun q=>Nat.lt_irrefl _ (hf _ q)) (e4.append f4) (.push _)
 |_=>trivial
theorem J6 {γ β:Type} {P:γ->β->Shared->Prop} {E:Int->Value->Shared->Prop} {f:Int->Int->R γ} {T:Value->Value->Sem β} {x y:V} {u v:Value} (a:B2 s.heap X oa u x) (b:B2 s.heap X oa v y)
  (h: ∀i j t t',Ou C (f i j) (T (.int i t) (.int j t')) P E s):Ou C (intM (fun i=>intM (f i) y) x) (T u v) P E s:=
 Ou.intM (T:=fun u=>T u v) a fun i t Z=>Ou.intM (T:=fun v=>T (.int i t) v) b fun j t' Z=>h i j t t'
theorem KM (op:Operator) {x y:V} {u v:Value} (a:B2 s.heap X oa u x) (b:B2 s.heap X oa v y) (hf:Xn X s.heap):
  Ou C (R1 op x y) (binaryOp op u v) (g5 C X oa s) (C7 C s) s:=by
 cases op with
 |Add=>exact KL a b hf
 |Sub=>exact J6 (T:=fun u v=>binaryOp .Sub u v) a b fun i j t t'=>sub_int (.mk_int fun Z Z e=>e)
 |Mult=>exact J6 (T:=fun u v=>binaryOp .Mult u v) a b fun i j t t'=>Ou.guard fun h=>mul_int (.mk_int fun Z Z e=>e) (let h:=Bool.and_eq_true_iff.mp h;PD h.1 h.2)
 |Pow=>exact J6 (T:=fun u v=>binaryOp .Pow u v) a b fun i j t t'=>Ou.guard fun h=>pow_int_small h.1 h.2.1 h.2.2 (.mk_int fun Z Z e=>e)
 |Mod=>exact J6 (T:=fun u v=>binaryOp .Mod u v) a b fun i j t t'=>Ou.guard fun h=>mod_int (Int.ne_of_gt h) (Int.fmod_eq_emod_of_nonneg i (Int.le_of_lt h)▸.mk_int fun Z Z e=>e)
 |FloorDiv=>exact J6 (T:=fun u v=>binaryOp .FloorDiv u v) a b fun i j t t'=>Ou.guard fun h=>floordiv_int (Int.ne_of_gt h.1) (Int.fdiv_eq_ediv_of_nonneg i (Int.le_of_lt h.1)▸.mk_int fun Z Z e=>e) (.inl (PyProof.noPylong_of_log2 (Nat.lt_of_lt_of_le (kE h.2) (by decide))))
 |_=>trivial
theorem KN {x:V} {u:Value} (a:B2 s.heap X oa u x):Ou C (OS x) (unaryOp .USub u) (g5 C X oa s) (C7 C s) s:=
 Ou.intM (T:=fun u=>unaryOp .USub u) a fun i t Z=>neg_int (.mk_int fun Z Z e=>e)
end
end
section
open PySem PySem.W PyProof.Rows PySem.SeqAt
section
variable {W:Wd} {C:Cx} {X:Xs} {oa:Option Addr} {s:Shared} {k:Nat}
theorem P6.mk {b c:Bool} {h':Heap} {tk:Nat} (q: ∀a o,s.heap.get? a=some o->h'.get? a=some o) (e:c=b):P6 C s b c {s with heap:=h',toks:=tk}:=⟨.of_keep q,e⟩
theorem V9 {x:V} {u:Value} (a:B2 s.heap X oa u x):Ou C (B3 x) (truthy u) (P6 C s) (C7 C s) s:=by
 refine Y2 fun hne=> ?_;cases x with
 |none=>rw[bU a];exact truthy_none (.mk (fun Z Z e=>e) rfl)
 |bool b=>rw[M2 a];exact wpAny_truthy_bool (.mk (fun Z Z e=>e) rfl)
 |int i=>refine d6 (A2 a) fun Z z34r=> ?_;subst z34r;exact truthy_int (.mk (fun Z Z e=>e) rfl)
 |str x=>
  refine d6 (t8 a) fun Z z33r=> ?_;subst z33r;refine Ou.guard fun h=>PySem.P.truthy_str (by show ¬(x.length:Int)≥2 ^63;have:=fO;omega) (.mk (fun Z Z e=>e) ?_);cases x<;>rfl
 |list ds=>
  refine Ou.guard fun h=> ?_;refine v9 (u8 (.inl rfl) a) fun l vs z32r hl hr=> ?_;subst z32r;refine wpAny_truthy_list hl (by rw[hr.items];have:=fO;omega) (.mk (fun Z Z e=>e) ?_);cases ds with
  |nil=>rw[K3 hr];rfl
  |cons _ _=>refine r0 (D3 hr) fun Z Z e Z=> ?_;rw[e];rfl
 |_=>exact absurd rfl hne
noncomputable def PF (C:Cx) (s:Shared) (b:Bool) (v:Value) (s':Shared):Prop:=k9 C s s'/\v=.bool b
theorem PF.mk {b c:Bool} {tk:Nat} (e:c=b):PF C s b (.bool c) {s with toks:=tk}:=⟨.of_keep fun Z Z e=>e,e▸rfl⟩
theorem aO {n:Nat} {e:Nat->Bool} (h: ∀j,j<n->e j=true):(List.range n).all e=true:=List.all_eq_true.mpr fun j hj=>h j (List.mem_range.mp hj)
theorem Rps.at {h:Heap} {vs:List Value} {ds:List V} (r:Rps h X vs ds) {j:Nat} (hj:j<vs.length): ∃hd:j<ds.length,Rp h X vs[j] ds[j]:=by
 have hd:j<ds.length:=by rw[<-r.length];exact hj
 refine e8 (r.get (k:=j) (d:=ds[j]) (List.getElem?_eq_getElem hd)) fun v e q=> ?_;rw[List.getElem?_eq_getElem hj] at e;injection e with e;subst e;exact⟨hd,q⟩
theorem Dats.at: ∀{ds:List V},Dats ds-> ∀{j:Nat} (hj:j<ds.length),RZ ds[j]
 |d::r,q,0,_=>q.1
 |d::r,q,j+1,hj=>Dats.at (ds:=r) q.2 (by simpa using hj)
theorem pH: ∀{ds:List V} {j:Nat} (hj:j<ds.length),gR ds[j]<=deepVs ds
 |d::r,0,_=>by show gR d<=max _ _;exact Nat.le_max_left _ _
 |d::r,j+1,hj=>by
  have:=pH (ds:=r) (j:=j) (by simpa using hj);have hr:(d::r)[j+1]=r[j]'(by simpa using hj):=rfl;rw[hr];show _<=max (gR d) (deepVs r);exact q41 this
theorem x9 {h:Heap} {a:Addr} {items:Array Value} (t:IsTup h a items):h.IsTuple a items:=t
theorem pI {d:V} {u v:Value} {A:Around} (hd:RZ d) (a:Rp s.heap X u d) (b:Rp s.heap X v d):EqAt A s u v true\/ ∃ds,d=.tup ds\/d=.list ds:=by
 cases d with
 |none=>rw[bU a,bU b];exact .inl (.same _)
 |bool _=>rw[M2 a,M2 b];exact .inl (.same _)
 |int i=>
  refine d6 (A2 a) fun t e=> ?_;refine d6 (A2 b) fun t' e'=> ?_;rw[e,e',<-beq_self_eq_true i];exact .inl (EqAt.int_int i t i t')
 |str x=>
  refine d6 (t8 a) fun t e=> ?_;refine d6 (t8 b) fun t' e'=> ?_;rw[e,e',<-beq_self_eq_true (⟨x.toArray⟩:Str)];exact .inl (EqAt.str_str _ t _ t')
 |bytes y=>
  refine f8 (R5 a) fun z31n Z=> ?_;refine d6 z31n fun t e=> ?_;clear z31n;refine f8 (R5 b) fun z30n Z=> ?_;refine d6 z30n fun t' e'=> ?_;clear z30n;rw[e,e'];exact .inl fun Z Z E Q h=>eqBool_bytes (by rwa[decide_eq_true rfl])
 |tup ds=>exact .inr ⟨ds,.inl rfl⟩
 |list ds=>exact .inr ⟨ds,.inr rfl⟩
 |_=>exact hd.elim
theorem cV {n:Nat} {A:Around} {ds:List V} {vs vs':List Value} (ih: ∀{d:V} {u v:Value} {A:Around} {s:Shared},gR d<=n->RZ d->A.units+n<cLine->Rp s.heap X u d->Rp s.heap X v d->EqAt A s u v true)
  (hn:deepVs ds<=n) (hd:Dats ds) (hu:A.units+(n+1)<cLine) (hr:Rps s.heap X vs ds) (hr':Rps s.heap X vs' ds):
  ∀j (h1:j<vs.toArray.size) (h2:j<vs'.toArray.size),EqAt A.in1 s vs.toArray[j] vs'.toArray[j] true:=fun j h1 h2=>
 have⟨hj,q⟩:=hr.at (show j<vs.length from h1);have⟨_,q'⟩:=hr'.at (show j<vs'.length from h2)
 ih (Nat.le_trans (pH hj) hn) (Dats.at hd hj) (by show A.units+1+n<cLine;exact q39 hu) q q'
theorem tH {n m:Nat} (h:n=m):((List.range (min n m)).all (fun Z=>true) &&n==m)=true:=by
 rw[aO fun Z Z=>rfl,h,beq_self_eq_true];rfl
theorem BG: ∀(n:Nat) {d:V} {u v:Value} {A:Around} {s:Shared},gR d<=n->RZ d->A.units+n<cLine->Rp s.heap X u d->Rp s.heap X v d->EqAt A s u v true:=by
 intro n;induction n with
 |zero=>
  intro d u v A s hn hd hu a b;rcases pI (A:=A) hd a b with e|⟨ds,rfl|rfl⟩
  ·exact e
  ·exact absurd hn (Nat.not_succ_le_zero _)
  ·exact absurd hn (Nat.not_succ_le_zero _)
 |succ n ih=>
  intro d u v A s hn hd hu a b;rcases pI (A:=A) hd a b with e|⟨ds,rfl|rfl⟩
  ·exact e
  ·refine v9 (Q3 a) fun l vs z29r hl hr=> ?_;subst z29r;refine v9 (Q3 b) fun l' vs' z28r hl' hr'=> ?_;subst z28r;by_cases e:l=l'
   ·subst e;exact .same _
   ·exact .of_refs e (tH (hr.items.trans hr'.items.symm)▸RcAt.tuples (A:=A) (e:=fun Z=>true) (x9 hl) (x9 hl') (DY hu) (cV ih (Nat.le_of_succ_le_succ hn) hd hu hr hr'))
  ·refine v9 (u8 (oa:=none) (.inl rfl) (show B2 s.heap X none u (.list ds) from a)) fun l vs z27r hl hr=> ?_;subst z27r;refine v9 (u8 (oa:=none) (.inl rfl) (show B2 s.heap X none v (.list ds) from b)) fun l' vs' z26r hl' hr'=> ?_;subst z26r;by_cases e:l=l'
   ·subst e;exact .same _
   ·have key:=RcAt.lists (A:=A) (e:=fun Z=>true) hl hl' (hr.items.trans hr'.items.symm) (DY hu) (cV ih (Nat.le_of_succ_le_succ hn) hd hu hr hr');rw[aO fun Z Z=>rfl] at key;exact .of_refs e key
theorem fP {d:V} {ds:List V} {l:List b9} (e:M1 (d::ds)=some l): ∃i l',d=.str i/\M1 ds=some l'/\l=i::l':=by
 cases d with
 |str i=>
  refine e8 (Option.map_eq_some_iff.mp (show(M1 ds).map (i:: ·)=some l from e)) fun l' q z25r=> ?_;subst z25r;exact⟨i,l',rfl,q,rfl⟩
 |_=>nomatch e
theorem tI {α:Type} [BEq α] [LawfulBEq α] {x c:α} {l:List α} {b:Bool} (h:b=l.contains x):(c==x||b)=(c::l).contains x:=by
 rw[List.contains_cons,h,BEq.comm]
noncomputable def NU (x:b9) (y:Value):Bool:=match y with
 | .str c _=>c==S x
 |_=>false
noncomputable def NV (x:Int) (y:Value):Bool:=match y with
 | .int c _=>c==x
 |_=>false
theorem EY {h:Heap} {x:b9} {vs:List Value} {ds:List V} {l:List b9} (r:Rps h X vs ds) (e:M1 ds=some l):
  (∀y∈vs,∃c t,y=.str (S c) t)/\vs.any (NU x)=l.contains x:=by
 induction ds generalizing vs l with
 |nil=>rw[K3 r,<-Option.some.inj e];exact⟨fun Z h=>(List.not_mem_nil h).elim,rfl⟩
 |cons d ds ih=>
  refine v9 (fP e) fun c l' z23r q z24r=> ?_;subst z23r;subst z24r;refine v9 (D3 r) fun v us z22r a z=> ?_;subst z22r;refine d6 (t8 a) fun t z21r=> ?_;subst z21r;refine f8 (ih z q) fun h1 h2=> ?_;exact⟨fun y hy=>(List.mem_cons.mp hy).elim (fun e=>⟨c,t,e⟩) (h1 y),(congrArg (· ||_) (EP c x)).trans (tI h2)⟩
theorem EZ {h:Heap} {x:Int} {vs:List Value} {ds:List V} {l:List Int} (r:Rps h X vs ds) (e:J4 ds=some l):
  (∀y∈vs,∃c t,y=.int c t)/\vs.any (NV x)=l.contains x:=by
 induction ds generalizing vs l with
 |nil=>rw[K3 r,<-Option.some.inj e];exact⟨fun Z h=>(List.not_mem_nil h).elim,rfl⟩
 |cons d ds ih=>
  refine v9 (oZ e) fun c l' z19r q z20r=> ?_;subst z19r;subst z20r;refine v9 (D3 r) fun v us z18r a z=> ?_;subst z18r;refine d6 (A2 a) fun t z17r=> ?_;subst z17r;refine f8 (ih z q) fun h1 h2=> ?_;exact⟨fun y hy=>(List.mem_cons.mp hy).elim (fun e=>⟨c,t,e⟩) (h1 y),tI h2⟩
theorem FA {x:V} {u:Value} {ds:List V} {vs:List Value} (hr:Rps s.heap X vs ds) (a:B2 s.heap X oa u x) {b:Bool} (hb:Z7 x ds=.ok b):
  ∃e:Value->Bool,(∀(A:Around) (y:Value),y∈vs.toArray->EqAt A s y u (e y))/\vs.toArray.any e=b:=by
 refine f8 (D7 hb) fun Z hb=> ?_;cases x with
 |str x=>
  refine e8 (kF hb) fun l q e=> ?_;refine d6 (t8 a) fun t' hu=> ?_;refine f8 (EY (x:=x) hr q) fun h1 h2=> ?_;refine⟨NU x,fun A y hy=> ?_,(List.any_toArray ..).trans (h2.trans (v1 e))⟩;refine C1 (h1 y (List.mem_toArray.mp hy)) fun c t z16r=> ?_;subst z16r;rw[hu];exact EqAt.str_str _ _ _ _
 |int i=>
  refine e8 (kF hb) fun l q e=> ?_;refine d6 (A2 a) fun t' hu=> ?_;refine f8 (EZ (x:=i) hr q) fun h1 h2=> ?_;refine⟨NV i,fun A y hy=> ?_,(List.any_toArray ..).trans (h2.trans (v1 e))⟩;refine C1 (h1 y (List.mem_toArray.mp hy)) fun c t z15r=> ?_;subst z15r;rw[hu];exact EqAt.int_int _ _ _ _
 |_=>injection hb
theorem nP {x:V} {u:Value} (a:B2 s.heap X oa u x) (h:x≠.none):(u==Value.none)=false:=by
 cases x with
 |none=>exact absurd rfl h
 |bool _=>rw[M2 a];rfl
 |int _=>refine d6 (A2 a) fun Z e=> ?_;rw[e];rfl
 |str _=>refine d6 (t8 a) fun Z e=> ?_;rw[e];rfl
 |bytes _=>refine f8 (R5 a) fun z14n Z=> ?_;refine d6 z14n fun Z e=> ?_;clear z14n;rw[e];rfl
 |tup _=>refine nL (Rp.inv a) fun Z Z Z Z e Z=> ?_;rw[e];rfl
 |list _=>refine nL (Rp.inv a) fun Z Z Z Z e Z=> ?_;rw[e];rfl
 |rng _=>refine nL (Rp.inv a) fun Z Z Z Z e Z=> ?_;rw[e];rfl
 |dict _=>refine r0 (Rp.inv a) fun Z Z e Z=> ?_;rw[e];rfl
 |olist _=>refine sX a fun Z Z Z Z Z e Z=> ?_;clear a;rw[e];rfl
theorem BH {f:Str->Option Value} {kvs:List (b9×Int)} (q: ∀x:b9,match kvs.lookup x with|some i=> ∃t,f ⟨x.toArray⟩=some (.int i t)| .none=>f ⟨x.toArray⟩=.none) (x:b9):
  (f (S x)).isSome=(kvs.lookup x).isSome:=by
 have:=q x;split at this
 ·rename_i e;refine d6 this fun t z=> ?_;clear this;rw[e];show(f ⟨x.toArray⟩).isSome=_;rw[z];rfl
 ·rename_i e;rw[e];show(f ⟨x.toArray⟩).isSome=_;rw[this];rfl
variable (C s) in
noncomputable def sW (r:R Bool) (op op':CmpOp) (u v:Value):Prop:=Ou C r (compareOp op u v) (PF C s) (C7 C s) s/\Ou C (r.map (!·)) (compareOp op' u v) (PF C s) (C7 C s) s
theorem sW.of {r:R Bool} {op op':CmpOp} {u v:Value} (h:r≠.stuck->sW C s r op op' u v):sW C s r op op' u v:=by
 cases r with
 |stuck=>exact⟨trivial,trivial⟩
 |_=>exact h nofun
theorem sW.guard {r:R Bool} {op op':CmpOp} {u v:Value} {c:Prop} [Decidable c] (h:c->sW C s r op op' u v):sW C s (if c then r else .stuck) op op' u v:=by
 split
 ·exact h ‹_›
 ·exact⟨trivial,trivial⟩
theorem tJ {x:V} {ds:List V} {l:Int} (h:Z7 x ds=.err l):False:=by
 unfold Z7 at h;by_cases hc:ds.length<=g9
 ·rw[if_pos hc] at h;cases x with
  |str x=>cases q:M1 ds with
   |none=>rw[q] at h;injection h
   |some l=>rw[q] at h;injection h
  |int x=>cases q:J4 ds with
   |none=>rw[q] at h;injection h
   |some l=>rw[q] at h;injection h
  |_=>injection h
 ·rw[if_neg hc] at h;injection h
variable {x y:V} {u v:Value}
theorem sW.none (e:x≠.none) (a:B2 s.heap X oa u x):qP x=false:=by cases x<;>first|rfl|exact absurd rfl e
open Classical in
theorem FC {k:Nat} (ok:C.Ok k) (a:B2 s.heap X oa u x) (b:B2 s.heap X oa v y):sW C s (WU x y) .Eq .NotEq u v:=by
 have hu:C.A.units+40<cLine:=by have:=ok.units;exact q36 this
 refine sW.of fun hne=> ?_;cases x with
 |int p=>
  refine d6 (dX hne) fun q z13r=> ?_;subst z13r;refine d6 (A2 a) fun Z e=> ?_;refine d6 (A2 b) fun Z e'=> ?_;rw[e,e'];exact⟨eq_int (.mk rfl),ne_int (.mk rfl)⟩
 |str p=>
  refine d6 (bV hne) fun q z12r=> ?_;subst z12r;refine d6 (t8 a) fun Z e=> ?_;refine d6 (t8 b) fun Z e'=> ?_;rw[e,e'];exact⟨eq_str (.mk (EP _ _)),ne_str (.mk (congrArg (!·) (EP _ _)))⟩
 |tup us=>
  refine d6 (KH hne) fun vs z11r=> ?_;subst z11r;refine sW.guard fun⟨e,hd,hn⟩=> ?_;subst e;refine v9 (Q3 a) fun l zs z10r hl hr=> ?_;subst z10r;refine v9 (Q3 b) fun l' zs' z9r hl' hr'=> ?_;subst z9r;have he:=cV (A:=C.A) (BG 20) hn hd (q36 hu) hr hr';have key:=tH (hr.items.trans hr'.items.symm);exact⟨RcAt.tuples (e:=fun Z=>true) (x9 hl) (x9 hl') (DY hu) he prog w _ _ (.mk key),
   RcNeAt.tuples (e:=fun Z=>true) (x9 hl) (x9 hl') (DY hu) he prog w _ _ (.mk (congrArg (!·) key))⟩
 |list us=>
  refine d6 (qU hne) fun vs z8r=> ?_;subst z8r;cases vs with
  |cons _ _=>exact absurd rfl hne
  |nil=>
   refine sW.guard fun Z=> ?_;refine v9 (u8 (.inl rfl) a) fun l zs z7r hl hr=> ?_;subst z7r;refine v9 (u8 (.inl rfl) b) fun l' zs' z6r hl' hr'=> ?_;subst z6r;rw[K3 hr'] at hl';cases us with
   |nil=>
    rw[K3 hr] at hl;exact⟨RcAt.lists (e:=fun Z=>true) hl hl' rfl (DY hu) (fun j h1 Z=>absurd h1 (Nat.not_lt_zero _)) prog w _ _ (.mk rfl),RcNeAt.lists (e:=fun Z=>true) hl hl' rfl (DY hu) (fun j h1 Z=>absurd h1 (Nat.not_lt_zero _)) prog w _ _ (.mk rfl)⟩
   |cons d ds=>
    have hz:(zs.toArray.size !=(([]:List Value).toArray).size)=true:=by
     rw[hr.items];rfl
    exact⟨RcAt.lists_lengths hl hl' hz (DY hu) prog w _ _ (.mk rfl),RcNeAt.lists_lengths hl hl' hz (DY hu) prog w _ _ (.mk rfl)⟩
 |_=>exact absurd rfl hne
theorem qW (a:B2 s.heap X oa u x) (ds:List V) {l:Addr} {zs:List Value} (hl:s.heap.IsList l zs.toArray\/IsTup s.heap l zs.toArray) (hr:Rps s.heap X zs ds):sW C s (Z7 x ds) .In .NotIn u (.ref l):=by
 cases hi:Z7 x ds with
 |stuck=>exact⟨trivial,trivial⟩
 |err l=>exact(tJ hi).elim
 |ok r=>
  refine e8 (FA hr a hi) fun f h1 h2=> ?_;rcases hl with hl|hl
  ·exact⟨in_listAt f hl (h1 _) (.mk h2),notIn_listAt f hl (h1 _) (.mk (congrArg (!·) h2))⟩
  ·exact⟨in_tupleAt f (x9 hl) (h1 _) (.mk h2),notIn_tupleAt f (x9 hl) (h1 _) (.mk (congrArg (!·) h2))⟩
theorem FD (a:B2 s.heap X oa u x) (b:B2 s.heap X oa v y):sW C s (WV x y) .In .NotIn u v:=by
 refine sW.of fun hne=> ?_;cases y with
 |str z=>
  refine d6 (bV hne) fun p z5r=> ?_;subst z5r;refine d6 (t8 a) fun Z e=> ?_;refine d6 (t8 b) fun Z e'=> ?_;rw[e,e'];rcases p with _|⟨c,_|_⟩
  ·exact absurd rfl hne
  ·have e:=qT z c;exact sW.guard fun Z=>⟨in_str (.mk e),notIn_str (.mk (congrArg (!·) e))⟩
  ·exact absurd rfl hne
 |list ds=>refine v9 (u8 (.inl rfl) b) fun l zs z4r hl hr=> ?_;subst z4r;exact qW a ds (.inl hl) hr
 |olist ds=>refine v9 (u8 (.inr rfl) b) fun l zs z3r hl hr=> ?_;subst z3r;exact qW a ds (.inl hl) hr
 |tup ds=>refine v9 (Q3 b) fun l zs z2r hl hr=> ?_;subst z2r;exact qW a ds (.inr hl) hr
 |dict d=>
  refine d6 (bV hne) fun p z1r=> ?_;subst z1r;refine d6 (t8 a) fun t e=> ?_;refine iL (Rp.inv b) fun D f e' m sm n q=> ?_;rw[e,e'];have hk:(PySem.strKind prog w).is (S p) (.str (S p) t)=true:=by show Value.isStrOf (S p) (.str (S p) t)=true;simp[Value.isStrOf]
  have e:=BH q p;exact⟨wpAny_in_of (k:=S p) hk (by simpa using sm) m (.mk e),wpAny_notIn_of (k:=S p) hk (by simpa using sm) m (.mk (congrArg (!·) e))⟩
 |_=>exact absurd rfl hne
theorem FE (a:B2 s.heap X oa u x) (b:B2 s.heap X oa v y):sW C s (WW x y) .Is .IsNot u v:=by
 refine sW.of fun hne=> ?_;cases y with
 |none=>
  have z:(u==Value.none)=qP x:=by
   by_cases hx:x=.none
   ·subst hx;rw[bU a];rfl
   ·exact(nP a hx).trans (sW.none hx a).symm
  rw[bU b];exact⟨is_none (.mk z),isNot_none (.mk (congrArg (!·) z))⟩
 |bool q=>
  obtain⟨p,rfl⟩: ∃p,x=.bool p:=by cases x<;>first|exact⟨_,rfl⟩|exact absurd rfl hne
  rw[M2 a,M2 b];have e:(Value.bool p==Value.bool q)=(p==q):=by cases p<;>cases q<;>rfl
  exact⟨wpAny_is_plain rfl (.mk e),wpAny_isNot_plain rfl (.mk (congrArg (!·) e))⟩
 |_=>exact absurd rfl hne
theorem bW (op:CmpOp) {k:Nat} (ok:C.Ok k) (a:B2 s.heap X oa u x) (b:B2 s.heap X oa v y):
  Ou C (w9 op x y) (compareOp op u v) (PF C s) (C7 C s) s:=by
 cases op with
 |Eq=>exact(FC ok a b).1
 |NotEq=>exact(FC ok a b).2
 |In=>exact(FD a b).1
 |NotIn=>exact(FD a b).2
 |Is=>exact(FE a b).1
 |IsNot=>exact(FE a b).2
 |Lt=>exact J6 (T:=compareOp .Lt) a b fun i j t t'=>lt_int (.mk rfl)
 |LtE=>exact J6 (T:=compareOp .LtE) a b fun i j t t'=>le_int (.mk rfl)
 |Gt=>exact J6 (T:=compareOp .Gt) a b fun i j t t'=>gt_int (.mk rfl)
 |GtE=>exact J6 (T:=compareOp .GtE) a b fun i j t t'=>ge_int (.mk rfl)
end
end
section
open PySem PySem.W PyProof.Rows PySem.SeqAt PySem.Builtin.Str
theorem pJ {i:Int} {n k:Nat} (h:G3 i n=some k):seqIndex? i n=some k/\k<n/\(0<=i->(k:Int)=i)/\(i<0->(k:Int)=i+n):=by
 have key: ∀j:Int,0<=j->j<n->(if (decide (0<=j) &&decide (j<(n:Int)))=true then some j.toNat else none)=some j.toNat:=fun j a b=>by
  rw[if_pos (by rw[Bool.and_eq_true,decide_eq_true_eq,decide_eq_true_eq];exact⟨a,b⟩)]
 unfold G3 at h;unfold seqIndex?;split at h<;>split at h<;>(try cases h)
 ·rename_i h1 h2;refine⟨?_,by exact r7 h2 h1,by omega,by omega⟩;have e:(if i<0 then i+n else i)=i:=if_neg (by omega);simp only[e];exact key i h1 h2
 ·rename_i h1 h2;refine⟨?_,by omega,by omega,by omega⟩;have e:(if i<0 then i+n else i)=i+n:=if_pos (by omega);simp only[e];exact key (i+n) (by omega) (by omega)
section
variable {W:Wd} {C:Cx} {X:Xs} {oa:Option Addr} {s:Shared} {k:Nat}
theorem qX (x:b9) (k:Nat) (h:k<x.length):(S x).cps[k]? =some (x.getD k 0):=by
 simp[h]
theorem qY {ds:List V} {l:Addr} {zs:List Value} (hl:s.heap.IsList l zs.toArray\/IsTup s.heap l zs.toArray) (hr:Rps s.heap X zs ds) (j:Int) (t:Tok):
  Ou C (ED ds j) (getItem (.ref l) (.int j t)) (g5 C X oa s) (C7 C s) s:=by
 refine Ou.guard fun h=>Ou.need1 fun k hp=>Ou.need1 fun d hk=> ?_;refine Q1 (pJ hp) fun h1 h2 h3 h4=> ?_;refine e8 (hr.get hk) fun z hz hz'=> ?_;have h63:=fO;have hx:zs.toArray[k]? =some z:=List.getElem?_toArray.trans hz;have hi:=hr.items;by_cases h0:0<=j
 ·have h3:=h3 h0;rcases hl with hl|hl
  ·exact wpAny_getItem_list (x:=z) hl h0 (by omega) (by rw[show j.toNat=k by exact ozt h3];exact hx) ⟨.refl,.of hz'⟩
  ·exact PyProof.Rows.getItem_tuple hl (by omega) (by omega) (by rw[hi];exact h1) hx ⟨.refl,.of hz'⟩
 ·have h4:=h4 (Int.not_le.mp h0);rcases hl with hl|hl
  ·exact wpAny_getItem_list_neg (x:=z) hl (Int.not_le.mp h0) (by rw[hi];omega) (by omega) (by rw[hi,show(j+ds.length).toNat=k by exact ozt h4];exact hx) ⟨.refl,.of hz'⟩
  ·exact PyProof.Rows.getItem_tuple hl (by omega) (by omega) (by rw[hi];exact h1) hx ⟨.refl,.of hz'⟩
theorem BI (x:b9) (t:Tok) (j:Int) (t':Tok):
  Ou C (if x.length<=g9 then needR (G3 j x.length) fun k=>R.ok (.str [x.getD k 0]) else .stuck) (getItem (.str (S x) t) (.int j t')) (g5 C X oa s) (C7 C s) s:=by
 refine Ou.guard fun h=>Ou.need1 fun k hp=> ?_;refine Q1 (pJ hp) fun h1 h2 h3 h4=> ?_;have h63:=fO;refine PyProof.Rows.getItem_str (c:=x.getD k 0) ?_ ?_ (.mk_str fun Z Z e=>e)
 ·rw[Bool.or_eq_false_iff,decide_eq_false_iff_not,decide_eq_false_iff_not];by_cases h0:0<=j
  ·have:=h3 h0;omega
  ·have:=h4 (Int.not_le.mp h0);omega
 ·show(seqIndex? j (S x).length).bind _=_;rw[gW,h1];exact qX x k h2
theorem BJ {bs:List Int} (hb: ∀n∈bs,0<=n/\n<256) (t:Tok) (j:Int) (t':Tok):
  Ou C (if bs.length<=g9/\0<=j/\j<bs.length then R.ok (V.int (bs.getD j.toNat 0)) else .stuck) (getItem (.bytes (bs.map fun n=>UInt8.ofNat n.toNat).toArray t) (.int j t')) (g5 C X oa s) (C7 C s) s:=by
 refine Ou.guard fun⟨h1,h2,h3⟩=> ?_;have hm:(bs.map fun n=>UInt8.ofNat n.toNat).length=bs.length:=List.length_map _;refine getItem_bytes (by rw[hm];exact Nat.le_trans h1 (by decide)) h2 (by rw[hm];exact h3) ?_;have hj:j.toNat<bs.length:=by exact r7 h3 h2
 have e:(((bs.map fun n=>UInt8.ofNat n.toNat).getD j.toNat 0).toNat:Int)=bs.getD j.toNat 0:=by
  rw[List.getD_eq_getElem?_getD,List.getD_eq_getElem?_getD,List.getElem?_map,List.getElem?_eq_getElem hj];have:=hb bs[j.toNat] (List.getElem_mem hj);show((UInt8.ofNat (bs[j.toNat]).toNat).toNat:Int)=bs[j.toNat];rw[UInt8.toNat_ofNat'];exact q82 this
 rw[e];exact .mk_int fun Z Z e=>e
theorem zB {x i:V} {u v:Value} (a:B2 s.heap X oa u x) (b:B2 s.heap X oa v i):Ou C (P2 x i) (getItem u v) (g5 C X oa s) (C7 C s) s:=by
 cases x with
 |str x=>
  refine d6 (t8 a) fun t e=> ?_;rw[e];exact Ou.intM (T:=fun v=>getItem _ v) b fun j t' Z=>BI x t j t'
 |bytes bs=>
  refine f8 (R5 a) fun z18n hb=> ?_;obtain⟨t,e⟩:=z18n;rw[e];exact Ou.intM (T:=fun v=>getItem _ v) b fun j t' Z=>BJ hb t j t'
 |tup ds=>
  refine v9 (Q3 a) fun l vs e hl hr=> ?_;rw[e];exact Ou.intM (T:=fun v=>getItem _ v) b fun j t' Z=>qY (.inr hl) hr j t'
 |list ds=>
  refine v9 (u8 (.inl rfl) a) fun l vs e hl hr=> ?_;rw[e];exact Ou.intM (T:=fun v=>getItem _ v) b fun j t' Z=>qY (.inl hl) hr j t'
 |olist ds=>
  refine v9 (u8 (.inr rfl) a) fun l vs e hl hr=> ?_;rw[e];exact Ou.intM (T:=fun v=>getItem _ v) b fun j t' Z=>qY (.inl hl) hr j t'
 |dict kvs=>
  refine iL (Rp.inv a) fun D f e m sm n q=> ?_;rw[e];refine Ou.strM (T:=fun v=>getItem _ v) b fun y t Z=>Ou.need1 fun i hy=> ?_;have:=q y;rw[hy] at this;refine d6 this fun t' e=> ?_;clear this;have hk:(PySem.strKind prog w).is (S y) (.str (S y) t)=true:=by show Value.isStrOf (S y) (.str (S y) t)=true;simp[Value.isStrOf]
  exact wpAny_getItem_of (k:=S y) hk m e (.mk_int fun Z Z e=>e)
 |_=>trivial
theorem pK {h:Heap} {vs:List Value} {ds:List V} {l:List b9} (r:Rps h X vs ds) (e:M1 ds=some l):
  ∃ps:List (Str×Tok),vs=strValues ps/\ps.map (·.1)=l.map S:=by
 induction ds generalizing vs l with
 |nil=>rw[K3 r,<-Option.some.inj e];exact⟨[],rfl,rfl⟩
 |cons d ds ih=>
  refine v9 (fP e) fun c l' z16r q z17r=> ?_;subst z16r;subst z17r;refine v9 (D3 r) fun v us z15r a z=> ?_;subst z15r;refine d6 (t8 a) fun t z14r=> ?_;subst z14r;refine e8 (ih z q) fun ps h1 h2=> ?_;exact⟨(S c,t)::ps,by rw[h1];rfl,by rw[List.map_cons,h2];rfl⟩
theorem pL (l:List b9):Txt.join (S []) (l.map S)=S l.flatten:=by
 unfold Txt.join;rw[StrLaws.glued_eq_join];show Str.join ⟨#[]⟩ _=_;rw[<-fold_cat_join_nil];have key: ∀(l:List b9) (a:b9),(l.map S).foldl HAppend.hAppend (S a)=S (a++l.flatten):=by
  intro l;induction l with
  |nil=>intro a;simp
  |cons x r ih=>
   intro a;rw[List.map_cons,List.foldl_cons];show(r.map S).foldl HAppend.hAppend (S a++S x)=_;rw[NT,ih,List.flatten_cons,List.append_assoc]
 exact key l []
theorem pM {l:List b9} (h:X5 l<=g9):JoinOk (S []) (l.map S)=true:=by
 unfold JoinOk;rw[StrLaws.joinTotal];have e:((l.map S).map (·.length)).sum=X5 l:=by
  unfold X5;rw[List.map_map];congr 1
 rw[e];have e2:(S []).length=0:=rfl;rw[e2,Nat.mul_zero,Nat.add_zero];rw[Bool.not_eq_true'];unfold tooLong;have:=D6;have e3:sizeLine=2 ^24:=by decide
 refine decide_eq_false ?_;omega
theorem zC {r d:V} {v:List V} {q:R V} (h:arg0 q v=.ok d):v=[]/\q=.ok d:=by
 cases v with
 |nil=>exact⟨rfl,h⟩
 |cons _ _=>injection h
noncomputable def MSh (m:Str) (o:V) (as:List V) (d:V):Prop:=
 (∃x,o=.str x/\((m="strip"/\as=[.str [32]]/\x.length<=g9/\d=.str (i6 x))\/(m="lower"/\as=[]/\(x.length<=g9/\j6 x=true)/\d=.str (x.map cH))\/
  (∃c,m="isalpha"/\as=[]/\x=[c]/\c<128/\d=.bool (X4 c))\/(∃c,m="find"/\as=[.str [c]]/\d=.int (if x.contains c then (J5 c x:Int) else -1))\/
  (∃c,m="index"/\as=[.str [c]]/\x.contains c=true/\d=.int (J5 c x:Int))\/
  ∃y vs l,m="join"/\as=[y]/\(y=.list vs\/y=.olist vs)/\M1 vs=some l/\x=[]/\X5 l<=g9/\d=.str l.flatten))\/
 ∃kvs a i,o=.dict kvs/\m="get"/\as=[.str a,.int i]/\d=.int ((kvs.lookup a).getD i)
theorem jC {f:V->R V} {as:List V} {d:V} (h:arg1 f as=.ok d): ∃y,as=[y]/\f y=.ok d:=by
 rcases as with _|⟨y,_|_⟩
 ·injection h
 ·exact⟨y,rfl,h⟩
 ·injection h
theorem KO {f:V->V->R V} {as:List V} {d:V} (h:arg2 f as=.ok d): ∃y z,as=[y,z]/\f y z=.ok d:=by
 rcases as with _|⟨y,_|⟨z,_|_⟩⟩
 ·injection h
 ·injection h
 ·exact⟨y,z,rfl,h⟩
 ·injection h
theorem qZ {m:Str} {o d:V} {as:List V} (h:w4 m o as=.ok d):MSh m o as d:=by
 unfold w4 at h;by_cases e:m="strip"
 ·rw[if_pos e] at h;refine e8 (O3 h) fun x hx h1=> ?_;refine e8 (jC h1) fun y hy h2=> ?_;refine e8 (O3 h2) fun y z13r h3=> ?_;subst z13r;refine f8 (D7 h3) fun z12n h4=> ?_;obtain⟨rfl,hl⟩:=z12n;exact .inl ⟨x,hx,.inl ⟨e,hy,hl,(v1 h4).symm⟩⟩
 rw[if_neg e] at h;by_cases e:m="lower"
 ·rw[if_pos e] at h;refine e8 (O3 h) fun x hx h1=> ?_;refine f8 (zC (r:=d) h1) fun hy h2=> ?_;refine f8 (D7 h2) fun hl h3=> ?_;exact .inl ⟨x,hx,.inr (.inl ⟨e,hy,hl,(v1 h3).symm⟩)⟩
 rw[if_neg e] at h;by_cases e:m="isalpha"
 ·rw[if_pos e] at h;refine e8 (O3 h) fun x hx h1=> ?_;refine f8 (zC (r:=d) h1) fun hy h2=> ?_;refine e8 (qV h2) fun c hc h3=> ?_;refine f8 (D7 h3) fun hl h4=> ?_;exact .inl ⟨x,hx,.inr (.inr (.inl ⟨c,e,hy,hc,hl,(v1 h4).symm⟩))⟩
 rw[if_neg e] at h;by_cases e:m="find"
 ·rw[if_pos e] at h;refine e8 (O3 h) fun x hx h1=> ?_;refine e8 (jC h1) fun y hy h2=> ?_;refine e8 (O3 h2) fun y z11r h3=> ?_;subst z11r;refine e8 (qV h3) fun c z10r h4=> ?_;subst z10r;exact .inl ⟨x,hx,.inr (.inr (.inr (.inl ⟨c,e,hy,(v1 (D7 h4).2).symm⟩)))⟩
 rw[if_neg e] at h;by_cases e:m="index"
 ·rw[if_pos e] at h;refine e8 (O3 h) fun x hx h1=> ?_;refine e8 (jC h1) fun y hy h2=> ?_;refine e8 (O3 h2) fun y z9r h3=> ?_;subst z9r;refine e8 (qV h3) fun c z8r h4=> ?_;subst z8r;refine f8 (D7 h4) fun hl h5=> ?_;exact .inl ⟨x,hx,.inr (.inr (.inr (.inr (.inl ⟨c,e,hy,hl.2,(v1 h5).symm⟩))))⟩
 rw[if_neg e] at h;by_cases e:m="join"
 ·rw[if_pos e] at h;refine e8 (O3 h) fun x hx h1=> ?_;refine e8 (jC h1) fun y hy h2=> ?_;refine e8 (KJ h2) fun vs hv h3=> ?_;refine e8 (kF h3) fun l q h4=> ?_;refine f8 (D7 h4) fun hl h5=> ?_;exact .inl ⟨x,hx,.inr (.inr (.inr (.inr (.inr ⟨y,vs,l,e,hy,hv,q,hl.1,hl.2.1,(v1 h5).symm⟩))))⟩
 rw[if_neg e] at h;by_cases e:m="get"
 ·rw[if_pos e] at h;refine e8 (EX h) fun x hx h1=> ?_;refine r0 (KO h1) fun y z hy h2=> ?_;refine e8 (O3 h2) fun y z7r h3=> ?_;subst z7r;refine e8 (KI h3) fun z z6r h4=> ?_;subst z6r;exact .inr ⟨x,y,z,hx,e,hy,(v1 h4).symm⟩
 rw[if_neg e] at h;injection h
theorem FF {m:Str} {x d:V} {u:Value} {pos:Pos} {E:Value->Shared->Prop} (a:B2 s.heap X oa u x) (h:w4 m x []=.ok d):
  MethodOnS prog w C.A E m u pos [] (g5 C X oa s d) s:=by
 have h0:=qZ h;clear h;rcases h0 with⟨x,rfl,h⟩|⟨_,_,_,_,_,q,_⟩
 ·refine d6 (t8 a) fun t e=> ?_;rw[e];rcases h with⟨_,q,_⟩|⟨rfl,_,h1,rfl⟩|⟨c,rfl,_,rfl,h1,rfl⟩|⟨_,_,q,_⟩|⟨_,_,q,_⟩|⟨_,_,_,_,q,_⟩
  ·nomatch q
  ·have e:=EU x h1.2;refine SB.lower ?_ ?_
   ·show tooLong (Txt.lower (S x)).length=false;rw[e,gW,List.length_map];exact decide_eq_false (Nat.not_lt.mpr (Nat.le_trans h1.1 D6))
   ·show g5 C X oa s _ (.str (Txt.lower (S x)) _) _;rw[e];exact .mk_str fun Z Z e=>e
  ·refine SB.isalpha ?_;show g5 C X oa s _ (.bool (Txt.isalpha (S [c]))) _;rw[EV c h1];exact .mk_bool fun Z Z e=>e
  ·nomatch q
  ·nomatch q
  ·nomatch q
 ·nomatch q
theorem g5.after {h':Heap} {d:V} {v:Value} {st:Shared} {tk:Nat} (g:k9 C s st) (r:B2 st.heap X oa v d):g5 C X oa s d v {st with toks:=tk}:=by
 obtain⟨h',_,rfl,g⟩:=g;exact⟨⟨h',tk,rfl,g⟩,r⟩
theorem FG {m:Str} {x y d:V} {u:Value} {pos:Pos} {arg:Sem Value} {E:Value->Shared->Prop} (ok:C.Ok k) (i:aN W C s.heap) (hX: ∀a,C.X a->X a) (a:B2 s.heap X oa u x)
  (ha:wpAny (model prog w) C.A arg (g5 C X oa s y) E s) (h:w4 m x [y]=.ok d):
  MethodOnS prog w C.A E m u pos [(false,arg)] (g5 C X oa s d) s:=by
 have h0:=qZ h;clear h;rcases h0 with⟨x,rfl,h⟩|⟨_,_,_,_,_,q,_⟩
 ·refine d6 (t8 a) fun t e=> ?_;rw[e];rcases h with⟨rfl,q,h1,rfl⟩|⟨_,q,_⟩|⟨_,_,q,_⟩|⟨c,rfl,q,rfl⟩|⟨c,rfl,q,h1,rfl⟩|⟨y',vs,l,rfl,q,hy,hs,rfl,h1,rfl⟩
  ·rw[(List.cons.inj q).1] at ha;refine SB.stripChars (wpAny_mono ha (fun v s₁ p=> ?_) fun Z Z e=>e) (Nat.le_trans h1 D6);refine d6 (t8 p.2) fun t' e=> ?_;refine⟨_,_,e,fun t' k=> ?_⟩;show g5 C X oa s _ (.str (Txt.stripChars (S _) (S [32])) _) _;rw[ET];exact .after (h':=s.heap) p.1 (.str _ _)
  ·nomatch q
  ·nomatch q
  ·rw[(List.cons.inj q).1] at ha;refine SB.find (wpAny_mono ha (fun v s₁ p=> ?_) fun Z Z e=>e);refine d6 (t8 p.2) fun t' e=> ?_;refine⟨_,_,e,?_⟩;show g5 C X oa s _ (.int (Txt.find (S x) (S [c])) _) _;rw[EQ];exact .after (h':=s.heap) p.1 (.int _ _)
  ·rw[(List.cons.inj q).1] at ha;refine SB.index (wpAny_mono ha (fun v s₁ p=> ?_) fun Z Z e=>e);refine d6 (t8 p.2) fun t' e=> ?_;rcases yZ x c with⟨h2,_⟩|⟨_,r,h2⟩
   ·rw[h2] at h1;exact absurd h1 (by decide)
   exact⟨_,_,e,J5 c x,r,h2,.after (h':=s.heap) p.1 (.int _ _)⟩
  ·rw[(List.cons.inj q).1] at ha;refine SB.join (wpAny_mono ha (fun v s₁ p=> ?_) fun Z Z e=>e);refine v9 (u8 hy p.2) fun D zs e hl hr=> ?_;refine e8 (pK hr hs) fun ps z4r h3=> ?_;subst z4r;refine⟨D,ps,e,hl,_,h3,pM h1,fun t' k=> ?_⟩;show g5 C X oa s _ (.str (Txt.join (S []) (l.map S)) _) _;rw[pL];exact .after (h':=s.heap) p.1 (.str _ _)
 ·nomatch q
theorem FH {m:Str} {x y z d:V} {u:Value} {pos:Pos} {arg arg':Sem Value} {E:Value->Shared->Prop} (ok:C.Ok k) (hX: ∀a,C.X a->X a) (i:aN W C s.heap) (wf:W.Fits C) (a:B2 s.heap X oa u x)
  (ha:wpAny (model prog w) C.A arg (fun v s₁=>g5 C X oa s y v s₁/\wpAny (model prog w) C.A arg' (g5 C X oa s₁ z) E s₁) E s) (h:w4 m x [y,z]=.ok d):
  MethodOnS prog w C.A E m u pos [(false,arg),(false,arg')] (g5 C X oa s d) s:=by
 have h0:=qZ h;clear h;rcases h0 with⟨x,_,h⟩|⟨kvs,y',z',rfl,rfl,q,rfl⟩
 ·rcases h with⟨_,q,_⟩|⟨_,q,_⟩|⟨_,_,q,_⟩|⟨_,_,q,_⟩|⟨_,_,q,_⟩|⟨_,_,_,_,q,_⟩<;>nomatch q
 ·refine f8 (List.cons.inj q) fun qy qz=> ?_;rw[qy,(List.cons.inj qz).1] at ha;refine iL (Rp.inv a) fun D f e m sm n Z=> ?_;rw[e];refine X1 (id m) fun o es ep ho x1 x2 x3=> ?_;refine⟨"dict","dict.get",F.plainAttrs_dict,F.slot_dict_get,F.type_dict_get,m.typeIs,fun a e=> ?_,?_⟩
  ·injection e with e;subst e;exact⟨o,ho,x1.2.1⟩
  ·refine wpAny_dict_get2 (knd:=PySem.strKind prog w) (by simpa using sm) (wpAny_mono ha (fun v s₁ p=> ?_) fun Z Z e=>e);refine f8 p fun z3n hz=> ?_;clear p;obtain⟨st,hv⟩:=z3n;refine d6 (t8 hv) fun t z2r=> ?_;subst z2r;refine wpAny_mono hz (fun v e7 p=> ?_) fun Z Z e=>e;refine f8 p fun st' hv=> ?_;clear p;refine d6 (A2 hv) fun t'' z1r=> ?_;subst z1r;have ZJ:=i.gr ok wf st.gr;have ZK:=(Rp.carry (i.carry ok st.gr hX) a).carry (ZJ.carry ok st'.gr hX);refine iL ZK.inv fun D' n8 e' ZL aD6 aO1 B9=> ?_;obtain rfl:D=D':=Value.ref.inj (e.symm.trans e');have hk:(PySem.strKind prog w).is (S y') (.str (S y') t)=true:=by show Value.isStrOf (S y') (.str (S y') t)=true;simp[Value.isStrOf]
   refine⟨S y',_,hk,ZL,.after (h':=s.heap) (st.trans st') ?_⟩;have:=B9 y';cases e:kvs.lookup y' with
   |none=>rw[e] at this;rw[show n8 (S y')=none from this];exact .int _ _
   |some i=>rw[e] at this;refine d6 this fun t' e'=> ?_;clear this;rw[show n8 (S y')=some (.int i t') from e'];exact .int _ _
end
theorem tK:bootBuiltins "len"=some (.builtin "len"):=by decide+kernel
theorem tL:bootBuiltins "ord"=some (.builtin "ord"):=by decide+kernel
theorem tM:bootBuiltins "chr"=some (.builtin "chr"):=by decide+kernel
theorem kH:bootBuiltins "bytes"=some (.type "bytes"):=by decide+kernel
theorem pN:bootBuiltins "list"=some (.type "list"):=by decide+kernel
theorem tN:bootBuiltins "min"=some (.builtin "min"):=by decide+kernel
theorem tO:bootBuiltins "max"=some (.builtin "max"):=by decide+kernel
theorem tP:bootBuiltins "sum"=some (.builtin "sum"):=by decide+kernel
theorem tQ:bootBuiltins "all"=some (.builtin "all"):=by decide+kernel
theorem tR:bootBuiltins "abs"=some (.builtin "abs"):=by decide+kernel
theorem tS:bootBuiltins "int"=some (.type "int"):=by decide+kernel
theorem kI:bootBuiltins "range"=some (.type "range"):=by decide+kernel
section
variable {W:Wd} {C:Cx} {X:Xs} {oa:Option Addr} {s:Shared} {k:Nat}
theorem FI: ∀(x:Int) (l:List Int),wV (x::l)∈x::l/\ ∀a∈x::l,a<=wV (x::l):=by
 have key: ∀(l:List Int) (x:Int),(l.foldl max x=x\/l.foldl max x∈l)/\x<=l.foldl max x/\ ∀a∈l,a<=l.foldl max x:=by
  intro l;induction l with
  |nil=>intro x;exact⟨.inl rfl,Int.le_refl _,fun a h=>(List.not_mem_nil h).elim⟩
  |cons y r ih=>
   intro x;refine n5 (ih (max x y)) fun h1 h2 h3=> ?_;rw[List.foldl_cons];refine⟨?_,by exact q42 h2,fun a ha=> ?_⟩
   ·rcases h1 with e|e
    ·by_cases hxy:x<=y
     ·right;rw[e,show max x y=y by exact Int.max_eq_right hxy];exact .head _
     ·left;rw[e];exact q44 hxy
    ·exact .inr (.tail _ e)
   ·rcases List.mem_cons.mp ha with rfl|ha
    ·exact q43 h2
    ·exact h3 a ha
 intro x l;refine n5 (key l x) fun h1 h2 h3=> ?_;refine⟨?_,fun a ha=> ?_⟩
 ·rcases h1 with e|e
  ·show l.foldl max x∈_;rw[e];exact .head _
  ·exact .tail _ e
 ·rcases List.mem_cons.mp ha with rfl|ha
  ·exact h2
  ·exact h3 a ha
noncomputable def dY (vs:List Value) (bs:List Bool):Prop:=vs=bs.map Value.bool
theorem dY.length {vs:List Value} {bs:List Bool} (h:dY vs bs):vs.length=bs.length:=(congrArg List.length h).trans (List.length_map _)
theorem dY.get {vs:List Value} {bs:List Bool} (h:dY vs bs) (i:Nat) (v:Value) (e:vs[i]? =some v): ∃b,bs[i]? =some b/\v=.bool b:=by
 rw[h,List.getElem?_map] at e;refine e8 (Option.map_eq_some_iff.mp e) fun b h1 h2=> ?_;exact⟨b,h1,h2.symm⟩
theorem xI {d:V} {ds:List V} {l:List Bool} (e:U6 (d::ds)=some l): ∃i l',d=.bool i/\U6 ds=some l'/\l=i::l':=by
 cases d with
 |bool i=>
  refine e8 (Option.map_eq_some_iff.mp (show(U6 ds).map (i:: ·)=some l from e)) fun l' q z15r=> ?_;subst z15r;exact⟨i,l',rfl,q,rfl⟩
 |_=>nomatch e
theorem FK {h:Heap} {vs:List Value} {ds:List V} {l:List Bool} (r:Rps h X vs ds) (e:U6 ds=some l):dY vs l:=by
 induction ds generalizing vs l with
 |nil=>rw[K3 r,<-Option.some.inj e];rfl
 |cons d ds ih=>
  refine v9 (xI e) fun c l' z13r q z14r=> ?_;subst z13r;subst z14r;refine v9 (D3 r) fun v us z12r a z=> ?_;subst z12r;rw[M2 a];exact congrArg (Value.bool c:: ·) (ih z q)
theorem iN (bs:List Bool):((List.range bs.length).all fun i=>(bs[i]?).getD true)=bs.all id:=by
 rw[Bool.eq_iff_iff,List.all_eq_true,List.all_eq_true];constructor
 ·intro h b hb;obtain⟨i,hi,e⟩:=List.getElem_of_mem hb;have:=h i (List.mem_range.mpr hi);rw[List.getElem?_eq_getElem hi,e] at this;exact this
 ·intro h i hi;have hi':=List.mem_range.mp hi;rw[List.getElem?_eq_getElem hi'];exact h _ (List.getElem_mem hi')
theorem gX (ok:C.Ok k) {ds:List V} {d:V} {u:Value} (hd:d=.list ds\/d=.olist ds) (a:B2 s.heap X oa u d) (h:ds.length<=g9):
  wpAny (model prog w) C.A (call (.builtin "len") [u]) (g5 C X oa s (.int ds.length)) (fun Z Z=>False) s:=by
 refine v9 (u8 hd a) fun l vs z11r hl hr=> ?_;subst z11r;have h63:=fO;refine PyProof.Rows.len_list hl (by rw[hr.items];omega) ?_;rw[hr.items];exact .mk_int fun Z Z e=>e
theorem FL (ok:C.Ok k) {ds:List V} {l:List Int} {d:V} {u:Value} (hd:d=.list ds\/d=.olist ds) (a:B2 s.heap X oa u d) (hi:J4 ds=some l) (h:l.length<=g9) (hr: ∀n∈l,0<=n/\n<256):
  wpAny (model prog w) C.A (call (.type "bytes") [u]) (g5 C X oa s (.bytes l)) (fun Z Z=>False) s:=by
 refine v9 (u8 hd a) fun D vs z10r hl hq=> ?_;subst z10r;have hi':=hq.ofInts hi;refine call_bytes_ints hl hi' hr ?_ ok.handled fun h' t k hk=> ?_
 ·have:vs.length=l.length:=hi'.length;have:=D6;omega
 ·exact⟨.of_keep hk,.bytes l t hr⟩
theorem PG (ok:C.Ok k) {ds:List V} {x:Int} {l:List Int} {d:V} {u:Value} (hd:d=.list ds\/d=.olist ds) (a:B2 s.heap X oa u d) (hi:J4 ds=some (x::l)):
  wpAny (model prog w) C.A (call (.builtin "max") [u]) (g5 C X oa s (.int (wV (x::l)))) (fun Z Z=>False) s:=by
 refine v9 (u8 hd a) fun D vs z9r hl hq=> ?_;subst z9r;have hi':=hq.ofInts hi;refine d6 hi'.allInts.items fun xs e=> ?_;have hns:(x::l)=xs.toList.map (·.1):=by rw[<-hi'.numsOf,<-nums_intItems,<-e]
 have hsz:0<xs.size:=by
  have h3:0<(x::l).length:=by simp
  rw[hns,List.length_map,Array.length_toList] at h3;exact h3
 rw[e] at hl;refine max_intList ok.handled hl hsz fun v h' tk hv hk=> ?_;refine d6 (intItems_at hv) fun t z8r=> ?_;subst z8r;refine f8 (argBest_gt (numAt xs) (xs.size-1)) fun h1 h2=> ?_;have g1:numAt xs (argBest (fun i j=>decide (numAt xs i>numAt xs j)) (xs.size-1))∈x::l:=by
  rw[hns,numAt_eq];exact getD_mem (by rw[List.length_map,Array.length_toList];exact q51 hsz h1)
 have g2: ∀a∈x::l,a<=numAt xs (argBest (fun i j=>decide (numAt xs i>numAt xs j)) (xs.size-1)):=fun a ha=>by
  rw[hns] at ha;refine e8 (mem_getD ha) fun j hj z7r=> ?_;subst z7r;rw[List.length_map,Array.length_toList] at hj;rw[<-numAt_eq];exact h2 j (q80 hj)
 refine f8 (FI x l) fun m1 m2=> ?_;have:numAt xs (argBest (fun i j=>decide (numAt xs i>numAt xs j)) (xs.size-1))=wV (x::l):=Int.le_antisymm (m2 _ g1) (g2 _ m1);rw[this];exact .mk_int hk
theorem PH (ok:C.Ok k) {ds:List V} {l:List Int} {u:Value} (a:B2 s.heap X oa u (.list ds)) (hi:J4 ds=some l):
  wpAny (model prog w) C.A (call (.builtin "sum") [u]) (g5 C X oa s (.int l.sum)) (fun Z Z=>False) s:=by
 refine v9 (u8 (.inl rfl) a) fun D vs z6r hl hq=> ?_;subst z6r;have hi':=hq.ofInts hi;refine d6 hi'.allInts.items fun xs hx=> ?_;have hl':s.heap.IsList D (intItems xs):=hx▸hl;refine sum_intListG ok.handled hl' fun h' tk t' hk=> ?_;have e1:l=xs.toList.map (·.1):=by rw[<-hi'.numsOf,<-nums_intItems,<-hx]
 have e2:preSum (numAt xs) xs.size=l.sum:=by
  rw[preSum_eq,List.take_of_length_le (by simp),e1]
 rw[e2];exact .mk_int hk
theorem PI (ok:C.Ok k) {ds:List V} {l:List Bool} {u:Value} (a:B2 s.heap X oa u (.list ds)) (hi:U6 ds=some l):
  wpAny (model prog w) C.A (call (.builtin "all") [u]) (g5 C X oa s (.bool (l.all id))) (fun Z Z=>False) s:=by
 refine v9 (u8 (.inl rfl) a) fun D vs z5r hl hq=> ?_;subst z5r;have hb:=FK hq hi;have hlt:D<s.heap.objs.size:=by refine e8 hl fun Z e Z=> ?_;clear hl;exact Heap.lt_size e
 refine call_all_walk (wpAny_pyIter_list hl ?_);refine⟨s.heap.objs.size,[s.heap.objs.size,D],[s.heap.objs.size],vs.toArray.size,_,_,fun i=>(l[i]?).getD true,rfl,Walks.list (A:=C.A.in1) ok.handled _ D (Nat.ne_of_lt hlt) vs.toArray,
  ⟨⟨_,Heap.get?_push_size _ rfl,rfl,rfl⟩,hl.push _⟩,fun i v s' Q' E' hP hQ=> ?_,fun h' tk hk=> ?_⟩
 ·refine e8 (hb.get i v (by simpa using hP)) fun b e z4r=> ?_;subst z4r;simp only[e,Option.getD_some] at hQ;exact wpAny_truthy_bool hQ
 ·have e:((List.range vs.toArray.size).all fun i=>(l[i]?).getD true)=l.all id:=by
   rw[List.size_toArray,hb.length];exact iN l
  rw[e];refine .mk_bool fun b x e=>hk b x (fun hm=> ?_) (Heap.get?_push_of_some _ e);rw[List.mem_singleton.mp hm] at e;exact Nat.lt_irrefl _ (Heap.lt_size e)
theorem KP (ok:C.Ok k) {x:b9} {u:Value} (hf:Xn X s.heap) (a:B2 s.heap X oa u (.str x)) (h:x.length<=g9):
  wpAny (model prog w) C.A (call (.type "list") [u]) (g5 C X oa s (.list (x.map fun c=>.str [c]))) (fun Z Z=>False) s:=by
 refine d6 (t8 a) fun t z3r=> ?_;subst z3r;have h':(S x).cps.size<=sizeLine:=by show(S x).length<=_;rw[gW];exact Nat.le_trans h D6
 refine call_list_str ok.handled (S x) t (hn:=h') fun h' tk acc c hk hS hacc=> ?_;refine⟨.of_keep hk,.list (n:=c) (vs:=acc.toList) (o:=_) hS rfl (by simp) (fun q=>Nat.lt_irrefl _ (hf _ q)) ?_⟩;have key: ∀(x:List Nat) (vs:List Value),vs.length=x.length->(∀(j:Nat) (v:Value),vs[j]? =some v-> ∃(c:Nat) (u:Tok),x[j]? =some c/\v=Value.str ⟨#[c]⟩ u)->Rps h' X vs (x.map fun c=>V.str [c]):=by
  intro x;induction x with
  |nil=>intro vs hl _;cases vs with|nil=>exact .nil|cons=>simp at hl
  |cons c r ih=>
   intro vs hl hv;cases vs with
   |nil=>simp at hl
   |cons v vs=>
    refine r0 (hv 0 v rfl) fun c' u e1 z2r=> ?_;subst z2r;simp at e1;subst e1;exact .cons (.str [c] u) (ih vs (by simpa using hl) fun j v e=>hv (j+1) v (by simpa using e))
 refine key x acc.toList ?_ fun j v e=> ?_
 ·have:=hacc.1;simp at this;simpa using this
 ·refine r0 (hacc.2 j v (by simpa using e)) fun c u e1 e2=> ?_;exact⟨c,u,by simpa using e1,e2⟩
noncomputable def cL (f:Str):Value:=(bootBuiltins f).getD .none
variable {us:List Value} {as:List V}
theorem KQ (ok:C.Ok k) (a:v7 s.heap X oa us as):Ou C (SS as) (call (.builtin "len") us []) (g5 C X oa s) (C7 C s) s:=by
 have h63:=fO;refine Ou.arg1 (TT:=fun us=>call (.builtin "len") us []) a fun u v r=> ?_;cases v with
 |str x=>
  refine d6 (t8 r) fun t e=> ?_;rw[e];refine Ou.guard fun h=>PyProof.Rows.len_str (by show ¬(x.length:Int)≥2 ^63;omega) ?_;exact .mk_int (i:=x.length) fun Z Z e=>e
 |list ds=>exact Ou.guard fun h=>gX ok (.inl rfl) r h
 |olist ds=>exact Ou.guard fun h=>gX ok (.inr rfl) r h
 |bytes b=>
  refine f8 (R5 r) fun z1n Z=> ?_;obtain⟨t,e⟩:=z1n;rw[e];have e:(b.map fun n=>UInt8.ofNat n.toNat).toArray.size=b.length:=List.length_map _;refine Ou.guard fun h=>len_bytes (by rw[e];exact Nat.le_trans h (by decide)) ?_;rw[e];exact .mk_int fun Z Z e=>e
 |_=>trivial
theorem KR (a:v7 s.heap X oa us as):Ou C (ST as) (call (.builtin "ord") us []) (g5 C X oa s) (C7 C s) s:=
 Ou.arg1 (TT:=fun us=>call (.builtin "ord") us []) a fun u v r=>Ou.strM (T:=fun u=>call (.builtin "ord") [u] []) r fun x t Z=>Ou.oneM fun c e=>by
  rw[e];exact PySem.P.ord_of_char (.mk_int fun Z Z e=>e)
theorem KS (a:v7 s.heap X oa us as):Ou C (SU as) (call (.builtin "chr") us []) (g5 C X oa s) (C7 C s) s:=
 Ou.arg1 (TT:=fun us=>call (.builtin "chr") us []) a fun u v r=>Ou.intM (T:=fun u=>call (.builtin "chr") [u] []) r fun i t Z=>Ou.guard fun h=>
  PySem.P.chr_of_int (by rw[Bool.or_eq_false_iff,decide_eq_false_iff_not,decide_eq_false_iff_not];exact r39 h) (.mk_str fun Z Z e=>e)
theorem TN {f:List V->R V} {F:Value} (a:v7 s.heap X oa us as) (h: ∀ds d u,(d=.list ds\/d=.olist ds)->B2 s.heap X oa u d->Ou C (f ds) (call F [u] []) (g5 C X oa s) (C7 C s) s):
  Ou C (arg1 (seqM f) as) (call F us []) (g5 C X oa s) (C7 C s) s:=
 Ou.arg1 (TT:=fun us=>call F us []) a fun u v r=>Y2 fun hne=>by
  refine e8 (zA hne) fun ds hd e=> ?_;rw[e];exact h ds v u hd r
theorem TO {f:List V->R V} {F:Value} (a:v7 s.heap X oa us as) (h: ∀ds u,B2 s.heap X oa u (.list ds)->Ou C (f ds) (call F [u] []) (g5 C X oa s) (C7 C s) s):
  Ou C (arg1 (AV f) as) (call F us []) (g5 C X oa s) (C7 C s) s:=
 Ou.arg1 (TT:=fun us=>call F us []) a fun u v r=>Y2 fun hne=>by
  refine d6 (qU hne) fun ds e=> ?_;rw[e] at r ⊢;exact h ds u r
theorem BK (ok:C.Ok k) (a:v7 s.heap X oa us as):Ou C (wW as) (call (.type "bytes") us []) (g5 C X oa s) (C7 C s) s:=
 TN a fun ds d u hd r=>Ou.need1 fun l hi=>Ou.guard fun h=>FL ok hd r hi h.1 fun n hn=>of_decide_eq_true (List.all_eq_true.mp h.2 n hn)
theorem FM (ok:C.Ok k) (hf:Xn X s.heap) (a:v7 s.heap X oa us as):Ou C (NI as) (call (.type "list") us []) (g5 C X oa s) (C7 C s) s:=
 Ou.arg1 (TT:=fun us=>call (.type "list") us []) a fun u v r=>Y2 fun hne=>by
  refine d6 (bV hne) fun x e=> ?_;rw[e] at r ⊢;exact Ou.guard fun h=>KP ok hf r h
theorem KT (ok:C.Ok k) (a:v7 s.heap X oa us as):Ou C (SV as) (call (.builtin "min") us []) (g5 C X oa s) (C7 C s) s:=
 Ou.arg2 (TT:=fun us=>call (.builtin "min") us []) a fun u v u' v' r r'=>J6 (T:=fun u v=>call (.builtin "min") [u,v] []) r r' fun c d t t'=>by
  refine min_two_ints ok.handled fun h' tk hk=> ?_;by_cases h:d<c
  ·rw[if_pos h,show min c d=d by exact r8 h];exact .mk_int hk
  ·rw[if_neg h,show min c d=c by exact q45 h];exact .mk_int hk
theorem KU (ok:C.Ok k) (a:v7 s.heap X oa us as):Ou C (OT as) (call (.builtin "max") us []) (g5 C X oa s) (C7 C s) s:=
 TN a fun ds d u hd r=>Ou.need1 fun l hi=>Ou.guard fun h=>by
  cases l with
  |nil=>exact absurd rfl h
  |cons x l=>exact PG ok hd r hi
theorem KV (ok:C.Ok k) (a:v7 s.heap X oa us as):Ou C (OU as) (call (.builtin "sum") us []) (g5 C X oa s) (C7 C s) s:=
 TO a fun ds u r=>Ou.need1 fun l hi=>PH ok r hi
theorem KW (ok:C.Ok k) (a:v7 s.heap X oa us as):Ou C (OV as) (call (.builtin "all") us []) (g5 C X oa s) (C7 C s) s:=
 TO a fun ds u r=>Ou.need1 fun l hi=>PI ok r hi
theorem BL (hf:Xn X s.heap) (a:v7 s.heap X oa us as):Ou C (jU as) (call (.type "range") us []) (g5 C X oa s) (C7 C s) s:=
 Ou.arg1 (TT:=fun us=>call (.type "range") us []) a fun u v r=>Ou.intM (T:=fun u=>call (.type "range") [u] []) r fun i t Z=>Ou.guard fun h=>
  PySem.call_range_1 ⟨.of_keep fun Z Z e=>Heap.get?_push_of_some _ e,.rng (Heap.get?_push_size _ rfl) (fun q=>Nat.lt_irrefl _ (hf _ q))⟩
theorem KX (a:v7 s.heap X oa us as):Ou C (SW as) (call (.builtin "abs") us []) (g5 C X oa s) (C7 C s) s:=
 Ou.arg1 (TT:=fun us=>call (.builtin "abs") us []) a fun u v r=>Ou.intM (T:=fun u=>call (.builtin "abs") [u] []) r fun i t Z=>call_abs_int fun u tk=>.mk_int fun Z Z e=>e
theorem KY (a:v7 s.heap X oa us as):Ou C (SX as) (call (.type "int") us []) (g5 C X oa s) (C7 C s) s:=
 Ou.arg1 (TT:=fun us=>call (.type "int") us []) a fun u v r=>by
  cases v with
  |bool b=>
   obtain rfl:=M2 r;exact call_int_bool (.mk_int fun Z Z e=>e)
  |_=>trivial
theorem PJ {f:Str} (ok:C.Ok k) (hf:Xn X s.heap) (a:v7 s.heap X oa us as):
  Ou C (fJ f as) (call (cL f) us []) (g5 C X oa s) (C7 C s) s:=by
 have go: ∀{n:Str} {v:Value} {r r':R V},bootBuiltins n=some v->(f=n->Ou C r (call v us []) (g5 C X oa s) (C7 C s) s)->(f≠n->Ou C r' (call (cL f) us []) (g5 C X oa s) (C7 C s) s)->
   Ou C (if f=n then r else r') (call (cL f) us []) (g5 C X oa s) (C7 C s) s:=by
  intro n v r r' hb h h';by_cases e:f=n
  ·rw[if_pos e,show cL f=v by rw[e];unfold cL;rw[hb];rfl];exact h e
  ·rw[if_neg e];exact h' e
 exact go tK (fun Z=>KQ ok a) fun Z=>go tL (fun Z=>KR a) fun Z=>go tM (fun Z=>KS a) fun Z=>go kH (fun Z=>BK ok a) fun Z=>
  go pN (fun Z=>FM ok hf a) fun Z=>go tN (fun Z=>KT ok a) fun Z=>go tO (fun Z=>KU ok a) fun Z=>go tP (fun Z=>KV ok a) fun Z=>
  go tQ (fun Z=>KW ok a) fun Z=>go kI (fun Z=>BL hf a) fun Z=>go tR (fun Z=>KX a) fun Z=>go tS (fun Z=>KY a) fun Z=>trivial
end
end
section
open PySem PySem.W PyProof.Rows
theorem k7 (σ:d9) (x y:Str) (v:V):(σ.set x v).get y=if y=x then some v else σ.get y:=by
 unfold d9.get;induction σ with
 |nil=>
  show List.lookup y [(x,v)]=_;rw[List.lookup_cons];by_cases h:y=x
  ·subst h;simp
  ·have:(y==x)=false:=by simpa using h
   rw[this,if_neg h]
 |cons p r ih=>
  obtain⟨z,u⟩:=p;show List.lookup y (if x=z then (x,v)::r else (z,u)::d9.set r x v)=_;by_cases h:x=z
  ·subst h;rw[if_pos rfl,List.lookup_cons,List.lookup_cons];by_cases h:y=x
   ·subst h;simp
   ·have:(y==x)=false:=by simpa using h
    rw[this,if_neg h]
  ·rw[if_neg h,List.lookup_cons,List.lookup_cons,ih];by_cases hy:y=x
   ·subst hy;have:(y==z)=false:=by simpa using h
    rw[this]
   ·rw[if_neg hy,if_neg hy]
structure W0 (env:Env) (sc:Scope):Prop where
 kind:env.scope.kind=.function
 globals:env.globals=mainGlobals
 builtins:env.builtins=builtinsNs
 kinds: ∀x kd,sc.names.lookup x=some kd->env.kindOf x=some kd\/(kd=.free/\env.kindOf x=some .cell)
 told:sc.names.lookup ("_law_told":Str)=some .globalImplicit-> ∃x∈E9,env.code=.ref x.1/\env.qual++("<lambda>":Str)=x.2.2
section
variable (W:Wd)
noncomputable def dZ (k:Nat) (tb:Prop) (f:Str) (F:List V->R V):Prop:=
 ∃a o fd,W.mg f=some (.ref a)/\W.G.get? a=some o/\o.data=.func fd/\
  ∀(C:Cx) (X:Xs) (s:Shared) (us:List Value) (vs:List V),C.Ok k->W.Fits C->(C.tb↔tb)->(∀a,C.X a->X a)->(∀a,X a->W.G.get? a=none)->(∀a,X a-> ¬o4 a/\ ∃o,s.heap.get? a=some o)->aN W C s.heap->
   Rps s.heap X us vs->Ou C (F vs) (call (.ref a) us []) (g5 C X none s) (C7 C s) s
structure C6 (k:Nat) (tb:Prop) (g:G):Prop where
 const: ∀x v,g.const x=some v->v.open? =false/\ ∃u,W.mg x=some u/\ ∀(h:Heap) (X:Xs),(∀b o,W.G.get? b=some o->h.get? b=some o)->(∀a,X a->W.G.get? a=none)->Rp h X u v
 fn: ∀f F,g.fn f=some F->dZ W k tb f F
 bi: ∀f,m9.contains f=true->g.fn f=none->W.mg f=none
 lam:g.lam=true->tb/\(∃k',k'+2<=k/\ ∀f F,g.low f=some F->dZ W k' False f F)/\ ∀f,m9.contains f=true->g.low f=none->W.mg f=none
structure J3 (C:Cx) (X:Xs) (k:Nat) (env:Env) (sc:Scope) (oa:Option Addr) (σ:d9) (h:Heap):Prop where
 wok:W.Ok
 ok:C.Ok k
 wf:W.Fits C
 sub: ∀a,C.X a->X a
 xg: ∀a,X a->W.G.get? a=none
 live: ∀a,X a-> ¬o4 a/\ ∃o,h.get? a=some o
 inv:aN W C h
 envOk:W0 env sc
 st:St env oa X h σ
 oaX: ∀a,oa=some a->X a
noncomputable def I9 (n:Nat):Prop:= ∀(g:G) (C:Cx) (X:Xs) (k:Nat) (env:Env) (sc:Scope) (oa:Option Addr) (σ:d9) (e:Expr) (s:Shared),
 C6 W k C.tb g->J3 W C X k env sc oa σ s.heap->
 Ou C (ev g n false sc σ e) (eval e env) (g5 C X oa s) (C7 C s) s/\
 Ou C ((ev g n true sc σ e).bind l7) (isTrue e env (eval e env)) (P6 C s) (C7 C s) s
end
section
variable {W:Wd} {C:Cx} {X:Xs} {k:Nat} {env:Env} {sc:Scope} {oa:Option Addr} {σ:d9} {s s₁:Shared} {g:G}
theorem Gr.live {h h':Heap} (gr:Gr C h h') (l: ∀a,X a-> ¬o4 a/\ ∃o,h.get? a=some o): ∀a,X a-> ¬o4 a/\ ∃o,h'.get? a=some o:=fun a x=>by
 refine f8 (l a x) fun n z4t=> ?_;refine d6 z4t fun o e=> ?_;clear z4t;refine d6 (gr.slots a o e fun⟨_,t⟩=>n t) fun sl e'=> ?_;exact⟨n,_,e'⟩
theorem TP {h:Heap} (l: ∀a,X a-> ¬o4 a/\ ∃o,h.get? a=some o):Xn X h:=fun a x=>by refine f8 (l a x) fun Z z3t=> ?_;refine d6 z3t fun o e=> ?_;clear z3t;exact Heap.lt_size e
theorem J3.step (t:J3 W C X k env sc oa σ s.heap) (st:k9 C s s₁):J3 W C X k env sc oa σ s₁.heap:=
 ⟨t.wok,t.ok,t.wf,t.sub,t.xg,st.gr.live t.live,t.inv.gr t.ok t.wf st.gr,t.envOk,t.st.gr t.ok t.inv st.gr t.sub,t.oaX⟩
theorem J3.keepO (t:J3 W C X k env sc oa σ s.heap) (st:k9 C s s₁) {u:Value} {v:V} (r:B2 s.heap X oa u v):B2 s₁.heap X oa u v:=r.gr t.ok t.inv st.gr t.sub
theorem J3.keepsO (t:J3 W C X k env sc oa σ s.heap) (st:k9 C s s₁) {u:List Value} {v:List V} (r:v7 s.heap X oa u v):v7 s₁.heap X oa u v:=r.gr t.ok t.inv st.gr t.sub
theorem J3.xn (t:J3 W C X k env sc oa σ s.heap):Xn X s.heap:=TP t.live
theorem J3.nt (t:J3 W C X k env sc oa σ s.heap): ¬C.tb\/o3 s.heap:=.inr t.inv.tabs
theorem O5 {d:R V} {T:Sem Value} (t:J3 W C X k env sc oa σ s.heap) (st:k9 C s s₁) (h:Ou C d T (g5 C X oa s₁) (C7 C s₁) s₁):Ou C d T (g5 C X oa s) (C7 C s) s₁:=
 h.mono (fun Z Z Z Z p=>p.from st) fun Z Z Z Z p=>p.from st t.nt
theorem kJ {d:R Bool} {T:Sem Bool} (t:J3 W C X k env sc oa σ s.heap) (st:k9 C s s₁) (h:Ou C d T (P6 C s₁) (C7 C s₁) s₁):Ou C d T (P6 C s) (C7 C s) s₁:=
 h.mono (fun Z Z Z Z p=>⟨st.trans p.1,p.2⟩) fun Z Z Z Z p=>p.from st t.nt
theorem eA {d:R Bool} {T:Sem Value} (t:J3 W C X k env sc oa σ s.heap) (st:k9 C s s₁) (h:Ou C d T (PF C s₁) (C7 C s₁) s₁):Ou C d T (PF C s) (C7 C s) s₁:=
 h.mono (fun Z Z Z Z p=>⟨st.trans p.1,p.2⟩) fun Z Z Z Z p=>p.from st t.nt
theorem B4 {α β:Type} {d:R α} {T:Sem β} {P:α->β->Shared->Prop} (t:J3 W C X k env sc oa σ s.heap) (st:k9 C s s₁) (h:Ou C d T P (C7 C s₁) s₁):Ou C d T P (C7 C s) s₁:=
 h.mono (fun Z Z Z Z p=>p) fun Z Z Z Z p=>p.from st t.nt
theorem A0 {a:Addr} {m:Str->Option Value} {h h':Heap} (x:h.Ns a m) (k: ∀b o,h.get? b=some o->h'.get? b=some o):h'.Ns a m:=F6 (x) fun o es ep ho r=>⟨o,es,ep,k _ _ ho,r⟩
set_option tactic.hygienic true in
theorem O6 (hg:C6 W k C.tb g) (t:J3 W C X k env sc oa σ s.heap) (x:Str) (p:Pos):
  Ou C (s0 g sc σ x) (eval (.Name x p) env) (g5 C X oa s) (C7 C s) s:=by
 unfold s0;split
 ·trivial
 rename_i hn;rw[not_or] at hn;have hd:(x==("__debug__":Str))=false:=by simpa using hn.1
 have hc:(x==("__classdict__":Str))=false:=by simpa using hn.2
 have loc: ∀v,σ.get x=some v->wpAny (model prog w) C.A (eval (.Name x p) env) (g5 C X oa s v) (fun Z Z=>False) s:=by
  intro v e;refine e8 t.st.vals fun m hm hv=> ?_;refine e8 (hv x v e) fun u hu hk=> ?_;refine wpAny_Name ?_ hd;rcases hk with⟨q,z⟩|⟨q,c,z,hi⟩
  ·exact wpAny_loadName_local t.envOk.kind q hm z ⟨.refl,hu⟩
  ·rcases q with q|q
   ·exact wpAny_loadName_cell t.envOk.kind q z hi ⟨.refl,hu⟩
   ·exact wpAny_loadName_free t.envOk.kind q z hi ⟨.refl,hu⟩ hc
 split
 ·split
  ·rename_i e;exact loc _ e
  ·trivial
 ·split
  ·rename_i e;exact loc _ e
  ·trivial
 ·split
  ·rename_i e;exact loc _ e
  ·trivial
 ·rename_i hk;split
  ·rename_i v e;refine f8 (hg.const _ _ e) fun ho z2t=> ?_;refine e8 z2t fun u hu hr=> ?_;clear z2t;have hx:env.kindOf x=some .globalImplicit:=by
    rcases t.envOk.kinds x _ hk with q|⟨q,_⟩
    ·exact q
    ·injection q
   refine Calls.Name_function_global t.envOk.kind hx (Calls.loadGlobal_global (mg:=W.mg) ?_ hu ?_) hd
   ·rw[t.envOk.globals];exact A0 t.wok.g t.inv.G
   ·exact⟨.refl,.of (hr _ _ t.inv.G t.xg)⟩
  ·trivial
 ·trivial
theorem jD {e:Expr} (h: ∀x p,e≠.Starred x p) (r:List Expr):starEach (e::r) env=(false,eval e env)::starEach r env:=by
 cases e<;>first|rfl|exact absurd rfl (h _ _)
theorem cW (n:Nat) (x:Expr) (p:Pos):ev g n false sc σ (.Starred x p)=.stuck:=by cases n<;>rfl
theorem Q4 {n:Nat} (ih:I9 W n) (hg:C6 W k C.tb g) (pos:Pos): ∀(es:List Expr) {s:Shared},J3 W C X k env sc oa σ s.heap->
  Ou C (C0 (ev g n false sc σ) es) (spliced (backTo pos (starEach es env))) (xG C X oa s) (C7 C s) s
 |[],s,t=>Calls.spliced_nil ⟨.refl,trivial⟩
 |e::r,s,t=>by
  by_cases hs: ∃x p,e=.Starred x p
  ·refine C1 hs fun x p z1r=> ?_;clear hs;subst z1r;rw[AY,cW];trivial
  ·rw[jD fun x p q=>hs ⟨x,p,q⟩];show Ou C ((ev g n false sc σ e).bind fun y=>(C0 (ev g n false sc σ) r).map (y:: ·)) (spliced ((false,eval e env)::backTo pos (starEach r env))) _ _ _;have h1:=(ih g C X k env sc oa σ e s hg t).1;cases hv:ev g n false sc σ e with
   |stuck=>trivial
   |err l=>rw[hv] at h1;exact Calls.spliced_cons (wpAny_mono h1 (fun Z Z x=>x.elim) fun Z Z x=>x)
   |ok a=>
    rw[hv] at h1;show Ou C ((C0 (ev g n false sc σ) r).map (a:: ·)) _ _ _ _;have step: ∀v s₁,g5 C X oa s a v s₁->Ou C (C0 (ev g n false sc σ) r) (spliced (backTo pos (starEach r env))) (xG C X oa s₁) (C7 C s₁) s₁:=fun v s₁ p=>Q4 ih hg pos r (t.step p.1);cases hr:C0 (ev g n false sc σ) r with
    |stuck=>trivial
    |err l=>
     rw[hr] at step;exact Calls.spliced_cons (wpAny_mono h1 (fun v s₁ p=>wpAny_mono (step v s₁ p) (fun Z Z x=>x.elim) fun Z Z x=>x.from p.1 t.nt) fun Z Z x=>x.elim)
    |ok vs=>
     rw[hr] at step;exact Calls.spliced_cons (wpAny_mono h1 (fun v s₁ p=>wpAny_mono (step v s₁ p) (fun us e7 q=>⟨p.1.trans q.1,(t.step p.1).keepO q.1 p.2,q.2⟩) fun Z Z x=>x.elim) fun Z Z x=>x.elim)
end
section
variable {W:Wd} {C:Cx} {X:Xs} {k:Nat} {env:Env} {sc:Scope} {oa:Option Addr} {σ:d9} {s s₁:Shared} {g:G} {n:Nat}
theorem BM (t:J3 W C X k env sc oa σ s.heap) (c:Const) (kk:Nat) (p:Pos):Ou C (qO c) (eval (.Constant c kk p) env) (g5 C X oa s) (C7 C s) s:=by
 cases c<;>try trivial
 ·exact wpAny_Constant_none ⟨.refl,.none⟩
 ·exact wpAny_Constant_bool ⟨.refl,.bool _⟩
 ·exact wpAny_Constant_int (.mk_int fun Z Z e=>e)
 ·exact wpAny_Constant_str (.mk_str fun Z Z e=>e)
theorem FN (ih:I9 W n) (hg:C6 W k C.tb g) (t:J3 W C X k env sc oa σ s.heap) (l r:Expr) (op:Operator) (p:Pos):
  Ou C (ev g (n+1) false sc σ (.BinOp l op r p)) (eval (.BinOp l op r p) env) (g5 C X oa s) (C7 C s) s:=by
 show Ou C ((ev g n false sc σ l).bind fun a=>(ev g n false sc σ r).bind fun b=>R1 op a b) _ _ _ _;refine Ou.bind (fun Q E h=>wpAny_BinOp h) (ih g C X k env sc oa σ l s hg t).1 fun a v s₁ Z F5=> ?_;have n7:=t.step F5.1;refine Ou.bind (fun Q E h=>h) (B4 t F5.1 (ih g C X k env sc oa σ r s₁ hg n7).1) fun b u e7 Z L9=> ?_;have dK:=n7.step L9.1;exact O5 t (F5.1.trans L9.1) (KM op (n7.keepO L9.1 F5.2) L9.2 dK.xn)
theorem PK (ih:I9 W n) (hg:C6 W k C.tb g) (t:J3 W C X k env sc oa σ s.heap) (x:Expr) (p:Pos):
  Ou C (ev g (n+1) false sc σ (.UnaryOp .Not x p)) (eval (.UnaryOp .Not x p) env) (g5 C X oa s) (C7 C s) s:=by
 show Ou C ((ev g n false sc σ x).bind fun a=>(B3 a).bind fun b=>R.ok (V.bool !b)) _ _ _ _;refine Ou.bind (fun Q E h=>wpAny_UnaryOp h) (ih g C X k env sc oa σ x s hg t).1 fun a v s₁ Z F5=> ?_;have n7:=t.step F5.1;refine Ou.bind (fun Q E h=>not_of h) (B4 t F5.1 (V9 F5.2)) (F:=fun b Q E s=>Q (.bool !b) s) fun b c e7 Z L9=> ?_;refine f8 L9 fun st z12r=> ?_;clear L9;subst z12r;exact⟨F5.1.trans st,.bool _⟩
theorem PL (ih:I9 W n) (hg:C6 W k C.tb g) (t:J3 W C X k env sc oa σ s.heap) (x:Expr) (p:Pos):
  Ou C (ev g (n+1) false sc σ (.UnaryOp .USub x p)) (eval (.UnaryOp .USub x p) env) (g5 C X oa s) (C7 C s) s:=by
 show Ou C ((ev g n false sc σ x).bind OS) _ _ _ _;refine Ou.bind (fun Q E h=>wpAny_UnaryOp h) (ih g C X k env sc oa σ x s hg t).1 fun a v s₁ Z F5=> ?_;exact O5 t F5.1 (KN F5.2)
theorem FO (ih:I9 W n) (hg:C6 W k C.tb g) (t:J3 W C X k env sc oa σ s.heap) (c b o:Expr) (p:Pos):
  Ou C (ev g (n+1) false sc σ (.IfExp c b o p)) (eval (.IfExp c b o p) env) (g5 C X oa s) (C7 C s) s:=by
 show Ou C (((ev g n true sc σ c).bind l7).bind fun z=>if z then ev g n false sc σ b else ev g n false sc σ o) _ _ _ _;refine Ou.bind (fun Q E h=>wpAny_IfExp h) (ih g C X k env sc oa σ c s hg t).2 fun z v s₁ Z F5=> ?_;refine f8 F5 fun st z11r=> ?_;clear F5;subst z11r;have n7:=t.step st;cases v with
 |true=>exact O5 t st (ih g C X k env sc oa σ b s₁ hg n7).1
 |false=>exact O5 t st (ih g C X k env sc oa σ o s₁ hg n7).1
set_option backward.match.sparseCases true in
theorem PM (ih:I9 W n) (hg:C6 W k C.tb g) (t:J3 W C X k env sc oa σ s.heap) (x y:Expr) (r:List Expr) (p:Pos):
  Ou C (ev g (n+1) false sc σ (.BoolOp .And (x::y::r) p)) (eval (.BoolOp .And (x::y::r) p) env) (g5 C X oa s) (C7 C s) s:=by
 show Ou C ((ev g n false sc σ x).bind fun a=>(B3 a).bind fun t=>if t then ev g n false sc σ (.BoolOp .And (y::r) p) else .ok a) _ _ _ _;refine Ou.bind (F:=fun v Q E s=>wpAny (model prog w) C.A (truthy v) (fun b e7=>if b then wpAny (model prog w) C.A (eval (.BoolOp .And (y::r) p) env) Q E e7 else Q v e7) E s) (fun Q E h=> ?_)
  (ih g C X k env sc oa σ x s hg t).1 fun a v s₁ Z F5=> ?_
 ·show wpAny _ C.A (do
   let v <-eval x env
   standAt p
   let t <-holding [v] (truthy v)
   match BoolOp.And,t with
   | .And,false| .Or,true=>pure v
   |_,_=>boolOp p .And (evalEach (y::r) env)) Q E s
  refine wpAny_bind (wpAny_mono h (fun v s₁ y6=>wpAny_bind (wpAny_standAt (wpAny_bind (wpAny_holding (wpAny_mono y6 (fun t e7 i8=> ?_) fun Z Z x=>x))))) fun Z Z x=>x);cases t with
  |false=>exact wpAny_pure i8
  |true=>exact i8
 ·have n7:=t.step F5.1;refine Ou.bind (fun Q E h=>h) (B4 t F5.1 (V9 F5.2)) (F:=fun b Q E s=>if b then wpAny (model prog w) C.A (eval (.BoolOp .And (y::r) p) env) Q E s else Q v s) fun b c e7 Z L9=> ?_;refine f8 L9 fun st z10r=> ?_;clear L9;subst z10r;cases c with
  |true=>exact O5 t (F5.1.trans st) (ih g C X k env sc oa σ _ e7 hg (n7.step st)).1
  |false=>exact⟨F5.1.trans st,n7.keepO st F5.2⟩
set_option backward.match.sparseCases true in
theorem TQ (ih:I9 W n) (hg:C6 W k C.tb g) (t:J3 W C X k env sc oa σ s.heap) (x y:Expr) (r:List Expr) (p:Pos):
  Ou C (ev g (n+1) false sc σ (.BoolOp .Or (x::y::r) p)) (eval (.BoolOp .Or (x::y::r) p) env) (g5 C X oa s) (C7 C s) s:=by
 show Ou C ((ev g n false sc σ x).bind fun a=>(B3 a).bind fun t=>if t then .ok a else ev g n false sc σ (.BoolOp .Or (y::r) p)) _ _ _ _;refine Ou.bind (F:=fun v Q E s=>wpAny (model prog w) C.A (truthy v) (fun b e7=>if b then Q v e7 else wpAny (model prog w) C.A (eval (.BoolOp .Or (y::r) p) env) Q E e7) E s) (fun Q E h=> ?_)
  (ih g C X k env sc oa σ x s hg t).1 fun a v s₁ Z F5=> ?_
 ·show wpAny _ C.A (do
   let v <-eval x env
   standAt p
   let t <-holding [v] (truthy v)
   match BoolOp.Or,t with
   | .And,false| .Or,true=>pure v
   |_,_=>boolOp p .Or (evalEach (y::r) env)) Q E s
  refine wpAny_bind (wpAny_mono h (fun v s₁ y6=>wpAny_bind (wpAny_standAt (wpAny_bind (wpAny_holding (wpAny_mono y6 (fun t e7 i8=> ?_) fun Z Z x=>x))))) fun Z Z x=>x);cases t with
  |false=>exact i8
  |true=>exact wpAny_pure i8
 ·have n7:=t.step F5.1;refine Ou.bind (fun Q E h=>h) (B4 t F5.1 (V9 F5.2)) (F:=fun b Q E s=>if b then Q v s else wpAny (model prog w) C.A (eval (.BoolOp .Or (y::r) p) env) Q E s) fun b c e7 Z L9=> ?_;refine f8 L9 fun st z9r=> ?_;clear L9;subst z9r;cases c with
  |true=>exact⟨F5.1.trans st,n7.keepO st F5.2⟩
  |false=>exact O5 t (F5.1.trans st) (ih g C X k env sc oa σ _ e7 hg (n7.step st)).1
theorem KZ (ih:I9 W n) (hg:C6 W k C.tb g) (t:J3 W C X k env sc oa σ s.heap) (l r:Expr) (op:CmpOp) (p:Pos):
  Ou C (AX (ev g n false sc σ) l op r) (eval (.Compare l [op] [r] p) env) (g5 C X oa s) (C7 C s) s/\
  Ou C ((AX (ev g n false sc σ) l op r).bind l7) (isTrue (.Compare l [op] [r] p) env (eval (.Compare l [op] [r] p) env)) (P6 C s) (C7 C s) s:=by
 unfold AX;split
 ·exact⟨trivial,trivial⟩
 rename_i hm;have hm':behindInMarks op r=false:=by simpa using hm
 constructor
 ·refine Ou.bind (fun Q E h=>wpAny_Compare1 h hm') (ih g C X k env sc oa σ l s hg t).1 fun a v s₁ Z F5=> ?_;have n7:=t.step F5.1;refine Ou.bind (fun Q E h=>h) (B4 t F5.1 (ih g C X k env sc oa σ r s₁ hg n7).1) fun b u e7 Z L9=> ?_;refine(Ou.map (eA t (F5.1.trans L9.1) (bW op t.ok (n7.keepO L9.1 F5.2) L9.2)) fun c v l6 Z JI=> ?_);refine f8 JI fun st z8r=> ?_;clear JI;subst z8r;exact⟨st,.bool _⟩
 ·rw[R.bind_assoc];refine Ou.bind (fun Q E h=>wpAny_isTrue_Compare1 h hm') (ih g C X k env sc oa σ l s hg t).1 fun a v s₁ Z F5=> ?_;have n7:=t.step F5.1;rw[R.bind_assoc];refine Ou.bind (fun Q E h=>h) (B4 t F5.1 (ih g C X k env sc oa σ r s₁ hg n7).1) fun b u e7 Z L9=> ?_;rw[R.map_bind];refine Ou.bind (fun Q E h=>h) (eA t (F5.1.trans L9.1) (bW op t.ok (n7.keepO L9.1 F5.2) L9.2)) fun c v l6 Z JI=> ?_;refine f8 JI fun st z7r=> ?_;clear JI;subst z7r;exact wpAny_truthy_bool ⟨st,rfl⟩
theorem LB (ih:I9 W n) (hg:C6 W k C.tb g) (t:J3 W C X k env sc oa σ s.heap) (l Z5 aG:Expr) (G8 I4:CmpOp) (p:Pos):
  Ou C (cmp2 (ev g n false sc σ) l G8 I4 Z5 aG) (eval (.Compare l [G8,I4] [Z5,aG] p) env) (g5 C X oa s) (C7 C s) s/\
  Ou C ((cmp2 (ev g n false sc σ) l G8 I4 Z5 aG).bind l7) (isTrue (.Compare l [G8,I4] [Z5,aG] p) env (eval (.Compare l [G8,I4] [Z5,aG] p) env)) (P6 C s) (C7 C s) s:=by
 unfold cmp2;split
 ·exact⟨trivial,trivial⟩
 rename_i hm;have hm':lastMarks [G8,I4] [Z5,aG]=false:=by simpa using hm
 constructor
 ·refine Ou.bind (fun Q E h=>Compare_chain h hm') (ih g C X k env sc oa σ l s hg t).1 fun a v s₁ Z I7=> ?_;have n7:=t.step I7.1;refine Ou.bind (fun Q E h=>chain_link h) (B4 t I7.1 (ih g C X k env sc oa σ Z5 s₁ hg n7).1) fun b u e7 Z B9=> ?_;have dK:=n7.step B9.1;have st₂:=I7.1.trans B9.1;refine Ou.bind (fun Q E h=>h) (B4 t st₂ (bW G8 t.ok (n7.keepO B9.1 I7.2) B9.2)) fun c z l6 Z P1=> ?_;refine f8 P1 fun st z6r=> ?_;clear P1;subst z6r;have G9:=st₂.trans st;have JJ:=dK.step st;cases c with
  |false=>exact wpAny_truthy_bool ⟨G9,.bool _⟩
  |true=>
   refine Ou.bind (fun Q E h=>wpAny_truthy_bool (chain_last h)) (B4 t G9 (ih g C X k env sc oa σ aG l6 hg JJ).1) fun d y C5 Z O1=> ?_;refine(Ou.map (eA t (G9.trans O1.1) (bW I4 t.ok (JJ.keepO O1.1 (dK.keepO st B9.2)) O1.2)) fun c v C9 Z fH=> ?_);refine f8 fH fun st z5r=> ?_;clear fH;subst z5r;exact⟨st,.bool _⟩
 ·rw[R.bind_assoc];refine Ou.bind (fun Q E h=>isTrue_chain h hm') (ih g C X k env sc oa σ l s hg t).1 fun a v s₁ Z I7=> ?_;have n7:=t.step I7.1;rw[R.bind_assoc];refine Ou.bind (fun Q E h=>test_link h) (B4 t I7.1 (ih g C X k env sc oa σ Z5 s₁ hg n7).1) fun b u e7 Z B9=> ?_;have dK:=n7.step B9.1;have st₂:=I7.1.trans B9.1;rw[R.bind_assoc];refine Ou.bind (fun Q E h=>h) (B4 t st₂ (bW G8 t.ok (n7.keepO B9.1 I7.2) B9.2)) fun c z l6 Z P1=> ?_;refine f8 P1 fun st z4r=> ?_;clear P1;subst z4r;have G9:=st₂.trans st;have JJ:=dK.step st;cases c with
  |false=>exact wpAny_truthy_bool ⟨G9,rfl⟩
  |true=>
   rw[if_pos rfl,R.bind_assoc];refine Ou.bind (fun Q E h=>wpAny_truthy_bool (test_last h)) (B4 t G9 (ih g C X k env sc oa σ aG l6 hg JJ).1) fun d y C5 Z O1=> ?_;rw[R.map_bind];refine Ou.bind (fun Q E h=>h) (eA t (G9.trans O1.1) (bW I4 t.ok (JJ.keepO O1.1 (dK.keepO st B9.2)) O1.2)) fun c v C9 Z fH=> ?_;refine f8 fH fun st z3r=> ?_;clear fH;subst z3r;exact wpAny_truthy_bool ⟨st,rfl⟩
theorem jE {us:List Value} {as:List V} (t:J3 W C X k env sc oa σ s.heap) (r:v7 s.heap X oa us as):
  match N2 as with| .stuck=>True| .err _=>False| .ok bs=>bs=as/\Rps s.heap X us as/\us.length<=sizeLine:=by
 unfold N2;by_cases h:(as.any V.open? ||decide (g9<as.length))=true
 ·rw[if_pos h];trivial
 ·rw[if_neg h];rw[Bool.or_eq_true,not_or] at h;have h1:as.any V.open? =false:=by simpa using h.1
  have h2:as.length<=g9:=by simpa using h.2
  have h3:=r.plain h1;exact⟨rfl,h3,by rw[h3.length];exact Nat.le_trans h2 D6⟩
theorem FP (ih:I9 W n) (hg:C6 W k C.tb g) (t:J3 W C X k env sc oa σ s.heap) (es:List Expr) (j:Nat) (p:Pos):
  Ou C (ev g (n+1) false sc σ (.Tuple es j p)) (eval (.Tuple es j p) env) (g5 C X oa s) (C7 C s) s:=by
 show Ou C (((C0 (ev g n false sc σ) es).bind N2).map V.tup) _ _ _ _;rw[show((C0 (ev g n false sc σ) es).bind N2).map V.tup=(C0 (ev g n false sc σ) es).bind fun vs=>(N2 vs).map V.tup by cases C0 (ev g n false sc σ) es<;>rfl];refine Ou.bind (F:=fun vs Q Z s₁=>vs.length<=sizeLine/\Q (.ref s₁.heap.objs.size) {s₁ with heap:=s₁.heap.push {cls:=.type "tuple",data:=.seq vs.toArray}})
  (fun Q E h=>wpAny_Tuple h) (Q4 ih hg p es t) fun as us s₁ Z q=> ?_
 have n7:=t.step q.1;have:=jE n7 q.2;cases hs:N2 as with
 |stuck=>trivial
 |err l=>rw[hs] at this;exact this.elim
 |ok bs=>
  rw[hs] at this;refine n5 this fun z2r h1 h2=> ?_;clear this;subst z2r;exact⟨h2,g5.from q.1 (.mk_tup (fun z=>Nat.lt_irrefl _ (n7.xn _ z)) h1 (.push _))⟩
theorem FQ (ih:I9 W n) (hg:C6 W k C.tb g) (t:J3 W C X k env sc oa σ s.heap) (es:List Expr) (p:Pos):
  Ou C (ev g (n+1) false sc σ (.List es p)) (eval (.List es p) env) (g5 C X oa s) (C7 C s) s:=by
 show Ou C (((C0 (ev g n false sc σ) es).bind N2).map V.list) _ _ _ _;rw[show((C0 (ev g n false sc σ) es).bind N2).map V.list=(C0 (ev g n false sc σ) es).bind fun vs=>(N2 vs).map V.list by cases C0 (ev g n false sc σ) es<;>rfl];refine Ou.bind (F:=fun vs Q Z s₁=>vs.length<=sizeLine/\Q (.ref s₁.heap.objs.size) {s₁ with heap:=s₁.heap.push {cls:=.type "list",data:=.seq vs.toArray}})
  (fun Q E h=>wpAny_List h) (Q4 ih hg p es t) fun as us s₁ Z q=> ?_
 have n7:=t.step q.1;have:=jE n7 q.2;cases hs:N2 as with
 |stuck=>trivial
 |err l=>rw[hs] at this;exact this.elim
 |ok bs=>
  rw[hs] at this;refine n5 this fun z1r h1 h2=> ?_;clear this;subst z1r;exact⟨h2,g5.from q.1 (.mk_list (fun z=>Nat.lt_irrefl _ (n7.xn _ z)) h1 (.push _))⟩
theorem zD (ih:I9 W n) (hg:C6 W k C.tb g) (t:J3 W C X k env sc oa σ s.heap) (e:Option Expr):
  Ou C (nM (ev g n false sc σ) e) (evalPart e env) (fun d v s'=>k9 C s s'/\(match d with|none=>v=.none|some d=>B2 s'.heap X oa v d)) (C7 C s) s:=by
 cases e with
 |none=>exact wpAny_evalPart_none ⟨.refl,rfl⟩
 |some e=>exact Ou.map (ih g C X k env sc oa σ e s hg t).1 fun a v s' Z p=>p
theorem zE {h:Heap} {d:Option V} {v:Value} {i:Option Int} (r:match d with|none=>v=.none|some d=>B2 h X oa v d) (e:R2 d=.ok i): ∃z,v=partValue z/\z.map (·.1)=i:=by
 cases d with
 |none=>injection e with e;subst e;exact⟨none,r,rfl⟩
 |some d=>
  cases d<;>try cases e
  have e:(if Int.natAbs _<2 ^40 then R.ok (some _) else .stuck)=.ok i:=e;split at e
  ·injection e with e;subst e;cases r;exact⟨some (_,_),rfl,rfl⟩
  ·injection e
set_option tactic.hygienic true in
theorem BN (ih:I9 W n) (hg:C6 W k C.tb g) (t:J3 W C X k env sc oa σ s.heap) (v:Str) (vp:Pos) (lo hi:Option Expr) (sp p:Pos):
  Ou C ((ev g n false sc σ (.Name v vp)).bind fun o=>jV (ev g n false sc σ) o lo hi) (eval (.Subscript (.Name v vp) (.Slice lo hi none sp) p) env) (g5 C X oa s) (C7 C s) s:=by
 refine Ou.bind (F:=fun o Q E s₁=>wpAny (model prog w) C.A (evalPart lo env) (fun vl e7=>wpAny (model prog w) C.A (evalPart hi env) (fun vu l6=>
   ∃x t l u,o=.str x t/\vl=partValue l/\vu=partValue u/\
    (sliceMade x t l u none).post Q {l6 with heap:=l6.heap.push {cls:=.type "slice",data:=.fields #[vl,vu,.none]}}) E e7) E s₁)
  (fun Q E h=>wpAny_Subscript_str_slice h) (ih g C X k env sc oa σ (.Name v vp) s hg t).1 fun a o s₁ hao I7=> ?_
 clear hao;have n7:=t.step I7.1;unfold jV;refine Ou.bind (fun Q E h=>h) (B4 t I7.1 (zD ih hg n7 lo)) fun dl vl e7 Z B9=> ?_;have dK:=n7.step B9.1;have st₂:=I7.1.trans B9.1;refine Ou.bind (fun Q E h=>h) (B4 t st₂ (zD ih hg dK hi)) fun du vu l6 Z P1=> ?_;have G9:=st₂.trans P1.1;cases hl:R2 dl with
 |stuck=>trivial
 |err l=>exact(oY hl).elim
 |ok i=>
  cases hu:R2 du with
  |stuck=>trivial
  |err l=>exact(oY hu).elim
  |ok j=>
   refine e8 (zE B9.2 hl) fun zl e1 e2=> ?_;refine e8 (zE P1.2 hu) fun zu e3 e4=> ?_;show w5 (wU a i j) _ _ _ _;unfold wU;split
   ·rename_i x;split
    ·rename_i hx;have q:=I7.2;cases q;rename_i tk;refine⟨S x,tk,zl,zu,rfl,e1,e3,?_⟩;have key:Txt.slice (S x) i j=S (j9 x i j):=ES x i j;have hle:(Txt.slice (S x) i j).length<=sizeLine:=by
      rw[key,gW];exact Nat.le_trans BF (Nat.le_trans hx D6)
     have:=post_val_or_str (s:={l6 with heap:=l6.heap.push {cls:=.type "slice",data:=.fields #[vl,vu,.none]}}) (t:=tk) (Q:=g5 C X oa s (.str (j9 x i j)))
      (c:=((1:Int)==1 &&(Builtin.Str.strSliceIndices i j 1 (S x).length).length==(S x).length)=true) (y:=S x) (z:=⟨((Builtin.Str.strSliceIndices i j 1 (S x).length).filterMap ((S x).cps[·]?)).toArray⟩)
      ⟨hle,fun t' k=>by
       show g5 C X oa s _ (.str (Txt.slice (S x) i j) t') _;rw[key];exact g5.from G9 (.mk_str fun Z Z e=>Heap.get?_push_of_some _ e)⟩
     unfold sliceMade slicePicked;rw[e2,e4];exact this
    ·trivial
   ·trivial
end
section
variable {W:Wd} {C:Cx} {X:Xs} {k:Nat} {env:Env} {sc:Scope} {oa:Option Addr} {σ:d9} {s s₁:Shared} {g:G} {n:Nat}
theorem NW {u:Value} {a i:V} {d:V} (r:B2 s.heap X oa u a) (h:P2 a i=.ok d): ∃T id,s.TypeIs u T/\typeLookup (.type T) "__getitem__"=pure (some (.builtin id)):=by
 cases a with
 |str x=>refine d6 (t8 r) fun t e=> ?_;rw[e];exact⟨"str",_,typeIs_str _ _ _,PySem.F.slot_str_getitem.lookup⟩
 |bytes b=>refine f8 (R5 r) fun z3n Z=> ?_;refine d6 z3n fun t e=> ?_;clear z3n;rw[e];exact⟨"bytes",_,typeIs_bytes _ _ _,PySem.W.FB.slot_bytes_getitem.lookup⟩
 |tup ds=>refine v9 (Q3 r) fun l vs e z2n Z=> ?_;refine s5 z2n fun o e' c Z=> ?_;clear z2n;rw[e];exact⟨"tuple",_,⟨o,e',c⟩,PySem.F.slot_tuple_getitem.lookup⟩
 |list ds=>refine v9 (u8 (.inl rfl) r) fun l vs e ht Z=> ?_;rw[e];exact⟨"list",_,ht.typeIs,PySem.F.slot_list_getitem.lookup⟩
 |olist ds=>refine v9 (u8 (.inr rfl) r) fun l vs e ht Z=> ?_;rw[e];exact⟨"list",_,ht.typeIs,PySem.F.slot_list_getitem.lookup⟩
 |dict kvs=>refine v9 (Rp.inv r) fun D f e m Z=> ?_;rw[e];exact⟨"dict",_,m.typeIs,PySem.F.slot_dict_getitem.lookup⟩
 |_=>injection h
theorem PN {x i:V}:NE (P2 x i):=by
 have hL: ∀ds j,NE (ED ds j):=fun ds j=>.or (.needR fun Z=>.needR fun Z=>.ok) .stuck;cases x with
 |str x=>exact .intM fun Z=>.or (.needR fun Z=>.ok) .stuck
 |bytes x=>exact .intM fun Z=>.or .ok .stuck
 |tup ds=>exact .intM fun Z=>hL _ _
 |list ds=>exact .intM fun Z=>hL _ _
 |olist ds=>exact .intM fun Z=>hL _ _
 |dict ds=>exact .strM fun Z=>.needR fun Z=>.ok
 |_=>exact .stuck
theorem T9 {i:Expr} (h:X8 i=none) (o v:Value):subscripted i false o v=operate [o,v] (getItem o v):=by
 cases i<;>first|rfl|exact no h.symm
theorem LC (ih:I9 W n) (hg:C6 W k C.tb g) (t:J3 W C X k env sc oa σ s.heap) (v:Str) (vp:Pos) (i:Expr) (p:Pos) (hi:X8 i=none):
  Ou C ((ev g n false sc σ (.Name v vp)).bind fun o=>(ev g n false sc σ i).bind fun k=>P2 o k) (eval (.Subscript (.Name v vp) i p) env) (g5 C X oa s) (C7 C s) s:=by
 refine Ou.bind (fun Q E h=>Subscript_ h) (ih g C X k env sc oa σ (.Name v vp) s hg t).1 fun a o s₁ hao I7=> ?_;have n7:=t.step I7.1;refine Ou.bind (fun Q E h=>h) (B4 t I7.1 (ih g C X k env sc oa σ i s₁ hg n7).1) fun b u e7 hb B9=> ?_;have ro:=n7.keepO B9.1 I7.2;have key:=O5 t (I7.1.trans B9.1) (zB ro B9.2);cases hd:P2 a b with
 |stuck=>trivial
 |err l=>rw[hd] at key;exact(PN _ hd).elim
 |ok d=>
  rw[hd] at key;refine r0 (NW ro hd) fun T id hT hl=> ?_;exact subscriptTail_builtin hT hl key (T9 hi _ _) (fun Z=>rfl)
theorem xJ {m:Str} {o:V} {as:List V} {l:Int} (h:w4 m o as=.err l):False:=
 NE.or (.strM fun Z=>.arg1 fun Z=>.strM fun Z=>.or .ok .stuck) (.or (.strM fun Z=>.arg0 (.or .ok .stuck)) (.or (.strM fun Z=>.arg0 (.oneM fun Z=>.or .ok .stuck)) (.or (.strM fun Z=>.arg1 fun Z=>.strM fun Z=>.oneM fun Z=>.or .ok .stuck)
  (.or (.strM fun Z=>.arg1 fun Z=>.strM fun Z=>.oneM fun Z=>.or .ok .stuck) (.or (.strM fun Z=>.arg1 fun Z=>.seqM fun Z=>.needR fun Z=>.or .ok .stuck) (.or (.dictM fun Z=>.arg2 fun Z Z=>.strM fun Z=>.intM fun Z=>.ok) .stuck)))))) l h
theorem fQ {A:Around} {E:Value->Shared->Prop} {m:Str} {ov:Value} {pos:Pos} {args:List (Bool×Sem Value)} {Q Q':Value->Shared->Prop}
  (h:MethodOnS prog w A E m ov pos args Q s) (hq: ∀v s',Q v s'->Q' v s'):MethodOnS prog w A E m ov pos args Q' s:=by
 refine OM h fun T id h1 h2 h3 h4 h5 h6=> ?_;clear h;exact⟨T,id,h1,h2,h3,h4,h5,wpAny_mono h6 hq fun Z Z e=>e⟩
theorem jF {o:Expr} {r:Sem Value} (m:Str) (h:R3 o=true):attributeBase o m env r=r:=by
 cases o with
 |Call fn as kws p=>cases fn with
  |Name x q=>cases as with
   |nil=>cases kws with
    |nil=>injection h
    |cons _ _=>rfl
   |cons _ _=>rfl
  |_=>rfl
 |_=>rfl
theorem K5 {α:Type} {r:R α}:r.calm=.stuck\/ ∃a,r=.ok a/\r.calm=.ok a:=by
 cases r with
 |stuck=>exact .inl rfl
 |err l=>exact .inl rfl
 |ok a=>exact .inr ⟨a,rfl,rfl⟩
theorem kK {e:Expr} (h:ev g n false sc σ e≠.stuck):starEach [e] env=[(false,eval e env)]:=by
 rw[jD]
 ·rfl
 ·rintro x p rfl;exact h (cW n x p)
theorem BO (ih:I9 W n) (hg:C6 W k C.tb g) (t:J3 W C X k env sc oa σ s.heap) (o:Expr) (m:Str) (ap p:Pos) (hp:ap.endLine=p.line) (hb:R3 o=true):
  Ou C ((ev g n false sc σ o).calm.bind fun ov=>w4 m ov []) (eval (.Call (.Attribute o m ap) [] [] p) env) (g5 C X oa s) (C7 C s) s:=by
 rcases K5 (r:=ev g n false sc σ o) with h|⟨a,h,h'⟩
 ·rw[h];trivial
 rw[h'];show w5 (w4 m a []) _ _ _ _;have ho:=(ih g C X k env sc oa σ o s hg t).1;rw[h] at ho;cases hd:w4 m a [] with
 |stuck=>trivial
 |err l=>exact(xJ hd).elim
 |ok d=>exact Call_method0 (jF m hb) (by simpa using hp) (wpAny_mono ho (fun v s₁ I7=>fQ (FF (C:=C) (pos:=p) (E:=fun Z Z=>False) I7.2 hd) fun v s' q=>q.from I7.1) fun Z Z x=>x)
theorem BP (ih:I9 W n) (hg:C6 W k C.tb g) (t:J3 W C X k env sc oa σ s.heap) (o e:Expr) (m:Str) (ap p:Pos) (hp:ap.endLine=p.line) (hb:R3 o=true):
  Ou C ((ev g n false sc σ o).calm.bind fun ov=>(ev g n false sc σ e).calm.bind fun v=>w4 m ov [v]) (eval (.Call (.Attribute o m ap) [e] [] p) env) (g5 C X oa s) (C7 C s) s:=by
 rcases K5 (r:=ev g n false sc σ o) with h|⟨a,h,h'⟩
 ·rw[h];trivial
 rw[h'];show w5 ((ev g n false sc σ e).calm.bind fun v=>w4 m a [v]) _ _ _ _;have ho:=(ih g C X k env sc oa σ o s hg t).1;rw[h] at ho;rcases K5 (r:=ev g n false sc σ e) with z|⟨b,z,z'⟩
 ·rw[z];trivial
 rw[z'];show w5 (w4 m a [b]) _ _ _ _;have hs:=kK (env:=env) (sc:=sc) (σ:=σ) (g:=g) (n:=n) (e:=e) (by rw[z];exact fun z=>by injection z);cases hd:w4 m a [b] with
 |stuck=>trivial
 |err l=>exact(xJ hd).elim
 |ok d=>
  refine Call_method1 (jF m hb) hs (by simpa using hp) (wpAny_mono ho (fun v s₁ I7=> ?_) fun Z Z x=>x);have n7:=t.step I7.1;have he:=(ih g C X k env sc oa σ e s₁ hg n7).1;rw[z] at he;exact fQ (FG (C:=C) (pos:=p) (E:=fun Z Z=>False) t.ok n7.inv t.sub I7.2 he hd) fun v s' q=>q.from I7.1
theorem BQ (ih:I9 W n) (hg:C6 W k C.tb g) (t:J3 W C X k env sc oa σ s.heap) (o e f:Expr) (m:Str) (ap p:Pos) (hp:ap.endLine=p.line) (hb:R3 o=true):
  Ou C ((ev g n false sc σ o).calm.bind fun ov=>(ev g n false sc σ e).calm.bind fun v=>(ev g n false sc σ f).calm.bind fun u=>w4 m ov [v,u]) (eval (.Call (.Attribute o m ap) [e,f] [] p) env) (g5 C X oa s) (C7 C s) s:=by
 rcases K5 (r:=ev g n false sc σ o) with h|⟨a,h,h'⟩
 ·rw[h];trivial
 rw[h'];show w5 ((ev g n false sc σ e).calm.bind fun v=>(ev g n false sc σ f).calm.bind fun u=>w4 m a [v,u]) _ _ _ _;have ho:=(ih g C X k env sc oa σ o s hg t).1;rw[h] at ho;rcases K5 (r:=ev g n false sc σ e) with z|⟨b,z,z'⟩
 ·rw[z];trivial
 rw[z'];show w5 ((ev g n false sc σ f).calm.bind fun u=>w4 m a [b,u]) _ _ _ _;rcases K5 (r:=ev g n false sc σ f) with y|⟨c,y,y'⟩
 ·rw[y];trivial
 rw[y'];show w5 (w4 m a [b,c]) _ _ _ _;have hs:starEach [e,f] env=[(false,eval e env),(false,eval f env)]:=by
  rw[jD,kK (env:=env) (sc:=sc) (σ:=σ) (g:=g) (n:=n) (e:=f) (by rw[y];exact fun z=>by injection z)]
  rintro x p rfl
  rw[cW] at z;injection z
 cases hd:w4 m a [b,c] with
 |stuck=>trivial
 |err l=>exact(xJ hd).elim
 |ok d=>
  refine Call_method2 (jF m hb) hs (by simpa using hp) (wpAny_mono ho (fun v s₁ I7=> ?_) fun Z Z x=>x);have n7:=t.step I7.1;have he:=(ih g C X k env sc oa σ e s₁ hg n7).1;rw[z] at he;refine fQ (FH (C:=C) (pos:=p) (E:=fun Z Z=>False) t.ok t.sub n7.inv t.wf I7.2 (wpAny_mono he (fun v' e7 B9=>⟨B9,?_⟩) fun Z Z x=>x) hd) fun v s' q=>q.from I7.1;have hf:=(ih g C X k env sc oa σ f e7 hg (n7.step B9.1)).1;rw[y] at hf;exact hf
theorem Y3 (p:Pos) {es:List Expr} (h:es.any Q2=false):(backTo p (starEach es env)).any (·.1)=false/\(es=[]->backTo p (starEach es env)=[])/\(∀e r,es=e::r->backTo p (starEach es env)=(false,eval e env)::backTo p (starEach r env)):=by
 induction es with
 |nil=>exact⟨rfl,fun Z=>rfl,fun e r z=>by injection z⟩
 |cons e r ih=>
  rw[List.any_cons,Bool.or_eq_false_iff] at h;have hs: ∀x p,e≠.Starred x p:=by rintro x p rfl;exact Bool.noConfusion h.1
  have key:backTo p (starEach (e::r) env)=(false,eval e env)::backTo p (starEach r env):=by rw[jD hs];rfl
  refine⟨?_,fun z=>(by injection z),fun e' r' z=> ?_⟩
  ·rw[key,List.any_cons,(ih h.2).1];rfl
  ·injection z with z z2;subst z;subst z2;exact key
theorem U0 {A:Around} {E:Value->Shared->Prop} {f:Value} (p:Pos) {es:List Expr} (h:es.any Q2=false) {Q:Args->Shared->Prop}
  (hq:wpAny (model prog w) A (spliced (backTo p (starEach es env))) (fun vs s'=>Q ⟨vs,[]⟩ s') E s):wpAny (model prog w) A (evalArgs f true (backTo p (starEach es env)) []) Q E s:=by
 refine n5 (Y3 (env:=env) p h) fun Z h1 h2=> ?_;cases es with
 |nil=>rw[h1 rfl] at hq ⊢;exact fun Γ p' VY=>PyProof.Rows.evalArgs_none (show Q ⟨[],[]⟩ s from hq Γ p' VY) Γ p' VY
 |cons e r=>rw[h2 e r rfl] at hq ⊢;exact Calls.evalArgs_plain hq
theorem LD {α β:Type} {r:R α} {F:Tr β} {P:α->β->Shared->Prop} {E:Int->Value->Shared->Prop} {z:Shared->Prop} (h:z s) (q:w5 r F P E s):w5 r (fun Q E s=>z s/\F Q E s) P E s:=by
 cases r with
 |stuck=>trivial
 |err l=>exact⟨h,q⟩
 |ok a=>exact⟨h,q⟩
theorem BR {f:Str} (h:m9.contains f=true):(∃id,bootBuiltins f=some (.builtin id))\/ ∃T,bootBuiltins f=some (.type T):=by
 have: ∀f∈m9,(∃id,bootBuiltins f=some (.builtin id))\/ ∃T,bootBuiltins f=some (.type T):=by
  intro f hf;simp only[m9,List.mem_cons,List.not_mem_nil,or_false] at hf;rcases hf with rfl|rfl|rfl|rfl|rfl|rfl|rfl|rfl|rfl|rfl|rfl|rfl
  ·exact .inl ⟨_,tK⟩
  ·exact .inl ⟨_,tL⟩
  ·exact .inl ⟨_,tM⟩
  ·exact .inr ⟨_,kH⟩
  ·exact .inr ⟨_,pN⟩
  ·exact .inl ⟨_,tN⟩
  ·exact .inl ⟨_,tO⟩
  ·exact .inl ⟨_,tP⟩
  ·exact .inl ⟨_,tQ⟩
  ·exact .inr ⟨_,kI⟩
  ·exact .inl ⟨_,tR⟩
  ·exact .inr ⟨_,tS⟩
 exact this f (List.contains_iff_mem.mp h)
theorem tT {f:Str} (h:m9.contains f=true):f≠"__name__":=by
 rintro rfl
 rw[List.contains_iff_mem] at h;simp only[m9,List.mem_cons,List.not_mem_nil,or_false,qQ] at h;revert h;decide
theorem BS (ih:I9 W n) (hg:C6 W k C.tb g) (t:J3 W C X k env sc oa σ s.heap) (f:Str) (fp:Pos) (as:List Expr) (p:Pos) (hc:aK sc f as=true) (hx:((g.fn f).isSome||m9.contains f)=true):
  Ou C ((C0 (ev g n false sc σ) as).bind fun vs=>aH g f vs) (eval (.Call (.Name f fp) as [] p) env) (g5 C X oa s) (C7 C s) s:=by
 unfold aK at hc;rw[Bool.and_eq_true,Bool.and_eq_true] at hc;refine f8 hc fun z1n c3=> ?_;clear hc;refine f8 z1n fun c1 c2=> ?_;clear z1n;have hk:env.kindOf f=some .globalImplicit:=by
  rcases t.envOk.kinds f _ (by simpa using c1) with q|⟨q,_⟩
  ·exact q
  ·injection q
 have hd:(f==("__debug__":Str))=false:=by simpa using c2
 have hp:as.any Q2=false:=by simpa using c3
 have hargs:=Q4 ih hg p as t;cases hF:g.fn f with
 |some F=>
  refine X1 (hg.fn f F hF) fun a o fd h1 h2 h3 h4=> ?_;refine Ou.bind (F:=fun vs Q E s₁=>(s₁.heap.get? a=some o/\o.data=.func fd)/\wpAny (model prog w) C.A (call (.ref a) vs []) Q E s₁) (fun Q E h=> ?_) hargs fun as us s₁ Z q=> ?_
  ·refine wpAny_Call_NameR (Calls.Name_function_global t.envOk.kind hk (Calls.loadGlobal_global (mg:=W.mg) ?_ h1 ?_) hd)
   ·rw[t.envOk.globals];exact A0 t.wok.g t.inv.G
   ·exact Calls.callWith_function (o:=o) (fd:=fd) (U0 p hp h)
  ·have n7:=t.step q.1;refine LD (z:=fun s₁=>s₁.heap.get? a=some o/\o.data=.func fd) ⟨n7.inv.G _ _ h2,h3⟩ ?_;show w5 (aH g f as) _ _ _ _;unfold aH;rw[hF];simp only;by_cases hop:as.any V.open? =true
   ·rw[if_pos hop];trivial
   ·rw[if_neg hop];have hr:=q.2.plain (by simpa using hop);have key:=h4 C X s₁ us as t.ok t.wf Iff.rfl t.sub t.xg n7.live n7.inv hr;exact key.mono (fun d v s' Z z=>⟨q.1.trans z.1,z.2.any⟩) fun Z Z Z Z z=>z.from q.1 t.nt
 |none=>
  have hb:m9.contains f=true:=by rw[hF] at hx;simpa using hx
  refine Ou.bind (F:=fun vs Q E s₁=>wpAny (model prog w) C.A (call (cL f) vs []) Q E s₁) (fun Q E h=> ?_) hargs fun as us s₁ Z q=> ?_
  ·have hm:=hg.bi f hb hF;rcases BR hb with⟨id,hv⟩|⟨T,hv⟩
   ·have hfv:cL f=.builtin id:=by unfold cL;rw[hv];rfl
    rw[hfv] at h;refine wpAny_Call_NameR (Calls.Name_function_global t.envOk.kind hk (Calls.loadGlobal_builtin (mg:=W.mg) (mb:=W.mb) ?_ hm ?_ ((t.wok.boot f (tT hb)).trans hv) ?_) hd)
    ·rw[t.envOk.globals];exact A0 t.wok.g t.inv.G
    ·rw[t.envOk.builtins];exact A0 t.wok.b t.inv.G
    ·exact Calls.callWith_builtin (Y3 p hp).1 (U0 p hp h)
   ·have hfv:cL f=.type T:=by unfold cL;rw[hv];rfl
    rw[hfv] at h;refine wpAny_Call_NameR (Calls.Name_function_global t.envOk.kind hk (Calls.loadGlobal_builtin (mg:=W.mg) (mb:=W.mb) ?_ hm ?_ ((t.wok.boot f (tT hb)).trans hv) ?_) hd)
    ·rw[t.envOk.globals];exact A0 t.wok.g t.inv.G
    ·rw[t.envOk.builtins];exact A0 t.wok.b t.inv.G
    ·exact PySem.callWith_type (Y3 p hp).1 (U0 p hp h)
  ·have n7:=t.step q.1;show w5 (aH g f as) _ _ _ _;unfold aH;rw[hF];simp only;split
   ·exact O5 t q.1 (PJ t.ok n7.xn q.2)
   ·trivial
end
inductive tU:List (b9×Int)->List (Str×Value)->Prop
 |nil:tU [] []
 |cons (x:b9) (i:Int) (t:Tok) {a:List (b9×Int)} {b:List (Str×Value)}:tU a b->tU ((x,i)::a) ((S x,.int i t)::b)
theorem tU.keys {a:List (b9×Int)} {b:List (Str×Value)} (l:tU a b):b.map (·.1)=(a.map (·.1)).map S:=by
 induction l with
 |nil=>rfl
 |cons x i t r ih=>rw[List.map_cons,List.map_cons,List.map_cons,ih]
theorem zF: ∀{l:List b9},l.Nodup->(l.map S).Nodup
 |[],_=>.nil
 |x::r,h=>by
  rw[List.nodup_cons] at h;rw[List.map_cons,List.nodup_cons];refine⟨fun m=> ?_,zF h.2⟩;refine e8 (List.mem_map.mp m) fun y hy e=> ?_;exact h.1 (EO.mp e▸hy)
theorem tU.at {a:List (b9×Int)} {b:List (Str×Value)} (l:tU a b) (y:b9):match a.lookup y with|some i=> ∃t,valueAt b ⟨y.toArray⟩=some (.int i t)|none=>valueAt b ⟨y.toArray⟩=none:=by
 induction l with
 |nil=>rfl
 | @cons x i t a b r ih=>
  have hv:valueAt ((S x,Value.int i t)::b) ⟨y.toArray⟩=if S x=S y then some (.int i t) else valueAt b ⟨y.toArray⟩:=by
   unfold valueAt;rw[List.find?_cons];by_cases h:S x=S y
   ·have:decide ((S x,Value.int i t).1=(⟨y.toArray⟩:Str))=true:=decide_eq_true h;rw[this,if_pos h];rfl
   ·have:decide ((S x,Value.int i t).1=(⟨y.toArray⟩:Str))=false:=decide_eq_false h;rw[this,if_neg h]
  rw[hv,List.lookup_cons];by_cases h:y=x
  ·subst h;rw[beq_self_eq_true,if_pos rfl];exact⟨t,rfl⟩
  ·have h1:(y==x)=false:=by simpa using h
   have h2:S x≠S y:=fun e=>h (EO.mp e).symm;rw[h1,if_neg h2];exact ih
section
variable {W:Wd} {C:Cx} {X:Xs} {k:Nat} {env:Env} {sc:Scope} {oa:Option Addr} {σ:d9} {s s₁:Shared} {g:G} {n:Nat}
theorem kL (pos:Pos): ∀{ks:List (Option Expr)} {vs:List Expr} {kvs:List (b9×Int)},bT ks vs=some kvs->
  ∃pairs:List (Sem Value×Sem Value),(evalEachOpt ks env).zip ((evalEach vs env).map fun v=>do let x <-v;standAt pos;pure x)=pairs.map (fun p=>(some p.1,p.2))/\pairs.length=kvs.length/\
   ∀(A:Around) (s:Shared) (Q:List (Value×Value)->Shared->Prop) (E:Value->Shared->Prop),
    (∀ps b tk,Carries (PySem.strKind prog w) ps b->tU kvs b->Q ps {s with toks:=tk})->wpAny (model prog w) A (evalPairs pairs) Q E s
 |[],[],kvs,h=>⟨[],rfl,by rw[<-Option.some.inj h];rfl,fun A s Q E q=>evalPairs_nil (q [] [] s.toks trivial (Option.some.inj h▸.nil))⟩
 |[],_::_,kvs,h=>nomatch h
 |_::_,[],kvs,h=>nomatch h
 |e::ks,v::vs,kvs,h=>by
  refine e8 (Option.bind_eq_some_iff.mp h) fun x hx h=> ?_;refine e8 (Option.bind_eq_some_iff.mp h) fun i hi h=> ?_;refine e8 (Option.map_eq_some_iff.mp h) fun r hr h=> ?_;refine C1 (jX hx) fun j q e'=> ?_;refine C1 (jY hi) fun j' q' e''=> ?_;refine s5 (kL pos hr) fun pairs e1 e2 e3=> ?_;rw[e',e'',<-h];refine⟨(eval (.Constant (.str x) j q) env,do let x <-eval (.Constant (.int i) j' q') env;standAt pos;pure x)::pairs,congrArg (_:: ·) e1,congrArg Nat.succ e2,fun A s Q E hq=> ?_⟩;refine evalPairs_cons (wpAny_Constant_str (wpAny_bind (wpAny_Constant_int (wpAny_bind (wpAny_standAt (wpAny_pure ?_))))));refine e3 A _ _ E fun ps b tk hc hl=> ?_;refine hq _ ((S x.cps.toList,.int i _)::b) tk ⟨?_,rfl,hc⟩ (.cons _ _ _ hl);show Value.isStrOf (S x.cps.toList) (.str x s.toks)=true;rw[XM];simp[Value.isStrOf]
theorem FR (t:J3 W C X k env sc oa σ s.heap) (ks:List (Option Expr)) (vs:List Expr) (p:Pos):
  Ou C (needR (bT ks vs) fun kvs=>if 1<=kvs.length/\kvs.length<=15/\(kvs.map (·.1)).Nodup then R.ok (V.dict kvs) else .stuck) (eval (.Dict ks vs p) env) (g5 C X oa s) (C7 C s) s:=by
 refine Ou.need1 fun kvs h=>Ou.guard fun⟨h1,h2,h3⟩=> ?_;refine s5 (kL (env:=env) p h) fun pairs e1 e2 e3=> ?_;refine wpAny_Dict_pairs (knd:=PySem.strKind prog w) e1 (by rintro rfl;simp at e2;omega) (by omega) ?_;refine e3 C.A _ _ _ fun ps b tk hc hl=> ?_;refine⟨b,hc,Heap.DictOf.new _,fun h' hd hs=> ?_⟩;have hn:(b.map (·.1)).Nodup:=by rw[hl.keys];exact zF h3
 rw[merged_nil_of_nodup b hn] at hd;have old: ∀a o,s.heap.get? a=some o->h'.get? a=some o:=fun a o e=>(hs.2 a (Nat.ne_of_lt (Heap.lt_size e))).trans (Heap.get?_push_of_some _ e);refine⟨.of_keep old,.dict hd.mapOf ?_ (fun q=>Nat.lt_irrefl _ (t.xn _ q)) hl.at⟩;have hg:=t.wok.g;refine F6 hg fun o es ep ho Z=> ?_;clear hg;have:=Heap.lt_size (t.inv.G _ _ ho);intro q;rw[q] at this;exact absurd this (by decide)
end
theorem PO {o:Obj} {T:String} (hc:o.cls=.type T) (h:(["list","tuple","range","dict"]:List String).contains T=false): ¬I8 o:=by
 rintro ⟨e,_⟩
 rw[hc] at e;rcases e with e|e|e|e<;>(rw[Value.type.inj e] at h;exact absurd h (by decide))
noncomputable def zG (T:String):Bool:=T !="code" && !(["list","tuple","range","dict"]:List String).contains T && !(["enumerate","zip","dict_itemiterator","dict_reverseitemiterator","odict_iterator","itertools.zip_longest","itertools.pairwise"]:List String).contains T
noncomputable def XN (h:Heap) (I:Addr):Prop:= ∃o T vs,h.get? I=some o/\o.cls=.type T/\o.data=.fields vs/\zG T=true
structure DU (X:Xs) (I:Addr) (fp:List Addr) (items:List V) (P:Nat->Value->Prop) (St:Nat->Heap->Prop) (h:Heap):Prop where
 walks: ∀A:Around,A.handled=none->Walks prog w A I fp [I] items.length P St
 st:St 0 h
 fps: ∀b∈fp,b=I\/ ∃o,h.get? b=some o/\o.cls=.type "list"/\(∃vs n,o.data=.seq vs n)/\ ¬X b
 vals: ∀i v,i<items.length->P i v-> ∃d,items[i]? =some d/\Rp h X v d
 new: ∀a,X a->a≠I
 at_: ∀i h,St i h->XN h I
section
variable {W:Wd} {C:Cx} {X:Xs} {k:Nat} {env:Env} {sc:Scope} {oa:Option Addr} {σ:d9} {s s₁:Shared} {g:G} {n:Nat} {I:Addr} {fp:List Addr} {items:List V} {P:Nat->Value->Prop} {St:Nat->Heap->Prop} {h₀:Heap}
theorem DU.live (t:DU X I fp items P St h₀) (i:Nat) (h:Heap) (st:St i h): ∃o,h.get? I=some o/\o.cls≠.none/\o.cls≠.type "code"/\(∃vs,o.data=.fields vs)/\ ¬I8 o:=by
 refine X1 (t.at_ i h st) fun o T vs e hc hd hp=> ?_;refine f8 (Bool.and_eq_true_iff.mp hp) fun hp Z=> ?_;refine f8 (Bool.and_eq_true_iff.mp hp) fun h1 h2=> ?_;exact⟨o,e,fun z=>Value.noConfusion (hc.symm.trans z),fun z=>(bne_iff_ne.mp h1) (Value.type.inj (hc.symm.trans z)),⟨vs,hd⟩,PO hc (Bool.not_eq_true' _ |>.mp h2)⟩
theorem DU.go (t:DU X I fp items P St h₀) (A:Around) (E:Value->Shared->Prop) (i:Nat) (s:Shared) (v:Value) (tg:Expr) (Q:Unit->Shared->Prop) (ht:(∃x p,tg=.Name x p)\/(∃es j p,tg=.Tuple es j p)) (st:St i s.heap) (h:Q () s):
  wpAny (model prog w) A (letOwnedTupleGo tg (.ref I) v) Q E s:=by
 refine X1 (t.at_ i _ st) fun o T vs ho hc hd hp=> ?_;have hT:=Bool.not_eq_true' _ |>.mp (Bool.and_eq_true_iff.mp hp).2;rcases ht with⟨x,p,rfl⟩|⟨es,j,p,rfl⟩
 ·exact wpAny_pure h
 ·cases v with
  |ref a=>
   unfold letOwnedTupleGo;refine wpAny_bind (wpAny_load ho ?_);rw[hc,hd];show wpAny _ _ (if (_ &&_)=true then _ else _) _ _ _;rw[hT];exact wpAny_pure h
  |_=>exact wpAny_pure h
theorem zH {T:String} {x:b9} {t:Tok} (hw: ∀A:Around,A.handled=none->Walks prog w A I [I] [I] (S x).cps.size (SignAt (S x)) fun i h=>h.IsStrIter I T (S x) t i) (hT:zG T=true) (hnew: ∀a,X a->a≠I) (st:h₀.IsStrIter I T (S x) t 0):
  DU X I [I] (x.map fun c=>.str [c]) (SignAt (S x)) (fun i h=>h.IsStrIter I T (S x) t i) h₀ where
 walks A hA:=(List.length_map (as:=x) fun c=>V.str [c])▸hw A hA
 st:=st
 fps b hb:=.inl (List.mem_singleton.mp hb)
 vals i v hin hv:=by
  refine r0 hv fun c u e1 z2r=> ?_;clear hv;subst z2r;exact⟨.str [c],by rw[List.getElem?_map,show x[i]? =some c from List.getElem?_toArray.symm.trans e1];rfl,.str [c] u⟩
 new:=hnew
 at_ i h st:=s5 (st) fun o e1 e2 e3=>⟨o,T,_,e1,e2,e3,hT⟩
theorem FS {l:Addr} {o:Obj} {zs:List Value} {m:Nat} {ds:List V} (hnew: ∀a,X a->a≠I) (hl:l≠I) (st:h₀.IsListIter I l 0) (e1:h₀.get? l=some o) (e2:o.cls=.type "list") (e3:o.data=.seq zs.toArray m) (e4: ¬X l) (e5:Rps h₀ X zs ds):
  DU X I [I,l] ds (fun i v=>zs.toArray[i]? =some v) (fun i h=>h.IsListIter I l i/\h.IsList l zs.toArray) h₀ where
 walks A hA:=e5.items▸Walks.list hA I l hl zs.toArray
 st:=⟨st,o,e1,e2,m,e3⟩
 fps b hb:=(List.mem_cons.mp hb).imp id fun hb=>by rw[List.mem_singleton.mp hb];exact⟨o,e1,e2,⟨_,_,e3⟩,e4⟩
 vals i v hin hv:=by
  have hv:zs[i]? =some v:=List.getElem?_toArray.symm.trans hv;refine d6 (List.getElem?_eq_some_iff.mp hv) fun hj e=> ?_;refine d6 (e5.at hj) fun hd q=> ?_;exact⟨_,List.getElem?_eq_getElem hd,e▸q⟩
 new:=hnew
 at_ i h st:=s5 st.1 fun o e1 e2 e3=>⟨o,_,_,e1,e2,e3,by decide⟩
theorem LE {m:Nat} (hnew: ∀a,X a->a≠I) (st:IsRangeIter h₀ I 0 m 1):
  DU X I [I] ((List.range m).map fun(k:Nat)=>V.int (k:Int)) (fun i v=> ∃t,v=.int (0+i*1) t) (fun i h=>IsRangeIter h I (0+(i:Nat)*1) ((m:Int)-(i:Nat)) 1) h₀ where
 walks A hA:=by
  have e:m=((List.range m).map fun(k:Nat)=>V.int (k:Int)).length:=(List.length_map _ |>.trans List.length_range).symm;have:=Walks.range (prog:=prog) (w:=w) hA I 0 1 m;rw[<-e];exact this
 st:=by
  show IsRangeIter h₀ I (0+((0:Nat):Int)*1) ((m:Int)-((0:Nat):Int)) 1;rw[show(0+((0:Nat):Int)*1)=0 from rfl,show((m:Int)-((0:Nat):Int))=m from Int.sub_zero _];exact st
 fps b hb:=.inl (List.mem_singleton.mp hb)
 vals i v hin hv:=by
  refine d6 hv fun tk z1r=> ?_;clear hv;subst z1r;have hi':i<m:=by rwa[List.length_map,List.length_range] at hin
  refine⟨.int i,?_,?_⟩
  ·rw[List.getElem?_map,List.getElem?_range hi'];rfl
  ·rw[show(0+(i:Int)*1)=i by omega];exact .int _ _
 new:=hnew
 at_ i h st:=⟨_,_,_,st,rfl,rfl,by decide⟩
theorem tV (m:Int):Builtin.Range.rangeSize 0 m 1=m.toNat:=by
 unfold Builtin.Range.rangeSize;rw[if_pos (by decide)];by_cases h:(0:Int)<m
 ·rw[if_pos h,Int.ediv_one];omega
 ·rw[if_neg h];omega
theorem BT {m:Int} (hm:m.natAbs<=2 ^20):Builtin.Range.small 0 m 1=true:=by
 unfold Builtin.Range.small Builtin.Range.rangeFitsLong;rw[tV];simp only[Bool.and_eq_true,decide_eq_true_eq,Bool.or_eq_true,beq_iff_eq];refine⟨⟨⟨⟨⟨by decide,by decide⟩,by omega,by omega⟩,by decide,by decide⟩,by omega,by omega⟩,.inr ?_⟩;rw[if_pos (by decide)];simp only[Bool.and_eq_true,decide_eq_true_eq];omega
variable (C X s) in
noncomputable def tW (items:List V) (it:Value) (s₁:Shared):Prop:=
 ∃fp P St,it=.ref s.heap.objs.size/\k9 C s s₁/\(∀b o,s.heap.get? b=some o->s₁.heap.get? b=some o)/\DU X s.heap.objs.size fp items P St s₁.heap
theorem jG (ok:C.Ok k) (hf:Xn X s.heap) {u:Value} {iv:V} {items:List V} (r:B2 s.heap X oa u iv) (hi:s9 iv=.ok items):
  wpAny (model prog w) C.A (pyIter u) (tW C X s items) (fun Z Z=>False) s:=by
 have hnew: ∀a,X a->a≠s.heap.objs.size:=fun a x e=>Nat.lt_irrefl _ (e▸hf a x);have fin: ∀{o:Obj} {fp:List Addr} {P:Nat->Value->Prop} {St:Nat->Heap->Prop},DU X s.heap.objs.size fp items P St (s.heap.push o)->tW C X s items (.ref s.heap.objs.size) {s with heap:=s.heap.push o}:=
  fun q=>⟨_,_,_,rfl,.of_keep fun Z Z e=>Heap.get?_push_of_some _ e,fun Z Z e=>Heap.get?_push_of_some _ e,q⟩
 cases iv with
 |str x=>
  refine f8 (D7 hi) fun hx hi=> ?_;refine d6 (t8 r) fun t e=> ?_;rw[e];rw[<-v1 hi] at fin;cases ha:(S x).cps.all (· <128)
  ·exact wpAny_pyIter_wide ha (v1 hi▸fin (zH (T:="str_iterator") (fun A hA=>Walks.strWide hA _ _ _) (by decide) hnew ⟨_,Heap.get?_push_size _ rfl,rfl,rfl⟩))
  ·exact wpAny_pyIter_ascii ha (v1 hi▸fin (zH (T:="str_ascii_iterator") (fun A hA=>Walks.strAscii hA _ _ _) (by decide) hnew ⟨_,Heap.get?_push_size _ rfl,rfl,rfl⟩))
 |list ds=>
  refine f8 (D7 hi) fun hx hi=> ?_;refine X2 (dU r) fun l o zs m e e1 e2 e3 e4 e5=> ?_;rw[e];exact wpAny_pyIter_list ⟨o,e1,e2,m,e3⟩ (fin (FS hnew (Nat.ne_of_lt (Heap.lt_size e1)) ⟨_,Heap.get?_push_size _ rfl,rfl,rfl⟩ (Heap.get?_push_of_some _ e1) e2 e3 e4 (v1 hi▸e5.carry (.push _))))
 |rng m=>
  refine f8 (D7 hi) fun hm hi=> ?_;refine sX (Rp.inv r) fun l t u t' e hr hx=> ?_;rw[e];refine wpAny_pyIter_range hr (BT hm) ?_;rw[tV];exact fin (v1 hi▸LE hnew (Heap.get?_push_size _ rfl))
 |_=>injection hi
end
noncomputable def F8 (env:Env):List (Str×NameKind)->List (Str×Addr)->List (Str×Addr)
 |[],acc=>acc
 |(n,kd)::r,acc=>if kd==.free then F8 env r ((n,(env.cells.lookup n).getD 0)::acc) else F8 env r acc
theorem kM (env:Env) (f:Str×NameKind->List (Str×Addr)->Sem (ForInStep (List (Str×Addr)))):
  ∀(names:List (Str×NameKind)) (acc:List (Str×Addr)),(∀p∈names,p.2=.free-> ∃c,env.cells.lookup p.1=some c)->
   (∀n kd acc,f (n,kd) acc=if kd==.free then (do let c <-cellOf env n;pure (.yield ((n,c)::acc))) else pure (.yield acc))->
   forIn names acc f=pure (F8 env names acc)
 |[],acc,_,_=>by rw[List.forIn_nil];rfl
 |(n,kd)::r,acc,h,hf=>by
  rw[List.forIn_cons,hf];unfold F8;have ih:=fun acc=>kM env f r acc (fun p hp=>h p (List.mem_cons_of_mem _ hp)) hf;split
  ·rename_i hk;refine d6 (h (n,kd) List.mem_cons_self (by simpa using hk)) fun c hc=> ?_;have:cellOf env n=pure c:=by unfold cellOf;rw[hc]
   rw[this];simp only[pure_bind];rw[ih,hc];rfl
  ·simp only[pure_bind];exact ih acc
theorem Y4 {csc:Scope} {env:Env} (h: ∀p∈csc.names,p.2=.free-> ∃c,env.cells.lookup p.1=some c):closureFor csc env=pure (F8 env csc.names []):=by
 simp only[closureFor];rw[kM env _ csc.names [] h (fun n kd acc=>by
  cases hk:(kd==NameKind.free)<;>simp)]
 rfl
theorem jH (env:Env): ∀(names:List (Str×NameKind)) (acc:List (Str×Addr)) (x:Str) (c:Addr),env.cells.lookup x=some c->
  ((x,NameKind.free)∈names\/acc.lookup x=some c)->(F8 env names acc).lookup x=some c
 |[],acc,x,c,hc,h=>by
  rcases h with h|h
  ·cases h
  ·exact h
 |(n,kd)::r,acc,x,c,hc,h=>by
  unfold F8;by_cases hk:(kd==NameKind.free)=true
  ·rw[if_pos hk];refine jH env r _ x c hc ?_;rw[List.lookup_cons];by_cases e:x=n
   ·subst e;rw[beq_self_eq_true,hc];exact .inr rfl
   ·have:(x==n)=false:=by simpa using e
    rw[this];rcases h with h|h
    ·rcases List.mem_cons.mp h with q|q
     ·injection q with q q2;subst q;subst q2;exact absurd rfl e
     ·exact .inl q
    ·exact .inr h
  ·rw[if_neg hk];refine jH env r _ x c hc ?_;rcases h with h|h
   ·rcases List.mem_cons.mp h with q|q
    ·injection q with q q2;subst q;subst q2;exact absurd rfl hk
    ·exact .inl q
   ·exact .inr h
theorem aP {env:Env}: ∀{names:List (Str×NameKind)} {x:Str} {kd:NameKind},names.lookup x=some kd->
  (names.map fun(n,k)=>if (k==NameKind.free &&env.scope.kind==.function &&env.kindOf n==some .cell) then (n,NameKind.cell) else (n,k)).lookup x=some kd\/
  (kd=.free/\(names.map fun(n,k)=>if (k==NameKind.free &&env.scope.kind==.function &&env.kindOf n==some .cell) then (n,NameKind.cell) else (n,k)).lookup x=some .cell)
 |[],_,_,h=>by simp at h
 |(n,k)::r,x,kd,h=>by
  have ih:= @aP env r x kd;show List.lookup x ((if (k==NameKind.free &&env.scope.kind==.function &&env.kindOf n==some .cell)=true then (n,NameKind.cell) else (n,k))::_)=_\/(_/\List.lookup x ((if (k==NameKind.free &&env.scope.kind==.function &&env.kindOf n==some .cell)=true then (n,NameKind.cell) else (n,k))::_)=_);cases hx:x==n with
  |true=>
   simp only[List.lookup_cons,hx] at h;injection h with h;subst h;by_cases hc:(k==NameKind.free &&env.scope.kind==.function &&env.kindOf n==some .cell)=true
   ·rw[if_pos hc];refine .inr ⟨?_,by simp[List.lookup_cons,hx]⟩;rw[Bool.and_eq_true,Bool.and_eq_true] at hc;simpa using hc.1.1
   ·rw[if_neg hc];exact .inl (by simp[List.lookup_cons,hx])
  |false=>
   simp only[List.lookup_cons,hx] at h;by_cases hc:(k==NameKind.free &&env.scope.kind==.function &&env.kindOf n==some .cell)=true
   ·rw[if_pos hc];simp only[List.lookup_cons,hx];exact ih h
   ·rw[if_neg hc];simp only[List.lookup_cons,hx];exact ih h
theorem Y5 {env:Env}: ∀{names:List (Str×NameKind)} {x:Str} {kd:NameKind},
  (names.map fun(n,k)=>if (k==NameKind.free &&env.scope.kind==.function &&env.kindOf n==some .cell) then (n,NameKind.cell) else (n,k)).lookup x=some kd->
  (kd=.cell\/kd=.free)->(∀p∈names,p.2≠.cell)->(x,NameKind.free)∈names
 |[],_,_,h,_,_=>by simp at h
 |(n,k)::r,x,kd,h,hk,hn=>by
  have ih:=fun h'=> @Y5 env r x kd h' hk fun p hp=>hn p (List.mem_cons_of_mem _ hp);have h:List.lookup x ((if (k==NameKind.free &&env.scope.kind==.function &&env.kindOf n==some .cell)=true then (n,NameKind.cell) else (n,k))::_)=some kd:=h;cases hx:x==n with
  |true=>
   have e:x=n:=by simpa using hx
   subst e;by_cases hc:(k==NameKind.free &&env.scope.kind==.function &&env.kindOf x==some .cell)=true
   ·rw[Bool.and_eq_true,Bool.and_eq_true] at hc;have:k=.free:=by simpa using hc.1.1
    subst this;exact List.mem_cons_self
   ·rw[if_neg hc] at h;simp only[List.lookup_cons,hx] at h;injection h with h;subst h;rcases hk with q|q
    ·exact absurd q (hn (x,_) List.mem_cons_self)
    ·subst q;exact List.mem_cons_self
  |false=>
   by_cases hc:(k==NameKind.free &&env.scope.kind==.function &&env.kindOf n==some .cell)=true
   ·rw[if_pos hc] at h;simp only[List.lookup_cons,hx] at h;exact List.mem_cons_of_mem _ (ih h)
   ·rw[if_neg hc] at h;simp only[List.lookup_cons,hx] at h;exact List.mem_cons_of_mem _ (ih h)
theorem rA {σ:d9} {sc csc:Scope} {x:Str} {v:V} (h:(i5 σ sc csc).get x=some v):
  σ.get x=some v/\csc.names.lookup x=some .free/\(sc.names.lookup x=some .cell\/sc.names.lookup x=some .free):=by
 unfold i5 d9.get at*;induction σ with
 |nil=>simp at h
 |cons p r ih=>
  obtain⟨y,u⟩:=p;rw[List.filter_cons] at h;rw[List.lookup_cons];split at h
  ·rename_i hp;rw[List.lookup_cons] at h;cases hxy:x==y with
   |true=>
    rw[hxy] at h;have e:x=y:=by simpa using hxy
    subst e;rw[Bool.and_eq_true,Bool.or_eq_true] at hp;refine⟨h,by simpa using hp.1,?_⟩;rcases hp.2 with q|q
    ·exact .inl (by simpa using q)
    ·exact .inr (by simpa using q)
   |false=>rw[hxy] at h;exact ih h
  ·rename_i hp;refine n5 (ih h) fun h1 h2 h3=> ?_;have hxy:(x==y)=false:=by
    cases q:x==y with
    |false=>rfl
    |true=>
     have e:x=y:=by simpa using q
     subst e;exfalso;apply hp;rw[Bool.and_eq_true,Bool.or_eq_true];refine⟨by simpa using h2,?_⟩;rcases h3 with z|z
     ·exact .inl (by simpa using z)
     ·exact .inr (by simpa using z)
   rw[hxy];exact⟨h1,h2,h3⟩
theorem gY {σ:d9} {t:Expr} {v:V} {l:Int} (h:t7 σ t v=.err l):False:=by
 rcases kA (fun z=>nomatch z.symm.trans h) with⟨_,_,_,e⟩|⟨_,_,_,_,_,_,_,_,_,_,e⟩<;>(rw[e] at h;injection h)
theorem kN {α:Type} {r:R α} {l:Int}:r.calm≠.err l:=by cases r<;>intro h<;>cases h
theorem kO {α:Type} {f:α->R Bool} (hf: ∀x l,f x≠.err l): ∀(xs:List α) (l:Int),cS f xs≠.err l
 |[],l=>fun h=>by injection h
 |x::r,l=>by
  rw[fL];cases h:f x with
  |stuck=>exact fun z=>by injection z
  |err l'=>exact absurd h (hf x l')
  |ok b=>cases b with
   |true=>exact kO hf r l
   |false=>exact fun z=>by injection z
theorem kP {E T:d9->Expr->R V} {σ:d9} {t elt:Expr} {ifs:List Expr} {v:V} {l:Int}:F7 E T σ t elt ifs v≠.err l:=by
 unfold F7;cases h:t7 σ t v with
 |stuck=>exact fun z=>by injection z
 |err l'=>exact(gY h).elim
 |ok σ'=>
  show(cS _ ifs).bind _≠_;cases h2:cS (fun x=>((T σ' x).bind l7).calm) ifs with
  |stuck=>exact fun z=>by injection z
  |err l'=>exact absurd h2 (kO (fun Z Z=>kN) _ _)
  |ok c=>
   cases c with
   |false=>exact fun z=>by injection z
   |true=>
    show((E σ' elt).bind iM).calm.map some≠_;cases h3:((E σ' elt).bind iM).calm with
    |stuck=>exact fun z=>by injection z
    |err l'=>exact absurd h3 kN
    |ok _=>exact fun z=>by injection z
theorem aQ {α β:Type} {f:α->R (Option β)} (hf: ∀x l,f x≠.err l): ∀(xs:List α) (l:Int),D5 f xs≠.err l
 |[],l=>fun h=>by injection h
 |x::r,l=>by
  show(f x).bind _≠_;cases h:f x with
  |stuck=>exact fun z=>by injection z
  |err l'=>exact absurd h (hf x l')
  |ok b=>
   show(D5 f r).map _≠_;cases h2:D5 f r with
   |stuck=>exact fun z=>by injection z
   |err l'=>exact absurd h2 (aQ hf r l')
   |ok _=>exact fun z=>by injection z
section
variable {W:Wd} {C:Cx} {X:Xs} {k:Nat} {env:Env} {sc:Scope} {oa:Option Addr} {σ:d9} {s s₁:Shared} {g:G} {n:Nat}
theorem Rp.but {h h':Heap} {a:Addr} (hs: ∀b,b≠a->h'.get? b=h.get? b) (ha:X a\/ ∀o,h.get? a=some o-> ¬I8 o) {u:Value} {v:V} (r:Rp h X u v):Rp h' X u v:=
 r.carry fun b o e n d=>(hs b (by
  rintro rfl
  rcases ha with q|q
  ·exact n q
  ·exact q o e d)).trans e
theorem Rps.but {h h':Heap} {a:Addr} (hs: ∀b,b≠a->h'.get? b=h.get? b) (ha:X a\/ ∀o,h.get? a=some o-> ¬I8 o) {u:List Value} {v:List V} (r:Rps h X u v):Rps h' X u v:=
 r.carry fun b o e n d=>(hs b (by
  rintro rfl
  rcases ha with q|q
  ·exact n q
  ·exact q o e d)).trans e
theorem B2.but {h h':Heap} {a:Addr} (hs: ∀b,b≠a->h'.get? b=h.get? b) (ha:X a\/ ∀o,h.get? a=some o-> ¬I8 o) (hq: ∀o,h.get? a=some o-> ∀vs n,o.data≠.seq vs n) {u:Value} {v:V} (r:B2 h X oa u v):B2 h' X oa u v:=by
 rcases kB v with⟨ds,rfl⟩|q
 ·refine X2 r fun b o vs n e1 e2 e3 e4 e5 e6=> ?_;clear r;exact⟨b,o,vs,n,e1,e2,(hs b (by rintro rfl;exact hq o e3 _ _ e5)).trans e3,e4,e5,e6.but hs ha⟩
 ·exact B2.of ((r.plain q).but hs ha)
theorem D4 {h:Heap} {a:Addr} {m:Str->Option Value} (x:h.Ns a m): ∃o es ep,h.get? a=some o/\o.data=.dict es ep:=nK (x) fun o es ep e d Z=>⟨o,es,ep,e,d⟩
theorem gZ (t:St env oa X s.heap σ) (hk:env.scope.kind=.function) {x:Str} (hx:env.kindOf x=some .local) (hL:X env.locals) {u:Value} {v:V} (r:B2 s.heap X oa u v) {A:Around}:
  wpAny (model prog w) A (storeName env x u) (fun Z s'=> ∃h' tk,s'={s with heap:=h',toks:=tk}/\(∀b,b≠env.locals->h'.get? b=s.heap.get? b)/\St env oa X h' (σ.set x v)) (fun Z Z=>False) s:=by
 refine e8 t.vals fun m hm hv=> ?_;refine F6 (D4 hm) fun o es ep ho hd=> ?_;refine wpAny_storeName_local hx hm (fun h' hn hs=>⟨h',_,rfl,hs.2,?_⟩) (by rw[hk];rfl);have cell: ∀c v,s.heap.IsCell c v->h'.IsCell c v:=fun c v ⟨oc,e,d⟩=>⟨oc,(hs.2 c (by rintro rfl;rw[ho] at e;injection e with e;subst e;rw[hd] at d;injection d)).trans e,d⟩;have hq: ∀o',s.heap.get? env.locals=some o'-> ∀vs n,o'.data≠.seq vs n:=fun o' e vs n z=>by rw[ho] at e;injection e with e;subst e;rw[hd] at z;injection z
 refine⟨fun y hy=> ?_,_,hn,fun y z e=> ?_⟩
 ·refine r0 (t.cells y hy) fun c v h1 h2=> ?_;exact⟨c,v,h1,cell c v h2⟩
 ·rw[k7] at e;by_cases hyx:y=x
  ·subst hyx;rw[if_pos rfl] at e;injection e with e;subst e;exact⟨u,r.but hs.2 (.inl hL) hq,.inl ⟨hx,if_pos rfl⟩⟩
  ·rw[if_neg hyx] at e;refine e8 (hv y z e) fun u' hu hk'=> ?_;refine⟨u',hu.but hs.2 (.inl hL) hq,?_⟩;rcases hk' with⟨q,q'⟩|⟨q,c,hc,hi⟩
   ·exact .inl ⟨q,by rw[if_neg hyx];exact q'⟩
   ·exact .inr ⟨q,c,hc,cell c _ hi⟩
theorem xK (t:St env oa X s.heap σ) (hk:env.scope.kind=.function) {x:Str} (hx:env.kindOf x=some .cell) (inj: ∀x y c,env.cells.lookup x=some c->env.cells.lookup y=some c->x=y) {u:Value} {v:V} (r:B2 s.heap X oa u v) {A:Around}:
  wpAny (model prog w) A (storeName env x u) (fun Z s'=> ∃h' tk c,s'={s with heap:=h',toks:=tk}/\env.cells.lookup x=some c/\(∀b,b≠c->h'.get? b=s.heap.get? b)/\St env oa X h' (σ.set x v)) (fun Z Z=>False) s:=by
 refine e8 t.vals fun m hm hv=> ?_;refine F6 (D4 hm) fun o es ep ho hd=> ?_;refine r0 (t.cells x (.inl hx)) fun c aO2 hc hi=> ?_;refine wpAny_storeName_cell hk hx hc hi fun h' hn hs=>⟨h',s.toks,c,rfl,hc,hs.2,?_⟩;refine e8 hi fun oc hoc hdc=> ?_;clear hi;have hLc:env.locals≠c:=by rintro e;rw[e,hoc] at ho;injection ho with ho;subst ho;rw[hdc] at hd;injection hd
 have hq: ∀o',s.heap.get? c=some o'-> ∀vs n,o'.data≠.seq vs n:=fun o' e vs n z=>by rw[hoc] at e;injection e with e;subst e;rw[hdc] at z;injection z
 have ha: ∀o',s.heap.get? c=some o'-> ¬I8 o':=fun o' e d=>by rw[hoc] at e;injection e with e;subst e;exact d.2 _ hdc
 have hm':h'.Ns env.locals m:=by
  refine F6 hm fun o es ep e r=> ?_;clear hm;exact⟨o,es,ep,(hs.2 _ hLc).trans e,r⟩
 refine⟨fun y hy=> ?_,m,hm',fun y z e=> ?_⟩
 ·refine r0 (t.cells y hy) fun c' v' h1 h2=> ?_;by_cases hcc:c'=c
  ·subst hcc;exact⟨c',_,h1,hn⟩
  ·refine e8 h2 fun o' e' d'=> ?_;clear h2;exact⟨c',v',h1,o',(hs.2 c' hcc).trans e',d'⟩
 ·rw[k7] at e;by_cases hyx:y=x
  ·subst hyx;rw[if_pos rfl] at e;injection e with e;subst e;exact⟨u,r.but hs.2 (.inr ha) hq,.inr ⟨.inl hx,c,hc,hn⟩⟩
  ·rw[if_neg hyx] at e;refine e8 (hv y z e) fun u' hu hk'=> ?_;refine⟨u',hu.but hs.2 (.inr ha) hq,?_⟩;rcases hk' with q|⟨q,c',hc',hi'⟩
   ·exact .inl q
   ·refine .inr ⟨q,c',hc',?_⟩;have hcc:c'≠c:=fun z=>hyx (inj y x c' hc' (z▸hc));refine e8 hi' fun o' e' d'=> ?_;clear hi';exact⟨o',(hs.2 c' hcc).trans e',d'⟩
theorem hH {A:Around} {E:Value->Shared->Prop} {Q:Bool->Shared->Prop}: ∀(ifs:List Expr),Q false s->
  wpAny (model prog w) A (forIn ifs false fun c r=>if r=true then do let ok <-isTrue c env (eval c env);pure (ForInStep.yield ok) else pure (ForInStep.yield r)) Q E s
 |[],h=>by rw[List.forIn_nil];exact wpAny_pure h
 |c::r,h=>by
  rw[List.forIn_cons];simp only[Bool.false_eq_true,if_false,pure_bind];exact hH r h
theorem tX (ih:I9 W n) (hg:C6 W k C.tb g): ∀(ifs:List Expr) {s:Shared} {b:Bool},J3 W C X k env sc oa σ s.heap->cS (fun x=>((ev g n true sc σ x).bind l7).calm) ifs=.ok b->
  wpAny (model prog w) C.A (forIn ifs true fun c r=>if r=true then do let ok <-isTrue c env (eval c env);pure (ForInStep.yield ok) else pure (ForInStep.yield r)) (fun ok s'=>ok=b/\k9 C s s') (fun Z Z=>False) s
 |[],s,b,t,h=>by injection h with h;subst h;rw[List.forIn_nil];exact wpAny_pure ⟨rfl,.refl⟩
 |c::r,s,b,t,h=>by
  rw[fL] at h;have h1:=(ih g C X k env sc oa σ c s hg t).2;rcases K5 (r:=(ev g n true sc σ c).bind l7) with e|⟨d,e,e'⟩
  ·rw[e] at h;injection h
  ·rw[e'] at h;rw[e] at h1;rw[List.forIn_cons];simp only[if_true];refine wpAny_bind (wpAny_bind (wpAny_mono h1 (fun z s₁ p=>wpAny_pure ?_) fun Z Z x=>x));refine f8 p fun st z1r=> ?_;clear p;subst z1r;have h:(if z=true then cS (fun x=>((ev g n true sc σ x).bind l7).calm) r else R.ok false)=R.ok b:=h;cases z with
   |true=>exact wpAny_mono (tX ih hg r (t.step st) h) (fun ok s' q=>⟨q.1,st.trans q.2⟩) fun Z Z x=>x
   |false=>injection h with h;subst h;exact hH r ⟨rfl,st⟩
end
section
variable {W:Wd} {C:Cx} {X:Xs} {k:Nat} {env:Env} {sc:Scope} {oa:Option Addr} {σ:d9} {s s₁:Shared} {g:G} {n:Nat}
theorem tY {A:Around} {elt target iter:Expr} {ifs:List Expr} {scope:Scope} {pos:Pos} {it acc:Value} {env:Env} {R:Result->Shared->Prop} (I:Nat->Shared->Prop)
  (turn: ∀n s,I n s->wpAny (model prog w) A (pyNext it) (fun r s₁=>match r with
   |none=>R (.ok .next) s₁
   |some v=>wpAny (model prog w) A (letOwnedTupleGo target it v) (fun Z s₀=>wpAny (model prog w) A (assign target env v) (fun Z e7=>
     wpAny (model prog w) A (forIn ifs true fun c r=>if r=true then do let ok <-isTrue c env (eval c env);pure (ForInStep.yield ok) else pure (ForInStep.yield r)) (fun ok l6=>if ok=true then wpAny (model prog w) A (eval elt env) (fun x C5=>
      wpAny (model prog w) A (call (.builtin "list.append") [acc,x]) (fun Z C9=> ∃m,m<n/\I m C9) (fun Z Z=>False) C5) (fun Z Z=>False) l6
      else ∃m,m<n/\I m l6) (fun Z Z=>False) e7)
     (fun Z Z=>False) s₀) (fun Z Z=>False) s₁) (fun Z Z=>False) s)
  (n:Nat) (h:I n s):codeAny (model prog w) A (.compLoop (.ListComp elt [⟨target,iter,ifs,0⟩] scope pos) 0 it acc env) R s:=by
 refine codeAny_loop rfl I (fun n s hI=> ?_) n h;show wpAny _ A ((compTurn (.ListComp elt [⟨target,iter,ifs,0⟩] scope pos) 0 it acc env).onRaise (fun x=>do noteFrame x env;theTreesLotGoes x)) _ _ s;refine wpAny_noted ?_;rw[compTurn_list];refine wpAny_bind (wpAny_standAt (wpAny_bind (wpAny_mono (turn n s hI) (fun r s₁ y6=> ?_) fun Z Z h'=>h'.elim)));cases r with
 |none=>exact wpAny_pure y6
 |some v=>
  refine wpAny_bind (wpAny_mono y6 (fun Z s₀ UU=> ?_) fun Z Z h'=>h'.elim);refine wpAny_bind (wpAny_mono UU (fun Z e7 i8=> ?_) fun Z Z h'=>h'.elim);refine wpAny_bind (wpAny_mono i8 (fun okb l6 dM=> ?_) fun Z Z h'=>h'.elim);cases okb with
  |false=>exact wpAny_pure ⟨rfl,dM⟩
  |true=>exact wpAny_bind (wpAny_bind (wpAny_mono dM (fun x C5 ZM=>wpAny_bind (wpAny_mono ZM (fun Z C9 ZN=>wpAny_pure (wpAny_pure ⟨rfl,ZN⟩)) fun Z Z h'=>h'.elim)) fun Z Z h'=>h'.elim))
noncomputable def XC (X:Xs) (Cc D I:Addr):Xs:=fun a=>X a\/a=Cc\/a=D\/a=I
theorem J7 {csc:Scope} (h:u6 sc csc=true):(∀p∈csc.names,p.2≠.cell)/\(∀p∈csc.names,p.2=.local->csc.names.lookup p.1=some .local)/\
  (∀p∈csc.names,p.2=.free->sc.names.lookup p.1=some .cell\/sc.names.lookup p.1=some .free)/\csc.kind=.function:=by
 unfold u6 at h;rw[Bool.and_eq_true,List.all_eq_true] at h;refine f8 h fun h1 h2=> ?_;clear h;have h1:=fun p hp=>(Bool.and_eq_true_iff.mp (h1 p hp)).2;refine⟨fun p hp e=> ?_,fun p hp e=> ?_,fun p hp e=> ?_,by simpa using h2⟩
 ·have:=h1 p hp;rw[e] at this;simp at this
 ·have:=h1 p hp;rw[e] at this;simpa using this
 ·have:=h1 p hp;rw[e] at this;simpa using this
theorem zI {csc:Scope} (h:u6 sc csc=true) {kd:NameKind}:csc.names.lookup ("_law_told":Str)≠some kd:=fun e=>by
 unfold u6 at h;rw[Bool.and_eq_true,List.all_eq_true] at h;have:=(Bool.and_eq_true_iff.mp (h.1 _ (mem_of_lookup e))).1;simp at this
theorem kQ {csc:Scope} (h:u6 sc csc=true) (t:W0 env sc) (Cc:Addr):W0 (compEnvC csc (F8 env csc.names []) Cc env) csc:=by
 refine Q1 (J7 h) fun h1 h2 h3 h4=> ?_;refine⟨by simpa[compEnvC,relabel] using h4,t.globals,t.builtins,fun x kd e=> ?_,fun e=>absurd e (zI h)⟩;exact aP e
theorem fR {csc:Scope} (h:u6 sc csc=true) (ek:W0 env sc): ∀p∈csc.names,p.2=.free->env.kindOf p.1=some .cell\/env.kindOf p.1=some .free:=fun p hp e=>by
 refine Q1 (J7 h) fun h1 h2 h3 h4=> ?_;rcases h3 p hp e with q|q
 ·rcases ek.kinds _ _ q with z|⟨z,_⟩
  ·exact .inl z
  ·injection z
 ·rcases ek.kinds _ _ q with z|⟨_,z⟩
  ·exact .inr z
  ·exact .inl z
theorem R6 {csc:Scope} {h':Heap} (h:u6 sc csc=true) (ek:W0 env sc) (st:St env oa X h' σ): ∀p∈csc.names,p.2=.free-> ∃c,env.cells.lookup p.1=some c:=fun p hp e=>by
 refine r0 (st.cells _ (fR h ek p hp e)) fun c v hc Z=> ?_;exact⟨c,hc⟩
theorem B2.more {h:Heap} {X X':Xs} {u:Value} {v:V} (kx: ∀a,X' a->X a\/ ∀o,h.get? a=some o-> ¬I8 o) (r:B2 h X oa u v):B2 h X' oa u v:=by
 rcases kB v with⟨ds,rfl⟩|q
 ·refine X2 r fun b o vs n e1 e2 e3 e4 e5 e6=> ?_;clear r;exact⟨b,o,vs,n,e1,e2,e3,e4,e5,e6.more kx⟩
 ·exact B2.of ((r.plain q).more kx)
theorem aR {csc:Scope} (h:u6 sc csc=true) (ek:W0 env sc) (st:St env oa X s.heap σ)
  {cenv:Env} (hc:cenv.cells=F8 env csc.names []) (hk: ∀x kd,cenv.kindOf x=some kd->(kd=.cell\/kd=.free)->(x,NameKind.free)∈csc.names) (hk':W0 cenv csc) {m:Str->Option Value} (hn:s.heap.Ns cenv.locals m):
  St cenv oa X s.heap (i5 σ sc csc):=by
 refine e8 st.vals fun aO3 aD7 hv=> ?_;refine⟨fun x hx=> ?_,m,hn,fun x v e=> ?_⟩
 ·have hf:(x,NameKind.free)∈csc.names:=by
   rcases hx with q|q
   ·exact hk x _ q (.inl rfl)
   ·exact hk x _ q (.inr rfl)
  refine r0 (st.cells x (fR h ek _ hf rfl)) fun c' v e1 e2=> ?_;rw[hc];exact⟨c',v,jH env _ _ x c' e1 (.inl hf),e2⟩
 ·refine n5 (rA e) fun e1 e2 e3=> ?_;refine e8 (hv x v e1) fun u hu hd=> ?_;have hf:(x,NameKind.free)∈csc.names:=mem_of_lookup e2;have hxk:=fR h ek _ hf rfl;refine⟨u,hu,?_⟩;have hck:cenv.kindOf x=some .cell\/cenv.kindOf x=some .free:=by
   rcases hk'.kinds _ _ e2 with z|⟨_,z⟩
   ·exact .inr z
   ·exact .inl z
  rcases hd with⟨q,_⟩|⟨q,c,hcc,hi⟩
  ·rcases hxk with z|z<;>(rw[q] at z;cases z)
  ·exact .inr ⟨hck,c,by rw[hc];exact jH env _ _ x c hcc (.inl hf),hi⟩
theorem St.more {h:Heap} {X':Xs} (kx: ∀a,X' a->X a\/ ∀o,h.get? a=some o-> ¬I8 o) (st:St env oa X h σ):St env oa X' h σ:=by
 refine e8 st.vals fun m hm hv=> ?_;exact⟨st.cells,m,hm,fun x v e=>e8 (hv x v e) fun u hu hd=>⟨u,hu.more kx,hd⟩⟩
theorem St.keep {h h':Heap} {cenv:Env} (k: ∀b o,h.get? b=some o->h'.get? b=some o) (st:St cenv oa X h σ):St cenv oa X h' σ:=by
 refine e8 st.vals fun m hm hv=> ?_;have cell: ∀c v,h.IsCell c v->h'.IsCell c v:=fun c v ⟨oc,e,d⟩=>⟨oc,k _ _ e,d⟩;exact⟨fun x hx=>r0 (st.cells x hx) fun c v e1 e2=>⟨c,v,e1,cell c v e2⟩,m,A0 hm k,fun x v e=>e8 (hv x v e) fun u hu hd=>⟨u,hu.keep k,hd.imp id fun⟨q,c,hc,hi⟩=>⟨q,c,hc,cell c _ hi⟩⟩⟩
noncomputable def zJ (cenv:Env) (oa:Option Addr) (X':Xs) (σ':d9) (s s':Shared):Prop:=
 ∃h' tk,s'={s with heap:=h',toks:=tk}/\(∀b o,b≠cenv.locals->s.heap.get? b=some o->h'.get? b=some o)/\(∃m,h'.Ns cenv.locals m)/\St cenv oa X' h' σ'
theorem pO {cenv:Env} {X':Xs} {csc:Scope} {t:Expr} {h0:C.A.handled=none} (st:St cenv oa X' s.heap σ) (hk:W0 cenv csc) (ht:X7 csc t=true) (hL:X' cenv.locals) {u:Value} {v:V} {σ':d9} (r:Rp s.heap X' u v) (hb:t7 σ t v=.ok σ'):
  wpAny (model prog w) C.A (assign t cenv u) (fun Z=>zJ cenv oa X' σ' s) (fun Z Z=>False) s:=by
 have loc: ∀x,(csc.names.lookup x==some .local)=true->cenv.kindOf x=some .local:=fun x e=>by
  rcases hk.kinds _ _ (eq_of_beq e) with z|⟨z,_⟩
  ·exact z
  ·injection z
 have one: ∀{s:Shared} {x:Str} {u:Value} {d:V} {σ:d9} {E:Value->Shared->Prop},(csc.names.lookup x==some .local)=true->St cenv oa X' s.heap σ->Rp s.heap X' u d->wpAny (model prog w) C.A (storeName cenv x u) (fun Z=>zJ cenv oa X' (σ.set x d) s) E s:=fun hx st r=>
  wpAny_mono (gZ st hk.kind (loc _ hx) hL (.of r)) (fun _ s' ⟨h',tk,e1,e2,e3⟩=>e8 (e3.vals) fun m hm Z=>⟨h',tk,e1,fun b o n e=>(e2 b n).trans e,⟨m,hm⟩,e3⟩) fun Z Z x=>x.elim
 rcases kA (V8 hb) with⟨x,p,rfl,e⟩|⟨x,px,y,py,j,p,a,b,rfl,rfl,e⟩
 ·rw[<-v1 (e.symm.trans hb)];exact wpAny_assign_Name (one ht st r)
 ·rw[<-v1 (e.symm.trans hb)];refine f8 (Bool.and_eq_true_iff.mp ht) fun hxy Z=> ?_;refine f8 (Bool.and_eq_true_iff.mp hxy) fun hx hy=> ?_;refine v9 (Q3 r) fun T zs z5r hT hr=> ?_;subst z5r;obtain⟨ua,zs',rfl,ra,hr⟩:=D3 hr;obtain⟨ub,zs',rfl,rb,hr⟩:=D3 hr;obtain rfl:=K3 hr;refine wpAny_assign_Tuple h0 (x9 hT) rfl rfl fun y6 he=> ?_;have keep: ∀b o,s.heap.get? b=some o->y6.get? b=some o:=fun b o e=>he b o (Nat.ne_of_lt (Heap.lt_size e)) e;have rb':=rb.carry (h':=y6) fun b o e Z Z=>keep b o e;show wpAny (model prog w) C.A (assignInOrder [assign (.Name x px) cenv,assign (.Name y py) cenv] [ua,ub]) _ _ _;refine wpAny_assignInOrder_more (wpAny_assign_Name (wpAny_mono (one (s:={s with heap:=y6}) hx (st.keep keep) (ra.carry fun b o e Z Z=>keep b o e)) (fun Z e7 q=> ?_) fun Z Z x=>x));refine cR q fun i8 UV z2r e2 Z e3=> ?_;clear q;subst z2r;refine wpAny_assignInOrder_more (wpAny_assign_Name (wpAny_mono (one (s:={s with heap:=i8,toks:=UV}) hy e3 (rb'.carry fun b o e n Z=>e2 b o (fun q=>n (q▸hL)) e)) (fun Z l6 q=> ?_) fun Z Z x=>x));refine cR q fun dM cQ z1r e4 hm e5=> ?_;clear q;subst z1r;exact wpAny_assignInOrder_none ⟨dM,cQ,rfl,fun b o n e=>e4 b o n (e2 b o n (keep b o e)),hm,e5⟩
end
theorem v0.new {h:Heap} {a:Addr} (t:o3 h) (ha:h.get? a=none):v0 h a:=fun x hx ps e pos q=>by
 refine f8 (t x hx) fun Z z10t=> ?_;refine s5 z10t fun ps' e' Z p3=> ?_;clear z10t;rw[e] at e';cases e';refine sX (p3 pos _ q) fun c o vs tq e1 e2 Z=> ?_;injection e1 with e1;subst e1;rw[ha] at e2;injection e2
theorem o6 {h:Heap} {a:Addr} (t:o3 h) (ha:h.get? a=none): ¬o4 a:=fun q=>by
 rcases q with q|q|q
 ·refine f8 (t (262,258,_) (.head _)) fun Z z9t=> ?_;refine e8 z9t fun ps z Z=> ?_;clear z9t;rw[q,z] at ha;injection ha
 ·refine f8 (t (267,265,_) (.tail _ (.head _))) fun Z z8t=> ?_;refine e8 z8t fun ps z Z=> ?_;clear z8t;rw[q,z] at ha;injection ha
 ·refine f8 (t (274,270,_) (.tail _ (.tail _ (.head _)))) fun Z z7t=> ?_;refine e8 z7t fun ps z Z=> ?_;clear z7t;rw[q,z] at ha;injection ha
theorem A3 {h:Heap} {a:Addr} (ha:h.objs.size<=a):h.get? a=none:=by
 cases e:h.get? a with
 |none=>rfl
 |some o=>exact absurd (Heap.lt_size e) (Nat.not_lt.mpr ha)
theorem Y6 {α β:Type} {r:R α} {f:α->R β} {d:β} (h:r.bind f=.ok d): ∃a,r=.ok a/\f a=.ok d:=by
 cases r with
 |ok a=>exact⟨a,rfl,h⟩
 |_=>cases h
theorem pP {α β:Type} {r:R α} {f:α->β} {d:β} (h:r.map f=.ok d): ∃a,r=.ok a/\f a=d:=by
 cases r with
 |ok a=>exact⟨a,rfl,v1 h⟩
 |_=>cases h
theorem xL {α:Type} {r:R α} {d:α} (h:r.calm=.ok d):r=.ok d:=by
 cases r with
 |ok a=>exact h
 |_=>injection h
theorem xM {iv:V} {items:List V} (h:s9 iv=.ok items):items.length<=g9:=by
 cases iv with
 |str x=>refine f8 (D7 h) fun q h=> ?_;rw[<-v1 h,List.length_map];exact q
 |list x=>refine f8 (D7 h) fun q h=> ?_;rw[<-v1 h];exact q
 |rng x=>refine f8 (D7 h) fun q h=> ?_;rw[<-v1 h,List.length_map,List.length_range];exact Nat.le_trans (q49) q
 |_=>injection h
theorem BU {α β:Type} {f:α->R (Option β)} {xs:List α} {i:Nat} {ds:List β} (h:D5 f (xs.drop i)=.ok ds) (hi:i<xs.length):
  ∃o ds',f xs[i]=.ok o/\D5 f (xs.drop (i+1))=.ok ds'/\ds=(match o with|some v=>v::ds'|none=>ds'):=by
 rw[List.drop_eq_getElem_cons hi] at h;refine e8 (Y6 (r:=f xs[i]) h) fun o h1 h=> ?_;refine e8 (pP (r:=D5 f (xs.drop (i+1))) h) fun ds' h2 h=> ?_;exact⟨o,ds',h1,h2,by rw[<-h];cases o<;>rfl⟩
theorem FU {E T:d9->Expr->R V} {σ:d9} {t elt:Expr} {ifs:List Expr} {v:V} {o:Option V} (h:F7 E T σ t elt ifs v=.ok o):
  ∃σ' c,t7 σ t v=.ok σ'/\cS (fun x=>((T σ' x).bind l7).calm) ifs=.ok c/\((c=false/\o=none)\/c=true/\ ∃d,E σ' elt=.ok d/\d.open? =false/\o=some d):=by
 refine e8 (Y6 h) fun σ' h1 h=> ?_;refine e8 (Y6 h) fun c h2 h=> ?_;refine⟨σ',c,h1,h2,?_⟩;cases c with
 |false=>exact .inl ⟨rfl,(v1 h).symm⟩
 |true=>
  refine e8 (pP (r:=((E σ' elt).bind iM).calm) h) fun d h3 h=> ?_;refine e8 (Y6 (xL h3)) fun d' h4 h5=> ?_;by_cases hop:d'.open? =true
  ·rw[show iM d'=.stuck from if_pos hop] at h5;injection h5
  ·rw[show iM d'=.ok d' from if_neg hop] at h5;exact .inr ⟨rfl,d',h4,Bool.eq_false_iff.mpr hop,by rw[<-h,v1 h5]⟩
section
variable {W:Wd} {C:Cx} {X:Xs} {k:Nat} {env:Env} {sc:Scope} {oa:Option Addr} {σ:d9} {s s₁:Shared} {g:G} {n:Nat}
structure fT (C:Cx) (X':Xs) (s₁ e7:Shared) (Cc D I:Addr) (St:Nat->Heap->Prop) (i:Nat) (ds:List V) (s':Shared):Prop where
 step:k9 C s₁ s'
 st:St i s'.heap
 ns: ∃m,s'.heap.Ns Cc m
 acc: ∃o ys m,s'.heap.get? D=some o/\o.cls=.type "list"/\o.data=.seq (Array.mk ys) m/\Rps s'.heap X' ys ds
 nc:v0 s'.heap I
 carry:R4 X' e7.heap s'.heap
 len:ds.length<=i
theorem fT.ns' {X':Xs} {s₁ e7 s':Shared} {Cc D I:Addr} {St:Nat->Heap->Prop} {i:Nat} {ds:List V} (J:fT C X' s₁ e7 Cc D I St i ds s') {h:Heap} (k: ∀o,s'.heap.get? Cc=some o->h.get? Cc=some o): ∃m,h.Ns Cc m:=
 nL (J.ns) fun m o es ep e r=>⟨m,o,es,ep,k _ e,r⟩
structure aE (W:Wd) (C:Cx) (X:Xs) (k:Nat) (env:Env) (sc:Scope) (oa:Option Addr) (σ:d9) (s e7:Shared) (I D Cc:Addr) (fp:List Addr) (items:List V) (P:Nat->Value->Prop) (St:Nat->Heap->Prop):Prop where
 t:J3 W C X k env sc oa σ s.heap
 itn:DU X I fp items P St e7.heap
 st₂:k9 C s e7
 DC:D≠Cc
 ID:I≠D
 IC:I≠Cc
 sI:s.heap.get? I=none
 sD:s.heap.get? D=none
 sC:s.heap.get? Cc=none
 s₂D:e7.heap.get? D=none
 s₂C:e7.heap.get? Cc=none
section
variable {e7 s' s'':Shared} {I D Cc:Addr} {fp:List Addr} {items:List V} {P:Nat->Value->Prop} {St:Nat->Heap->Prop} (F:aE W C X k env sc oa σ s e7 I D Cc fp items P St) {i:Nat} {ds:List V} {i8:Heap} {tk:Nat} {a:Addr}
include F
theorem aE.nt (e:s.heap.get? a=none): ¬o4 a:=o6 F.t.inv.tabs e
theorem aE.nl (e:s.heap.get? a=none) (m:a∈C.locs):False:=by
 refine f8 (F.t.inv.locSome m) fun Z z6t=> ?_;refine e8 z6t fun o e' Z=> ?_;clear z6t;exact no (e.symm.trans e')
theorem aE.hxg (x:XC X Cc D I a):W.G.get? a=none:=by
 have hxn: ∀b,s.heap.get? b=none->W.G.get? b=none:=fun b e=>by
  cases q:W.G.get? b with
  |none=>rfl
  |some o=>exact no (e.symm.trans (F.t.inv.G _ _ q))
 rcases x with x|x|x|x
 ·exact F.t.xg a x
 ·exact x▸hxn _ F.sC
 ·exact x▸hxn _ F.sD
 ·exact x▸hxn _ F.sI
theorem aE.kx₁ (x:XC X Cc D I a):X a\/ ∀o,s.heap.get? a=some o-> ¬I8 o:=x.imp id fun x o e=>by
 rcases x with x|x|x
 ·exact no ((x▸F.sC).symm.trans e)
 ·exact no ((x▸F.sD).symm.trans e)
 ·exact no ((x▸F.sI).symm.trans e)
theorem aE.kx₂ (x:XC X Cc D I a):X a\/ ∀o,e7.heap.get? a=some o-> ¬I8 o:=x.imp id fun x o e=>by
 rcases x with x|x|x
 ·exact no ((x▸F.s₂C).symm.trans e)
 ·exact no ((x▸F.s₂D).symm.trans e)
 ·refine DZ (F.itn.live 0 _ F.itn.st) fun oI eI Z Z Z nI=> ?_;rw[x,eI] at e;exact Option.some.inj e▸nI
theorem aE.fpk {b:Addr} (hb:b∈fp):b=I\/(b≠Cc/\b≠D/\b∉C.locs/\ ¬o4 b):=(F.itn.fps b hb).imp id fun⟨o,e,c,_,nx⟩=>
 ⟨fun q=>no (F.s₂C.symm.trans (q▸e)),fun q=>no (F.s₂D.symm.trans (q▸e)),fun m=>nx (F.t.sub _ (F.t.ok.locs b m)),fun z=>by
  refine d6 ((F.t.step F.st₂).inv.tabNone z) fun ps z'=> ?_;rw[e] at z';rw[Option.some.inj z'] at c;injection c⟩
theorem aE.mutI {h:Heap} (st:St i h) (nc:v0 h I):nN h I:=
 iK (F.itn.live _ _ st) fun o e c1 c2 Z=>⟨o,e,.inr ⟨c1,c2,nc⟩⟩
theorem aE.but {i':Nat} {ds':List V} (J:fT C (XC X Cc D I) s e7 Cc D I St i ds s') (ha:a=Cc\/a=D\/a=I) (hk: ∀b o,b≠a->s'.heap.get? b=some o->i8.get? b=some o) (m:nN s'.heap a) (hst:St i' i8) (hns: ∃m,i8.Ns Cc m)
  (hacc: ∃o ys m,i8.get? D=some o/\o.cls=.type "list"/\o.data=.seq (Array.mk ys) m/\Rps i8 (XC X Cc D I) ys ds') (hl:ds'.length<=i'):fT C (XC X Cc D I) s e7 Cc D I St i' ds' {s' with heap:=i8,toks:=tk}:=by
 have xa:XC X Cc D I a:=.inr ha;have sa:s.heap.get? a=none:=ha.elim (fun e=>e▸F.sC) fun h=>h.elim (fun e=>e▸F.sD) fun e=>e▸F.sI;refine⟨?_,hst,hns,hacc,J.nc.but (F.t.step J.step).inv.tabs m hk,fun b o e nx dt=>hk b o (fun q=>nx (q▸xa)) (J.carry b o e nx dt),hl⟩;refine r0 J.step fun h' tk' e gr=> ?_;exact⟨i8,tk,by rw[e],gr.but sa F.t.inv.tabs (by rw[e] at m;exact m) (by rw[e] at hk;exact hk)⟩
omit F in
theorem aE.acc (J:fT C (XC X Cc D I) s e7 Cc D I St i ds s') (ha:a=Cc\/a=D\/a=I) (hn:a≠D) (hk: ∀b o,b≠a->s'.heap.get? b=some o->i8.get? b=some o):
  ∃o ys m,i8.get? D=some o/\o.cls=.type "list"/\o.data=.seq (Array.mk ys) m/\Rps i8 (XC X Cc D I) ys ds:=
 X1 (J.acc) fun o ys m e c d r=>⟨o,ys,m,hk _ _ hn.symm e,c,d,r.carry fun b o e nx Z=>hk b o (fun q=>nx (q▸.inr ha)) e⟩
theorem aE.frame (st:St i s'.heap) (ha:a=Cc\/a=D) (hk: ∀b o,b≠a->s'.heap.get? b=some o->i8.get? b=some o):St i i8:=
 (F.itn.walks _ F.t.ok.handled).frame _ _ _ st fun b hb o e=>hk b o (fun q=>by
  rcases F.fpk hb with z|⟨z1,z2,_⟩
  ·rcases ha with y|y
   ·exact F.IC (z.symm.trans (q.trans y))
   ·exact F.ID (z.symm.trans (q.trans y))
  ·rcases ha with y|y
   ·exact z1 (q.trans y)
   ·exact z2 (q.trans y)) e
theorem aE.goes (J:fT C (XC X Cc D I) s e7 Cc D I St i ds s') (iv:aN W C s'.heap) (g:k9 C s' s''):fT C (XC X Cc D I) s e7 Cc D I St i ds s'':=by
 have gr:=g.gr;have icar:R4 (XC X Cc D I) s'.heap s''.heap:=iv.carry F.t.ok gr fun a x=>.inl (F.t.sub a x);have kp: ∀{b o},s.heap.get? b=none->s'.heap.get? b=some o->s''.heap.get? b=some o:=fun sb e=>gr.keep _ _ e (fun z=>F.nt sb z.2) (F.nl sb);refine⟨J.step.trans g,(F.itn.walks _ F.t.ok.handled).frame _ _ _ J.st fun b hb o e=> ?_,J.ns' fun o=>kp F.sC,?_,?_,fun b o e nx dt=>icar b o (J.carry b o e nx dt) nx dt,J.len⟩
 ·rcases F.fpk hb with q|⟨_,_,q1,q2⟩
  ·exact kp (q▸F.sI) e
  ·exact gr.keep b o e (fun z=>q2 z.2) q1
 ·refine X1 J.acc fun o ys m e c d r=> ?_;exact⟨o,ys,m,kp F.sD e,c,d,r.carry icar⟩
 ·refine e8 (F.itn.live _ _ J.st) fun o e Z=> ?_;exact gr.codes iv.tabs I o e (F.nt F.sI) J.nc
theorem aE.sit {csc:Scope} {cenv:Env} {σ':d9} (J:fT C (XC X Cc D I) s e7 Cc D I St i ds s') (ek:W0 cenv csc) (st:Mine.St cenv oa (XC X Cc D I) s'.heap σ'):J3 W C (XC X Cc D I) k cenv csc oa σ' s'.heap:=
 have t:=F.t.step J.step
 ⟨F.t.wok,F.t.ok,F.t.wf,fun a x=>.inl (F.t.sub a x),fun a x=>F.hxg x,fun a x=>by
  rcases x with x|x|x|x
  ·exact t.live a x
  ·refine nL J.ns fun m o es ep e Z=> ?_;exact⟨x▸F.nt F.sC,x▸⟨o,e⟩⟩
  ·refine F6 J.acc fun o ys m e Z=> ?_;exact⟨x▸F.nt F.sD,x▸⟨o,e⟩⟩
  ·refine e8 (F.itn.live _ _ J.st) fun o e Z=> ?_;exact⟨x▸F.nt F.sI,x▸⟨o,e⟩⟩,t.inv,ek,st,fun a e=>.inl (F.t.oaX a e)⟩
end
theorem FV {h:Heap} {a:Addr} (hn: ∃m,h.Ns a m):nN h a:=by
 refine d6 hn fun m hn=> ?_;refine F6 (D4 hn) fun o es ep e d=> ?_;exact⟨o,e,.inl fun vs z=>nomatch d.symm.trans z⟩
theorem BV (ih:I9 W n) (hg:C6 W k C.tb g) {csc:Scope} {tg elt:Expr} {ifs:List Expr} {e7 s':Shared} {I D Cc:Addr} {fp:List Addr} {items ds:List V} {P:Nat->Value->Prop} {St:Nat->Heap->Prop} (F:aE W C X k env sc oa σ s e7 I D Cc fp items P St)
  (hco:u6 sc csc=true) (hta:X7 csc tg=true) {i:Nat} {o:Option V} {v:Value} {i8:Heap} {tk:Nat} (hlt:i<items.length) (hlim:items.length<=g9) (J:fT C (XC X Cc D I) s e7 Cc D I St i ds s')
  (hturn:F7 (ev g n false csc) (ev g n true csc) (i5 σ sc csc) tg elt ifs items[i]=.ok o) (hv:P i v) (hst:St (i+1) i8) (hk: ∀b o,b≠I->s'.heap.get? b=some o->i8.get? b=some o) (Q:Shared->Prop)
  (hQ: ∀l6,fT C (XC X Cc D I) s e7 Cc D I St (i+1) (match o with|some d=>ds++[d]|none=>ds) l6->Q l6):
  wpAny (model prog w) C.A (letOwnedTupleGo tg (.ref I) v) (fun Z s₀=>wpAny (model prog w) C.A (assign tg (compEnvC csc (F8 env csc.names []) Cc env) v) (fun Z e7=>
     wpAny (model prog w) C.A (forIn ifs true fun c r=>if r=true then do let ok <-isTrue c (compEnvC csc (F8 env csc.names []) Cc env) (eval c (compEnvC csc (F8 env csc.names []) Cc env));pure (ForInStep.yield ok) else pure (ForInStep.yield r)) (fun ok l6=>if ok=true then wpAny (model prog w) C.A (eval elt (compEnvC csc (F8 env csc.names []) Cc env)) (fun x C5=>
      wpAny (model prog w) C.A (call (.builtin "list.append") [.ref D,x]) (fun Z C9=>Q C9) (fun Z Z=>False) C5) (fun Z Z=>False) l6
      else Q l6) (fun Z Z=>False) e7)
     (fun Z Z=>False) s₀) (fun Z Z=>False) {s' with heap:=i8,toks:=tk}:=by
 refine f8 (J7 hco) fun hn1 Z=> ?_;have ek:W0 (compEnvC csc (F8 env csc.names []) Cc env) csc:=kQ hco F.t.envOk Cc;have cJ:fT C (XC X Cc D I) s e7 Cc D I St (i+1) ds {s' with heap:=i8,toks:=tk}:=F.but J (.inr (.inr rfl)) hk (F.mutI J.st J.nc) hst (J.ns' fun o=>hk _ o F.IC.symm) (aE.acc J (.inr (.inr rfl)) F.ID hk) (Nat.le_succ_of_le J.len);refine e8 (F.itn.vals i v hlt hv) fun d hd rd=> ?_;obtain rfl:=Option.some.inj ((List.getElem?_eq_getElem hlt).symm.trans hd);have UW:Rp i8 (XC X Cc D I) v items[i]:=(rd.more fun a=>F.kx₂).carry cJ.carry;have stX:Mine.St env oa (XC X Cc D I) i8 σ:=(F.t.st.more fun a=>F.kx₁).gr F.t.ok F.t.inv cJ.step.gr fun a x=>.inl (F.t.sub a x);refine d6 cJ.ns fun mC nsC=> ?_;have cst:=aR (s:=({s' with heap:=i8,toks:=tk}:Shared)) hco F.t.envOk stX (cenv:=compEnvC csc (F8 env csc.names []) Cc env) rfl (fun x kd e q=>Y5 e q hn1) ek nsC;refine v9 (FU hturn) fun σ' c hb hts hc=> ?_;refine F.itn.go _ _ (i+1) _ v tg _ (EM hta) hst ?_;refine wpAny_mono (pO (C:=C) (h0:=F.t.ok.handled) cst ek hta (.inr (.inl rfl)) UW hb) (fun Z l6 q=> ?_) fun Z Z x=>x;refine cR q fun dM cQ z5r bQ yQ G9=> ?_;clear q;subst z5r;have bQ: ∀b o,b≠Cc->i8.get? b=some o->dM.get? b=some o:=bQ;have W8:fT C (XC X Cc D I) s e7 Cc D I St (i+1) ds {s' with heap:=dM,toks:=cQ}:=F.but (s':={s' with heap:=i8,toks:=tk}) (tk:=cQ) cJ (.inl rfl) bQ (FV cJ.ns) (F.frame (s':={s' with heap:=i8,toks:=tk}) cJ.st (.inl rfl) bQ) yQ (aE.acc (s':={s' with heap:=i8,toks:=tk}) cJ (.inl rfl) F.DC.symm bQ) cJ.len;have dN:=F.sit W8 ek G9;refine wpAny_mono (tX ih hg ifs (s:={s' with heap:=dM,toks:=cQ}) dN hts) (fun okb C5 q=> ?_) fun Z Z x=>x;refine f8 q fun z4r AO=> ?_;clear q;subst z4r;have nF:=F.goes W8 dN.inv AO;rcases hc with⟨rfl,rfl⟩|⟨rfl,d,hel,hop,rfl⟩
 ·rw[if_neg (by decide)];exact hQ _ nF
 ·rw[if_pos rfl];have nG:=dN.step (s:={s' with heap:=dM,toks:=cQ}) AO;have he:=(ih g C (XC X Cc D I) k (compEnvC csc (F8 env csc.names []) Cc env) csc oa σ' elt C5 hg nG).1;rw[hel] at he;refine wpAny_mono he (fun x C9 q=> ?_) fun Z Z x=>x;have Z6:=F.goes nF nG.inv q.1;refine X1 Z6.acc fun oD ys mD eD cD dD rD=> ?_;have hyl:(Array.mk ys).size=ds.length:=rD.length;refine wpAny_list_append ⟨oD,eD,cD,mD,dD⟩ (fun NA wG JK=>hQ _ ?_) (by rw[hyl];have:=J.len;have:=D6;omega);refine s5 wG fun RE RF RG z3t=> ?_;clear wG;refine d6 z3t fun RH RI=> ?_;clear z3t;have wH: ∀b o,b≠D->C9.heap.get? b=some o->NA.get? b=some o:=fun b o nb e=>(JK.2 b nb).trans e;have c6:R4 (XC X Cc D I) C9.heap NA:=fun b o e nx Z=>wH b o (fun q=>nx (.inr (.inr (.inl q)))) e;exact F.but (tk:=C9.toks) Z6 (.inr (.inl rfl)) wH ⟨oD,eD,.inl fun vs z=>nomatch dD.symm.trans z⟩ (F.frame Z6.st (.inr rfl) wH) (Z6.ns' fun o=>wH _ o F.DC.symm)
   ⟨RE,ys++[x],RH,RF,RG,by rw[RI];simp,(rD.carry c6).append (.cons ((q.2.plain hop).carry c6) .nil)⟩ (by rw[List.length_append];exact Nat.succ_le_succ J.len)
theorem kR (ih:I9 W n) (hg:C6 W k C.tb g) (t:J3 W C X k env sc oa σ s.heap) {csc:Scope} {tg elt iter:Expr} {ifs:List Expr} {pos:Pos}
  (hco:u6 sc csc=true) (hta:X7 csc tg=true) {xv:Value} {iv:V} {items ds:List V} (r:B2 s.heap X oa xv iv) (hi:s9 iv=.ok items)
  (hp:D5 (F7 (ev g n false csc) (ev g n true csc) (i5 σ sc csc) tg elt ifs) items=.ok ds) (RR:Value->Addr->Result->Shared->Prop)
  (hRR: ∀D Cc I s',D≠Cc->s.heap.get? D=none->s.heap.get? Cc=none->s.heap.get? I=none->k9 C s s'->(∃m,s'.heap.Ns Cc m)->
   (∃o ys m,s'.heap.get? D=some o/\o.cls=.type "list"/\o.data=.seq (Array.mk ys) m/\Rps s'.heap (XC X Cc D I) ys ds)->RR (.ref D) Cc (.ok .next) s'):
  wpAny (model prog w) C.A (pyIter xv) (fun it e7=>wpAny (model prog w) C.A (newList []) (fun acc l6=>wpAny (model prog w) C.A (newFunctionEnv csc env.globals (F8 env csc.names []) [] env.qual none .none (some env)) (fun cenv C5=>
   codeAny (model prog w) C.A (.compStart (.ListComp elt [⟨tg,iter,ifs,0⟩] csc pos) 0 it acc {cenv with scope:=relabel csc env}) (RR acc cenv.locals) C5) (fun Z Z=>False) l6) (fun Z Z=>False) e7) (fun Z Z=>False) s:=by
 refine Q1 (J7 hco) fun hn1 hn2 hn3 hn4=> ?_;refine wpAny_mono (jG t.ok t.xn r hi) (fun it e7 q=> ?_) fun Z Z x=>x;refine X1 q fun fp P St z2r st₂ V5 itn=> ?_;clear q;subst z2r;generalize hI:s.heap.objs.size=I at itn ⊢;refine wpAny_newObj_type (wpAny_newFunctionEnv hn1 (by intro y hy;simp at hy) (fun y6 P4 T0=> ?_) hn4);dsimp only at P4 T0 ⊢;generalize hH2:e7.heap.push {cls:=.type "list",dict:=none,data:=.seq ([]:List Value).toArray}=H2 at P4 T0 ⊢;generalize hD:e7.heap.objs.size=D;have hC:H2.objs.size=D+1:=by rw[<-hH2,Heap.size_push,hD]
 generalize hCc:H2.objs.size=Cc at P4 T0 hC ⊢;have hID:I<D:=by
  refine e8 (itn.live 0 _ itn.st) fun oI eI Z=> ?_;rw[<-hD];exact Heap.lt_size eI
 have F:aE W C X k env sc oa σ s e7 I D Cc fp items P St:=
  have h1:D≠Cc:=by omega
  have h2:I≠D:=by exact Nat.ne_of_lt hID
  have h3:I≠Cc:=by exact r22 hC hID
  ⟨t,itn,st₂,h1,h2,h3,A3 (Nat.le_of_eq hI),A3 (WL hI hID),A3 (q71 hI hC hID),A3 (Nat.le_of_eq hD),A3 (r29 hD hC)⟩
 have sT: ∀b o,e7.heap.get? b=some o->y6.get? b=some o:=fun b o e=>
  T0.extBut b o (fun q=>no (F.s₂C.symm.trans (q▸e))) (Heap.get?_push_of_some _ (hH2▸Heap.get?_push_of_some _ e))
 have hacc:y6.get? D=some {cls:=.type "list",dict:=none,data:=.seq ([]:List Value).toArray}:=
  T0.extBut _ _ F.DC (Heap.get?_push_of_some _ (hH2▸hD▸Heap.get?_push_size _ rfl))
 have nH:St 0 y6:=(itn.walks _ t.ok.handled).frame _ _ _ itn.st fun b Z o e=>sT b o e;have loop: ∀l6:Shared,l6={e7 with heap:=y6,toks:=e7.toks+([]:List (Str×Value)).length}->
   codeAny (model prog w) C.A (.compLoop (.ListComp elt [⟨tg,iter,ifs,0⟩] csc pos) 0 (.ref I) (.ref D) (compEnvC csc (F8 env csc.names []) Cc env)) (RR (.ref D) Cc) l6:=by
  intro l6 JL;refine tY (fun m s'=> ∃i JM dr,m=items.length+1-i/\i<=items.length/\D5 (F7 (ev g n false csc) (ev g n true csc) (i5 σ sc csc) tg elt ifs) (items.drop i)=.ok dr/\ds=JM++dr/\
   fT C (XC X Cc D I) s e7 Cc D I St i JM s') (fun m s' hJ=> ?_) (items.length+1) ⟨0,[],ds,by omega,by omega,hp,rfl,?_⟩
  ·refine ON hJ fun i JM dr z1r hile hdr hds J=> ?_;clear hJ;subst z1r;by_cases hlt:i<items.length
   ·refine v9 (BU hdr hlt) fun o dr' hturn hdr' hdro=> ?_;refine(itn.walks _ t.ok.handled).item i s' _ _ hlt J.st fun v i8 tk hv bR T5=> ?_;refine BV ih hg F hco hta hlt (xM hi) J hturn hv bR (fun b o nb e=>T5 b o (fun q=>nb (List.mem_singleton.mp q)) e) _ fun l6 W8=>
     ⟨items.length+1-(i+1),by exact VM hlt,i+1,_,dr',rfl,hlt,hdr',?_,W8⟩
    rw[hds,hdro];cases o with
    |none=>rfl
    |some d=>simp
   ·refine(itn.walks _ t.ok.handled).done s' _ _ (by rw[show items.length=i by exact SI hile hlt];exact J.st) fun i8 tk T5=> ?_;have V6: ∀b o,b≠I->s'.heap.get? b=some o->i8.get? b=some o:=fun b o nb e=>T5 b o (fun q=>nb (List.mem_singleton.mp q)) e;have hdr0:dr=[]:=by rw[List.drop_eq_nil_of_le (Nat.not_lt.mp hlt)] at hdr;exact(v1 hdr).symm
    rw[hdr0,List.append_nil] at hds;rw[hds] at hRR;refine hRR D Cc I _ F.DC F.sD F.sC F.sI ?_ (J.ns' fun o=>V6 _ o F.IC.symm) (aE.acc J (.inr (.inr rfl)) F.ID V6);have mI:=F.mutI J.st J.nc;refine r0 J.step fun h' tk' e gr=> ?_;exact⟨i8,tk,by rw[e],gr.but F.sI t.inv.tabs (by rw[e] at mI;exact mI) (by rw[e] at V6;exact V6)⟩
  ·rw[JL];refine⟨?_,nH,⟨_,P4⟩,⟨_,[],0,hacc,rfl,rfl,.nil⟩,((v0.new t.inv.tabs F.sI).keeps t.inv.tabs V5).keeps (t.step st₂).inv.tabs sT,fun b o e Z Z=>sT b o e,Nat.le_refl _⟩;refine r0 st₂ fun h' tk' e gr=> ?_;clear st₂;exact⟨y6,_,by rw[e],.of_keep fun b o e=>sT b o (V5 b o e)⟩
 exact codeAny_compStart_list (loop _ rfl) ((itn.walks _ t.ok.handled).self 0 _ _ _ nH (loop _ rfl))
end
theorem fU {iv:V}:NE (s9 iv):=by
 cases iv with
 |str x=>exact .or .ok .stuck
 |list x=>exact .or .ok .stuck
 |rng x=>exact .or .ok .stuck
 |_=>exact .stuck
section
variable {W:Wd} {C:Cx} {X:Xs} {k:Nat} {env:Env} {sc:Scope} {oa:Option Addr} {σ:d9} {s s₁:Shared} {g:G} {n:Nat}
theorem bX {e:Expr} (h:ev g n false sc σ e≠.stuck) (x:Value):foldedSetIterable e env x=pure x:=by
 cases e with
 |Set es p=>exact absurd (by cases n<;>rfl) h
 |_=>rfl
theorem BW (t:J3 W C X k env sc oa σ s.heap) {D Cc I:Addr} {s':Shared} {h':Heap} {ds:List V} (hDC:D≠Cc) (sD:s.heap.get? D=none) (sC:s.heap.get? Cc=none) (st:k9 C s s') (hn: ∃m,s'.heap.Ns Cc m)
  (hl: ∃o ys m,s'.heap.get? D=some o/\o.cls=.type "list"/\o.data=.seq (Array.mk ys) m/\Rps s'.heap (XC X Cc D I) ys ds) (hs:Heap.SameBut Cc s'.heap h'):
  g5 C X oa s (.list ds) (.ref D) {s' with heap:=h'}:=by
 refine X1 hl fun o ys m e1 e2 e3 e4=> ?_;clear hl;refine d6 hn fun mm hm=> ?_;clear hn;refine F6 (D4 hm) fun oc es ep e d=> ?_;refine⟨?_,.list (vs:=ys) ((hs.2 D hDC).trans e1) e2 e3 (fun x=> ?_) ((e4.but hs.2 (.inl (.inr (.inl rfl)))).less fun a x=>.inl x)⟩
 ·refine r0 st fun y6 tk z6r gr=> ?_;clear st;subst z6r;exact⟨h',tk,rfl,gr.but sC t.inv.tabs ⟨oc,e,.inl fun vs z=>by rw[d] at z;injection z⟩ fun b o nb e=>(hs.2 b nb).trans e⟩
 ·refine f8 (t.live D x) fun Z z5t=> ?_;refine d6 z5t fun o' e'=> ?_;clear z5t;rw[sD] at e';injection e'
theorem rB (ih:I9 W n) (hg:C6 W k C.tb g) (t:J3 W C X k env sc oa σ s.heap) (elt tg it:Expr) (ifs:List Expr) (csc:Scope) (p:Pos) (hc:(u6 sc csc &&X7 csc tg)=true):
  Ou C ((ev g n false sc σ it).bind fun iv=>(s9 iv).bind fun items=>(D5 (F7 (ev g n false csc) (ev g n true csc) (i5 σ sc csc) tg elt ifs) items).map V.list) (eval (.ListComp elt [⟨tg,it,ifs,0⟩] csc p) env) (g5 C X oa s) (C7 C s) s:=by
 rw[Bool.and_eq_true] at hc;refine Q1 (J7 hc.1) fun hn1 hn2 hn3 hn4=> ?_;have h1:=(ih g C X k env sc oa σ it s hg t).1;rw[eval_ListComp];cases hv:ev g n false sc σ it with
 |stuck=>trivial
 |err l=>
  rw[hv] at h1;exact wpAny_comprehension_free (use:=none) rfl (bX (g:=g) (n:=n) (sc:=sc) (σ:=σ) (by rw[hv];exact fun z=>by injection z)) (Y4 (R6 hc.1 t.envOk t.st)) hn4 hn2 (wpAny_mono h1 (fun Z Z x=>x.elim) fun Z Z x=>x)
 |ok iv=>
  rw[hv] at h1;show Ou C ((s9 iv).bind _) _ _ _ _;cases hi:s9 iv with
  |stuck=>trivial
  |err l=>exact absurd hi (fU _)
  |ok items=>
   show Ou C ((D5 _ items).map V.list) _ _ _ _;cases hp:D5 (F7 (ev g n false csc) (ev g n true csc) (i5 σ sc csc) tg elt ifs) items with
   |stuck=>trivial
   |err l=>exact absurd hp (aQ (fun Z Z=>kP) _ _)
   |ok ds=>
    refine wpAny_comprehension_free (use:=none) rfl (bX (g:=g) (n:=n) (sc:=sc) (σ:=σ) (by rw[hv];exact fun z=>by injection z)) (Y4 (R6 hc.1 t.envOk t.st)) hn4 hn2
     (wpAny_mono h1 (fun xv s₁ q=> ?_) fun Z Z x=>x)
    have n7:=t.step q.1;refine kR ih hg n7 hc.1 hc.2 q.2 hi hp (fun acc Cc=>compPost (model prog w) C.A (fun Z Z=>False) none (g5 C X oa s (.list ds)) acc Cc) ?_;intro D Cc I s' hDC sD sC sI st hn hl;refine d6 (id hn) fun m hm=> ?_;exact⟨m,hm,fun h' hs=>(BW n7 hDC sD sC st hn hl hs).from q.1⟩
theorem kS (ih:I9 W n) (hg:C6 W k C.tb g): ∀(vs:List Expr) {s:Shared},J3 W C X k env sc oa σ s.heap->
  Ou C (cS (fun x=>(ev g n true sc σ x).bind l7) vs) (allTrue .And vs env) (P6 C s) (C7 C s) s
 |[],s,t=>wpAny_pure ⟨.refl,rfl⟩
 |x::r,s,t=>by
  rw[fL];refine Ou.bind (fun Q E h=>wpAny_allTrue_And_cons h) (ih g C X k env sc oa σ x s hg t).2 fun b c s₁ Z q=> ?_;refine f8 q fun st z4r=> ?_;clear q;subst z4r;cases c with
  |true=>exact kJ t st (kS ih hg r (t.step st))
  |false=>exact⟨st,rfl⟩
theorem kT (ih:I9 W n) (hg:C6 W k C.tb g): ∀(vs:List Expr) {s:Shared},J3 W C X k env sc oa σ s.heap->
  Ou C (sZ (fun x=>(ev g n true sc σ x).bind l7) vs) (allTrue .Or vs env) (P6 C s) (C7 C s) s
 |[],s,t=>wpAny_pure ⟨.refl,rfl⟩
 |x::r,s,t=>by
  rw[AZ];refine Ou.bind (fun Q E h=>wpAny_allTrue_Or_cons h) (ih g C X k env sc oa σ x s hg t).2 fun b c s₁ Z q=> ?_;refine f8 q fun st z3r=> ?_;clear q;subst z3r;cases c with
  |true=>exact⟨st,rfl⟩
  |false=>exact kJ t st (kT ih hg r (t.step st))
theorem kU {r:R Bool}:(r.map V.bool).bind l7=r:=by cases r<;>rfl
theorem xN (ih:I9 W n) (hg:C6 W k C.tb g) (t:J3 W C X k env sc oa σ s.heap) (e:Expr) (he:isTrue e env (eval e env)=(do let v <-eval e env;standAt e.pos;holding [v] (truthy v))):
  Ou C (((ev g n false sc σ e).bind fun v=>(B3 v).map V.bool).bind l7) (isTrue e env (eval e env)) (P6 C s) (C7 C s) s:=by
 rw[R.bind_assoc];refine Ou.bind (fun Q E h=>wpAny_isTrue_value h he) (ih g C X k env sc oa σ e s hg t).1 fun a v s₁ Z q=> ?_;rw[kU];exact kJ t q.1 (V9 q.2)
noncomputable def LF (W:Wd):Prop:= ∀(n:Nat),I9 W n-> ∀(g:G) (C:Cx) (X:Xs) (k:Nat) (env:Env) (sc:Scope) (oa:Option Addr) (σ:d9) (s:Shared),
 C6 W k C.tb g->J3 W C X k env sc oa σ s.heap-> ∀f fp as body lsc lp p,
 Ou C (ev g (n+1) false sc σ (.Call (.Name f fp) [.Lambda as body lsc lp] [] p)) (eval (.Call (.Name f fp) [.Lambda as body lsc lp] [] p) env) (g5 C X oa s) (C7 C s) s
theorem FW:I9 W 0:=fun Z Z Z Z Z Z Z Z Z Z Z Z=>⟨trivial,trivial⟩
variable (C X env sc oa σ s g n) in
noncomputable def SA (e:Expr):Prop:=Ou C (ev g (n+1) false sc σ e) (eval e env) (g5 C X oa s) (C7 C s) s
variable (C env sc σ s g n) in
noncomputable def XO (e:Expr):Prop:=Ou C ((ev g (n+1) true sc σ e).bind l7) (isTrue e env (eval e env)) (P6 C s) (C7 C s) s
theorem zK (ih:I9 W n) (hg:C6 W k C.tb g) (t:J3 W C X k env sc oa σ s.heap) (l:Expr) (ops:List CmpOp) (rs:List Expr) (p:Pos):
  SA C X env sc oa σ s g n (.Compare l ops rs p)/\XO C env sc σ s g n (.Compare l ops rs p):=by
 rcases ops with _|⟨G8,_|⟨I4,_|_⟩⟩
 ·exact⟨trivial,trivial⟩
 ·rcases rs with _|⟨Z5,_|_⟩
  ·exact⟨trivial,trivial⟩
  ·exact KZ ih hg t l Z5 G8 p
  ·exact⟨trivial,trivial⟩
 ·rcases rs with _|⟨Z5,_|⟨aG,_|_⟩⟩
  ·exact⟨trivial,trivial⟩
  ·exact⟨trivial,trivial⟩
  ·exact LB ih hg t l Z5 aG G8 I4 p
  ·exact⟨trivial,trivial⟩
 ·exact⟨trivial,trivial⟩
noncomputable def TR (v:Expr):Prop:=(∃x p,v=.Name x p)\/ ∀(g:G) n sc σ i p,ev g (n+1) false sc σ (.Subscript v i p)=.stuck
theorem PP (v:Expr):TR v:=by cases v<;>first|exact .inl ⟨_,_,rfl⟩|exact .inr fun _ _ _ _ _ _=>rfl
theorem LG (ih:I9 W n) (hg:C6 W k C.tb g) (t:J3 W C X k env sc oa σ s.heap) (v i:Expr) (p:Pos):SA C X env sc oa σ s g n (.Subscript v i p):=by
 rcases PP v with z|z
 ·refine C1 z fun v vp e=> ?_;subst e;show Ou C (EH (ev g n false sc σ) (.Name v vp) i) _ _ _ _;unfold EH;cases h:X8 i with
  |none=>exact LC ih hg t v vp i p h
  |some q=>
   obtain⟨lo,hi,st⟩:=q;refine d6 (qR h) fun sp z2r=> ?_;subst z2r;cases st with
   |none=>exact BN ih hg t v vp lo hi sp p
   |some _=>trivial
 ·unfold SA;rw[z];trivial
theorem FY (hlam:LF W) (ih:I9 W n) (hg:C6 W k C.tb g) (t:J3 W C X k env sc oa σ s.heap) (fn:Expr) (as:List Expr) (p:Pos):SA C X env sc oa σ s g n (.Call fn as [] p):=by
 cases fn with
 |Attribute o m ap=>
  refine Ou.guard fun h=> ?_;rcases as with _|⟨a,_|⟨b,_|_⟩⟩
  ·exact BO ih hg t o m ap p h.1 h.2
  ·exact BP ih hg t o a m ap p h.1 h.2
  ·exact BQ ih hg t o a b m ap p h.1 h.2
  ·trivial
 |Name f fp=>
  cases h:oR as with
  |some q=>
   refine d6 (xC h) fun lp z1r=> ?_;subst z1r;exact hlam n ih g C X k env sc oa σ s hg t f fp _ _ _ lp p
  |none=>
   show Ou C (tB g (ev g n false sc σ) _ sc (.Name f fp) as p) _ _ _ _;unfold tB;simp only[h];exact Ou.guard fun h=>BS ih hg t f fp as p h.1 h.2
 |_=>trivial
theorem pQ (ih:I9 W n) (hg:C6 W k C.tb g) (t:J3 W C X k env sc oa σ s.heap) (op:BoolOp) (vs:List Expr) (p:Pos):
  SA C X env sc oa σ s g n (.BoolOp op vs p)/\XO C env sc σ s g n (.BoolOp op vs p):=by
 refine⟨?_,?_⟩
 ·rcases vs with _|⟨x,_|⟨y,r⟩⟩
  ·trivial
  ·cases op<;>exact(ih g C X k env sc oa σ x s hg t).1
  ·cases op with
   |And=>exact PM ih hg t x y r p
   |Or=>exact TQ ih hg t x y r p
 ·have fin: ∀{r:R Bool} {T:Sem Bool} {U:Sem Bool},(∀Q E,wpAny (model prog w) C.A T Q E s->wpAny (model prog w) C.A U Q E s)->Ou C r T (P6 C s) (C7 C s) s->Ou C ((r.map V.bool).bind l7) U (P6 C s) (C7 C s) s:=by
   intro r T U hU key;rw[kU];cases r with
   |stuck=>trivial
   |err l=>exact hU _ _ key
   |ok b=>exact hU _ _ key
  cases op with
  |And=>exact fin (fun Q E h=>wpAny_isTrue_BoolOp h) (kS ih hg vs t)
  |Or=>exact fin (fun Q E h=>wpAny_isTrue_BoolOp h) (kT ih hg vs t)
theorem FZ (hlam:LF W) (ih:I9 W n):I9 W (n+1):=by
 intro g C X k env sc oa σ e s hg t;show SA C X env sc oa σ s g n e/\XO C env sc σ s g n e;refine⟨?_,?_⟩
 ·cases e with
  |Constant c kk p=>exact BM t c kk p
  |Name x p=>exact O6 hg t x p
  |BinOp l op r p=>exact FN ih hg t l r op p
  |UnaryOp op x p=>
   cases op with
   |Not=>exact PK ih hg t x p
   |USub=>exact PL ih hg t x p
   |_=>trivial
  |IfExp c b o p=>exact FO ih hg t c b o p
  |BoolOp op vs p=>exact(pQ ih hg t op vs p).1
  |Compare l ops rs p=>exact(zK ih hg t l ops rs p).1
  |Tuple es j p=>exact FP ih hg t es j p
  |List es p=>exact FQ ih hg t es p
  |Dict ks vs p=>exact FR t ks vs p
  |Subscript v i p=>exact LG ih hg t v i p
  |Call fn as kws p=>
   cases kws with
   |nil=>exact FY hlam ih hg t fn as p
   |cons _ _=>trivial
  |ListComp elt gens csc p=>
   rcases gens with _|⟨⟨tg,it,ifs,a⟩,_|_⟩
   ·trivial
   ·refine Ou.guard fun hc=>Ou.guard fun ha=> ?_;subst ha;exact rB ih hg t elt tg it ifs csc p hc
   ·trivial
  |_=>trivial
 ·cases e with
  |UnaryOp op x p=>
   cases op with
   |Not=>
    show Ou C ((((ev g n true sc σ x).bind l7).map fun b=>V.bool !b).bind l7) _ _ _ _;rw[R.map_bind];refine Ou.bind (F:=fun b Q Z s=>Q (!b) s) (fun Q E h=>wpAny_isTrue_Not h) (ih g C X k env sc oa σ x s hg t).2 fun b c s₁ Z q=> ?_;exact⟨q.1,congrArg (!·) q.2⟩
   |_=>trivial
  |BoolOp op vs p=>exact(pQ ih hg t op vs p).2
  |Compare l ops rs p=>exact(zK ih hg t l ops rs p).2
  |IfExp c b o p=>trivial
  |_=>exact xN ih hg t _ rfl
theorem zL (hlam:LF W): ∀n,I9 W n
 |0=>FW
 |n+1=>FZ hlam (zL hlam n)
end
section
noncomputable def DK (h h':Heap):Prop:= ∀a o,h.get? a=some o-> ∃o',h'.get? a=some o'/\o'.dict=o.dict
theorem DK.refl (h:Heap):DK h h:=fun Z o e=>⟨o,e,rfl⟩
theorem DK.trans {h h' h'':Heap} (a:DK h h') (b:DK h' h''):DK h h'':=fun x o e=>
 e8 (a x o e) fun L1 I5 dO=>e8 (b x L1 I5) fun RJ oP RK=>⟨RJ,oP,RK.trans dO⟩
theorem DK.of_keep {h h':Heap} (k: ∀b o,h.get? b=some o->h'.get? b=some o):DK h h':=fun a o e=>⟨o,k a o e,rfl⟩
structure F9 {α:Type} (t:Sem α):Prop where
 out: ∀(M:Model) (Γ:Ctx) (P:α->Pos->Shared->Prop) (E:Value->Pos->Shared->Prop) (p:Pos) (s:Shared),Sem.wp M Γ t P E p s->
  Sem.wp M Γ t (fun a p' s'=>P a p' s'/\DK s.heap s'.heap) (fun e p' s'=>E e p' s'/\DK s.heap s'.heap) p s
namespace F9
variable {α β:Type}
theorem pure (a:α):F9 (Pure.pure a:Sem α):=⟨fun Z Z Z Z Z s h=>⟨h,.refl _⟩⟩
theorem unsupported (w:String):F9 (PySem.unsupported w:Sem α):=⟨fun Z Z Z Z Z Z h=>h⟩
theorem bind {m:Sem α} {f:α->Sem β} (hm:F9 m) (hf: ∀a,F9 (f a)):F9 (m>>=f):=⟨fun M Γ P E p s h=>by
 rw[Sem.wp_bind'] at h ⊢;refine Sem.wp_mono M Γ m (fun a p' s' h'=> ?_) (fun e p' s' x=>x) p s (hm.out M Γ _ _ p s h);exact Sem.wp_mono M Γ (f a) (fun b p'' s'' q=>⟨q.1,h'.2.trans q.2⟩) (fun e p'' s'' q=>⟨q.1,h'.2.trans q.2⟩) p' s' ((hf a).out M Γ _ _ p' s' h'.1)⟩
theorem ite {c:Prop} [Decidable c] {t u:Sem α} (ht:F9 t) (hu:F9 u):F9 (if c then t else u):=by split<;>assumption
theorem load (a:Addr):F9 (PySem.load a):=⟨fun Z Z Z Z Z Z h=>e8 (h) fun o e q=>⟨o,e,q,.refl _⟩⟩
theorem update (a:Addr) (f:Obj->Obj) (hd: ∀o,(f o).dict=o.dict) (hf: ∀o,o.isFreed=false->(f o).isFreed=false):F9 (PySem.update a f):=⟨fun M Γ P E p s h=>by
 rw[Sem.wp_cmd_update] at h ⊢;refine⟨h.1,h.2,fun b o e=> ?_⟩;by_cases q:a=b
 ·subst q;exact⟨f o,Heap.get?_update_self f e (hf o (Heap.get?_some_iff.mp e).2),hd o⟩
 ·exact⟨o,(Heap.get?_update_other _ _ q).trans e,rfl⟩⟩
theorem stack:F9 PySem.stack:=⟨fun M Γ P E p s h=>by
 unfold PySem.stack at h ⊢;rw[Sem.wp_stack] at h ⊢;exact⟨h,.refl _⟩⟩
theorem alloc (o:Obj):F9 (PySem.alloc o):=⟨fun Z Z Z Z Z s h=>⟨h,.of_keep fun Z Z e=>Heap.get?_push_of_some _ e⟩⟩
theorem field (v:Value) (i:Nat):F9 (PySem.field v i):=⟨fun M Γ P E p s h=>by
 rw[wp_field_iff] at h ⊢;refine AS h fun a o vs x e ho hd hx q=> ?_;clear h;exact⟨a,o,vs,x,e,ho,hd,hx,q,.refl _⟩⟩
theorem aS (o:Obj) (f:Array Value->Array Value):(Obj.mapFields f o).dict=o.dict/\(o.isFreed=false->(Obj.mapFields f o).isFreed=false):=by
 obtain⟨c,d,dt,sl⟩:=o;cases dt<;>exact⟨rfl,fun h=>h⟩
theorem setField (v:Value) (i:Nat) (x:Value):F9 (PySem.setField v i x):=⟨fun M Γ P E p s h=>by
 rw[wp_setField_iff] at h ⊢;refine ON h fun a o vs e ho hd hi q=> ?_;clear h;refine⟨a,o,vs,e,ho,hd,hi,q,fun b o' e'=> ?_⟩;by_cases z:a=b
 ·subst z;exact⟨_,Heap.get?_update_self _ e' ((aS o' _).2 (Heap.get?_some_iff.mp e').2),(aS o' _).1⟩
 ·exact⟨o',(Heap.get?_update_other _ _ z).trans e',rfl⟩⟩
end F9
theorem xO (env:Env) (outer:List Env):F9 (behindIsImport env outer):=by
 unfold behindIsImport
 repeat' first|exact F9.pure _|exact F9.field _ _|apply F9.ite|apply F9.bind|intro _
theorem xP:F9 underTheClaimsCaller:=by
 unfold underTheClaimsCaller
 repeat' first|exact F9.pure _|exact F9.stack|apply F9.bind|intro _
theorem GA (env:Env) (i:Bool) (l:List Env):F9 (keptBack env i l):=by
 have:=xP;cases l<;>unfold keptBack<;>repeat' first|assumption|exact F9.pure _|apply F9.ite|apply F9.bind|intro _
theorem pR: ∀l:List Env,F9 (readyFrames l)
 |[]=>F9.pure _
 |env::outer=>by
  have ih:=pR outer;have h1:=xO env outer;have h2:=fun i=>GA env i outer;unfold readyFrames;split
  ·repeat' first|assumption|exact F9.pure _|exact F9.load _|exact h2 _|exact F9.update _ _ (fun Z=>rfl) (fun o h=>by obtain⟨c,d,dt,sl⟩:=o;cases dt<;>first|rfl|exact h)|apply F9.ite|apply F9.bind|intro _
  ·exact F9.unsupported _
theorem iO (l:List Env):F9 (frameObject l):=by
 cases l with
 |nil=>exact F9.pure _
 |cons env outer=>
  have:=pR (env::outer);unfold frameObject;exact F9.bind this fun Z=>F9.pure _
theorem nQ:F9 frameEnvs:=by
 unfold frameEnvs;exact F9.bind F9.stack fun Z=>F9.pure _
theorem tZ (env:Env):F9 (PySem.frameOf env):=by
 unfold PySem.frameOf;refine F9.bind nQ fun l=>F9.bind (iO _) fun r=> ?_;cases r with
 |none=>exact F9.unsupported _
 |some f=>exact F9.pure _
theorem kW (f:Addr) (b:Bool):F9 (entryPlaceOf f b):=by
 unfold entryPlaceOf;refine F9.bind F9.stack fun l=> ?_;split<;>exact F9.pure _
theorem rE (a b c d e:Value) (pl:List Value):F9 (EntryCells.newEntry a b c d e pl):=by
 unfold EntryCells.newEntry newFields newObj
 repeat' first|exact F9.pure _|exact F9.alloc _|exact F9.unsupported _|apply F9.ite|apply F9.bind|intro _|split
theorem cM (e:Value) (env:Env):F9 (noteFrame e env):=by
 have h1:=tZ env;have h2:=kW;have h3:=rE;unfold noteFrame;split
 ·repeat' first|assumption|exact h2 _ _|exact h3 _ _ _ _ _ _|exact F9.pure _|exact F9.field _ _|exact F9.setField _ _ _|apply F9.ite|apply F9.bind|intro _
 ·exact F9.unsupported _
theorem U8 (e:Value) (f:Option Addr):F9 (setFlight e f):=by
 unfold setFlight
 repeat' first|exact F9.pure _|exact F9.field _ _|exact F9.setField _ _ _|apply F9.ite|apply F9.bind|intro _
theorem hK (e:Value) (env:Env):F9 (leaving env e):=by
 unfold leaving;exact F9.bind (cM e env) fun Z=>U8 e none
theorem F9.any {α:Type} {t:Sem α} (d:F9 t) {M:Model} {A:Around} {Q:α->Shared->Prop} {E:Value->Shared->Prop} {s:Shared} (h:wpAny M A t Q E s):
  wpAny M A t (fun a s'=>Q a s'/\DK s.heap s'.heap) (fun e s'=>E e s'/\DK s.heap s'.heap) s:=fun Γ p VY=>d.out M Γ _ _ p s (h Γ p VY)
theorem Y1.goes {h h':Heap} {e:Addr} {l:Int} (x:Y1 h e l) (k:DK h h') (u:h.UpToSlots h'):Y1 h' e l:=by
 refine sY x fun o d m t e1 e2 e3 e4=> ?_;clear x;refine e8 (k _ _ e1) fun o' e1' e2'=> ?_;exact⟨o',d,m,t,e1',e2'.trans e2,u.ns e3,e4⟩
section
variable {W:Wd} {C:Cx} {env:Env} {s s₁:Shared} {k:Nat}
theorem kX {C₀:Cx} {L:Addr} {l:Int} {e:Value} {s':Shared} (hfr:C.A.frames=some C.fr) (hc:C.fr=env::C₀.fr) (hb:C.base=C₀.base) (hf:env.frame=some L)
  (h:C7 C s l e s'):wpAny (model prog w) C.A (leaving env e) (fun Z s''=>C7 C₀ s l e s'') (fun Z Z=>False) s':=by
 refine AS h fun ae a0 h' tk z2r z3r f u li=> ?_;clear h;subst z2r;subst z3r;have key:=(hK (.ref ae) env).any (wpAny_leaves_onW (M:=model prog w) (A:=C.A) (E:=fun Z Z=>False) (s:={s with heap:=h',toks:=tk}) (outer:=C₀.fr) (Q:=fun Z s''=> ∃h'',s''={s with heap:=h'',toks:=tk}/\Heap.FlyingW C₀.base C₀.fr ae kC a0 h''/\h'.UpToSlots h'') (by rw[hfr,hc]) hf (by rw[<-hc];exact f)
  fun h'' f' u'=>⟨h'',rfl,hb▸f',u'⟩)
 refine wpAny_mono key (fun Z s'' q=> ?_) fun Z Z x=>x.1;refine f8 q fun z1n d=> ?_;clear q;refine s5 z1n fun h'' z1r f' u'=> ?_;clear z1n;subst z1r;exact⟨ae,a0,h'',tk,rfl,rfl,f',u.trans u',li.goes d u'⟩
end
end
noncomputable def Xo (C:Cx) (oa:Option Addr):Xs:=fun a=>C.X a\/oa=some a
structure M0 (W:Wd) (C C₀:Cx) (env:Env) (sc:Scope) (s₀:Shared):Prop where
 fr:C.fr=env::C₀.fr
 base:C.base=C₀.base
 frame:env.frame=some env.locals
 kinds: ∀x,env.kindOf x=sc.names.lookup x
 inj: ∀x y c,env.cells.lookup x=some c->env.cells.lookup y=some c->x=y
 newL:s₀.heap.get? env.locals=none
 newC: ∀x c,env.cells.lookup x=some c->s₀.heap.get? c=none
 XL:C.X env.locals
 base₀:C.base.StaysIn s₀.heap
 G₀: ∀b o,W.G.get? b=some o->s₀.heap.get? b=some o
 tabs₀:o3 s₀.heap
 nofree: ∀x,sc.names.lookup x≠some .free
 cellk: ∀x c,env.cells.lookup x=some c->sc.names.lookup x=some .cell
structure j7 (W:Wd) (C:Cx) (k:Nat) (env:Env) (sc:Scope) (s₀:Shared) (opn:Option Str) (oa:Option Addr) (σ:d9) (s:Shared):Prop where
 step:k9 C s₀ s
 sit:J3 W C (Xo C oa) k env sc oa σ s.heap
 newo: ∀a,oa=some a->s₀.heap.get? a=none/\ ¬C.X a
 only: ∀y v,σ.get y=some v->v.open? =true->opn=some y
structure u9 (C:Cx) (env:Env) (oa:Option Addr) (h:Heap) (oa':Option Addr) (h':Heap):Prop where
 keep: ∀b o,h.get? b=some o->b∉C.locs-> ¬o4 b->(∀x c,env.cells.lookup x=some c->b≠c)->oa≠some b->h'.get? b=some o
 live: ∀b o,h.get? b=some o-> ∃o',h'.get? b=some o'
 codes: ∀b o,h.get? b=some o-> ¬o4 b->v0 h b->v0 h' b
 oaf:oa'=oa\/ ∀a,oa'=some a->h.get? a=none
noncomputable def PQ (h:Heap) (X:Xs):Fl->Flow->Prop
 | .next,f=>f=.next
 | .brk,f=>f=.brk
 | .ret v,f=> ∃u,f=.ret u/\Rp h X u v
noncomputable def A6 (W:Wd) (C:Cx) (k:Nat) (env:Env) (sc:Scope) (s₀:Shared) (opn:Option Str) (oa:Option Addr) (s:Shared) (p:Fl×d9) (f:Flow) (s':Shared):Prop:=
 ∃oa',j7 W C k env sc s₀ opn oa' p.2 s'/\u9 C env oa s.heap oa' s'.heap/\PQ s'.heap C.X p.1 f
noncomputable def F0 (C C₀:Cx) (env:Env) (s₀:Shared) (l:Int) (e:Value) (s':Shared):Prop:=
 wpAny (model prog w) C.A (leaving env e) (fun Z s''=>C7 C₀ s₀ l e s'') (fun Z Z=>False) s'
section
variable {W:Wd} {C C₀:Cx} {X:Xs} {k:Nat} {env:Env} {sc:Scope} {oa oa' oa'':Option Addr} {σ σ':d9} {s₀ s s₁ s':Shared} {g:G} {n:Nat} {opn:Option Str} {h h' h'':Heap}
theorem u9.of_gr (t:o3 h) (gr:Gr C h h'):u9 C env oa h oa h':=
 ⟨fun b o e n m Z Z=>gr.keep b o e (fun z=>m z.2) n,fun b o e=>by
  by_cases q:C.tb/\o4 b
  ·refine f8 q fun Z q=> ?_;have t':=gr.tabs t;rcases q with q|q|q
   ·refine f8 (t' (262,258,_) (.head _)) fun Z z8t=> ?_;refine e8 z8t fun ps z Z=> ?_;clear z8t;exact⟨_,q▸z⟩
   ·refine f8 (t' (267,265,_) (.tail _ (.head _))) fun Z z7t=> ?_;refine e8 z7t fun ps z Z=> ?_;clear z7t;exact⟨_,q▸z⟩
   ·refine f8 (t' (274,270,_) (.tail _ (.tail _ (.head _)))) fun Z z6t=> ?_;refine e8 z6t fun ps z Z=> ?_;clear z6t;exact⟨_,q▸z⟩
  ·refine d6 (gr.slots b o e q) fun sl e'=> ?_;exact⟨_,e'⟩,fun b o e nt nc=>gr.codes t b o e nt nc,.inl rfl⟩
theorem u9.refl:u9 C env oa h oa h:=⟨fun Z Z e Z Z Z Z=>e,fun Z o e=>⟨o,e⟩,fun Z Z Z Z nc=>nc,.inl rfl⟩
theorem u9.trans (a:u9 C env oa h oa' h') (b:u9 C env oa' h' oa'' h''):u9 C env oa h oa'' h'':=by
 refine⟨fun x o e n m c q=> ?_,fun x o e=> ?_,fun x o e m nc=> ?_,?_⟩
 ·refine b.keep x o (a.keep x o e n m c q) n m c fun z=> ?_;rcases a.oaf with y|y
  ·rw[y] at z;exact q z
  ·have:=y x z;rw[e] at this;injection this
 ·refine d6 (a.live x o e) fun o' e'=> ?_;exact b.live x o' e'
 ·refine d6 (a.live x o e) fun o' e'=> ?_;exact b.codes x o' e' m (a.codes x o e m nc)
 ·rcases b.oaf with y|y
  ·rw[y];exact a.oaf
  ·refine .inr fun x z=> ?_;cases e:h.get? x with
   |none=>rfl
   |some o=>refine d6 (a.live x o e) fun o' e'=> ?_;have:=y x z;rw[e'] at this;injection this
theorem u9.but {a:Addr} (t:o3 h) (m:nN h a) (kp: ∀b o,b≠a->h.get? b=some o->h'.get? b=some o) (hl: ∃o',h'.get? a=some o') (ha:a∈C.locs\/(∃x,env.cells.lookup x=some a)\/oa=some a):u9 C env oa h oa h':=by
 refine⟨fun b o e n m c q=>kp b o (fun z=> ?_) e,fun b o e=> ?_,fun b o e Z nc=>nc.but t m kp,.inl rfl⟩
 ·rcases ha with y|⟨x,y⟩|y
  ·exact n (z▸y)
  ·exact c x a y z
  ·exact q (z▸y)
 ·by_cases z:b=a
  ·exact z▸hl
  ·exact⟨o,kp b o z e⟩
theorem j7.step' (f:j7 W C k env sc s₀ opn oa σ s) (st:k9 C s s₁):j7 W C k env sc s₀ opn oa σ s₁:=⟨f.step.trans st,f.sit.step st,f.newo,f.only⟩
theorem j7.keeps (f:j7 W C k env sc s₀ opn oa σ s) (st:k9 C s s₁):u9 C env oa s.heap oa s₁.heap:=.of_gr f.sit.inv.tabs st.gr
theorem kY {a:Addr} {base:Heap} (kp: ∀b o,b≠a->h.get? b=some o->h'.get? b=some o) (hl: ∃o',h'.get? a=some o'/\ ∀vs,o'.data≠.fields vs): ∀{l:List Env},h.FunFrames base l->h'.FunFrames base l
 |[],_=>trivial
 |env::r,z=>by
  refine n5 z fun hk z hr=> ?_;refine cR z fun L o hf hn ho hd=> ?_;refine⟨hk,?_,kY kp hl hr⟩;by_cases q:L=a
  ·refine e8 hl fun o' e' d'=> ?_;clear hl;exact⟨L,o',hf,hn,q▸e',d'⟩
  ·exact⟨L,o,hf,hn,kp L o q ho,hd⟩
theorem LH {a:Addr} (i:aN W C h) (hG:W.G.get? a=none) (hb:C.base.get? a=none) (m:nN h a) (kp: ∀b o,b≠a->h.get? b=some o->h'.get? b=some o) (hl: ∃o',h'.get? a=some o'/\ ∀vs,o'.data≠.fields vs):aN W C h':=
 ⟨fun b o e=>kp b o (fun q=>by rw[q,hG] at e;injection e) (i.G b o e),fun b o e=>kp b o (fun q=>by rw[q,hb] at e;injection e) (i.base b o e),kY kp hl i.frames,i.tabs.but m kp,i.Gl⟩
theorem M0.notG {a:Addr} (F:M0 W C C₀ env sc s₀) (h:s₀.heap.get? a=none):W.G.get? a=none:=by
 cases q:W.G.get? a with
 |none=>rfl
 |some o=>have:=F.G₀ _ _ q;rw[h] at this;injection this
theorem M0.notB {a:Addr} (F:M0 W C C₀ env sc s₀) (h:s₀.heap.get? a=none):C.base.get? a=none:=by
 cases q:C.base.get? a with
 |none=>rfl
 |some o=>have:=F.base₀ _ _ q;rw[h] at this;injection this
theorem j7.stored {a:Addr} {tk:Nat} (F:M0 W C C₀ env sc s₀) (f:j7 W C k env sc s₀ opn oa σ s) (hn:s₀.heap.get? a=none) (m:nN s.heap a) (kp: ∀b o,b≠a->s.heap.get? b=some o->h'.get? b=some o)
  (hl: ∃o',h'.get? a=some o'/\ ∀vs,o'.data≠.fields vs) (st:Mine.St env oa (Xo C oa) h' σ') (hon: ∀y v,σ'.get y=some v->v.open? =true->opn=some y):j7 W C k env sc s₀ opn oa σ' {s with heap:=h',toks:=tk}:=by
 refine⟨?_,⟨f.sit.wok,f.sit.ok,f.sit.wf,f.sit.sub,f.sit.xg,fun b x=> ?_,LH f.sit.inv (F.notG hn) (F.notB hn) m kp hl,f.sit.envOk,st,f.sit.oaX⟩,f.newo,hon⟩
 ·refine r0 f.step fun y6 n7 e gr=> ?_;exact⟨h',tk,by rw[e],gr.but hn F.tabs₀ (by rw[e] at m;exact m) (by rw[e] at kp;exact kp)⟩
 ·refine f8 (f.sit.live b x) fun nt z5t=> ?_;refine d6 z5t fun o e=> ?_;clear z5t;refine⟨nt,?_⟩;by_cases q:b=a
  ·refine e8 hl fun o' e' Z=> ?_;clear hl;exact⟨o',q▸e'⟩
  ·exact⟨o,kp b o q e⟩
theorem eE {x:Str} {v:V} (h: ∀y v,σ.get y=some v->v.open? =true->opn=some y) (hv:v.open? =true->opn=some x): ∀y u,(σ.set x v).get y=some u->u.open? =true->opn=some y:=fun y u e o=>by
 rw[k7] at e;by_cases q:y=x
 ·rw[if_pos q] at e;injection e with e;subst e;rw[q];exact hv o
 ·rw[if_neg q] at e;exact h y u e o
theorem B5 (F:M0 W C C₀ env sc s₀) (f:j7 W C k env sc s₀ opn oa σ s) {x:Str} (hx:sc.names.lookup x=some .local\/sc.names.lookup x=some .cell) {u:Value} {v:V} (r:B2 s.heap (Xo C oa) oa u v) (hv:v.open? =true->opn=some x):
  wpAny (model prog w) C.A (storeName env x u) (fun Z s'=>j7 W C k env sc s₀ opn oa (σ.set x v) s'/\u9 C env oa s.heap oa s'.heap/\ ∀b o xs m,s.heap.get? b=some o->o.data=.seq xs m->s'.heap.get? b=some o) (fun Z Z=>False) s:=by
 have hloc:env.locals∈C.locs:=by unfold Cx.locs;rw[F.fr,List.filterMap_cons,F.frame];exact .head _
 rcases hx with hx|hx
 ·refine wpAny_mono (gZ f.sit.st f.sit.envOk.kind ((F.kinds x).trans hx) (.inl F.XL) r) (fun Z s' q=> ?_) fun Z Z x=>x;refine v9 q fun h' tk z4r kp st=> ?_;clear q;subst z4r;refine e8 f.sit.st.vals fun m hm Z=> ?_;refine F6 (D4 hm) fun o es ep e d=> ?_;refine e8 st.vals fun m' hm' Z=> ?_;refine F6 (D4 hm') fun o' es' ep' e' d'=> ?_;have mu:nN s.heap env.locals:=⟨o,e,.inl fun vs z=>by rw[d] at z;injection z⟩;have kp': ∀b o,b≠env.locals->s.heap.get? b=some o->h'.get? b=some o:=fun b o n e=>(kp b n).trans e;exact⟨f.stored F F.newL mu kp' ⟨o',e',fun vs z=>by rw[d'] at z;injection z⟩ st (eE f.only hv),.but f.sit.inv.tabs mu kp' ⟨o',e'⟩ (.inl hloc),fun b o xs m q dd=>kp' b o (fun z=>by rw[z,e] at q;injection q with q;subst q;rw[d] at dd;injection dd) q⟩
 ·refine wpAny_mono (xK f.sit.st f.sit.envOk.kind ((F.kinds x).trans hx) F.inj r) (fun Z s' q=> ?_) fun Z Z x=>x;refine X1 q fun h' tk c z3r hc kp st=> ?_;clear q;subst z3r;refine r0 (f.sit.st.cells x (.inl ((F.kinds x).trans hx))) fun c' v' hc' z2t=> ?_;refine e8 z2t fun o e d=> ?_;clear z2t;rw[hc] at hc';injection hc' with hc';subst hc';refine r0 (st.cells x (.inl ((F.kinds x).trans hx))) fun c' v'' hc' z1t=> ?_;refine e8 z1t fun o' e' d'=> ?_;clear z1t;rw[hc] at hc';injection hc' with hc';subst hc';have mu:nN s.heap c:=⟨o,e,.inl fun vs z=>by rw[d] at z;injection z⟩;have kp': ∀b o,b≠c->s.heap.get? b=some o->h'.get? b=some o:=fun b o n e=>(kp b n).trans e;exact⟨f.stored F (F.newC x c hc) mu kp' ⟨o',e',fun vs z=>by rw[d'] at z;injection z⟩ st (eE f.only hv),.but f.sit.inv.tabs mu kp' ⟨o',e'⟩ (.inr (.inl ⟨x,hc⟩)),fun b o xs m q dd=>kp' b o (fun z=>by rw[z,e] at q;injection q with q;subst q;rw[d] at dd;injection dd) q⟩
theorem fV (F:M0 W C C₀ env sc s₀) (f:j7 W C k env sc s₀ opn oa σ s) {l:Int} {e:Value} {s':Shared} (h:C7 C s l e s'):F0 C C₀ env s₀ l e s':=
 kX f.sit.ok.frames F.fr F.base F.frame (h.from f.step (.inr F.tabs₀))
end
section
variable {W:Wd} {C C₀:Cx} {X:Xs} {k:Nat} {env:Env} {sc:Scope} {oa oa' oa'':Option Addr} {σ σ':d9} {s₀ s s₁ s':Shared} {g:G} {n:Nat} {opn:Option Str} {h h' h'':Heap}
theorem Q5 (o:Obj) (f:Array Value->Array Value):(Obj.mapSeq f o).dict=o.dict/\(Obj.mapSeq f o).cls=o.cls:=by
 obtain⟨c,d,dt,sl⟩:=o;cases dt<;>exact⟨rfl,rfl⟩
theorem BX {A:Around} {l:Addr} {o:Obj} {ys:List Value} {m:Nat} {x:Value} (ho:s.heap.get? l=some o) (hc:o.cls=.type "list") (hd:o.data=.seq ys.toArray m) (hz:ys.length<=sizeLine) {Q:Value->Shared->Prop} {E:Value->Shared->Prop}
  (hQ: ∀h' o' m',(∀b,b≠l->h'.get? b=s.heap.get? b)->h'.get? l=some o'->o'.cls=.type "list"->o'.dict=o.dict->o'.data=.seq (ys++[x]).toArray m'->Q .none {s with heap:=h'}):
  wpAny (model prog w) A (call (.builtin "list.append") [.ref l,x]) Q E s:=by
 refine wpAny_call_entry slot_list_append ⟨_,ho,hc⟩ entry_list_append ?_ (args_list_append _ _);show wpAny _ _ (updateSeq l (·.push x)>>=fun Z=>ret .none) _ _ s;refine wpAny_bind ?_;refine d6 (Obj.data_mapSeq hd (·.push x)) fun m' hd'=> ?_;refine wpAny_updateSeq ho hd (wpAny_pure ⟨.none,rfl,hQ _ _ m' (Heap.SameBut.update ..).2 (Heap.get?_update_self _ ho (Obj.isFreed_of_seq hd')) ((Q5 o _).2.trans hc) (Q5 o _).1 (hd'.trans (by simp))⟩) (by simpa using hz)
theorem xQ {A:Around} {l:Addr} {o:Obj} {ys:List Value} {m:Nat} {t:Tok} {x:Value} (ho:s.heap.get? l=some o) (hc:o.cls=.type "list") (hd:o.data=.seq ys.toArray m) (hne:ys≠[]) {Q:Unit->Shared->Prop} {E:Value->Shared->Prop}
  (hQ: ∀h' o' m',(∀b,b≠l->h'.get? b=s.heap.get? b)->h'.get? l=some o'->o'.cls=.type "list"->o'.dict=o.dict->o'.data=.seq (ys.dropLast++[x]).toArray m'->Q () {s with heap:=h'}):
  wpAny (model prog w) A (setItem (.ref l) (.int (-1) t) x) Q E s:=by
 have hl:s.heap.IsList l ys.toArray:=⟨o,ho,hc,m,hd⟩;have hlen:0<ys.length:=List.length_pos_iff.mpr hne;unfold setItem;try with_reducible refine wpAny_holding ?_
 first|refine wpAny_bind (wpAny_pure ?_)|skip
 refine wpAny_bind (wpAny_sequenceKey hl.typeIs (by decide) ?_);refine wpAny_bind (wpAny_callSpecial?_slot (name:=Str.ofString "__setitem__") hl.typeIs slot_list_setitem
  (wpAny_call_entry slot_list_setitem hl.typeIs entry_list_setitem ?_ (args_list_setitem _ _ _)))
 show wpAny _ _ (Builtin.List.listSubscript? (.int (-1) t)>>=_) _ _ s;refine wpAny_bind (wpAny_listSubscript_int (fitsIndex_neg (by decide) (by decide)) ?_);have hidx:=seqIndex_neg (k:= -1) (n:=ys.toArray.size) (by decide) (by simp;omega);show wpAny _ _ ((Builtin.List.listItems (.ref l)>>=fun xs=>pure ((seqIndex? (Int.negSucc 0) xs.size).bind fun i=>xs[i]?.map (i,·)))>>=_) _ _ s;refine wpAny_bind (wpAny_bind ?_);show wpAny _ _ (seqItems? (.ref l)>>=_) _ _ s;refine wpAny_bind (wpAny_seqItems ho hd (wpAny_pure (wpAny_pure ?_)));rw[show(Int.negSucc 0)= -1 from rfl,hidx];have hj:((-1:Int)+(ys.toArray.size:Int)).toNat=ys.length-1:=by simp;exact RT
 rw[hj];have hx:ys.toArray[ys.length-1]? =some (ys[ys.length-1]'(r28 hlen)):=by simp
 simp only[Option.bind_some,hx,Option.map_some];show wpAny _ _ (setSeqItemAt l (ys.length-1) x>>=_) _ _ s;refine d6 (Obj.data_mapSeq hd (·.setIfInBounds (ys.length-1) x)) fun m' hd'=> ?_;have e:(ys.toArray.setIfInBounds (ys.length-1) x)=(ys.dropLast++[x]).toArray:=by
  rw[List.setIfInBounds_toArray];congr 1
  obtain⟨a,b,rfl⟩: ∃a b,ys=a++[b]:=⟨ys.dropLast,ys.getLast hne,(List.dropLast_concat_getLast hne).symm⟩;simp
 have fin:=hQ _ _ m' (Heap.SameBut.update s.heap l (Obj.mapSeq (·.setIfInBounds (ys.length-1) x))).2 (Heap.get?_update_self _ ho (Obj.isFreed_of_seq hd')) ((Q5 o _).2.trans hc) (Q5 o _).1 (by rw[hd',e]);refine wpAny_bind (wpAny_setSeqItemAt ho hd ?_);first
  |exact wpAny_bind (wpAny_pure (wpAny_pure ⟨.none,rfl,wpAny_pure fin⟩))
  |exact wpAny_pure ⟨.none,rfl,wpAny_pure fin⟩
theorem eF (F:M0 W C C₀ env sc s₀) (f:j7 W C k env sc s₀ opn oa σ s) {x:Str} {a:Addr} {o o':Obj} {ys:List Value} {vs ds:List V} {m:Nat} {tk:Nat} (hx:opn=some x) (hv:σ.get x=some (.olist vs)) (hoa:oa=some a) (ho:s.heap.get? a=some o) (hd: ∀zs,o.data≠.fields zs)
  (kp: ∀b,b≠a->h'.get? b=s.heap.get? b) (e1:h'.get? a=some o') (e2:o'.cls=.type "list") (e3:o'.dict=none) (e4:o'.data=.seq ys.toArray m) (r:Rps s.heap (Xo C oa) ys ds) (hdo: ∃zs nn,o.data=.seq zs nn):
  j7 W C k env sc s₀ opn oa (σ.set x (.olist ds)) {s with heap:=h',toks:=tk}/\u9 C env oa s.heap oa h':=by
 have mu:nN s.heap a:=⟨o,ho,.inl hd⟩;have kp': ∀b o,b≠a->s.heap.get? b=some o->h'.get? b=some o:=fun b o nb e=>(kp b nb).trans e;refine C1 hdo fun zs nn hzs=> ?_;clear hdo;have hXa:Xo C oa a:=.inr hoa;refine e8 f.sit.st.vals fun mm hm hvals=> ?_;have hne:env.locals≠a:=fun q=>by
  refine F6 (D4 hm) fun L1 es ep e d=> ?_;rw[q,ho] at e;injection e with e;subst e;rw[hzs] at d;injection d
 have cell: ∀c v,s.heap.IsCell c v->h'.IsCell c v:=fun c v ⟨oc,e,d⟩=>⟨oc,kp' c oc (fun q=>by rw[q,ho] at e;injection e with e;subst e;rw[hzs] at d;injection d) e,d⟩;have r':Rps h' (Xo C oa) ys ds:=r.but kp (.inl hXa);have st:Mine.St env oa (Xo C oa) h' (σ.set x (.olist ds)):=by
  refine⟨fun y hy=> ?_,mm,?_,fun y z e=> ?_⟩
  ·refine r0 (f.sit.st.cells y hy) fun c v q1 q2=> ?_;exact⟨c,v,q1,cell c v q2⟩
  ·refine F6 hm fun L1 es ep e rr=> ?_;clear hm;exact⟨L1,es,ep,kp' _ _ hne e,rr⟩
  ·rw[k7] at e;by_cases q:y=x
   ·rw[if_pos q] at e;injection e with e;subst e;refine e8 (hvals x _ hv) fun u hu hk=> ?_;refine sX hu fun a' L1 UX ZO q1 q2 Z=> ?_;clear hu;rw[hoa] at q1;injection q1 with q1;subst q1;subst q2;refine⟨.ref a,⟨a,o',ys,m,hoa,rfl,e1,⟨e2,e3⟩,e4,r'⟩,q▸ ?_⟩;rcases hk with z|⟨z,c,z1,z2⟩
    ·exact .inl z
    ·exact .inr ⟨z,c,z1,cell c _ z2⟩
   ·rw[if_neg q] at e;refine e8 (hvals y z e) fun u hu hk=> ?_;have hno:z.open? =false:=by
     cases hz:z.open? with
     |false=>rfl
     |true=>have:=f.only y z e hz;rw[hx] at this;exact absurd (Option.some.inj this).symm q
    refine⟨u,.of ((hu.plain hno).but kp (.inl hXa)),?_⟩;rcases hk with z|⟨z,c,z1,z2⟩
    ·exact .inl z
    ·exact .inr ⟨z,c,z1,cell c _ z2⟩
 have hl: ∃o',h'.get? a=some o'/\ ∀vs,o'.data≠.fields vs:=⟨o',e1,fun vs z=>by rw[e4] at z;injection z⟩;exact⟨f.stored F (f.newo a hoa).1 mu kp' hl st (eE f.only fun Z=>hx),.but f.sit.inv.tabs mu kp' ⟨o',e1⟩ (.inr (.inr hoa))⟩
end
section
variable (W:Wd)
noncomputable def xR (n:Nat):Prop:= ∀(g:G) (C C₀:Cx) (k:Nat) (env:Env) (sc:Scope) (s₀:Shared) (opn:Option Str) (oa:Option Addr) (σ:d9) (st:Stmt) (s:Shared),
 C6 W k C.tb g->M0 W C C₀ env sc s₀->j7 W C k env sc s₀ opn oa σ s->
 w5 (ex g opn sc n σ st) (fun Q E s=>wpAny (model prog w) C.A (exec st env) Q E s) (A6 W C k env sc s₀ opn oa s) (F0 C C₀ env s₀) s
end
section
variable {W:Wd} {C C₀:Cx} {X:Xs} {k:Nat} {env:Env} {sc:Scope} {oa oa' oa'':Option Addr} {σ σ':d9} {s₀ s s₁ s':Shared} {g:G} {n:Nat} {opn:Option Str} {h h' h'':Heap}
theorem PR {α β:Type} {r:R α} {F F':Tr β} {P:α->β->Shared->Prop} {E:Int->Value->Shared->Prop} (h: ∀Q E,F Q E s->F' Q E s) (q:w5 r F P E s):w5 r F' P E s:=by
 cases r with
 |stuck=>trivial
 |err l=>exact h _ _ q
 |ok a=>exact h _ _ q
theorem hO (hE: ∀n,I9 W n) (hg:C6 W k C.tb g) (F:M0 W C C₀ env sc s₀) (f:j7 W C k env sc s₀ opn oa σ s) (e:Expr):
  Ou C (ev g n false sc σ e) (eval e env) (g5 C (Xo C oa) oa s) (F0 C C₀ env s₀) s:=
 (hE n g C (Xo C oa) k env sc oa σ e s hg f.sit).1.mono (fun Z Z Z Z p=>p) fun Z Z Z Z p=>fV F f p
theorem zM (hE: ∀n,I9 W n) (hg:C6 W k C.tb g) (F:M0 W C C₀ env sc s₀) (f:j7 W C k env sc s₀ opn oa σ s) (e:Expr):
  Ou C ((ev g n true sc σ e).bind l7) (isTrue e env (eval e env)) (P6 C s) (F0 C C₀ env s₀) s:=
 (hE n g C (Xo C oa) k env sc oa σ e s hg f.sit).2.mono (fun Z Z Z Z p=>p) fun Z Z Z Z p=>fV F f p
theorem A6.from {p:Fl×d9} {fl:Flow} {s':Shared} (kp:u9 C env oa s.heap oa' s₁.heap) (q:A6 W C k env sc s₀ opn oa' s₁ p fl s'):A6 W C k env sc s₀ opn oa s p fl s':=by
 refine s5 q fun oa'' f k' fw=> ?_;clear q;exact⟨oa'',f,kp.trans k',fw⟩
theorem w5.fromS {r:R (Fl×d9)} {Fr:Tr Flow} (kp:u9 C env oa s.heap oa' s₁.heap) (q:w5 r Fr (A6 W C k env sc s₀ opn oa' s₁) (F0 C C₀ env s₀) s₁)
  (mono: ∀{Q Q':Flow->Shared->Prop} {E:Value->Shared->Prop},(∀f s,Q f s->Q' f s)->Fr Q E s₁->Fr Q' E s₁):w5 r Fr (A6 W C k env sc s₀ opn oa s) (F0 C C₀ env s₀) s₁:=by
 cases r with
 |stuck=>trivial
 |err l=>exact q
 |ok a=>exact mono (fun f s' z=>z.from kp) q
set_option backward.match.sparseCases true in
theorem R7 (ih:xR W n) (hg:C6 W k C.tb g) (F:M0 W C C₀ env sc s₀): ∀(b:List Stmt) {σ:d9} {oa:Option Addr} {s:Shared},j7 W C k env sc s₀ opn oa σ s->
  w5 (D2 (ex g opn sc n) σ b) (fun Q E s=>wpAny (model prog w) C.A (execs b env) Q E s) (A6 W C k env sc s₀ opn oa s) (F0 C C₀ env s₀) s
 |[],σ,oa,s,f=>wpAny_execs_nil ⟨oa,f,.refl,rfl⟩
 |st::r,σ,oa,s,f=>by
  show w5 ((ex g opn sc n σ st).bind (TE fun σ'=>D2 (ex g opn sc n) σ' r)) _ _ _ _;have h1:=ih g C C₀ k env sc s₀ opn oa σ st s hg F f;refine Ou.bind (F:=fun fl Q E s₁=>match fl with| .next=>wpAny (model prog w) C.A (execs r env) Q E s₁|fl=>Q fl s₁) (fun Q E h=>wpAny_execs_cons h) h1 fun p fl s₁ Z q=> ?_;obtain⟨fl',σ'⟩:=p;refine s5 q fun oa' f' kp fw=> ?_;clear q;cases fl' with
  |next=>
   have fw:fl=.next:=fw;subst fw;exact(R7 ih hg F r f').fromS kp fun hq hw=>wpAny_mono hw hq fun Z Z x=>x
  |brk=>
   have fw:fl=.brk:=fw;subst fw;exact⟨oa',f',kp,rfl⟩
  |ret v=>
   refine e8 fw fun u z2r hu=> ?_;clear fw;subst z2r;exact⟨oa',f',kp,u,rfl,hu⟩
theorem TS (hE: ∀n,I9 W n) (ih:xR W n) (hg:C6 W k C.tb g) (F:M0 W C C₀ env sc s₀) (f:j7 W C k env sc s₀ opn oa σ s) (t:Expr) (b o:List Stmt) (p:Pos):
  w5 (ex g opn sc (n+1) σ (.If t b o p)) (fun Q E s=>wpAny (model prog w) C.A (exec (.If t b o p) env) Q E s) (A6 W C k env sc s₀ opn oa s) (F0 C C₀ env s₀) s:=by
 show w5 (((ev g n true sc σ t).bind l7).bind fun c=>if c then D2 (ex g opn sc n) σ b else D2 (ex g opn sc n) σ o) _ _ _ _;refine Ou.bind (fun Q E h=>wpAny_If h) (zM hE hg F f t) fun c v s₁ Z q=> ?_;refine f8 q fun st z1r=> ?_;clear q;subst z1r;have f₁:=f.step' st;cases v with
 |true=>exact(R7 ih hg F b f₁).fromS (f.keeps st) fun hq hw=>wpAny_mono hw hq fun Z Z x=>x
 |false=>exact(R7 ih hg F o f₁).fromS (f.keeps st) fun hq hw=>wpAny_mono hw hq fun Z Z x=>x
theorem BY (hE: ∀n,I9 W n) (hg:C6 W k C.tb g) (F:M0 W C C₀ env sc s₀) (f:j7 W C k env sc s₀ opn oa σ s) (e:Expr) (p:Pos):
  w5 (ex g opn sc (n+1) σ (.Return (some e) p)) (fun Q E s=>wpAny (model prog w) C.A (exec (.Return (some e) p) env) Q E s) (A6 W C k env sc s₀ opn oa s) (F0 C C₀ env s₀) s:=by
 show w5 ((ev g n false sc σ e).map fun v=>(Fl.ret v.freeze,σ)) _ _ _ _;rw[show((ev g n false sc σ e).map fun v=>(Fl.ret v.freeze,σ))=(ev g n false sc σ e).bind fun v=>.ok (Fl.ret v.freeze,σ) by cases ev g n false sc σ e<;>rfl];refine Ou.bind (F:=fun v Q Z s=>Q (.ret v) s) (fun Q E h=>wpAny_Return_some h) (hO hE hg F f e) fun a v s₁ Z q=> ?_;refine⟨oa,f.step' q.1,f.keeps q.1,v,rfl,?_⟩;have r:=q.2;rcases kB a with⟨ds,rfl⟩|ho
 ·refine X2 r fun x o vs m e1 e2 e3 e4 e5 e6=> ?_;clear r;exact e2▸.list e3 e4.1 e5 (f.newo x e1).2 (e6.less fun a x=>.inl x)
 ·rw[BD ho];exact(r.plain ho).less (X':=C.X) fun a x=>.inl x
theorem GC (f:j7 W C k env sc s₀ opn oa σ s) (p:Pos):
  w5 (ex g opn sc (n+1) σ (.Break p)) (fun Q E s=>wpAny (model prog w) C.A (exec (.Break p) env) Q E s) (A6 W C k env sc s₀ opn oa s) (F0 C C₀ env s₀) s:=
 wpAny_Break ⟨oa,f,.refl,rfl⟩
theorem H1 {x:Str} (h:h7 sc x=true):sc.names.lookup x=some .local\/sc.names.lookup x=some .cell:=by
 unfold h7 at h;rw[Bool.or_eq_true] at h;rcases h with h|h
 ·exact .inl (by simpa using h)
 ·exact .inr (by simpa using h)
theorem GD (t:J3 W C X k env sc oa σ s.heap) {x:Str} {v:V} (e:σ.get x=some v) (hc:x≠"__classdict__"):wpAny (model prog w) C.A (loadName env x) (g5 C X oa s v) (fun Z Z=>False) s:=by
 refine e8 t.st.vals fun m hm hv=> ?_;refine e8 (hv x v e) fun u hu hk=> ?_;rcases hk with⟨q,z⟩|⟨q,c,z,hi⟩
 ·exact wpAny_loadName_local t.envOk.kind q hm z ⟨.refl,hu⟩
 ·rcases q with q|q
  ·exact wpAny_loadName_cell t.envOk.kind q z hi ⟨.refl,hu⟩
  ·exact wpAny_loadName_free t.envOk.kind q z hi ⟨.refl,hu⟩ (by simpa using hc)
theorem uA {x:Str} {xp:Pos} (hs:h7 sc x=true):(ev g n false sc σ (.Name x xp)=.stuck)\/ ∃v,ev g n false sc σ (.Name x xp)=.ok v/\σ.get x=some v/\x≠"__classdict__":=by
 cases n with
 |zero=>exact .inl rfl
 |succ n=>
  show s0 g sc σ x=_\/ ∃v,s0 g sc σ x=_/\_;unfold s0;split
  ·exact .inl rfl
  rename_i hn;rw[not_or] at hn;rcases H1 hs with e|e<;>rw[e]<;>simp only<;>(cases h:σ.get x with
   |none=>exact .inl rfl
   |some v=>exact .inr ⟨v,rfl,rfl,hn.2⟩)
theorem PS (hE: ∀n,I9 W n) (hg:C6 W k C.tb g) (F:M0 W C C₀ env sc s₀) (f:j7 W C k env sc s₀ opn oa σ s) (x:Str) (xp:Pos) (e:Expr) (p:Pos):
  w5 (ex g opn sc (n+1) σ (.AugAssign (.Name x xp) .Add e p)) (fun Q E s=>wpAny (model prog w) C.A (exec (.AugAssign (.Name x xp) .Add e p) env) Q E s) (A6 W C k env sc s₀ opn oa s) (F0 C C₀ env s₀) s:=by
 show w5 (if opn=some x\/h7 sc x=false then R.stuck else (ev g n false sc σ (.Name x xp)).bind fun a=>(ev g n false sc σ e).bind fun v=>KB a v σ x) _ _ _ _;split
 ·trivial
 rename_i hc;rw[not_or] at hc;have hst:h7 sc x=true:=by simpa using hc.2
 rcases uA (g:=g) (n:=n) (σ:=σ) (xp:=xp) hst with h|⟨a,h,hget,hcd⟩
 ·rw[h];trivial
 rw[h];refine Ou.bind (r:=R.ok a) (P:=g5 C (Xo C oa) oa s) (t:=loadName env x) (fun Q E h=>wpAny_AugAssign_Name h) (GD f.sit hget hcd) fun a' old s₁ ha I7=> ?_;injection ha with ha;subst ha;have f₁:=f.step' I7.1;refine Ou.bind (fun Q E h=>h) (hO hE hg F f₁ e) fun b v e7 Z B9=> ?_;have n8:=f₁.step' B9.1;have Z5:=f₁.sit.keepO B9.1 I7.2;refine PE fun hne=> ?_;refine d6 (dX (show intM _ a≠.stuck from hne)) fun i ei=> ?_;subst ei;refine d6 (dX (show intM _ b≠.stuck from hne)) fun j ej=> ?_;subst ej;refine d6 (A2 Z5) fun t1 e1=> ?_;refine d6 (A2 B9.2) fun t2 e2=> ?_;rw[e1,e2];refine iadd_int ?_;have G9:k9 C e7 {e7 with toks:=e7.toks+1}:=.of_keep fun Z Z e=>e;have E4:=n8.step' G9;refine wpAny_mono (B5 F E4 (H1 (by simpa using hc.2)) (.of (.int _ _)) (fun z=>by injection z)) (fun Z C5 q=> ?_) fun Z Z x=>x;exact⟨oa,q.1,(f.keeps I7.1).trans ((f₁.keeps B9.1).trans ((n8.keeps G9).trans q.2.1)),rfl⟩
end
section
variable {W:Wd} {C C₀:Cx} {X:Xs} {k:Nat} {env:Env} {sc:Scope} {oa oa' oa'':Option Addr} {σ σ':d9} {s₀ s s₁ s':Shared} {g:G} {n:Nat} {opn:Option Str} {h h' h'':Heap}
theorem pS {x:Str} {v:V} (hs:h7 sc x=true) (h:s0 g sc σ x=.ok v):σ.get x=some v:=by
 rcases uA (g:=g) (n:=1) (σ:=σ) (xp:=⟨0,0,0,0⟩) hs with e|⟨u,e,e',_⟩
 ·have:s0 g sc σ x=.stuck:=e;rw[h] at this;injection this
 ·have:s0 g sc σ x=.ok u:=e;rw[h] at this;injection this with this;subst this;exact e'
theorem R8 (h:env.scope.kind=.function):interactive env=false:=by
 unfold interactive;rw[h];rfl
set_option tactic.hygienic true in
set_option backward.match.sparseCases true in
theorem BZ (hE: ∀n,I9 W n) (hg:C6 W k C.tb g) (F:M0 W C C₀ env sc s₀) (f:j7 W C k env sc s₀ opn oa σ s) (x:Str) (xp:Pos) (m:Str) (ap:Pos) (a:Expr) (p q:Pos):
  w5 (ex g opn sc (n+1) σ (.Expr (.Call (.Attribute (.Name x xp) m ap) [a] [] p) q)) (fun Q E s=>wpAny (model prog w) C.A (exec (.Expr (.Call (.Attribute (.Name x xp) m ap) [a] [] p) q) env) Q E s) (A6 W C k env sc s₀ opn oa s) (F0 C C₀ env s₀) s:=by
 show w5 (if m="append"/\opn=some x/\ap.endLine=p.line/\h7 sc x=true then Y0 (s0 g sc σ x) fun vs=>(ev g n false sc σ a).bind fun v=>X9 v vs σ x else R.stuck) _ _ _ _;by_cases hc:m="append"/\opn=some x/\ap.endLine=p.line/\h7 sc x=true
 case neg=>rw[if_neg hc];trivial
 rw[if_pos hc];refine Q1 hc fun z5r hx hl hs=> ?_;clear hc;subst z5r;refine w5.need1 fun vs hn=> ?_;have hn:=tD hn;have hget:=pS hs hn;have hname:=O6 hg f.sit x xp;rw[hn] at hname;by_cases hst:ev g n false sc σ a=.stuck
 ·rw[hst];trivial
 have hstar:=kK (env:=env) hst;have rule: ∀(Q:Flow->Shared->Prop) (E:Value->Shared->Prop),(∀D s₁,g5 C (Xo C oa) oa s (.olist vs) D s₁->wpAny (model prog w) C.A (eval a env) (fun y e7=>wpAny (model prog w) C.A (call (.builtin "list.append") [D,y]) (fun v s'=>match v with| .ref _=>False|_=>Q .next s') E e7) E s₁)->
   wpAny (model prog w) C.A (exec (.Expr (.Call (.Attribute (.Name x xp) "append" ap) [a] [] p) q) env) Q E s:=by
  intro Q E hk;refine wpAny_Expr (wpAny_Call_append rfl (by rw[hstar];rfl) (by simpa using hl) (by rw[hstar];rfl) ?_) (R8 f.sit.envOk.kind);refine wpAny_mono hname (fun D s₁ p=> ?_) fun Z Z x=>x.elim;have p2:=p.2;refine X2 p2 fun A o ys mm e1 z4r e3 e4 e5 e6=> ?_;clear p2;subst z4r;exact⟨A,ys.toArray,rfl,⟨o,mm,e3,e4.1,e4.2,e5⟩,hk _ _ p⟩
 have go: ∀{r:R V} (hr:ev g n false sc σ a=r),w5 (r.bind fun v=>X9 v vs σ x) (fun Q E s=> ∀D s₁,g5 C (Xo C oa) oa s (.olist vs) D s₁->wpAny (model prog w) C.A (eval a env) (fun y e7=>wpAny (model prog w) C.A (call (.builtin "list.append") [D,y]) (fun v s'=>match v with| .ref _=>False|_=>Q .next s') E e7) E s₁)
   (A6 W C k env sc s₀ opn oa s) (F0 C C₀ env s₀) s:=by
  intro r hr;cases r with
  |stuck=>trivial
  |err l=>
   intro D s₁ p;have:=hO (n:=n) hE hg F (f.step' p.1) a;rw[hr] at this;exact wpAny_mono this (fun Z Z x=>x.elim) fun Z Z x=>x
  |ok v=>
   show w5 (X9 v vs σ x) _ _ _ _;unfold X9;split
   ·trivial
   rename_i hz;rw[Bool.or_eq_true,not_or] at hz;have hv:v.open? =false:=by simpa using hz.1
   have hlen:vs.length<g9:=by simpa using hz.2
   intro D s₁ p;have f₁:=f.step' p.1;have:=hO (n:=n) hE hg F f₁ a;rw[hr] at this;refine wpAny_mono this (fun y e7 q=> ?_) fun Z Z x=>x;have n8:=f₁.step' q.1;have ro:=f₁.sit.keepO q.1 p.2;refine X2 ro fun A o ys mm e1 z3r e3 e4 e5 e6=> ?_;clear ro;subst z3r;have ry:=q.2.plain hv;refine BX e3 e4.1 e5 (by rw[e6.length];have:=D6;exact q27 hlen this (by decide)) fun h' o' m' kp q1 q2 q3 q4=> ?_;have key:=eF (tk:=e7.toks) F n8 hx hget e1 e3 (fun zs z=>by rw[e5] at z;injection z) kp q1 q2 (q3.trans e4.2) q4 (e6.append (.cons ry .nil)) ⟨_,_,e5⟩;exact⟨oa,key.1,(f.keeps p.1).trans ((f₁.keeps q.1).trans key.2),rfl⟩
 have key:=go (r:=ev g n false sc σ a) rfl;exact PR (fun Q E h=>rule Q E h) key
set_option tactic.hygienic true in
theorem LI (hE: ∀n,I9 W n) (hg:C6 W k C.tb g) (F:M0 W C C₀ env sc s₀) (f:j7 W C k env sc s₀ opn oa σ s) (x:Str) (xp p1 p2 p3:Pos) (kk:Nat) (e:Expr) (p:Pos) (hsw: ∀t,swapsWith e t p.line env=pure false):
  w5 (if opn=some x/\h7 sc x=true then (ev g n false sc σ e).bind fun v=>Y0 (s0 g sc σ x) fun vs=>oV v vs σ x else R.stuck)
   (fun Q E s=>wpAny (model prog w) C.A (exec (.Assign [.Subscript (.Name x xp) (.UnaryOp .USub (.Constant (.int 1) kk p1) p2) p3] e p) env) Q E s) (A6 W C k env sc s₀ opn oa s) (F0 C C₀ env s₀) s:=by
 split
 case isFalse=>trivial
 rename_i hc;refine f8 hc fun hx hs=> ?_;clear hc;refine Ou.bind (F:=fun v Q E s₁=>wpAny (model prog w) C.A (eval (.Name x xp) env) (fun ov e7=>wpAny (model prog w) C.A (eval (.UnaryOp .USub (.Constant (.int 1) kk p1) p2) env) (fun iv l6=>
   wpAny (model prog w) C.A (setItem ov iv v) (fun Z=>Q .next) E l6) E e7) E s₁) (fun Q E h=>wpAny_Assign_Subscript h (hsw _)) (hO hE hg F f e) fun d v s₁ Z q=> ?_
 have f₁:=f.step' q.1;refine w5.need1 fun vs hn=> ?_;have hn:=tD hn;have hget:=pS hs hn;have hname:=O6 hg f₁.sit x xp;rw[hn] at hname;show w5 (oV d vs σ x) _ _ _ _;unfold oV;split
 ·trivial
 rename_i hz;rw[Bool.or_eq_true,not_or,Bool.or_eq_true,not_or] at hz;refine f8 hz fun z2n z3=> ?_;clear hz;refine f8 z2n fun z1 z2=> ?_;clear z2n;have hv:d.open? =false:=by simpa using z1
 refine wpAny_mono hname (fun ov e7 L9=> ?_) fun Z Z x=>x.elim;have n8:=f₁.step' L9.1;refine wpAny_UnaryOp (wpAny_Constant_int (neg_int ?_));have G9:k9 C e7 {e7 with toks:=e7.toks+1+1}:=.of_keep fun Z Z e=>e;have E4:=n8.step' G9;refine X2 L9.2 fun A o ys mm e1 z1r e3 e4 e5 e6=> ?_;subst z1r;have ry:=(f₁.sit.keepO L9.1 q.2).plain hv;have hne:ys≠[]:=by
  rintro rfl
  have:=e6.length;cases vs with
  |nil=>exact z2 rfl
  |cons=>simp at this
 refine xQ (s:={e7 with toks:=e7.toks+1+1}) e3 e4.1 e5 hne fun h' o' m' kp q1 q2 q3 q4=> ?_;have key:=eF (s:={e7 with toks:=e7.toks+1+1}) (tk:=e7.toks+1+1) F E4 hx hget e1 e3 (fun zs z=>by rw[e5] at z;injection z) kp q1 q2 (q3.trans e4.2) q4 (e6.dropLast.append (.cons ry .nil)) ⟨_,_,e5⟩;exact⟨oa,key.1,(f.keeps q.1).trans ((f₁.keeps L9.1).trans ((n8.keeps G9).trans key.2)),rfl⟩
end
noncomputable def GE (σ:d9) (x:Str):d9:=σ.filter fun p=>p.1 !=x
theorem rF (σ:d9) (x y:Str):(GE σ x).get y=if y=x then none else σ.get y:=by
 unfold GE d9.get;induction σ with
 |nil=>simp
 |cons p r ih=>
  obtain⟨z,u⟩:=p;rw[List.filter_cons];by_cases hz:z=x
  ·subst hz;rw[if_neg (by simp),ih,List.lookup_cons];by_cases hy:y=z
   ·rw[if_pos hy,if_pos hy]
   ·have:(y==z)=false:=by simpa using hy
    rw[this]
  ·rw[if_pos (by simpa using hz),List.lookup_cons,List.lookup_cons,ih];by_cases hy:y=z
   ·subst hy;simp[hz]
   ·have:(y==z)=false:=by simpa using hy
    rw[this]
inductive O7 (env:Env):List (Value->Sem Unit)->List Str->Prop
 |nil:O7 env [] []
 |cons {t:Value->Sem Unit} {ts:List (Value->Sem Unit)} {x:Str} {xs:List Str}:(∀(M:Model) (A:Around) (v:Value) (Q:Unit->Shared->Prop) (E:Value->Shared->Prop) (s:Shared),wpAny M A (storeName env x v) Q E s->wpAny M A (t v) Q E s)->O7 env ts xs->O7 env (t::ts) (x::xs)
theorem cX {env:Env}: ∀{ts:List Expr} {xs:List Str},G4 ts=some xs->O7 env ((assignEach ts env).map (·.2)) xs/\(assignEach ts env).length=ts.length/\(assignEach ts env).findIdx? (·.1)=none/\xs.length=ts.length
 |[],xs,h=>by injection h with h;subst h;exact⟨.nil,rfl,rfl,rfl⟩
 |t::r,xs,h=>by
  refine nK (dT h) fun x p ys z3r hr z4r=> ?_;subst z3r;subst z4r;refine Q1 (cX (env:=env) hr) fun h1 h2 h3 h4=> ?_;refine⟨.cons (fun M A v Q E s z=>wpAny_assign_Name z) h1,congrArg Nat.succ h2,?_,congrArg Nat.succ h4⟩;show List.findIdx? _ ((false,_)::_)=none;rw[List.findIdx?_cons];simp[h3]
theorem hV {env:Env}: ∀(xs:List Str),O7 env (xs.map fun n=>bindName env n) xs
 |[]=>.nil
 |x::r=>.cons (fun M A v Q E s z=>wpAny_bindName z) (hV r)
section
variable {W:Wd} {C C₀:Cx} {X:Xs} {k:Nat} {env:Env} {sc:Scope} {oa oa' oa'':Option Addr} {σ σ':d9} {s₀ s s₁ s':Shared} {g:G} {n:Nat} {opn:Option Str} {h h' h'':Heap}
theorem j7.congr (f:j7 W C k env sc s₀ opn oa σ s) (e: ∀y,σ'.get y=σ.get y):j7 W C k env sc s₀ opn oa σ' s:=by
 refine e8 f.sit.st.vals fun m hm hv=> ?_;exact⟨f.step,⟨f.sit.wok,f.sit.ok,f.sit.wf,f.sit.sub,f.sit.xg,f.sit.live,f.sit.inv,f.sit.envOk,⟨f.sit.st.cells,m,hm,fun x v z=>hv x v ((e x).symm.trans z)⟩,f.sit.oaX⟩,f.newo,fun y v z=>f.only y v ((e y).symm.trans z)⟩
theorem kZ (F:M0 W C C₀ env sc s₀) (f:j7 W C k env sc s₀ opn oa σ s) (kp:u9 C env oa s.heap oa' h'):R4 (Xo C oa) s.heap h':=fun b o e n d=>by
 refine kp.keep b o e (fun m=>n (.inl (f.sit.ok.locs b m))) (fun t=> ?_) (fun x c hc q=> ?_) fun q=>n (.inr q)
 ·refine d6 (f.sit.inv.tabNone t) fun ps z=> ?_;rw[z] at e;injection e with e;subst e;rcases d.1 with q|q|q|q<;>cases q
 ·refine r0 (f.sit.st.cells x (.inl ((F.kinds x).trans (F.cellk x c hc)))) fun c' v e1 z2t=> ?_;refine e8 z2t fun o' e2 e3=> ?_;clear z2t;rw[hc] at e1;injection e1 with e1;subst e1;rw[q,e2] at e;injection e with e;subst e;exact d.2 _ e3
noncomputable def F1 (opn:Option Str):d9->List Str->List V->R d9
 |σ,[],[]=>.ok σ
 |σ,x::xs,v::vs=>if v.open? =true/\opn≠some x then .stuck else F1 opn (σ.set x v) xs vs
 |_,_,_=>.stuck
theorem eG {opn:Option Str} {σ:d9} {x:Str} {xs:List Str} {v:V} {vs:List V}:F1 opn σ (x::xs) (v::vs)=if v.open? =true/\opn≠some x then .stuck else F1 opn (σ.set x v) xs vs:=rfl
theorem v7.keep_seq (hc:R4 X h h') (hs: ∀b o xs m,h.get? b=some o->o.data=.seq xs m->h'.get? b=some o): ∀{us:List Value} {vs:List V},v7 h X oa us vs->v7 h' X oa us vs
 |[],[],_=>trivial
 |u::us,v::vs,r=>by
  refine⟨?_,v7.keep_seq hc hs r.2⟩;rcases kB v with⟨ds,rfl⟩|q
  ·refine X2 r.1 fun b o vs n e1 e2 e3 e4 e5 e6=> ?_;exact⟨b,o,vs,n,e1,e2,hs b o _ _ e3 e5,e4,e5,e6.carry hc⟩
  ·exact B2.of ((r.1.plain q).carry hc)
noncomputable def XP (h h':Heap):Prop:= ∀b o xs m,h.get? b=some o->o.data=.seq xs m->h'.get? b=some o
theorem N5 (F:M0 W C C₀ env sc s₀) {ts:List (Value->Sem Unit)} {xs:List Str} (ht:O7 env ts xs): ∀{us:List Value} {vs:List V} {σ σ':d9} {s:Shared},j7 W C k env sc s₀ opn oa σ s->xs.all (h7 sc)=true->
  v7 s.heap (Xo C oa) oa us vs->F1 opn σ xs vs=.ok σ'->
  wpAny (model prog w) C.A (assignInOrder ts us) (fun Z s'=>j7 W C k env sc s₀ opn oa σ' s'/\u9 C env oa s.heap oa s'.heap/\XP s.heap s'.heap) (fun Z Z=>False) s:=by
 induction ht with
 |nil=>
  intro us vs σ σ' s f hs r hp;cases vs with
  |nil=>
   injection hp with hp;subst hp;cases us with
   |nil=>exact wpAny_assignInOrder_none ⟨f,.refl,fun Z Z Z Z e Z=>e⟩
   |cons=>cases r
  |cons=>injection hp
 |cons hx hr ih=>
  intro us vs σ σ' s f hs r hp;rcases vs with _|⟨v,vs⟩
  ·injection hp
  rcases us with _|⟨u,us⟩
  ·cases r
  rw[List.all_cons,Bool.and_eq_true] at hs;rw[eG] at hp;split at hp
  ·injection hp
  rename_i hv;refine wpAny_assignInOrder_more (hx _ _ _ _ _ _ (wpAny_mono (B5 F f (H1 hs.1) r.1 (fun z=>Decidable.not_not.mp fun y=>hv ⟨z,y⟩)) (fun Z s₁ q=> ?_) fun Z Z x=>x));refine n5 q fun f₁ kp ks=> ?_;clear q;exact wpAny_mono (ih f₁ hs.2 (r.2.keep_seq (kZ F f kp) ks) hp) (fun Z e7 q=>⟨q.1,kp.trans q.2.1,fun b o xs m e d=>q.2.2 b o xs m (ks b o xs m e d) d⟩) fun Z Z x=>x
theorem uB (F:M0 W C C₀ env sc s₀) (f:j7 W C k env sc s₀ opn oa σ s) {x:Str} (hx:opn=some x) {us:List Value} {ds:List V} (r:Rps s.heap (Xo C oa) us ds) {tk:Nat}:
  j7 W C k env sc s₀ opn (some s.heap.objs.size) (GE σ x) {s with heap:=s.heap.push {cls:=.type "list",data:=.seq us.toArray},toks:=tk}/\
  u9 C env oa s.heap (some s.heap.objs.size) (s.heap.push {cls:=.type "list",data:=.seq us.toArray})/\
  B2 (s.heap.push {cls:=.type "list",data:=.seq us.toArray}) (Xo C (some s.heap.objs.size)) (some s.heap.objs.size) (.ref s.heap.objs.size) (.olist ds):=by
 generalize ha:s.heap.objs.size=a;have an:s.heap.get? a=none:=A3 (Nat.le_of_eq ha);have new:(s.heap.push {cls:=.type "list",data:=.seq us.toArray}).get? a=some {cls:=.type "list",data:=.seq us.toArray}:=ha▸Heap.get?_push_size _ rfl;have st:k9 C s ({s with heap:=s.heap.push {cls:=.type "list",data:=.seq us.toArray},toks:=tk}:Shared):=.of_keep fun Z Z e=>Heap.get?_push_of_some _ e;have f₁:=f.step' st;have kx: ∀b,Xo C (some a) b->Xo C oa b\/ ∀o,s.heap.get? b=some o-> ¬I8 o:=fun b q=>by
  rcases q with q|q
  ·exact .inl (.inl q)
  ·injection q with q;subst q;exact .inr fun o e=>by rw[an] at e;injection e
 have nl: ∀b,C.X b->b≠a:=fun b q z=>by
  refine f8 (f.sit.live b (.inl q)) fun Z z1t=> ?_;refine d6 z1t fun o e=> ?_;clear z1t;rw[z,an] at e;injection e
 have push: ∀X',R4 X' s.heap (s.heap.push {cls:=.type "list",data:=.seq us.toArray}):=fun Z b o e Z Z=>Heap.get?_push_of_some _ e;have r':Rps (s.heap.push {cls:=.type "list",data:=.seq us.toArray}) (Xo C (some a)) us ds:=(r.more kx).carry (push _);have s0n:s₀.heap.get? a=none:=by
  cases q:s₀.heap.get? a with
  |none=>rfl
  |some o=>
   by_cases z:C.tb/\o4 a
   ·refine d6 (f.sit.inv.tabNone z.2) fun ps e=> ?_;rw[an] at e;injection e
   ·refine d6 (f.step.gr.slots a o q z) fun sl e=> ?_;rw[an] at e;injection e
 refine⟨⟨f₁.step,⟨f₁.sit.wok,f₁.sit.ok,f₁.sit.wf,fun b q=>.inl q,fun b q=> ?_,fun b q=> ?_,f₁.sit.inv,f₁.sit.envOk,?_,fun b q=>.inr q⟩,fun b q=> ?_,fun y v e o=> ?_⟩,?_,?_⟩
 ·rcases q with q|q
  ·exact f.sit.xg b (.inl q)
  ·injection q with q;subst q;exact F.notG s0n
 ·rcases q with q|q
  ·exact f₁.sit.live b (.inl q)
  ·injection q with q;subst q;exact⟨o6 f.sit.inv.tabs an,_,new⟩
 ·refine e8 f.sit.st.vals fun m hm hv=> ?_;have cell: ∀c v,s.heap.IsCell c v->(s.heap.push {cls:=.type "list",data:=.seq us.toArray}).IsCell c v:=fun c v ⟨oc,e,d⟩=>⟨oc,Heap.get?_push_of_some _ e,d⟩;refine⟨fun y hy=> ?_,m,A0 hm fun Z Z e=>Heap.get?_push_of_some _ e,fun y v e=> ?_⟩
  ·refine r0 (f.sit.st.cells y hy) fun c v q1 q2=> ?_;exact⟨c,v,q1,cell c v q2⟩
  ·rw[rF] at e;split at e
   ·injection e
   rename_i hy;refine e8 (hv y v e) fun u hu hk=> ?_;have hno:v.open? =false:=by
    cases hz:v.open? with
    |false=>rfl
    |true=>have:=f.only y v e hz;rw[hx] at this;exact absurd (Option.some.inj this).symm hy
   refine⟨u,.of (((hu.plain hno).more kx).carry (push _)),?_⟩;rcases hk with z|⟨z,c,z1,z2⟩
   ·exact .inl z
   ·exact .inr ⟨z,c,z1,cell c _ z2⟩
 ·injection q with q;subst q;exact⟨s0n,fun z=>nl _ z rfl⟩
 ·rw[rF] at e;split at e
  ·injection e
  ·exact f.only y v e o
 ·have kp:=f.keeps st;exact⟨kp.keep,kp.live,kp.codes,.inr fun b q=>by injection q with q;subst q;exact an⟩
 ·exact⟨a,_,us,0,rfl,rfl,new,⟨rfl,rfl⟩,rfl,r'⟩
end
section
variable {W:Wd} {C C₀:Cx} {X:Xs} {k:Nat} {env:Env} {sc:Scope} {oa oa' oa'':Option Addr} {σ σ':d9} {s₀ s s₁ s':Shared} {g:G} {n:Nat} {opn:Option Str} {h h' h'':Heap}
theorem U1 {a:Addr} {base:Heap} (kp: ∀b o,b≠a->h.get? b=some o->h'.get? b=some o): ∀{l:List Env},a∉l.filterMap (·.frame)->h.FunFrames base l->h'.FunFrames base l
 |[],_,_=>trivial
 |env::r,hn,z=>by
  refine n5 z fun hk z hr=> ?_;refine cR z fun L o hf hb ho hd=> ?_;rw[List.filterMap_cons,hf] at hn;simp only[List.mem_cons,not_or] at hn;exact⟨hk,⟨L,o,hf,hb,kp L o (Ne.symm hn.1) ho,hd⟩,U1 kp hn.2 hr⟩
theorem u9.but_new {a:Addr} (K:u9 C env oa h oa' h') (hn:h.get? a=none) (t:o3 h') (m:nN h' a) (kp: ∀b o,b≠a->h'.get? b=some o->h''.get? b=some o):u9 C env oa h oa' h'':=by
 have ne: ∀b o,h.get? b=some o->b≠a:=fun b o e q=>by rw[q,hn] at e;injection e
 refine⟨fun b o e q1 q2 q3 q4=>kp b o (ne b o e) (K.keep b o e q1 q2 q3 q4),fun b o e=> ?_,fun b o e q nc=>(K.codes b o e q nc).but t m kp,K.oaf⟩;refine d6 (K.live b o e) fun o' e'=> ?_;exact⟨o',kp b o' (ne b o e) e'⟩
noncomputable def Cx.plus (C:Cx) (a:Addr):Cx:={C with X:=fun b=>C.X b\/b=a}
theorem zN {a:Addr}:Gr (C.plus a) h h'↔Gr C h h':=⟨fun g=>⟨g.keep,g.slots,g.tabs,g.codes⟩,fun g=>⟨g.keep,g.slots,g.tabs,g.codes⟩⟩
theorem pU {a:Addr}:k9 (C.plus a) s s'↔k9 C s s':=⟨fun⟨h,t,e,g⟩=>⟨h,t,e,zN.mp g⟩,fun⟨h,t,e,g⟩=>⟨h,t,e,zN.mpr g⟩⟩
theorem uC {a:Addr}:aN W (C.plus a) h↔aN W C h:=⟨fun i=>⟨i.G,i.base,i.frames,i.tabs,i.Gl⟩,fun i=>⟨i.G,i.base,i.frames,i.tabs,i.Gl⟩⟩
theorem xS {a:Addr} (K:u9 (C.plus a) env oa h oa' h'):u9 C env oa h oa' h':=⟨K.keep,K.live,K.codes,K.oaf⟩
theorem LJ {a:Addr} (o:C.Ok k):(C.plus a).Ok k:=⟨o.frames,o.handled,o.depth,o.units,fun b m=>.inl (o.locs b m),o.tab,o.loct⟩
theorem GF {a:Addr} (F:M0 W C C₀ env sc s₀):M0 W (C.plus a) C₀ env sc s₀:=⟨F.fr,F.base,F.frame,F.kinds,F.inj,F.newL,F.newC,.inl F.XL,F.base₀,F.G₀,F.tabs₀,F.nofree,F.cellk⟩
theorem E5 (f:j7 W C k env sc s₀ opn oa σ s) {a:Addr} (an:s.heap.get? a=none):s₀.heap.get? a=none:=by
 cases q:s₀.heap.get? a with
 |none=>rfl
 |some o=>
  by_cases z:C.tb/\o4 a
  ·refine d6 (f.sit.inv.tabNone z.2) fun ps e=> ?_;rw[an] at e;injection e
  ·refine d6 (f.step.gr.slots a o q z) fun sl e=> ?_;rw[an] at e;injection e
theorem CA {a:Addr} {m:Str->Option Value} (F:M0 W C C₀ env sc s₀) (f:j7 W C k env sc s₀ opn oa σ s) (an:s.heap.get? a=none) (st:k9 C s s') (hm:s'.heap.Ns a m):j7 W (C.plus a) k env sc s₀ opn oa σ s':=by
 have f':=f.step' st;have sn:=E5 f an;have hsub: ∀b,C.X b->Xo (C.plus a) oa b:=fun b q=>.inl (.inl q);have kx: ∀b,Xo (C.plus a) oa b->Xo C oa b\/ ∀o,s.heap.get? b=some o-> ¬I8 o:=fun b q=>by
  rcases q with(q|q)|q
  ·exact .inl (.inl q)
  ·exact .inr fun o e=>by rw[q,an] at e;injection e
  ·exact .inl (.inr q)
 refine F6 (D4 hm) fun o es ep e Z=> ?_;refine⟨pU.mpr f'.step,⟨f.sit.wok,LJ f.sit.ok,⟨f.sit.wf.notab⟩,fun b q=>.inl q,fun b q=> ?_,fun b q=> ?_,uC.mpr f'.sit.inv,f.sit.envOk,(f.sit.st.more kx).gr f.sit.ok f.sit.inv st.gr hsub,fun b q=>.inr q⟩,fun b q=>⟨(f.newo b q).1,fun z=> ?_⟩,f.only⟩
 ·rcases q with(q|q)|q
  ·exact f.sit.xg b (.inl q)
  ·exact q▸F.notG sn
  ·exact f.sit.xg b (.inr q)
 ·rcases q with(q|q)|q
  ·exact f'.sit.live b (.inl q)
  ·exact⟨q▸o6 f.sit.inv.tabs an,q▸⟨o,e⟩⟩
  ·exact f'.sit.live b (.inr q)
 ·rcases z with z|z
  ·exact(f.newo b q).2 z
  ·refine f8 (f.sit.live b (.inr q)) fun Z z6t=> ?_;refine d6 z6t fun o' e'=> ?_;clear z6t;rw[z,an] at e';injection e'
theorem xT {a:Addr} {m:Str->Option Value} {tk:Nat} (F:M0 W C C₀ env sc s₀) (f:j7 W (C.plus a) k env sc s₀ opn oa σ s) (sn:s₀.heap.get? a=none) (hm:s.heap.Ns a m) (kp: ∀b,b≠a->h'.get? b=s.heap.get? b)
  (hX: ¬Xo C oa a) (okC:C.Ok k) (wf:W.Fits C) (hLa:env.locals≠a):j7 W C k env sc s₀ opn oa σ {s with heap:=h',toks:=tk}:=by
 refine F6 (D4 hm) fun od es ep e d=> ?_;have mu:nN s.heap a:=⟨od,e,.inl fun vs z=>by rw[d] at z;injection z⟩;have kp': ∀b o,b≠a->s.heap.get? b=some o->h'.get? b=some o:=fun b o n q=>(kp b n).trans q;have i:=uC.mp f.sit.inv;have hloc:a∉C.locs:=fun q=>hX (.inl (okC.locs a q));refine⟨?_,⟨f.sit.wok,okC,wf,fun b q=>.inl q,fun b q=>f.sit.xg b (q.elim (fun z=>.inl (.inl z)) .inr),fun b q=> ?_,?_,f.sit.envOk,?_,fun b q=>.inr q⟩,fun b q=>⟨(f.newo b q).1,fun z=>(f.newo b q).2 (.inl z)⟩,f.only⟩
 ·refine r0 (pU.mp f.step) fun y6 n7 I5 gr=> ?_;exact⟨h',tk,by rw[I5],gr.but sn F.tabs₀ (by rw[I5] at mu;exact mu) (by rw[I5] at kp';exact kp')⟩
 ·refine f8 (f.sit.live b (q.elim (fun z=>.inl (.inl z)) .inr)) fun nt z5t=> ?_;refine d6 z5t fun o' e'=> ?_;clear z5t;exact⟨nt,o',kp' b o' (fun z=>hX (z▸q)) e'⟩
 ·exact⟨fun b o q=>kp' b o (fun z=>by rw[z,F.notG sn] at q;injection q) (i.G b o q),fun b o q=>kp' b o (fun z=>by rw[z,F.notB sn] at q;injection q) (i.base b o q),U1 kp' hloc i.frames,i.tabs.but mu kp',i.Gl⟩
 ·refine e8 f.sit.st.vals fun mm hmm hv=> ?_;have cell: ∀c v,s.heap.IsCell c v->h'.IsCell c v:=fun c v ⟨oc,q,dd⟩=>⟨oc,kp' c oc (fun z=>by rw[z,e] at q;injection q with q;subst q;rw[d] at dd;injection dd) q,dd⟩;refine⟨fun y hy=> ?_,mm,?_,fun y v q=> ?_⟩
  ·refine r0 (f.sit.st.cells y hy) fun c v q1 q2=> ?_;exact⟨c,v,q1,cell c v q2⟩
  ·refine F6 hmm fun o es' ep' q r=> ?_;clear hmm;exact⟨o,es',ep',kp' _ _ hLa q,r⟩
  ·refine e8 (hv y v q) fun u hu hk=> ?_;refine⟨u,(hu.but kp (.inl (.inl (.inr rfl))) fun o' q vs n z=>by rw[e] at q;injection q with q;subst q;rw[d] at z;injection z).more fun b z=>.inl (z.elim (fun z=>.inl (.inl z)) .inr),?_⟩;rcases hk with z|⟨z,c,z1,z2⟩
   ·exact .inl z
   ·exact .inr ⟨z,c,z1,cell c _ z2⟩
theorem lA (hE: ∀n,I9 W n) (hg:C6 W k C.tb g) (F:M0 W C C₀ env sc s₀) (f:j7 W C k env sc s₀ opn oa σ s) (x:Str) (xp:Pos) (elt tg it:Expr) (ifs:List Expr) (csc:Scope) (lp p:Pos) (hs:h7 sc x=true) (ho:opn≠some x)
  (hsw:swapsWith (.ListComp elt [⟨tg,it,ifs,0⟩] csc lp) (some (.Name x xp)) p.line env=pure true):
  w5 ((ev g (n+1) false sc σ (.ListComp elt [⟨tg,it,ifs,0⟩] csc lp)).bind fun v=>(E8 opn σ x (.ListComp elt [⟨tg,it,ifs,0⟩] csc lp) v).map fun σ'=>(Fl.next,σ'))
   (fun Q E s=>wpAny (model prog w) C.A (exec (.Assign [.Name x xp] (.ListComp elt [⟨tg,it,ifs,0⟩] csc lp) p) env) Q E s) (A6 W C k env sc s₀ opn oa s) (F0 C C₀ env s₀) s:=by
 show w5 ((if (u6 sc csc &&X7 csc tg)=true then (ev g n false sc σ it).bind fun iv=>(s9 iv).bind fun items=>(D5 (F7 (ev g n false csc) (ev g n true csc) (i5 σ sc csc) tg elt ifs) items).map V.list else R.stuck).bind _) _ _ _ _;by_cases hc:(u6 sc csc &&X7 csc tg)=true
 case neg=>rw[if_neg hc];trivial
 rw[if_pos hc];rw[Bool.and_eq_true] at hc;refine Q1 (J7 hc.1) fun hn1 hn2 hn3 hn4=> ?_;have h1:=hO (n:=n) hE hg F f it;have rule: ∀(Q:Flow->Shared->Prop) (E:Value->Shared->Prop),ev g n false sc σ it≠.stuck->
   wpAny (model prog w) C.A (eval it env) (fun xv s₁=>wpAny (model prog w) C.A (pyIter xv) (fun it' e7=>wpAny (model prog w) C.A (newList []) (fun acc l6=>
    wpAny (model prog w) C.A (newFunctionEnv csc env.globals (F8 env csc.names []) [] env.qual none .none (some env)) (fun cenv C5=>
     codeAny (model prog w) C.A (.compStart (.ListComp elt [⟨tg,it,ifs,0⟩] csc lp) 0 it' acc {cenv with scope:=relabel csc env}) (compPost (model prog w) C.A E (some (assign (.Name x xp) env)) (fun Z s'=>Q .next s') acc cenv.locals) C5) E l6) E e7) E s₁) E s->
   wpAny (model prog w) C.A (exec (.Assign [.Name x xp] (.ListComp elt [⟨tg,it,ifs,0⟩] csc lp) p) env) Q E s:=by
  intro Q E hst hk;rw[exec_Assign_Name_used _ _ _ _ hsw];refine wpAny_bind (wpAny_standAt (wpAny_bind ?_));show wpAny _ C.A (do let _ <-comprehension (.ListComp elt [⟨tg,it,ifs,0⟩] csc lp) csc env _ (newList []) false (eval it env) (some (assign (.Name x xp) env))) _ _ s;exact wpAny_bind (wpAny_mono (wpAny_comprehension_free (use:=some (assign (.Name x xp) env)) (Q:=fun Z s'=>Q .next s') rfl (bX (g:=g) (n:=n) (sc:=sc) (σ:=σ) hst) (Y4 (R6 hc.1 f.sit.envOk f.sit.st)) hn4 hn2 hk) (fun Z s' hq=>wpAny_pure (wpAny_pure hq)) fun Z Z e=>e)
 cases hv:ev g n false sc σ it with
 |stuck=>trivial
 |err l=>
  rw[hv] at h1;exact rule _ _ (by rw[hv];exact fun z=>by injection z) (wpAny_mono h1 (fun Z Z x=>x.elim) fun Z Z x=>x)
 |ok iv=>
  rw[hv] at h1;show w5 (((s9 iv).bind fun items=>(D5 (F7 (ev g n false csc) (ev g n true csc) (i5 σ sc csc) tg elt ifs) items).map V.list).bind _) _ _ _ _;cases hi:s9 iv with
  |stuck=>trivial
  |err l=>exact absurd hi (fU _)
  |ok items=>
   show w5 (((D5 (F7 (ev g n false csc) (ev g n true csc) (i5 σ sc csc) tg elt ifs) items).map V.list).bind _) _ _ _ _;cases hp:D5 (F7 (ev g n false csc) (ev g n true csc) (i5 σ sc csc) tg elt ifs) items with
   |stuck=>trivial
   |err l=>exact absurd hp (aQ (fun Z Z=>kP) _ _)
   |ok ds=>
    show w5 ((E8 opn σ x (.ListComp elt [⟨tg,it,ifs,0⟩] csc lp) (.list ds)).map fun σ'=>(Fl.next,σ')) _ _ _ _;rw[show E8 opn σ x (.ListComp elt [⟨tg,it,ifs,0⟩] csc lp) (.list ds)=.ok (σ.set x (.list ds)) by unfold E8;rw[if_neg ho];rfl];refine rule _ _ (by rw[hv];exact fun z=>by injection z) (wpAny_mono h1 (fun xv s₁ q=> ?_) fun Z Z x=>x);have f₁:=f.step' q.1;refine kR (hE n) hg f₁.sit hc.1 hc.2 q.2 hi hp (fun acc Cc=>compPost (model prog w) C.A (fun Z Z=>False) (some (assign (.Name x xp) env)) (fun Z s'=>A6 W C k env sc s₀ opn oa s (.next,σ.set x (.list ds)) .next s') acc Cc) ?_;intro D Cc I e7 hDC sD sC sI st hn hl;refine d6 hn fun m hm=> ?_;clear hn;have sn:=E5 f₁ sC;have fp:=CA F f₁ sC st hm;refine X1 hl fun o ys mm e1 e2 e3 e4=> ?_;clear hl;have nX: ∀b,Xo C oa b->b≠Cc:=fun b z y=>by
     refine f8 (f₁.sit.live b z) fun Z z4t=> ?_;refine d6 z4t fun o' e'=> ?_;clear z4t;rw[y,sC] at e';injection e'
    have rD:Rp e7.heap (Xo (C.plus Cc) oa) (.ref D) (.list ds):=.list (vs:=ys) e1 e2 e3 (fun z=>by
     rcases z with(z|z)|z
     ·refine f8 (f₁.sit.live D (.inl z)) fun Z z3t=> ?_;refine d6 z3t fun o' e'=> ?_;clear z3t;rw[sD] at e';injection e'
     ·exact hDC z
     ·refine f8 (f₁.sit.live D (.inr z)) fun Z z2t=> ?_;refine d6 z2t fun o' e'=> ?_;clear z2t;rw[sD] at e';injection e') (e4.less fun b z=>by
      rcases z with(z|z)|z
      ·exact .inl (.inl z)
      ·exact .inr (.inl z)
      ·exact .inl (.inr z))
    show wpAny (model prog w) C.A (assign (.Name x xp) env (.ref D)) _ _ e7;refine wpAny_assign_Name (wpAny_mono (B5 (GF F) fp (H1 hs) (.of rD) (fun z=>by injection z)) (fun Z l6 P1=> ?_) fun Z Z x=>x);refine n5 P1 fun E4 wI Z=> ?_;clear P1;have ntC: ¬o4 Cc:=o6 f₁.sit.inv.tabs sC;refine F6 (D4 hm) fun oC es ep eC dC=> ?_;have hCloc:Cc∉C.locs:=fun z=>nX Cc (.inl (f.sit.ok.locs Cc z)) rfl;have JN:l6.heap.Ns Cc m:=by
     refine F6 hm fun o' es' ep' e' r'=> ?_;clear hm;refine⟨o',es',ep',wI.keep Cc o' e' hCloc ntC (fun y c hc q=> ?_) (fun q=>nX Cc (.inr q) rfl),r'⟩;refine r0 (fp.sit.st.cells y (.inl ((F.kinds y).trans (F.cellk y c hc)))) fun c' v y1 z1t=> ?_;refine e8 z1t fun o'' y2 y3=> ?_;clear z1t;rw[hc] at y1;injection y1 with y1;subst y1;rw[<-q,eC] at y2;injection y2 with y2;subst y2;rw[dC] at y3;injection y3
    have hLC:env.locals≠Cc:=fun z=>nX _ (.inl F.XL) z;refine⟨m,JN,fun h' hsb=>⟨oa,xT (tk:=l6.toks) F E4 sn JN hsb.2 (fun z=>nX Cc z rfl) f.sit.ok f.sit.wf hLC,?_,rfl⟩⟩;have UY:nN l6.heap Cc:=by
     refine F6 (D4 JN) fun o' es' ep' e' d'=> ?_;exact⟨o',e',.inl fun vs z=>by rw[d'] at z;injection z⟩
    have cK:u9 C env oa s₁.heap oa e7.heap:=.of_gr f₁.sit.inv.tabs st.gr;have K:u9 C env oa s₁.heap oa l6.heap:=cK.trans (xS wI);exact(f.keeps q.1).trans (K.but_new sC E4.sit.inv.tabs UY fun b o nb e=>(hsb.2 b nb).trans e)
end
section
variable {W:Wd} {C C₀:Cx} {X:Xs} {k:Nat} {env:Env} {sc:Scope} {oa oa' oa'':Option Addr} {σ σ':d9} {s₀ s s₁ s':Shared} {g:G} {n:Nat} {opn:Option Str} {h h' h'':Heap}
theorem Z8 (hE: ∀n,I9 W n) (hg:C6 W k C.tb g) (F:M0 W C C₀ env sc s₀) (f:j7 W C k env sc s₀ opn oa σ s) (x:Str) (xp:Pos) (e:Expr) (p:Pos) (hs:h7 sc x=true) (ho:opn≠some x)
  (hsw:swapsWith e (some (.Name x xp)) p.line env=pure false):
  w5 ((ev g n false sc σ e).bind fun v=>(E8 opn σ x e v).map fun σ'=>(Fl.next,σ'))
   (fun Q E s=>wpAny (model prog w) C.A (exec (.Assign [.Name x xp] e p) env) Q E s) (A6 W C k env sc s₀ opn oa s) (F0 C C₀ env s₀) s:=by
 refine Ou.bind (fun Q E h=>wpAny_Assign_Name h hsw) (hO hE hg F f e) fun d v s₁ Z q=> ?_;have f₁:=f.step' q.1;unfold E8;rw[if_neg ho];by_cases hop:d.open? =true
 ·rw[if_pos hop];trivial
 rw[if_neg hop];refine wpAny_mono (B5 F f₁ (H1 hs) q.2 (fun z=>absurd z hop)) (fun Z e7 B9=> ?_) fun Z Z x=>x;exact⟨oa,B9.1,(f.keeps q.1).trans B9.2.1,rfl⟩
theorem zO (σ:d9) (x:Str) (v:V) (y:Str):(σ.set x v).get y=((GE σ x).set x v).get y:=by
 rw[k7,k7,rF];split<;>rfl
theorem lB (hE: ∀n,I9 W n) (hg:C6 W k C.tb g) (F:M0 W C C₀ env sc s₀) (f:j7 W C k env sc s₀ opn oa σ s) (x:Str) (xp:Pos) (es:List Expr) (lp p:Pos) (hs:h7 sc x=true) (ho:opn=some x):
  w5 ((ev g n false sc σ (.List es lp)).bind fun v=>(E8 opn σ x (.List es lp) v).map fun σ'=>(Fl.next,σ'))
   (fun Q E s=>wpAny (model prog w) C.A (exec (.Assign [.Name x xp] (.List es lp) p) env) Q E s) (A6 W C k env sc s₀ opn oa s) (F0 C C₀ env s₀) s:=by
 cases n with
 |zero=>trivial
 |succ n=>
 have hm:=(Q4 (hE n) hg lp es f.sit).mono (E':=F0 C C₀ env s₀) (fun Z Z Z Z p=>p) fun Z Z Z Z p=>fV F f p;rw[show(ev g (n+1) false sc σ (.List es lp))=(C0 (ev g n false sc σ) es).bind fun vs=>(N2 vs).map V.list by
  show((C0 (ev g n false sc σ) es).bind N2).map V.list=_;cases C0 (ev g n false sc σ) es<;>rfl]
 rw[R.bind_assoc];refine Ou.bind (F:=fun vs Q E s₁=>vs.length<=sizeLine/\wpAny (model prog w) C.A (storeName env x (.ref s₁.heap.objs.size)) (fun Z=>Q .next) E {s₁ with heap:=s₁.heap.push {cls:=.type "list",data:=.seq vs.toArray}})
  (fun Q E h=>wpAny_Assign_Name (wpAny_List h)) hm fun ds us s₁ Z q=> ?_
 have f₁:=f.step' q.1;have sq:=jE f₁.sit q.2;cases hsq:N2 ds with
 |stuck=>trivial
 |err l=>rw[hsq] at sq;exact sq.elim
 |ok bs=>
  rw[hsq] at sq;refine n5 sq fun z6r r hz=> ?_;clear sq;subst z6r;show w5 ((E8 opn σ x (.List es lp) (.list bs)).map fun σ'=>(Fl.next,σ')) _ _ _ _;rw[show E8 opn σ x (.List es lp) (.list bs)=.ok (σ.set x (.olist bs)) by unfold E8;rw[if_pos ho];rfl];refine n5 (uB (tk:=s₁.toks) F f₁ ho r) fun n8 K ro=> ?_;refine⟨hz,?_⟩;refine wpAny_mono (B5 F n8 (H1 hs) ro (fun Z=>ho)) (fun Z e7 B9=> ?_) fun Z Z x=>x;exact⟨_,B9.1.congr fun y=>zO σ x _ y,(f.keeps q.1).trans (K.trans B9.2.1),rfl⟩
noncomputable def aU:Expr->Bool
 | .ListComp .. | .SetComp .. | .DictComp .. =>true
 |_=>false
theorem H3 {e:Expr} {t:Option Expr} {l:Nat} (h:aU e=false):swapsWith e t l env=pure false:=by
 cases e<;>first|rfl|exact absurd h.symm Bool.false_ne_true
noncomputable def PT (g:G) (e:Expr):Prop:=(∃elt gens csc lp,e=.ListComp elt gens csc lp)\/ ∀n sc σ,ev g n false sc σ e=.stuck
theorem zP {e:Expr} (h:aU e=true):PT g e:=by
 cases e<;>first|exact absurd h Bool.false_ne_true|exact .inl ⟨_,_,_,_,rfl⟩|exact .inr fun n sc σ=>by cases n<;>rfl
theorem zQ {e:Expr} (h:O2 e=true): ∃es lp,e=.List es lp:=by
 cases e<;>first|exact absurd h Bool.false_ne_true|exact⟨_,_,rfl⟩
theorem GG {elt:Expr} {gens:List Comprehension} {csc:Scope} {lp:Pos} (h:ev g (n+1) false sc σ (.ListComp elt gens csc lp)≠.stuck): ∃tg it ifs,gens=[⟨tg,it,ifs,0⟩]:=by
 rcases gens with _|⟨⟨tg,it,ifs,a⟩,_|_⟩
 ·exact absurd rfl h
 ·by_cases ha:a=0
  ·exact⟨tg,it,ifs,ha▸rfl⟩
  ·refine absurd ?_ h;show(if _ then (if a=0 then _ else _) else _)=_;rw[if_neg ha,ite_self]
 ·exact absurd rfl h
theorem fW {α β γ:Type} {r:R α} {f:α->R γ} {G:Tr β} {P:γ->β->Shared->Prop} {E:Int->Value->Shared->Prop} (h:r≠.stuck->w5 (r.bind f) G P E s):w5 (r.bind f) G P E s:=by
 cases r with
 |stuck=>trivial
 |_=>exact h nofun
theorem CB (hE: ∀n,I9 W n) (hg:C6 W k C.tb g) (F:M0 W C C₀ env sc s₀) (f:j7 W C k env sc s₀ opn oa σ s) (x:Str) (xp:Pos) (e:Expr) (p:Pos):
  w5 (ex g opn sc (n+1) σ (.Assign [.Name x xp] e p)) (fun Q E s=>wpAny (model prog w) C.A (exec (.Assign [.Name x xp] e p) env) Q E s) (A6 W C k env sc s₀ opn oa s) (F0 C C₀ env s₀) s:=by
 show w5 (if h7 sc x=true/\(opn=some x->O2 e=true) then (ev g n false sc σ e).bind fun v=>(E8 opn σ x e v).map fun σ'=>(Fl.next,σ') else .stuck) _ _ _ _;refine w5.guard fun hc=> ?_;by_cases ho:opn=some x
 ·refine C1 (zQ (hc.2 ho)) fun es lp z5r=> ?_;subst z5r;exact lB hE hg F f x xp es lp p hc.1 ho
 ·cases hk:aU e with
  |false=>exact Z8 (n:=n) hE hg F f x xp e p hc.1 ho (H3 hk)
  |true=>
   refine fW fun hne=> ?_;rcases zP (g:=g) hk with⟨elt,gens,csc,lp,rfl⟩|z
   ·cases n with
    |zero=>exact absurd rfl hne
    |succ n=>
     refine wR (GG hne) fun tg it ifs z4r=> ?_;subst z4r;obtain⟨b,hsw⟩: ∃b,swapsWith (.ListComp elt [⟨tg,it,ifs,0⟩] csc lp) (some (.Name x xp)) p.line env=pure b:=⟨_,rfl⟩;cases b with
     |false=>exact Z8 hE hg F f x xp _ p hc.1 ho hsw
     |true=>exact lA hE hg F f x xp elt tg it ifs csc lp p hc.1 ho hsw
   ·exact absurd (z _ _ _) hne
theorem eH (f:Expr->Option Str) (hf: ∀x p,f (.Name x p)=some x\/f (.Name x p)=none): ∀{ts:List Expr} {xs:List Str},G4 ts=some xs->
  (ts.filterMap f).length<=ts.length/\((ts.filterMap f).length=ts.length->ts.filterMap f=xs)
 |[],xs,h=>⟨Nat.le_refl _,fun Z=>Option.some.inj h⟩
 |t::r,xs,h=>by
  refine nK (dT h) fun x p ys z2r hr z3r=> ?_;subst z2r;subst z3r;refine f8 (eH f hf hr) fun h1 h2=> ?_;rw[List.filterMap_cons];rcases hf x p with e|e
  ·rw[e];exact⟨Nat.succ_le_succ h1,fun q=>by rw[h2 (Nat.succ.inj q)]⟩
  ·rw[e];exact⟨Nat.le_succ_of_le h1,fun q=>absurd h1 (Nat.not_le.mpr (q▸Nat.lt_succ_self r.length))⟩
theorem xU {env:Env} {ts es:List Expr} {j j':Nat} {p p':Pos} {xs:List Str} (hn:G4 ts=some xs) (hf:aM es=true):
  swappedStores [.Tuple ts j p] (.Tuple es j' p') env=pure none\/(swappedStores [.Tuple ts j p] (.Tuple es j' p') env=pure (some xs)/\(ts.length=2\/ts.length=3)/\es.length=ts.length):=by
 unfold aM at hf;rw[Bool.or_eq_true,Bool.not_eq_true'] at hf;unfold swappedStores;dsimp only;split
 ·exact .inl rfl
 rename_i h1;rw[Bool.or_eq_true,Bool.or_eq_true,not_or,not_or] at h1;refine f8 h1 fun z1n Z=> ?_;clear h1;refine f8 z1n fun h1 h2=> ?_;clear z1n;have h2:es.length=ts.length:=by simpa using h2
 have h1:ts.length=2\/ts.length=3:=by
  have:=h1;simp at this;exact q78 this
 split
 ·exact .inl rfl
 split
 ·exact .inl rfl
 rename_i h4;rw[Bool.or_eq_true,not_or] at h4;have h4:=h4.1;split
 ·exact .inl rfl
 rename_i h5;split
 ·rename_i h6;rcases hf with z|z
  ·rw[h6] at z;injection z
  ·exact absurd z h5
 ·refine .inr ⟨congrArg (fun z=>(pure (some z):Sem (Option (List Str)))) ((eH _ (fun x p=> ?_) hn).2 (by have:=h4;rw[bne_iff_ne,ne_eq,Decidable.not_not] at this;exact this)),h1,h2⟩;dsimp only;split
  ·exact .inl rfl
  ·exact .inr rfl
end
section
variable {W:Wd} {C C₀:Cx} {X:Xs} {k:Nat} {env:Env} {sc:Scope} {oa oa' oa'':Option Addr} {σ σ':d9} {s₀ s s₁ s':Shared} {g:G} {n:Nat} {opn:Option Str} {h h' h'':Heap}
theorem cY: ∀{xs:List Str} {vs:List V} {σ σ':d9},F1 opn σ xs vs=.ok σ'->xs.length=vs.length
 |[],[],_,_,_=>rfl
 |[],_::_,_,_,h=>by injection h
 |_::_,[],_,_,h=>by injection h
 |x::xs,v::vs,σ,σ',h=>by
  rw[eG] at h;split at h
  ·injection h
  ·rw[List.length_cons,List.length_cons,cY h]
theorem aV: ∀{xs:List Str} {vs:List V} {σ σ':d9},N3 σ xs vs=.ok σ'->F1 opn σ xs vs=.ok σ'
 |[],[],_,_,h=>h
 |[],_::_,_,_,h=>by injection h
 |_::_,[],_,_,h=>by injection h
 |x::xs,v::vs,σ,σ',h=>by
  rw[tF] at h;rw[eG];split at h
  ·injection h
  ·rename_i q;rw[if_neg (fun z=>q z.1)];exact aV h
theorem aW {x:Str} {xs:List Str} {e:Expr} {es:List Expr} {v:V} {vs:List V}:U7 opn σ (x::xs) (e::es) (v::vs)=
  if opn=some x then (match v with
   | .list ds=>if O2 e &&vs.all oU then N3 (σ.set x (.olist ds)) xs vs else .stuck
   |_=>.stuck)
  else if (x::xs).any (fun y=>opn==some y) then .stuck else N3 σ (x::xs) (v::vs):=rfl
theorem eJ: ∀{xs:List Str} {vs:List V} {σ:d9} {l:Int},N3 σ xs vs≠.err l:=by
 intro xs;induction xs with
 |nil=>intro vs σ l h;cases vs<;>cases h
 |cons x xs ih=>
  intro vs σ l h;cases vs with
  |nil=>injection h
  |cons v vs=>
   rw[tF] at h;split at h
   ·injection h
   ·exact ih h
theorem eM: ∀{xs:List Str} {vs:List V} {nJ σ₂ σ':d9},(∀y,nJ.get y=σ₂.get y)->F1 opn nJ xs vs=.ok σ'-> ∃W9,F1 opn σ₂ xs vs=.ok W9/\ ∀y,σ'.get y=W9.get y
 |[],[],_,_,_,e,h=>by injection h with h;subst h;exact⟨_,rfl,e⟩
 |[],_::_,_,_,_,_,h=>by injection h
 |_::_,[],_,_,_,_,h=>by injection h
 |x::xs,v::vs,nJ,σ₂,σ',e,h=>by
  rw[eG] at h ⊢;split at h
  ·injection h
  ·rename_i q;rw[if_neg q];exact eM (fun y=>by rw[k7,k7,e]) h
noncomputable def okQ (opn:Option Str) (x:Str) (v:V):Prop:= ¬(v.open? =true/\opn≠some x)
theorem aY {x:Str} {xs:List Str} {v:V} {vs:List V} {σ σ':d9} (h:F1 opn σ (x::xs) (v::vs)=.ok σ'):okQ opn x v/\F1 opn (σ.set x v) xs vs=.ok σ':=by
 unfold F1 at h;by_cases q:v.open? =true/\opn≠some x
 ·rw[if_pos q] at h;injection h
 ·rw[if_neg q] at h;exact⟨q,h⟩
theorem L3 {x:Str} {xs:List Str} {v:V} {vs:List V} {σ:d9} (q:okQ opn x v):F1 opn σ (x::xs) (v::vs)=F1 opn (σ.set x v) xs vs:=if_neg q
theorem eN {σ:d9} {x y:Str} {a b:V} (h:x≠y) (z:Str):((σ.set x a).set y b).get z=((σ.set y b).set x a).get z:=by
 rw[k7,k7,k7,k7];by_cases h1:z=x
 ·rw[h1,if_neg h,if_pos rfl,if_pos rfl]
 ·rw[if_neg h1,if_neg h1]
theorem uD {σ σ':d9} {x:Str} {a:V} (h: ∀z,σ.get z=σ'.get z) (z:Str):(σ.set x a).get z=(σ'.set x a).get z:=by
 rw[k7,k7,h]
theorem cZ {xs:List Str} {vs:List V} {σ σ':d9} (h:F1 opn σ xs vs=.ok σ') (hn:xs.Nodup) (hl:xs.length=2\/xs.length=3): ∃W9,F1 opn σ xs.reverse vs.reverse=.ok W9/\ ∀y,σ'.get y=W9.get y:=by
 have hlen:=cY h;rcases xs with _|⟨x,_|⟨y,r⟩⟩
 ·exact hl.elim nofun nofun
 ·exact hl.elim nofun nofun
 rcases vs with _|⟨a,_|⟨b,vs⟩⟩
 ·cases hlen
 ·cases hlen
 refine f8 (aY h) fun ha h=> ?_;refine f8 (aY h) fun hb h=> ?_;refine f8 (List.nodup_cons.mp hn) fun n1 n2=> ?_;have hxy:x≠y:=fun e=>n1 (e▸.head _);rcases r with _|⟨u,_|_⟩
 ·rcases vs with _|_
  ·rw[<-v1 h];exact⟨(σ.set y b).set x a,(L3 hb).trans (L3 ha),eN hxy⟩
  ·cases hlen
 ·rcases vs with _|⟨c,_|_⟩
  ·cases hlen
  ·refine f8 (aY h) fun hc h=> ?_;rw[<-v1 h];have hxu:x≠u:=fun e=>n1 (e▸.tail _ (.head _));have hyu:y≠u:=fun e=>(List.nodup_cons.mp n2).1 (e▸.head _);exact⟨((σ.set u c).set y b).set x a,(L3 hc).trans ((L3 hb).trans (L3 ha)),fun z=>((uD (eN hxy) z).trans (eN hxu z)).trans (uD (eN hyu) z)⟩
  ·cases hlen
 ·exact hl.elim nofun nofun
theorem v7.append: ∀{us us':List Value} {vs vs':List V},v7 h X oa us vs->v7 h X oa us' vs'->v7 h X oa (us++us') (vs++vs')
 |[],_,[],_,_,b=>b
 |_::_,_,_::_,_,a,b=>⟨a.1,v7.append a.2 b⟩
theorem v7.rev {us:List Value} {vs:List V} (r:v7 h X oa us vs):v7 h X oa us.reverse vs.reverse:=by
 induction us generalizing vs with
 |nil=>cases vs with|nil=>trivial|cons=>cases r
 |cons u us ih=>
  cases vs with
  |nil=>cases r
  |cons v vs=>
   rw[List.reverse_cons,List.reverse_cons];exact(ih r.2).append ⟨r.1,trivial⟩
theorem v7.len: ∀{us:List Value} {vs:List V},v7 h X oa us vs->us.length=vs.length
 |[],[],_=>rfl
 |_::_,_::_,r=>by rw[List.length_cons,List.length_cons,v7.len r.2]
theorem LK {u:Value} {v:V} {X':Xs} {JO:Option Addr} (hf:oU v=true) (r:B2 h X oa u v):B2 h' X' JO u v:=by
 cases v with
 |none=>rw[bU r];exact .none
 |bool _=>rw[M2 r];exact .bool _
 |int _=>refine d6 (A2 r) fun Z e=> ?_;rw[e];exact .int _ _
 |str _=>refine d6 (t8 r) fun Z e=> ?_;rw[e];exact .str _ _
 |bytes _=>refine f8 (R5 r) fun z5n q=> ?_;refine d6 z5n fun Z e=> ?_;clear z5n;rw[e];exact .bytes _ _ q
 |_=>exact absurd hf Bool.false_ne_true
theorem uE {X':Xs} {JO:Option Addr}: ∀{us:List Value} {vs:List V},vs.all oU=true->v7 h X oa us vs->v7 h' X' JO us vs
 |[],[],_,_=>trivial
 |_::_,_::_,hf,r=>by
  rw[List.all_cons,Bool.and_eq_true] at hf;exact⟨LK hf.1 r.1,uE hf.2 r.2⟩
theorem pV (F:M0 W C C₀ env sc s₀) {ts:List Expr} {j:Nat} {tp:Pos} {xs:List Str} (hn:G4 ts=some xs) {T:Addr} {us:List Value} (f:j7 W C k env sc s₀ opn oa σ s) (hT:IsTup s.heap T us.toArray) (hlen:us.length=xs.length):
  (∀{Q:Flow->Shared->Prop} {E:Value->Shared->Prop},(∀h' rts,O7 env rts xs->(∀b o,s.heap.get? b=some o->h'.get? b=some o)->wpAny (model prog w) C.A (assignInOrder rts us) (fun Z=>Q .next) E {s with heap:=h'})->
   wpAny (model prog w) C.A (assign (.Tuple ts j tp) env (.ref T)) (fun Z=>Q .next) E s)/\
  (∀{Q:Flow->Shared->Prop} {E:Value->Shared->Prop},(∀h' rts,O7 env rts xs.reverse->(∀b o,s.heap.get? b=some o->h'.get? b=some o)->wpAny (model prog w) C.A (assignInOrder rts us.reverse) (fun Z=>Q .next) E {s with heap:=h'})->
   wpAny (model prog w) C.A (unpackItems (.ref T) xs.length none) (fun items e7=>wpAny (model prog w) C.A (assignInOrder (xs.reverse.map fun n=>bindName env n) items.reverse) (fun Z=>Q .next) E e7) E s):=by
 refine Q1 (cX (env:=env) hn) fun t1 t2 t3 t4=> ?_;refine⟨fun {Q E} hk=> ?_,fun {Q E} hk=> ?_⟩
 ·refine wpAny_assign_Tuple f.sit.ok.handled (x9 hT) (by rw[t2];simp;exact r16 hlen t4) t3 fun h' he=> ?_;exact hk h' _ t1 fun b o e=>he b o (Nat.ne_of_lt (Heap.lt_size e)) e
 ·have:=wpAny_unpackItems_tuple (prog:=prog) (w:=w) (A:=C.A) (E:=E) (s:=s) (Q:=fun items e7=>wpAny (model prog w) C.A (assignInOrder (xs.reverse.map fun n=>bindName env n) items.reverse) (fun Z=>Q .next) E e7) f.sit.ok.handled (x9 hT)
   fun h' he=>hk h' _ (hV _) fun b o e=>he b o (Nat.ne_of_lt (Heap.lt_size e)) e
  rw[show us.toArray.size=xs.length by simp;omega] at this;exact this
noncomputable def TU (W:Wd) (C:Cx) (k:Nat) (env:Env) (sc:Scope) (s₀:Shared) (opn:Option Str) (xs:List Str) (Q:Flow->Shared->Prop) (E:Value->Shared->Prop) (us:List Value) (s₁:Shared):Prop:=
 us.length<=sizeLine/\us.length=xs.length/\(∃oa' σ',j7 W C k env sc s₀ opn oa' σ' s₁)/\
  ∀i8 rts,(∀b o,(s₁.heap.push {cls:=.type "tuple",data:=.seq us.toArray}).get? b=some o->i8.get? b=some o)->
   (O7 env rts xs->wpAny (model prog w) C.A (assignInOrder rts us) (fun Z=>Q .next) E {s₁ with heap:=i8})/\
   (O7 env rts xs.reverse->(xs.length=2\/xs.length=3)->wpAny (model prog w) C.A (assignInOrder rts us.reverse) (fun Z=>Q .next) E {s₁ with heap:=i8})
section
variable {xs:List Str} {ts es:List Expr} {j j':Nat} {tp ep p:Pos}
theorem Y7 (F:M0 W C C₀ env sc s₀) (hn:G4 ts=some xs) (hfo:aM es=true) (Q:Flow->Shared->Prop) (E:Value->Shared->Prop)
  (hk:wpAny (model prog w) C.A (spliced (backTo ep (starEach es env))) (TU W C k env sc s₀ opn xs Q E) E s):wpAny (model prog w) C.A (exec (.Assign [.Tuple ts j tp] (.Tuple es j' ep) p) env) Q E s:=by
 have tl:=(cX (env:=env) hn).2.2.2;rcases xU (env:=env) (j:=j) (j':=j') (p:=tp) (p':=ep) hn hfo with sw|⟨sw,s2,s3⟩
 ·refine Assign_Tuple (wpAny_Tuple (wpAny_mono hk (fun us s₁ q=> ?_) fun Z Z x=>x)) rfl sw;refine Q1 q fun q1 q2 z4n q4=> ?_;clear q;refine C1 z4n fun oa' σ' f₁=> ?_;clear z4n;have n8:=f₁.step' (s₁:={s₁ with heap:=s₁.heap.push {cls:=.type "tuple",data:=.seq us.toArray}}) (.of_keep fun Z Z e=>Heap.get?_push_of_some _ e);exact⟨q1,(pV (tp:=tp) (j:=j) F hn n8 ⟨_,Heap.get?_push_size _ rfl,rfl,0,rfl⟩ q2).1 fun h' rts ht kp=>(q4 h' rts kp).1 ht⟩
 ·refine Assign_Tuple_swapped (wpAny_Tuple (wpAny_mono hk (fun us s₁ q=> ?_) fun Z Z x=>x)) rfl sw;refine Q1 q fun q1 q2 z3n q4=> ?_;clear q;refine C1 z3n fun oa' σ' f₁=> ?_;clear z3n;have n8:=f₁.step' (s₁:={s₁ with heap:=s₁.heap.push {cls:=.type "tuple",data:=.seq us.toArray}}) (.of_keep fun Z Z e=>Heap.get?_push_of_some _ e);exact⟨q1,(pV (tp:=tp) (j:=j) F hn n8 ⟨_,Heap.get?_push_size _ rfl,rfl,0,rfl⟩ q2).2 fun h' rts ht kp=>(q4 h' rts kp).2 ht (tl▸s2)⟩
theorem pW (F:M0 W C C₀ env sc s₀) (hnd:xs.Nodup) (hst:xs.all (h7 sc)=true) (h8:xs.length<=8) {us:List Value} {vsb:List V} {σb AP σ':d9} {wQ:Option Addr} {s₁:Shared} (f₁:j7 W C k env sc s₀ opn wQ σb s₁)
  (K:u9 C env oa s.heap wQ s₁.heap) (r:v7 s₁.heap (Xo C wQ) wQ us vsb) (hq:F1 opn σb xs vsb=.ok AP) (he: ∀y,σ'.get y=AP.get y):
  TU W C k env sc s₀ opn xs (A6 W C k env sc s₀ opn oa s (.next,σ')) (fun Z Z=>False) us s₁:=by
 have hul:us.length=xs.length:=r.len.trans (cY hq).symm;refine⟨hul▸Nat.le_trans h8 (by decide),hul,⟨_,_,f₁⟩,fun i8 rts kp=> ?_⟩;have st:k9 C s₁ ({s₁ with heap:=i8}:Shared):=⟨i8,s₁.toks,rfl,.of_keep fun b o e=>kp b o (Heap.get?_push_of_some _ e)⟩;have n8:=f₁.step' st;have aG:=f₁.sit.keepsO st r;have cK:=K.trans (f₁.keeps st);refine⟨fun ht=> ?_,fun ht hl=> ?_⟩
 ·exact wpAny_mono (N5 F ht n8 hst aG hq) (fun Z l6 q=>⟨wQ,q.1.congr he,cK.trans q.2.1,rfl⟩) fun Z Z x=>x
 ·refine e8 (cZ hq hnd hl) fun W9 hq' he'=> ?_;exact wpAny_mono (N5 F ht n8 (List.all_reverse.trans hst) aG.rev hq') (fun Z l6 q=>⟨wQ,q.1.congr fun y=>(he y).trans (he' y),cK.trans q.2.1,rfl⟩) fun Z Z x=>x
variable (hE: ∀n,I9 W n) (hg:C6 W k C.tb g) (F:M0 W C C₀ env sc s₀) (f:j7 W C k env sc s₀ opn oa σ s) (hn:G4 ts=some xs) (hc:xs.Nodup/\aM es=true/\xs.all (h7 sc)=true/\xs.length<=8)
include hE hg F f hn hc
theorem U2 (hP: ∀vs,U7 opn σ xs es vs=.stuck\/U7 opn σ xs es vs=N3 σ xs vs):w5 ((C0 (ev g n false sc σ) es).bind fun vs=>(U7 opn σ xs es vs).map fun σ'=>(Fl.next,σ'))
  (fun Q E s=>wpAny (model prog w) C.A (exec (.Assign [.Tuple ts j tp] (.Tuple es j' ep) p) env) Q E s) (A6 W C k env sc s₀ opn oa s) (F0 C C₀ env s₀) s:=by
 have hm:=(Q4 (hE n) hg ep es f.sit).mono (E':=F0 C C₀ env s₀) (fun Z Z Z Z p=>p) fun Z Z Z Z p=>fV F f p;refine Ou.bind (fun Q E h=>Y7 (k:=k) (opn:=opn) F hn hc.2.1 Q E h) hm fun vs us s₁ Z q=> ?_;rcases hP vs with e|e
 ·rw[e];trivial
 rw[e];cases hp:N3 σ xs vs with
 |stuck=>trivial
 |err l=>exact absurd hp eJ
 |ok σ'=>exact pW F hc.1 hc.2.2.1 hc.2.2.2 (f.step' q.1) (f.keeps q.1) q.2 (aV hp) fun Z=>rfl
end
theorem CC {aC es:List Expr} {lp:Pos} {K:List V->R (Fl×d9)}:(C0 (ev g (n+1) false sc σ) (.List aC lp::es)).bind K=
  (C0 (ev g n false sc σ) aC).bind fun ds=>(N2 ds).bind fun ds=>(C0 (ev g (n+1) false sc σ) es).bind fun vs=>K (.list ds::vs):=by
 show((((C0 (ev g n false sc σ) aC).bind N2).map V.list).bind fun y=>(C0 (ev g (n+1) false sc σ) es).map (y:: ·)).bind _=_;cases C0 (ev g n false sc σ) aC with
 |ok ds=>
  show(((N2 ds).map V.list).bind fun y=>(C0 (ev g (n+1) false sc σ) es).map (y:: ·)).bind _=(N2 ds).bind _;cases N2 ds with
  |ok ds=>
   show((C0 (ev g (n+1) false sc σ) es).map (V.list ds:: ·)).bind _=(C0 (ev g (n+1) false sc σ) es).bind _;cases C0 (ev g (n+1) false sc σ) es<;>rfl
  |_=>rfl
 |_=>rfl
theorem xV {x:Str} {xs:List Str} {ts aC es:List Expr} {j j':Nat} {tp ep p lp:Pos} (hE: ∀n,I9 W n) (hg:C6 W k C.tb g) (F:M0 W C C₀ env sc s₀) (f:j7 W C k env sc s₀ opn oa σ s) (hn:G4 ts=some (x::xs))
  (hc:(x::xs).Nodup/\aM (.List aC lp::es)=true/\(x::xs).all (h7 sc)=true/\(x::xs).length<=8) (ho:opn=some x):w5 ((C0 (ev g (n+1) false sc σ) (.List aC lp::es)).bind fun vs=>(U7 opn σ (x::xs) (.List aC lp::es) vs).map fun σ'=>(Fl.next,σ'))
  (fun Q E s=>wpAny (model prog w) C.A (exec (.Assign [.Tuple ts j tp] (.Tuple (.List aC lp::es) j' ep) p) env) Q E s) (A6 W C k env sc s₀ opn oa s) (F0 C C₀ env s₀) s:=by
 have h0:=(Q4 (hE n) hg lp aC f.sit).mono (E':=F0 C C₀ env s₀) (fun Z Z Z Z p=>p) fun Z Z Z Z p=>fV F f p;rw[CC];refine Ou.bind (fun Q E h=>Y7 (k:=k) (opn:=opn) F hn hc.2.1 Q E (Calls.spliced_cons (wpAny_List h))) h0 fun ds us s₁ Z q=> ?_;have f₁:=f.step' q.1;have sq:=jE f₁.sit q.2;cases hsq:N2 ds with
 |stuck=>trivial
 |err l=>rw[hsq] at sq;exact sq.elim
 |ok bs=>
  rw[hsq] at sq;refine n5 sq fun z2r r hz=> ?_;clear sq;subst z2r;refine n5 (uB (tk:=s₁.toks) F f₁ ho r) fun n8 cK ro=> ?_;have f':=f₁.step' (s₁:={s₁ with heap:=s₁.heap.push {cls:=.type "list",data:=.seq us.toArray}}) (.of_keep fun Z Z e=>Heap.get?_push_of_some _ e);have hm:=(Q4 (hE (n+1)) hg ep es f'.sit).mono (E':=F0 C C₀ env s₀) (fun Z Z Z Z p=>p) fun Z Z Z Z p=>fV F f' p;cases hr:C0 (ev g (n+1) false sc σ) es with
  |stuck=>trivial
  |err l=>rw[hr] at hm;exact⟨hz,wpAny_mono hm (fun Z Z x=>x.elim) fun Z Z x=>x⟩
  |ok vs=>
   rw[hr] at hm;show w5 ((U7 opn σ (x::xs) (.List aC lp::es) (.list bs::vs)).map fun σ'=>(Fl.next,σ')) _ _ _ _;rw[aW,if_pos ho];show w5 ((if (true &&vs.all oU)=true then N3 (σ.set x (.olist bs)) xs vs else .stuck).map _) _ _ _ _;by_cases hfl:(true &&vs.all oU)=true
   case neg=>rw[if_neg hfl];trivial
   rw[if_pos hfl];cases hp:N3 (σ.set x (.olist bs)) xs vs with
   |stuck=>trivial
   |err l=>exact absurd hp eJ
   |ok σ'=>
    refine e8 (eM (opn:=opn) (σ₂:=(GE σ x).set x (.olist bs)) (fun y=>zO σ x _ y) (aV hp)) fun AP hq he=> ?_;refine⟨hz,wpAny_mono hm (fun us' e7 B9=> ?_) fun Z Z x=>x.elim⟩;exact pW F hc.1 hc.2.2.1 hc.2.2.2 (vsb:=.olist bs::vs) (n8.step' B9.1) ((f.keeps q.1).trans (cK.trans (n8.keeps B9.1))) (And.intro (n8.sit.keepO B9.1 ro) (uE hfl B9.2)) ((L3 fun z=>z.2 ho).trans hq) he
theorem iQ (hE: ∀n,I9 W n) (hg:C6 W k C.tb g) (F:M0 W C C₀ env sc s₀) (f:j7 W C k env sc s₀ opn oa σ s) (ts es:List Expr) (j j':Nat) (tp ep p:Pos):
  w5 (ex g opn sc (n+1) σ (.Assign [.Tuple ts j tp] (.Tuple es j' ep) p)) (fun Q E s=>wpAny (model prog w) C.A (exec (.Assign [.Tuple ts j tp] (.Tuple es j' ep) p) env) Q E s) (A6 W C k env sc s₀ opn oa s) (F0 C C₀ env s₀) s:=by
 show w5 (needR (G4 ts) fun xs=>if xs.Nodup/\aM es=true/\xs.all (h7 sc)=true/\xs.length<=8 then (C0 (ev g n false sc σ) es).bind fun vs=>(U7 opn σ xs es vs).map fun σ'=>(Fl.next,σ') else .stuck) _ _ _ _;refine w5.need1 fun xs hn=>w5.guard fun hc=> ?_;rcases xs with _|⟨x,xs⟩
 ·exact U2 hE hg F f hn hc fun vs=>.inl rfl
 rcases es with _|⟨e,es⟩
 ·exact U2 hE hg F f hn hc fun vs=>.inl rfl
 by_cases ho:opn=some x
 ·by_cases hle:O2 e=true
  ·refine C1 (zQ hle) fun aC lp z1r=> ?_;subst z1r;cases n with
   |zero=>trivial
   |succ n=>exact xV hE hg F f hn hc ho
  ·refine U2 hE hg F f hn hc fun vs=>.inl ?_;rcases vs with _|⟨v,vs⟩
   ·rfl
   ·rw[aW,if_pos ho];cases v with
    |list ds=>exact if_neg fun z=>hle (Bool.and_eq_true_iff.mp z).1
    |_=>rfl
 ·refine U2 hE hg F f hn hc fun vs=> ?_;rcases vs with _|⟨v,vs⟩
  ·exact .inl rfl
  ·rw[aW,if_neg ho];by_cases q:(x::xs).any (fun y=>opn==some y)=true
   ·exact .inl (if_pos q)
   ·exact .inr (if_neg q)
end
section
variable {W:Wd} {C C₀:Cx} {X:Xs} {k:Nat} {env:Env} {sc:Scope} {oa oa' oa'':Option Addr} {σ σ':d9} {s₀ s s₁ s':Shared} {g:G} {n:Nat} {opn:Option Str} {h h' h'':Heap}
noncomputable def NX {α β:Type} (r:R α) (P:α->β->Shared->Prop):β->Shared->Prop:=fun b s=>match r with| .ok a=>P a b s|_=>False
noncomputable def PU {α:Type} (r:R α) (E:Int->Value->Shared->Prop):Value->Shared->Prop:=fun e s=>match r with| .err l=>E l e s|_=>False
theorem w5.of {α β:Type} {r:R α} {F:Tr β} {P:α->β->Shared->Prop} {E:Int->Value->Shared->Prop} (h:r≠.stuck->F (NX r P) (PU r E) s):w5 r F P E s:=by
 cases r with
 |stuck=>trivial
 |err l=>exact h fun z=>by injection z
 |ok a=>exact h fun z=>by injection z
theorem lC {α:Type} (r:R α):PassesOwn (model prog w) C.A env (PU r (F0 C C₀ env s₀)):=by
 cases r with
 |stuck=>exact PassesOwn.never
 |ok a=>exact PassesOwn.never
 |err l=>exact PassesOwn.leaving
theorem GH (hE: ∀n,I9 W n) (ih: ∀m,m<=n->xR W m) (hg:C6 W k C.tb g) (F:M0 W C C₀ env sc s₀) (f:j7 W C k env sc s₀ opn oa σ s) (t:Expr) (b:List Stmt) (p:Pos):
  w5 (ex g opn sc (n+1) σ (.While t b [] p)) (fun Q E s=>wpAny (model prog w) C.A (exec (.While t b [] p) env) Q E s) (A6 W C k env sc s₀ opn oa s) (F0 C C₀ env s₀) s:=by
 refine w5.of fun hr=> ?_;generalize hR:ex g opn sc (n+1) σ (.While t b [] p)=r at hr ⊢;have pas:=lC (C:=C) (C₀:=C₀) (env:=env) (s₀:=s₀) r;have qn: ∀{fl:Fl} {σ':d9} {fv:Flow} {s':Shared},r=.ok (fl,σ')->A6 W C k env sc s₀ opn oa s (fl,σ') fv s'->NX r (A6 W C k env sc s₀ opn oa s) fv s':=fun e h=>by rw[e];exact h
 have qe: ∀{l:Int},r=.err l-> ∀e s',F0 C C₀ env s₀ l e s'->PU r (F0 C C₀ env s₀) e s':=fun e x s' h=>by rw[e];exact h
 generalize NX r (A6 W C k env sc s₀ opn oa s)=Q at qn ⊢;generalize PU r (F0 C C₀ env s₀)=E at pas qe ⊢;refine wpAny_While (codeAny_whileLoop (fun m s'=>m<=n+1/\ ∃σ' oa',j7 W C k env sc s₀ opn oa' σ' s'/\u9 C env oa s.heap oa' s'.heap/\ex g opn sc m σ' (.While t b [] p)=r) (fun m s' hI=> ?_) (n+1) ⟨Nat.le_refl _,σ,oa,f,.refl,hR⟩);refine f8 hI fun hm hJ=> ?_;clear hI;refine v9 hJ fun σ' oa' f' K hx=> ?_;clear hJ;cases m with
 |zero=>exact absurd hx.symm hr
 |succ m=>
 have hx:(((ev g m true sc σ' t).bind l7).bind fun c=>if c then (D2 (ex g opn sc m) σ' b).bind (oS fun σ'=>ex g opn sc m σ' (.While t b [] p)) else .ok (.next,σ'))=r:=hx;have ht:=zM (n:=m) hE hg F f' t;have noted: ∀{l:Int},r=.err l-> ∀e s',F0 C C₀ env s₀ l e s'->notedBy (model prog w) C.A env (fun e s'=>cameBackBy (model prog w) C.A env E e s') e s':=fun hl e s' h=>pas e s' (qe hl e s' h);cases hc:(ev g m true sc σ' t).bind l7 with
 |stuck=>rw[hc] at hx;exact absurd hx.symm hr
 |err l=>
  rw[hc] at hx ht;exact wpAny_mono ht (fun Z Z x=>x.elim) (noted hx.symm)
 |ok c=>
  rw[hc] at hx ht;refine wpAny_mono ht (fun c' e7 q=> ?_) fun Z Z x=>x.elim;refine f8 q fun st z1r=> ?_;clear q;subst z1r;have n8:=f'.step' st;have cK:=K.trans (f'.keeps st);cases c' with
  |false=>
   have hx:R.ok (Fl.next,σ')=r:=hx;rw[if_neg (by decide)];exact wpAny_execs_nil (qn hx.symm ⟨oa',n8,cK,rfl⟩)
  |true=>
   rw[if_pos rfl];have hx:(D2 (ex g opn sc m) σ' b).bind (oS fun σ'=>ex g opn sc m σ' (.While t b [] p))=r:=hx;have hb:=R7 (ih m (by omega)) hg F b n8;cases hs:D2 (ex g opn sc m) σ' b with
   |stuck=>rw[hs] at hx;exact absurd hx.symm hr
   |err l=>
    rw[hs] at hx hb;exact wpAny_mono hb (fun Z Z x=>x.elim) (noted hx.symm)
   |ok q=>
    rw[hs] at hx hb;obtain⟨fl,W9⟩:=q;refine wpAny_mono hb (fun E4 l6 q=> ?_) fun Z Z x=>x.elim;refine s5 q fun oa'' RL wI fw=> ?_;clear q;have JP:=cK.trans wI;cases fl with
    |next=>
     rw[show E4=.next from fw];exact⟨m,by omega,by exact RX hm,W9,oa'',RL,JP,hx⟩
    |brk=>
     have hx:R.ok (Fl.next,W9)=r:=hx;rw[show E4=.brk from fw];exact qn hx.symm ⟨oa'',RL,JP,rfl⟩
    |ret v=>
     refine e8 fw fun u e hu=> ?_;clear fw;have hx:R.ok (Fl.ret v,W9)=r:=hx;rw[e];exact qn hx.symm ⟨oa'',RL,JP,u,rfl,hu⟩
end
section
variable {W:Wd} {C C₀:Cx} {X:Xs} {k:Nat} {env:Env} {sc:Scope} {oa oa' oa'':Option Addr} {σ σ':d9} {s₀ s s₁ s':Shared} {g:G} {n:Nat} {opn:Option Str} {h h' h'':Heap}
theorem j7.other {a:Addr} {tk:Nat} (F:M0 W C C₀ env sc s₀) (f:j7 W C k env sc s₀ opn oa σ s) (hn:s₀.heap.get? a=none) (m:nN s.heap a) (ha: ∃o,s.heap.get? a=some o/\(∃vs,o.data=.fields vs)/\ ¬I8 o)
  (hX: ¬Xo C oa a) (kp: ∀b o,b≠a->s.heap.get? b=some o->h'.get? b=some o):j7 W C k env sc s₀ opn oa σ {s with heap:=h',toks:=tk}:=by
 refine s5 ha fun o e z10n nd=> ?_;clear ha;obtain⟨vs,d⟩:=z10n;have hloc:a∉C.locs:=fun q=>hX (.inl (f.sit.ok.locs a q));have i:=f.sit.inv;have car: ∀X',R4 X' s.heap h':=fun X' b o' e' Y dt=>kp b o' (fun z=>by rw[z,e] at e';injection e' with e';subst e';exact nd dt) e';have ns: ∀b m,s.heap.Ns b m->h'.Ns b m:=fun b m ⟨o',es,ep,e',d',r⟩=>⟨o',es,ep,kp b o' (fun z=>by rw[z,e] at e';injection e' with e';subst e';rw[d] at d';injection d') e',d',r⟩;have cell: ∀c v,s.heap.IsCell c v->h'.IsCell c v:=fun c v ⟨o',e',d'⟩=>⟨o',kp c o' (fun z=>by rw[z,e] at e';injection e' with e';subst e';rw[d] at d';injection d') e',d'⟩;refine⟨?_,⟨f.sit.wok,f.sit.ok,f.sit.wf,f.sit.sub,f.sit.xg,fun b x=> ?_,?_,f.sit.envOk,?_,f.sit.oaX⟩,f.newo,f.only⟩
 ·refine r0 f.step fun y6 n7 I5 gr=> ?_;exact⟨h',tk,by rw[I5],gr.but hn F.tabs₀ (by rw[I5] at m;exact m) (by rw[I5] at kp;exact kp)⟩
 ·refine f8 (f.sit.live b x) fun nt z9t=> ?_;refine d6 z9t fun o' e'=> ?_;clear z9t;exact⟨nt,o',kp b o' (fun z=>hX (z▸x)) e'⟩
 ·exact⟨fun b o q=>kp b o (fun z=>by rw[z,F.notG hn] at q;injection q) (i.G b o q),fun b o q=>kp b o (fun z=>by rw[z,F.notB hn] at q;injection q) (i.base b o q),U1 kp hloc i.frames,i.tabs.but m kp,i.Gl⟩
 ·refine e8 f.sit.st.vals fun mm hm hv=> ?_;refine⟨fun y hy=>r0 (f.sit.st.cells y hy) fun c v q1 q2=>⟨c,v,q1,cell c v q2⟩,mm,ns _ _ hm,fun y v q=> ?_⟩;refine e8 (hv y v q) fun u hu hk=> ?_;refine⟨u,?_,hk.imp id fun⟨z,c,z1,z2⟩=>⟨z,c,z1,cell c _ z2⟩⟩;cases v with
  |olist ds=>
   refine X2 hu fun b o' vs' n e1 e2 e3 e4 e5 e6=> ?_;clear hu;exact⟨b,o',vs',n,e1,e2,kp b o' (fun z=>by rw[z,e] at e3;rw[<-Option.some.inj e3,d] at e5;injection e5) e3,e4,e5,e6.carry (car _)⟩
  |_=>exact Rp.carry (car _) hu
theorem LL (F:M0 W C C₀ env sc s₀) (f:j7 W C k env sc s₀ opn oa σ s) {t:Expr} (ht:dQ sc opn t=true) {u:Value} {v:V} (r:Rp s.heap (Xo C oa) u v) (hb:t7 σ t v=.ok σ'):
  wpAny (model prog w) C.A (assign t env u) (fun Y s'=>j7 W C k env sc s₀ opn oa σ' s'/\u9 C env oa s.heap oa s'.heap) (fun Y Y=>False) s:=by
 rcases kA (V8 hb) with⟨x,p,rfl,e⟩|⟨x,px,y,py,j,p,a,b,rfl,rfl,e⟩
 ·rw[<-v1 (e.symm.trans hb)];exact wpAny_assign_Name (wpAny_mono (B5 F f (H1 (Bool.and_eq_true_iff.mp ht).1) (.of r) (fun z=>absurd (r.not_open.symm.trans z) Bool.false_ne_true)) (fun Y s' q=>⟨q.1,q.2.1⟩) fun Y Y x=>x)
 ·rw[<-v1 (e.symm.trans hb)];refine f8 (Bool.and_eq_true_iff.mp ht) fun ht Y=> ?_;refine f8 (Bool.and_eq_true_iff.mp ht) fun ht Y=> ?_;refine v9 (Q3 r) fun T zs z8r hT hr=> ?_;subst z8r;obtain⟨ua,zs',rfl,ra,hr⟩:=D3 hr;obtain⟨ub,zs',rfl,rb,hr⟩:=D3 hr;obtain rfl:=K3 hr;refine wpAny_assign_Tuple f.sit.ok.handled (x9 hT) rfl rfl fun y6 he=> ?_;have st:k9 C s ({s with heap:=y6}:Shared):=⟨y6,s.toks,rfl,.of_keep fun b o e=>he b o (Nat.ne_of_lt (Heap.lt_size e)) e⟩;have hq:F1 opn σ [x,y] [a,b]=.ok ((σ.set x a).set y b):=(L3 fun z=>absurd (ra.not_open.symm.trans z.1) Bool.false_ne_true).trans (L3 fun z=>absurd (rb.not_open.symm.trans z.1) Bool.false_ne_true);have rr:v7 y6 (Xo C oa) oa [ua,ub] [a,b]:=f.sit.keepsO st (v7.of (.cons ra (.cons rb .nil)));exact wpAny_mono (N5 (xs:=[x,y]) F (.cons (fun M A v Q E s z=>wpAny_assign_Name z) (.cons (fun M A v Q E s z=>wpAny_assign_Name z) .nil)) (f.step' st) (by rw[List.all_cons,List.all_cons];exact Bool.and_eq_true_iff.mpr ⟨(Bool.and_eq_true_iff.mp ht).1,Bool.and_eq_true_iff.mpr ⟨(Bool.and_eq_true_iff.mp ht).2,rfl⟩⟩) rr hq)
   (fun Y s' q=>⟨q.1,(f.keeps st).trans q.2.1⟩) fun Y Y x=>x
noncomputable def rG (g:G) (opn:Option Str) (sc:Scope) (n:Nat) (t:Expr) (b:List Stmt):d9->List V->R (Fl×d9):=tC fun σ v=>(t7 σ t v).bind fun σ'=>D2 (ex g opn sc n) σ' b
structure iT (W:Wd) (C C₀:Cx) (k:Nat) (env:Env) (sc:Scope) (s₀:Shared) (opn:Option Str) (oa:Option Addr) (σ:d9) (s₁ e7:Shared) (I:Addr) (fp:List Addr) (items:List V) (P:Nat->Value->Prop) (St:Nat->Heap->Prop):Prop where
 F:M0 W C C₀ env sc s₀
 f₁:j7 W C k env sc s₀ opn oa σ s₁
 st₂:k9 C s₁ e7
 itn:DU (Xo C oa) I fp items P St e7.heap
 sI:s₁.heap.get? I=none
structure FJ (W:Wd) (C:Cx) (k:Nat) (env:Env) (sc:Scope) (s₀:Shared) (opn:Option Str) (oa:Option Addr) (s₁ e7:Shared) (I:Addr) (St:Nat->Heap->Prop) (i:Nat) (σ':d9) (oa':Option Addr) (s':Shared):Prop where
 f:j7 W C k env sc s₀ opn oa' σ' s'
 K:u9 C env oa s₁.heap oa' s'.heap
 st:St i s'.heap
 nc:v0 s'.heap I
 car:R4 (Xo C oa) e7.heap s'.heap
 lv: ∀a o,e7.heap.get? a=some o-> ∃o',s'.heap.get? a=some o'
 oaf:oa'=oa\/ ∀a,oa'=some a->e7.heap.get? a=none
section
variable {e7 s'':Shared} {I:Addr} {fp:List Addr} {items:List V} {P:Nat->Value->Prop} {St:Nat->Heap->Prop} (Z:iT W C C₀ k env sc s₀ opn oa σ s₁ e7 I fp items P St) {i i':Nat} {σ₂:d9} {i8:Heap} {tk:Nat}
include Z
theorem iT.ntI: ¬o4 I:=o6 Z.f₁.sit.inv.tabs Z.sI
theorem iT.nXo {b:Addr} (z:Xo C oa b) (y:b=I):False:=by
 refine f8 (Z.f₁.sit.live b z) fun Y z5t=> ?_;refine d6 z5t fun o' e'=> ?_;clear z5t;exact no (Z.sI.symm.trans (y▸e'))
theorem iT.at_ {h:Heap} (st:St i h): ∃o,h.get? I=some o/\(∃vs,o.data=.fields vs)/\ ¬I8 o:=DZ (Z.itn.live _ _ st) fun o e Y Y d n=>⟨o,e,d,n⟩
theorem iT.nX' (h:oa'=oa\/ ∀a,oa'=some a->e7.heap.get? a=none) (z:Xo C oa' I):False:=by
 rcases z with z|z
 ·exact Z.nXo (.inl z) rfl
 ·rcases h with y|y
  ·exact Z.nXo (.inr (y▸z)) rfl
  ·refine e8 (Z.at_ Z.itn.st) fun o e Y=> ?_;exact no ((y I z).symm.trans e)
theorem iT.mut {h:Heap} (st:St i h) (nc:v0 h I):nN h I:=iK (Z.itn.live _ _ st) fun o e c1 c2 Y=>⟨o,e,.inr ⟨c1,c2,nc⟩⟩
theorem iT.but (J:FJ W C k env sc s₀ opn oa s₁ e7 I St i σ' oa' s') (hst:St i' i8) (kp: ∀b o,b≠I->s'.heap.get? b=some o->i8.get? b=some o):FJ W C k env sc s₀ opn oa s₁ e7 I St i' σ' oa' {s' with heap:=i8,toks:=tk}:=by
 have mI:=Z.mut J.st J.nc;refine⟨J.f.other (tk:=tk) Z.F (E5 Z.f₁ Z.sI) mI (Z.at_ J.st) (Z.nX' J.oaf) kp,J.K.but_new Z.sI J.f.sit.inv.tabs mI kp,hst,J.nc.but J.f.sit.inv.tabs mI kp,fun b o e nx dt=>kp b o (fun z=> ?_) (J.car b o e nx dt),fun a o e=> ?_,J.oaf⟩
 ·refine s5 (Z.at_ Z.itn.st) fun oI eI Y nI=> ?_;exact nI (Option.some.inj (eI.symm.trans (z▸e))▸dt)
 ·by_cases z:a=I
  ·refine e8 (Z.at_ hst) fun o e Y=> ?_;exact⟨o,z▸e⟩
  ·refine d6 (J.lv a o e) fun o' e'=> ?_;exact⟨o',kp a o' z e'⟩
theorem iT.keepI (J:FJ W C k env sc s₀ opn oa s₁ e7 I St i σ' oa' s') (KK:u9 C env oa' s'.heap oa'' s''.heap) {b:Addr} (hb:b∈fp) {o:Obj} (e:s'.heap.get? b=some o):s''.heap.get? b=some o:=by
 have cells: ∀x c,env.cells.lookup x=some c->b=c->(∃v,o.data=.cell v):=fun x c hc z=>by
  refine r0 (J.f.sit.st.cells x (.inl ((Z.F.kinds x).trans (Z.F.cellk x c hc)))) fun c' v e1 z4t=> ?_;refine e8 z4t fun oc e2 d=> ?_;clear z4t;rw[hc] at e1;rw[<-Option.some.inj e1,<-z,e] at e2;exact⟨v,Option.some.inj e2▸d⟩
 by_cases hbI:b=I
 ·subst hbI;refine s5 (Z.at_ J.st) fun o' e' z3n Y=> ?_;obtain⟨vs,dd⟩:=z3n;rw[<-Option.some.inj (e.symm.trans e')] at dd;refine KK.keep b o e (fun z=>Z.nXo (.inl (Z.f₁.sit.ok.locs b z)) rfl) Z.ntI (fun x c hc z=> ?_) fun z=>Z.nX' J.oaf (.inr z);refine d6 (cells x c hc z) fun v d=> ?_;cases dd.symm.trans d
 ·rcases Z.itn.fps b hb with z|⟨ol,el,cl,⟨vs,nn,dl⟩,nx⟩
  ·exact absurd z hbI
  ·have q:=J.car b ol el nx ⟨.inl cl,fun v z=>nomatch dl.symm.trans z⟩;obtain rfl:=Option.some.inj (e.symm.trans q);refine KK.keep b o e (fun z=>nx (.inl (Z.f₁.sit.ok.locs b z))) (fun z=> ?_) (fun x c hc z=> ?_) fun z=> ?_
   ·refine d6 ((Z.f₁.step' Z.st₂).sit.inv.tabNone z) fun ps y=> ?_;rw[Option.some.inj (el.symm.trans y)] at cl;injection cl
   ·refine d6 (cells x c hc z) fun v d=> ?_;cases dl.symm.trans d
   ·rcases J.oaf with y|y
    ·exact nx (.inr (y▸z))
    ·exact no ((y b z).symm.trans el)
theorem iT.goes (J:FJ W C k env sc s₀ opn oa s₁ e7 I St i σ' oa' s') (f:j7 W C k env sc s₀ opn oa'' σ₂ s'') (KK:u9 C env oa' s'.heap oa'' s''.heap):FJ W C k env sc s₀ opn oa s₁ e7 I St i σ₂ oa'' s'':=by
 refine⟨f,J.K.trans KK,(Z.itn.walks _ Z.f₁.sit.ok.handled).frame _ _ _ J.st fun b hb o e=>Z.keepI J KK hb e,?_,fun b o e nx dt=>kZ Z.F J.f KK b o (J.car b o e nx dt) (fun z=> ?_) dt,fun a o e=> ?_,?_⟩
 ·refine e8 (Z.at_ J.st) fun o e Y=> ?_;exact KK.codes I o e Z.ntI J.nc
 ·rcases z with z|z
  ·exact nx (.inl z)
  ·rcases J.oaf with y|y
   ·exact nx (.inr (y▸z))
   ·exact no ((y b z).symm.trans e)
 ·refine d6 (J.lv a o e) fun o' e'=> ?_;exact KK.live a o' e'
 ·rcases KK.oaf with y|y
  ·rw[y];exact J.oaf
  ·refine .inr fun a z=> ?_;cases e:e7.heap.get? a with
   |none=>rfl
   |some o=>
    refine d6 (J.lv a o e) fun o' e'=> ?_;exact no ((y a z).symm.trans e')
theorem iT.item (J:FJ W C k env sc s₀ opn oa s₁ e7 I St i σ' oa' s') {v:Value} {d:V} (rd:Rp e7.heap (Xo C oa) v d):Rp s'.heap (Xo C oa') v d:=by
 have kx: ∀c,(Xo C oa c\/Xo C oa' c)->Xo C oa c\/ ∀o,e7.heap.get? c=some o-> ¬I8 o:=fun c z=>by
  rcases z with z|z|z
  ·exact .inl z
  ·exact .inl (.inl z)
  ·rcases J.oaf with y|y
   ·exact .inl (.inr (y▸z))
   ·exact .inr fun o e=>no ((y c z).symm.trans e)
 exact((rd.more (X':=fun c=>Xo C oa c\/Xo C oa' c) kx).carry fun b o e nx dt=>J.car b o e (fun z=>nx (.inl z)) dt).less fun c z=>.inr z
theorem GI (ih:xR W n) (hg:C6 W k C.tb g) {t:Expr} {b:List Stmt} (htg:dQ sc opn t=true) (J:FJ W C k env sc s₀ opn oa s₁ e7 I St i σ' oa' s') (hlt:i<items.length) {v:Value} (hv:P i v) (hst:St (i+1) i8)
  (kp: ∀b o,b≠I->s'.heap.get? b=some o->i8.get? b=some o) {r:R (Fl×d9)} (hr:r≠.stuck) (hx:rG g opn sc n t b σ' (items.drop i)=r) {Q:Flow->Shared->Prop} {N:Value->Shared->Prop}
  (hN: ∀l,r=.err l-> ∀e s'',F0 C C₀ env s₀ l e s''->N e s'') (h1: ∀σ₂ aD C9,FJ W C k env sc s₀ opn oa s₁ e7 I St (i+1) σ₂ aD C9->rG g opn sc n t b σ₂ (items.drop (i+1))=r->Q .next C9)
  (h2: ∀σ₂ aD C9,FJ W C k env sc s₀ opn oa s₁ e7 I St (i+1) σ₂ aD C9->R.ok (Fl.next,σ₂)=r->Q .brk C9)
  (h3: ∀σ₂ aD C9 u v,FJ W C k env sc s₀ opn oa s₁ e7 I St (i+1) σ₂ aD C9->R.ok (Fl.ret v,σ₂)=r->Rp C9.heap C.X u v->Q (.ret u) C9):
  wpAny (model prog w) C.A (letOwnedTupleGo t (.ref I) v) (fun Y UZ=>wpAny (model prog w) C.A (assign t env v) (fun Y e7=>wpAny (model prog w) C.A (execs b env) Q N e7) N UZ) N {s' with heap:=i8,toks:=tk}:=by
 rw[List.drop_eq_getElem_cons hlt] at hx;have hx:((t7 σ' t items[i]).bind fun σ'=>D2 (ex g opn sc n) σ' b).bind (oS fun σ'=>rG g opn sc n t b σ' (items.drop (i+1)))=r:=hx;have W8:=Z.but (tk:=tk) J hst kp;refine e8 (Z.itn.vals i v hlt hv) fun d hd rd=> ?_;obtain rfl:=Option.some.inj ((List.getElem?_eq_getElem hlt).symm.trans hd);have sh:NR t:=EM htg;refine Z.itn.go _ _ (i+1) _ v t _ sh hst ?_;cases hb:t7 σ' t items[i] with
 |stuck=>rw[hb] at hx;exact absurd hx.symm hr
 |err l=>exact(gY hb).elim
 |ok nJ=>
  rw[hb] at hx;have hx:(D2 (ex g opn sc n) nJ b).bind (oS fun σ'=>rG g opn sc n t b σ' (items.drop (i+1)))=r:=hx;refine wpAny_mono (LL Z.F W8.f htg (Z.item W8 rd) hb) (fun Y C5 O1=> ?_) fun Y Y x=>x.elim;have nF:=Z.goes W8 O1.1 O1.2;have hbody:=R7 ih hg Z.F b O1.1;cases hs:D2 (ex g opn sc n) nJ b with
  |stuck=>rw[hs] at hx;exact absurd hx.symm hr
  |err l=>
   rw[hs] at hx hbody;exact wpAny_mono hbody (fun Y Y x=>x.elim) (hN l hx.symm)
  |ok fH=>
   rw[hs] at hx hbody;obtain⟨fl,σ₂⟩:=fH;refine wpAny_mono hbody (fun OF C9 fH=> ?_) fun Y Y x=>x.elim;refine s5 fH fun aD bS RM fw=> ?_;clear fH;have Z6:=Z.goes nF bS RM;cases fl with
   |next=>rw[show OF=.next from fw];exact h1 _ _ _ Z6 hx
   |brk=>rw[show OF=.brk from fw];exact h2 _ _ _ Z6 hx
   |ret v=>
    refine e8 fw fun u e hu=> ?_;clear fw;rw[e];exact h3 _ _ _ _ _ Z6 hx hu
end
theorem uF (ih:xR W n) (hg:C6 W k C.tb g) (F:M0 W C C₀ env sc s₀) (f₁:j7 W C k env sc s₀ opn oa σ s₁) {t:Expr} {b:List Stmt} (htg:dQ sc opn t=true) {xv:Value} {iv:V} {items:List V} (r:B2 s₁.heap (Xo C oa) oa xv iv) (hi:s9 iv=.ok items) (K:u9 C env oa s.heap oa s₁.heap):
  w5 (rG g opn sc n t b σ items) (fun Q E s₁=>wpAny (model prog w) C.A (pyIter xv) (fun it' e7=>codeAny (model prog w) C.A (.forLoop t it' b [] env) (fun r s'=>match r with| .ok f=>Q f s'| .error e=>cameBackBy (model prog w) C.A env E e s') e7) E s₁)
   (A6 W C k env sc s₀ opn oa s) (F0 C C₀ env s₀) s₁:=by
 refine w5.of fun hr=> ?_;generalize hR:rG g opn sc n t b σ items=rr at hr ⊢;have pas:=lC (C:=C) (C₀:=C₀) (env:=env) (s₀:=s₀) rr;refine wpAny_mono (jG f₁.sit.ok f₁.sit.xn r hi) (fun it' e7 B9=> ?_) fun Y Y x=>x.elim;refine X1 B9 fun fp P St z2r st₂ V5 itn=> ?_;clear B9;subst z2r;generalize hI:s₁.heap.objs.size=I at itn ⊢;have Z:iT W C C₀ k env sc s₀ opn oa σ s₁ e7 I fp items P St:=⟨F,f₁,st₂,itn,A3 (Nat.le_of_eq hI)⟩;refine codeAny_forLoop_any (fun m s'=> ∃i σ' oa',m=items.length+1-i/\i<=items.length/\FJ W C k env sc s₀ opn oa s₁ e7 I St i σ' oa' s'/\rG g opn sc n t b σ' (items.drop i)=rr) (fun m s' hJ=> ?_) (items.length+1)
  ⟨0,σ,oa,rfl,Nat.zero_le _,⟨f₁.step' st₂,f₁.keeps st₂,itn.st,(v0.new f₁.sit.inv.tabs Z.sI).keeps f₁.sit.inv.tabs V5,fun Y Y e Y Y=>e,(fun Y o e=>⟨o,e⟩),.inl rfl⟩,hR⟩
 refine X1 hJ fun i σ' oa' z1r hile J hx=> ?_;clear hJ;subst z1r;by_cases hlt:i<items.length
 ·refine(itn.walks _ f₁.sit.ok.handled).item i s' _ _ hlt J.st fun v i8 tk hv bR T5=> ?_;exact GI Z ih hg htg J hlt hv bR (fun b o nb e=>T5 b o (fun q=>nb (List.mem_singleton.mp q)) e) hr hx (fun l hl e s' h=>pas e s' (by rw[hl];exact h))
   (fun σ₂ aD C9 Z6 hx=>⟨items.length+1-(i+1),by exact VM hlt,i+1,σ₂,aD,rfl,hlt,Z6,hx⟩)
   (fun σ₂ aD C9 Z6 hx=>hx▸⟨aD,Z6.f,K.trans Z6.K,rfl⟩) fun σ₂ aD C9 u v Z6 hx hu=>hx▸⟨aD,Z6.f,K.trans Z6.K,u,rfl,hu⟩
 ·rw[List.drop_eq_nil_of_le (Nat.not_lt.mp hlt)] at hx;have hx:R.ok (Fl.next,σ')=rr:=hx;refine(itn.walks _ f₁.sit.ok.handled).done s' _ _ (by rw[show items.length=i by exact SI hile hlt];exact J.st) fun i8 tk T5=>wpAny_execs_nil ?_;have mI:=Z.mut J.st J.nc;have kp: ∀b o,b≠I->s'.heap.get? b=some o->i8.get? b=some o:=fun b o nb e=>T5 b o (fun q=>nb (List.mem_singleton.mp q)) e;exact hx▸⟨oa',J.f.other (tk:=tk) F (E5 f₁ Z.sI) mI (Z.at_ J.st) (Z.nX' J.oaf) kp,K.trans (J.K.but_new Z.sI J.f.sit.inv.tabs mI kp),rfl⟩
theorem PV (hE: ∀n,I9 W n) (ih:xR W n) (hg:C6 W k C.tb g) (F:M0 W C C₀ env sc s₀) (f:j7 W C k env sc s₀ opn oa σ s) (t it:Expr) (b:List Stmt) (p:Pos):
  w5 (ex g opn sc (n+1) σ (.For t it b [] p)) (fun Q E s=>wpAny (model prog w) C.A (exec (.For t it b [] p) env) Q E s) (A6 W C k env sc s₀ opn oa s) (F0 C C₀ env s₀) s:=by
 show w5 (if dQ sc opn t=true then (ev g n false sc σ it).bind fun iv=>(s9 iv).bind fun items=>rG g opn sc n t b σ items else R.stuck) _ _ _ _;refine w5.guard fun htg=>fW fun hst=> ?_;refine Ou.bind (F:=fun xv Q E s₁=>wpAny (model prog w) C.A (pyIter xv) (fun it' e7=>codeAny (model prog w) C.A (.forLoop t it' b [] env) (fun r s'=>match r with| .ok f=>Q f s'| .error e=>cameBackBy (model prog w) C.A env E e s') e7) E s₁)
  (fun Q E h=>wpAny_For h (bX (env:=env) hst)) (hO (n:=n) hE hg F f it) fun iv xv s₁ Y q=> ?_
 cases hi:s9 iv with
 |stuck=>trivial
 |err l=>exact absurd hi (fU _)
 |ok items=>
 exact uF ih hg F (f.step' q.1) htg q.2 hi (f.keeps q.1)
end
section
variable (W:Wd)
noncomputable def rH:Prop:= ∀(n:Nat) (g:G) (C C₀:Cx) (k:Nat) (env:Env) (sc:Scope) (s₀:Shared) (opn:Option Str) (oa:Option Addr) (σ:d9) (s:Shared),
 C6 W k C.tb g->M0 W C C₀ env sc s₀->j7 W C k env sc s₀ opn oa σ s-> ∀f fp l lp c kk cp p q,
 w5 (ex g opn sc (n+1) σ (.Raise (some (.Call (.Name f fp) [.Name l lp,.Constant (.str c) kk cp] [] p)) none q)) (fun Q E s=>wpAny (model prog w) C.A (exec (.Raise (some (.Call (.Name f fp) [.Name l lp,.Constant (.str c) kk cp] [] p)) none q) env) Q E s)
  (A6 W C k env sc s₀ opn oa s) (F0 C C₀ env s₀) s
end
section
variable {W:Wd} {C C₀:Cx} {X:Xs} {k:Nat} {env:Env} {sc:Scope} {oa oa' oa'':Option Addr} {σ σ':d9} {s₀ s s₁ s':Shared} {g:G} {n:Nat} {opn:Option Str} {h h' h'':Heap}
variable (W C C₀ k env sc oa σ s₀ s g n opn) in
noncomputable def VV (st:Stmt):Prop:=w5 (ex g opn sc (n+1) σ st) (fun Q E s=>wpAny (model prog w) C.A (exec st env) Q E s) (A6 W C k env sc s₀ opn oa s) (F0 C C₀ env s₀) s
theorem LM (hE: ∀n,I9 W n) (hg:C6 W k C.tb g) (F:M0 W C C₀ env sc s₀) (f:j7 W C k env sc s₀ opn oa σ s) (e:Expr) (q:Pos):VV W C C₀ k env sc oa σ s₀ s g n opn (.Expr e q):=by
 cases h:yU e with
 |none=>show w5 (needR (yU e) _) _ _ _ _;rw[h];trivial
 |some z=>
  obtain⟨x,m,ap,a,p⟩:=z;refine d6 (xF h) fun xp z4r=> ?_;subst z4r;exact BZ hE hg F f x xp m ap a p q
theorem TV {e:Expr} (h:dR e=false) (hst:ev g n false sc σ e≠.stuck) (t:Option Expr) (l:Nat) (env:Env):swapsWith e t l env=pure false:=by
 cases hk:aU e with
 |false=>exact H3 hk
 |true=>
  rcases zP (g:=g) hk with⟨_,_,_,_,rfl⟩|z
  ·injection h
  ·exact absurd (z _ _ _) hst
theorem xW (hE: ∀n,I9 W n) (hg:C6 W k C.tb g) (F:M0 W C C₀ env sc s₀) (f:j7 W C k env sc s₀ opn oa σ s) (t e:Expr) (p:Pos):VV W C C₀ k env sc oa σ s₀ s g n opn (.Assign [t] e p):=by
 cases t with
 |Name x xp=>exact CB hE hg F f x xp e p
 |Tuple ts j tp=>
  cases e with
  |Tuple es j' ep=>exact iQ hE hg F f ts es j j' tp ep p
  |_=>trivial
 |Subscript o i p3=>
  show w5 (needR (X6 o) fun x=>if EI i=true/\dR e=false/\opn=some x/\h7 sc x=true then (ev g n false sc σ e).bind fun v=>Y0 (s0 g sc σ x) fun vs=>oV v vs σ x else R.stuck) _ _ _ _;refine w5.need1 fun x hx=>w5.guard fun hc=>fW fun hst=> ?_;refine d6 (H0 hx) fun xp z3r=> ?_;subst z3r;refine wR (KF hc.1) fun kk p1 p2 z2r=> ?_;subst z2r;have key:=LI (n:=n) hE hg F f x xp p1 p2 p3 kk e p fun t=>TV hc.2.1 hst _ _ _;rw[if_pos hc.2.2] at key;exact key
 |_=>trivial
theorem GJ (hR:rH W) (hg:C6 W k C.tb g) (F:M0 W C C₀ env sc s₀) (f:j7 W C k env sc s₀ opn oa σ s) (x c:Option Expr) (q:Pos):VV W C C₀ k env sc oa σ s₀ s g n opn (.Raise x c q):=by
 cases c with
 |some _=>trivial
 |none=>
  cases x with
  |none=>trivial
  |some x=>
   cases h:jB x with
   |none=>show w5 (needR (jB x) _) _ _ _ _;rw[h];trivial
   |some z=>
    refine WQ (qS h) fun fp lp c' kk cp p z1r Z=> ?_;subst z1r;exact hR n g C C₀ k env sc s₀ opn oa σ s hg F f _ fp _ lp c' kk cp p q
theorem GK (hE: ∀n,I9 W n) (hR:rH W) (ih: ∀m,m<=n->xR W m):xR W (n+1):=by
 intro g C C₀ k env sc s₀ opn oa σ st s hg F f;show VV W C C₀ k env sc oa σ s₀ s g n opn st;cases st with
 |Expr e q=>exact LM hE hg F f e q
 |Assign ts e p=>
  rcases ts with _|⟨t,_|_⟩
  ·trivial
  ·exact xW hE hg F f t e p
  ·trivial
 |AugAssign t op e p=>
  cases op with
  |Add=>cases t with
   |Name x xp=>exact PS hE hg F f x xp e p
   |_=>trivial
  |_=>trivial
 |If t b o p=>exact TS hE (ih n (Nat.le_refl _)) hg F f t b o p
 |While t b o p=>
  cases o with
  |nil=>exact GH hE ih hg F f t b p
  |cons=>trivial
 |For t it b o p=>
  cases o with
  |nil=>exact PV hE (ih n (Nat.le_refl _)) hg F f t it b p
  |cons=>trivial
 |Return e p=>
  cases e with
  |none=>trivial
  |some e=>exact BY hE hg F f e p
 |Break p=>exact GC f p
 |Raise x c q=>exact GJ hR hg F f x c q
 |_=>trivial
theorem LN (hE: ∀n,I9 W n) (hR:rH W): ∀n m,m<=n->xR W m:=by
 intro n;induction n with
 |zero=>
  intro m hm;have:m=0:=by exact Nat.eq_zero_of_le_zero hm
  subst this;exact fun Z Z Z Z Z Z Z Z Z Z Z Z Z Z Z=>trivial
 |succ n ih=>
  intro m hm;by_cases h:m<=n
  ·exact ih m h
  ·have:m=n+1:=by exact r26 hm h
   subst this;exact GK hE hR ih
end
theorem pX {kindOf:Str->Option NameKind}: ∀{binds:List (Str×Value)} {m:Str->Option Value} {x:Str} {v:Value},(binds.map (·.1)).Nodup->(binds.lookup x=some v\/(x∉binds.map (·.1)/\m x=some v))->kindOf x=some .local->bindL kindOf binds m x=some v
 |[],m,x,v,_,h,_=>by
  rcases h with h|h
  ·injection h
  ·exact h.2
 |(n,u)::r,m,x,v,hn,h,hk=>by
  rw[List.map_cons,List.nodup_cons] at hn;unfold bindL;refine pX hn.2 ?_ hk;by_cases hx:x=n
  ·subst hx;refine .inr ⟨hn.1,?_⟩;rw[if_pos hk];rcases h with h|h
   ·rw[List.lookup_cons,beq_self_eq_true] at h;simpa using h
   ·exact absurd (by rw[List.map_cons];exact List.mem_cons_self) h.1
  ·have hb:(x==n)=false:=by simpa using hx
   rcases h with h|h
   ·rw[List.lookup_cons,hb] at h;exact .inl h
   ·rw[List.map_cons,List.mem_cons,not_or] at h;refine .inr ⟨h.1.2,?_⟩;split
    ·show(if x=n then some u else m x)=_;rw[if_neg hx];exact h.2
    ·exact h.2
theorem pY {kindOf:Str->Option NameKind}: ∀{binds:List (Str×Value)} {m:Str->Option Value} {x:Str} {v:Value},(binds.map (·.1)).Nodup->(binds.lookup x=some v\/(x∉binds.map (·.1)/\m x=some v))->kindOf x≠some .local->bindC kindOf binds m x=some v
 |[],m,x,v,_,h,_=>by
  rcases h with h|h
  ·injection h
  ·exact h.2
 |(n,u)::r,m,x,v,hn,h,hk=>by
  rw[List.map_cons,List.nodup_cons] at hn;unfold bindC;refine pY hn.2 ?_ hk;by_cases hx:x=n
  ·subst hx;refine .inr ⟨hn.1,?_⟩;rw[if_neg hk];rcases h with h|h
   ·rw[List.lookup_cons,beq_self_eq_true] at h;simpa using h
   ·exact absurd (by rw[List.map_cons];exact List.mem_cons_self) h.1
  ·have hb:(x==n)=false:=by simpa using hx
   rcases h with h|h
   ·rw[List.lookup_cons,hb] at h;exact .inl h
   ·rw[List.map_cons,List.mem_cons,not_or] at h;refine .inr ⟨h.1.2,?_⟩;split
    ·exact h.2
    ·show(if x=n then some u else m x)=_;rw[if_neg hx];exact h.2
theorem U9: ∀{names:List (Str×NameKind)} {n:Nat} {acc:List (Str×Addr)} {x:Str} {c:Addr},(x,c)∈cellsFrom n names acc->(x,c)∈acc\/(x,NameKind.cell)∈names
 |[],_,_,_,_,h=>.inl h
 |(y,kd)::r,n,acc,x,c,h=>by
  unfold cellsFrom at h;split at h
  ·rename_i hk;have hk:kd=.cell:=by simpa using hk
   rcases U9 h with q|q
   ·rcases List.mem_cons.mp q with z|z
    ·injection z with z z2;subst z;subst z2;subst hk;exact .inr List.mem_cons_self
    ·exact .inl z
   ·exact .inr (List.mem_cons_of_mem _ q)
  ·rcases U9 h with q|q
   ·exact .inl q
   ·exact .inr (List.mem_cons_of_mem _ q)
theorem J8: ∀{names:List (Str×NameKind)} {n:Nat} {acc:List (Str×Addr)} {x:Str},((x,NameKind.cell)∈names\/(acc.lookup x).isSome=true)->((cellsFrom n names acc).lookup x).isSome=true
 |[],_,_,_,h=>by
  rcases h with h|h
  ·cases h
  ·exact h
 |(y,kd)::r,n,acc,x,h=>by
  unfold cellsFrom;split
  ·rename_i hk;have hk:kd=.cell:=by simpa using hk
   subst hk;refine J8 ?_;rcases h with h|h
   ·rcases List.mem_cons.mp h with z|z
    ·cases z;right;rw[List.lookup_cons,beq_self_eq_true];rfl
    ·exact .inl z
   ·right
    rw[List.lookup_cons];cases x==y<;>first|rfl|exact h
  ·rename_i hk;refine J8 ?_;rcases h with h|h
   ·rcases List.mem_cons.mp h with z|z
    ·injection z with z z2;subst z;subst z2;exact absurd rfl hk
    ·exact .inl z
   ·exact .inr h
structure Z9 (W:Wd) (f:Str) (ps:List Str) (body:List Stmt) (a:Addr) (o:Obj) (fd:FuncData):Prop where
 name:W.mg f=some (.ref a)
 obj:W.G.get? a=some o
 data:o.data=.func fd
 code:W.G.CodeRec fd.code fd.qualname
 body:fd.body=.stmts body
 bind: ∀us:List Value,us.length=ps.length->bindArgs fd ⟨us,[]⟩=pure (ps.zip us)
 clo:fd.closure=[]
 glob:fd.globals=mainGlobals
 bis:fd.builtins=builtinsNs
 nodup:ps.Nodup
 pars: ∀x∈ps,fd.scope.names.lookup x=some .local\/fd.scope.names.lookup x=some .cell
 cells: ∀x,(x,NameKind.cell)∈fd.scope.names->fd.scope.names.lookup x=some .cell
 nofree: ∀x,fd.scope.names.lookup x≠some .free
 co:fd.scope.isCoroutine=false
 gen:fd.scope.isGenerator=false
 kind:fd.scope.kind=.function
 told:fd.scope.names.lookup ("_law_told":Str)=some .globalImplicit-> ∃x∈E9,fd.code=.ref x.1/\fd.qualname++(".<locals>.":Str)++("<lambda>":Str)=x.2.2
section
variable {W:Wd} {k:Nat} {tb:Prop} {g:G}
theorem dA: ∀{ps:List Str} {us:List Value} {vs:List V} {h:Heap} {X:Xs} {x:Str} {v:V},us.length=ps.length->Rps h X us vs->(ps.zip vs).lookup x=some v-> ∃u,(ps.zip us).lookup x=some u/\Rp h X u v/\x∈ps
 |[],_,_,_,_,_,_,_,_,e=>by simp at e
 |p::ps,[],_,_,_,_,_,hl,_,_=>by simp at hl
 |p::ps,u::us,[],h,X,x,v,hl,r,e=>r.inv.elim
 |p::ps,u::us,d::ds,h,X,x,v,hl,r,e=>by
  refine f8 r.inv fun a r=> ?_;rw[List.zip_cons_cons,List.lookup_cons] at e ⊢;cases hx:x==p with
  |true=>
   rw[hx] at e;injection e with e;subst e;exact⟨u,rfl,a,by rw[beq_iff_eq.mp hx];exact List.mem_cons_self⟩
  |false=>
   rw[hx] at e;refine s5 (dA (by simpa using hl) r e) fun u' h1 h2 h3=> ?_;exact⟨u',h1,h2,List.mem_cons_of_mem _ h3⟩
theorem lE: ∀{ps:List Str} {us:List Value},us.length=ps.length->(ps.zip us).map (·.1)=ps
 |[],_,_=>by simp
 |p::ps,[],h=>by simp at h
 |p::ps,u::us,h=>by rw[List.zip_cons_cons,List.map_cons,lE (by simpa using h)]
set_option backward.match.sparseCases true in
noncomputable def PW (Q E:Value->Shared->Prop) (r:Result) (s:Shared):Prop:=match r with| .ok (.ret v)=>Q v s| .ok _=>False| .error x=>E x s
set_option backward.match.sparseCases true in
noncomputable def TW (Q:Value->Shared->Prop):Flow->Shared->Prop
 | .ret u,s=>Q u s
 | .next,s=>Q .none s
 |_,_=>False
theorem M0.back {C C':Cx} {env:Env} {sc:Scope} {s₀ s':Shared} (F:M0 W C' C env sc s₀) (htb:C'.tb=C.tb) (st:k9 C' s₀ s'):k9 C s₀ s':=by
 refine r0 st fun h' t' e' gr=> ?_;clear st;refine⟨h',t',e',⟨fun b o e n m=>gr.keep b o e (htb▸n) fun z=> ?_,fun b o e n=>gr.slots b o e (htb▸n),gr.tabs,gr.codes⟩⟩;unfold Cx.locs at z;rw[F.fr,List.filterMap_cons,F.frame] at z;rcases List.mem_cons.mp z with z|z
 ·rw[z,F.newL] at e;injection e
 ·exact m z
theorem uG {f:Str} {ps:List Str} {body:List Stmt} {a:Addr} {o:Obj} {fd:FuncData} {C:Cx} {X:Xs} {s₀ s:Shared} {us:List Value} {σ:d9} {opn:Option Str} {oa:Option Addr} {Q E:Value->Shared->Prop}
  (wok:W.Ok) (D:Z9 W f ps body a o fd) (ok:C.Ok (k+1)) (wf:W.Fits C) (hsub: ∀a,C.X a->X a) (hxg: ∀a,X a->W.G.get? a=none) (hlive: ∀a,X a-> ¬o4 a/\ ∃o,s.heap.get? a=some o)
  (inv:aN W C s.heap) (hs: ∃h t,s={s₀ with heap:=h,toks:=t}) (hk: ∀b o,s₀.heap.get? b=some o->s.heap.get? b=some o) (hB:C.base.StaysIn s₀.heap) (hG: ∀b o,W.G.get? b=some o->s₀.heap.get? b=some o) (hT:o3 s₀.heap)
  (hoa: ∀a,oa=some a->s₀.heap.get? a=none/\ ¬X a/\ ∃o,s.heap.get? a=some o) (hul:us.length=ps.length)
  (hσ: ∀x v,σ.get x=some v-> ∃u,(ps.zip us).lookup x=some u/\x∈ps/\B2 s.heap (fun b=>X b\/oa=some b) oa u v) (hon: ∀y v,σ.get y=some v->v.open? =true->opn=some y)
  (hbody: ∀env C' s₁,C'.X=(fun b=>X b\/b=env.locals)->C'.tb=C.tb->C'.A=C.A.deeper env->(∀b o,s.heap.get? b=some o->s₁.heap.get? b=some o)->M0 W C' C env fd.scope s₀->j7 W C' k env fd.scope s₀ opn oa σ s₁->
   wpAny (model prog w) C'.A (execs body env) (TW Q) (fun e s'=>wpAny (model prog w) C'.A (leaving env e) (fun Z s''=>E e s'') (fun Z Z=>False) s') s₁):
  codeAny (model prog w) C.A (.call (.ref a) ⟨us,[]⟩) (PW Q E) s:=by
 let env:=callEnvC fd s.heap.objs.size a;let C':Cx:={A:=C.A.deeper env,fr:=env::C.fr,base:=C.base,X:=fun b=>X b\/b=env.locals,tb:=C.tb};have back: ∀{b:Addr},s.heap.get? b=none->s₀.heap.get? b=none:=fun {b} e=>by
  cases q:s₀.heap.get? b with
  |none=>rfl
  |some o=>rw[hk _ _ q] at e;injection e
 have sLn:s.heap.get? s.heap.objs.size=none:=A3 (Nat.le_refl _);have hfr:env.frame=some env.locals:=rfl;have hloc:C'.locs=env.locals::C.locs:=by
  show(env::C.fr).filterMap (·.frame)=_;rw[List.filterMap_cons,hfr];rfl
 have ok':C'.Ok k:=by
  refine⟨?_,ok.handled,?_,?_,fun b m=> ?_,ok.tab,fun b m=> ?_⟩
  ·show C.A.frames.map (env:: ·)=some (env::C.fr);rw[ok.frames];rfl
  ·have:=ok.depth;show C.A.depth+1+k+10<_;exact WF this
  ·have:=ok.units;show C.A.units+3+8*k+40<_;exact WE this
  ·rw[hloc] at m;exact(List.mem_cons.mp m).elim .inr fun z=>.inl (hsub b (ok.locs b z))
  ·rw[hloc] at m;exact(List.mem_cons.mp m).elim (fun z=>z▸o6 inv.tabs sLn) (ok.loct b)
 refine codeAny_call_cells (R:=PW Q E) (fd:=fd) (body:=body) (by have:=ok.depth;exact WJ this) (inv.G _ _ D.obj) D.data (wok.nolimit.keeps inv.G) (D.code.keeps inv.G) D.body (D.bind us hul) D.clo (fun x hx=> ?_) (fun s₁ hI=> ?_) D.co D.gen D.kind
 ·have:x.1∈ps:=by rw[<-lE hul];exact List.mem_map_of_mem hx
  rcases D.pars x.1 this with z|z
  ·exact .inl z
  ·exact .inr ⟨z,J8 (.inl (mem_of_lookup z))⟩
 ·refine C1 hI.toInCall.same fun y6 OG I5=> ?_;have keep:=hI.toInCall.keep;have ns:=hI.toInCall.ns;have hLc: ∀x c,env.cells.lookup x=some c->s.heap.objs.size<c:=fun x c hc=>hI.above x c (mem_of_lookup hc);have F:M0 W C' C env fd.scope s₀:=⟨rfl,rfl,rfl,fun Z=>rfl,fun x y c hx hy=>name_of_addr hI.apart (mem_of_lookup hx) (mem_of_lookup hy),back sLn,fun x c hc=>back (A3 (Nat.le_of_lt (hLc x c hc))),.inr rfl,hB,hG,hT,D.nofree,
   fun x c hc=>D.cells x ((U9 (mem_of_lookup hc)).resolve_left fun z=>nomatch z)⟩
  refine F6 (D4 ns) fun oL esL epL eL dL=> ?_;have step:k9 C' s₀ s₁:=by
   refine C1 hs fun h t e=> ?_;clear hs;refine⟨y6,OG,by rw[I5,e],.of_keep fun b o q=> ?_⟩;have:=keep b o (hk b o q);rw[I5] at this;exact this
  have hxL: ∀b,Xo C' oa b->(X b\/oa=some b)\/b=env.locals:=fun b z=>z.elim (fun z=>z.elim (fun z=>.inl (.inl z)) .inr) fun z=>.inl (.inr z);have hoG: ∀b,oa=some b->W.G.get? b=none:=fun b z=>by
   cases q:W.G.get? b with
   |none=>rfl
   |some o=>have:=hG _ _ q;rw[(hoa b z).1] at this;injection this
  have up: ∀{u:Value} {v:V},B2 s.heap (fun b=>X b\/oa=some b) oa u v->B2 s₁.heap (Xo C' oa) oa u v:=fun {u v} r=>(r.more fun b z=>(hxL b z).imp id fun z o q=>by rw[show b=s.heap.objs.size from z,sLn] at q;injection q).keep keep;have f:j7 W C' k env fd.scope s₀ opn oa σ s₁:=by
   refine⟨step,⟨wok,ok',⟨wf.notab⟩,fun b z=>.inl z,fun b z=> ?_,fun b z=> ?_,⟨fun b o e=>keep b o (inv.G b o e),fun b o e=>keep b o (inv.base b o e),⟨?_,⟨s.heap.objs.size,oL,rfl,F.notB (back sLn),eL,fun vs z=>by rw[dL] at z;injection z⟩,inv.frames.of_keeps fun b o e Z=>⟨o,keep b o e,rfl⟩⟩,inv.tabs.keeps keep,fun b z=> ?_⟩,
    ⟨D.kind,D.glob,D.bis,fun x kd e=>.inl e,D.told⟩,⟨fun x hx=> ?_,_,ns,fun x v e=> ?_⟩,fun b z=>.inr z⟩,fun b z=>⟨(hoa b z).1,fun q=> ?_⟩,hon⟩
   ·rcases hxL b z with(z|z)|z
    ·exact hxg b z
    ·exact hoG b z
    ·exact z▸F.notG (back sLn)
   ·rcases hxL b z with(z|z)|z
    ·refine f8 (hlive b z) fun nt z3t=> ?_;refine d6 z3t fun o e=> ?_;clear z3t;exact⟨nt,o,keep b o e⟩
    ·refine n5 (hoa b z) fun n0 Z z2t=> ?_;refine d6 z2t fun o e=> ?_;clear z2t;exact⟨o6 hT n0,o,keep b o e⟩
    ·exact⟨z▸o6 inv.tabs sLn,z▸⟨oL,eL⟩⟩
   ·show fd.scope.kind≠.module;rw[D.kind];exact fun z=>by injection z
   ·rw[hloc] at z;exact(List.mem_cons.mp z).elim (fun z=>z▸F.notG (back sLn)) (inv.Gl b)
   ·rcases hx with hx|hx
    ·have:=J8 (n:=s.heap.objs.size+1) (acc:=[]) (.inl (mem_of_lookup hx));refine d6 (Option.isSome_iff_exists.mp this) fun c hc=> ?_;exact⟨c,_,hc,hI.cell x c hc⟩
    ·exact absurd hx (D.nofree x)
   ·refine s5 (hσ x v e) fun u h1 h3 h2=> ?_;refine⟨u,up h2,?_⟩;have nd:((ps.zip us).map (·.1)).Nodup:=by rw[lE hul];exact D.nodup
    rcases D.pars x h3 with z|z
    ·exact .inl ⟨z,pX nd (.inl h1) z⟩
    ·have:=J8 (n:=s.heap.objs.size+1) (acc:=[]) (.inl (mem_of_lookup z));refine d6 (Option.isSome_iff_exists.mp this) fun c hc=> ?_;refine .inr ⟨.inl z,c,hc,?_⟩;have hcell:=hI.cell x c hc;rw[pY nd (.inl h1) (fun y=>by have y:fd.scope.names.lookup x=_:=y;rw[z] at y;cases y)] at hcell;exact hcell
   ·rcases q with q|q
    ·exact(hoa b z).2.1 q
    ·refine n5 (hoa b z) fun Z Z z1t=> ?_;refine d6 z1t fun o e=> ?_;clear z1t;have q:b=s.heap.objs.size:=q;rw[q,sLn] at e;injection e
  refine wpAny_mono (hbody env C' s₁ rfl rfl rfl keep F f) (fun fl s' q=> ?_) fun e s' q=>wpAny_mono q (fun Z Z x=>x) fun Z Z x=>x.elim;cases fl<;>first|exact q|exact q.elim
theorem GM {f:Str} {ps:List Str} {body:List Stmt} {a:Addr} {o:Obj} {fd:FuncData} (wok:W.Ok) (D:Z9 W f ps body a o fd) (hS: ∀n,xR W n) (hg:C6 W k tb g) (opn:Option Str) (n:Nat):
  dZ W (k+1) tb f (wZ g opn fd.scope ps body n):=by
 refine⟨a,o,fd,D.name,D.obj,D.data,fun C X s us vs ok wf htb hsub hxg hlive inv hr=> ?_⟩;unfold wZ;by_cases hlen:vs.length=ps.length
 case neg=>rw[if_neg hlen];trivial
 rw[if_pos hlen];have hul:us.length=ps.length:=hr.length.trans hlen;refine w5.of fun hr'=> ?_;generalize hR:((D2 (ex g opn fd.scope n) (ps.zip vs) body).bind fun q=>match q with|(.ret v,_)=>.ok v|(.next,_)=>.ok .none|_=>.stuck)=r at hr' ⊢;refine wpAny_call (uG (s₀:=s) (σ:=ps.zip vs) (opn:=opn) (oa:=none) wok D ok wf hsub hxg hlive inv ⟨_,_,rfl⟩ (fun Z Z e=>e) inv.base inv.G inv.tabs (fun b z=>by injection z) hul (fun x v e=> ?_) (fun x v e z=> ?_) fun env C' s₁ hX htb' Z Z F f=> ?_)
 ·refine s5 (dA hul hr e) fun u h1 h2 h3=> ?_;exact⟨u,h1,h3,.of (h2.less fun b z=>z.elim id fun z=>by injection z)⟩
 ·refine s5 (dA hul hr e) fun u h1 h2 h3=> ?_;rw[h2.not_open] at z;injection z
 ·have hg':C6 W k C'.tb g:=by
   have:C'.tb=tb:=htb'.trans (propext htb);rw[this];exact hg
  have hb:=R7 (hS n) hg' F body f;cases hs:D2 (ex g opn fd.scope n) (ps.zip vs) body with
  |stuck=>rw[hs] at hR;exact absurd hR.symm hr'
  |err l=>
   rw[hs] at hR hb;subst hR;exact wpAny_mono hb (fun Z Z x=>x.elim) fun e s' q=>q
  |ok q=>
   rw[hs] at hR hb;obtain⟨fl,σ'⟩:=q;refine wpAny_mono hb (fun fl' s' q=> ?_) fun Z Z x=>x.elim;refine s5 q fun oa' f' K fw=> ?_;clear q;cases fl with
   |next=>
    rw[show fl'=.next from fw];rw[<-show R.ok V.none=r from hR];exact⟨F.back htb' f'.step,.none⟩
   |brk=>exact absurd hR.symm hr'
   |ret v=>
    refine e8 fw fun u e hu=> ?_;clear fw;rw[e,<-show R.ok v=r from hR];refine⟨F.back htb' f'.step,.of (hu.less fun b z=>by rw[hX];exact .inl z)⟩
end
noncomputable abbrev W1:List Value:=[.type "ValueError",.type "Exception",.type "BaseException",.type "object"]
structure Xc where
 nm:Str
 q:Str
 bs:List Value
 sn:List Str
 sub:List Value
 col:Option Bool
 dd:Option Addr
 k0:Option Value
 k1:Option Value
 k2:Option Value
 k3:Option Value
 k5:Option Value
noncomputable abbrev TX (x:Xc):Obj:=excClassObj x.nm x.q 52 51 x.bs (.ref 32::W1) true x.sn x.sub false x.col x.dd x.k0 x.k1 x.k2 x.k3 x.k5 "ValueError.__new__"
structure G5 (h:Heap) (mC mB:Str->Option Value):Prop where
 c: ∃x:Xc,h.get? 52=some (TX x)
 b: ∃o cd,h.get? 32=some o/\o.data=.cls cd/\cd.ns=31
 nc:h.Ns 51 mC
 nb:h.Ns 31 mB
theorem G5.keeps {h h':Heap} {mC mB:Str->Option Value} (x:G5 h mC mB) (k: ∀b o,h.get? b=some o->h'.get? b=some o):G5 h' mC mB:=by
 obtain⟨⟨z,c⟩,⟨o,cd,b,d,e⟩,nc,nb⟩:=x;exact⟨⟨z,k _ _ c⟩,⟨o,cd,k _ _ b,d,e⟩,nc.keeps k,nb.keeps k⟩
section
variable {M:Model} {A:Around} {E:Value->Shared->Prop} {h:Heap} {g:Array GenState} {d:Drawn} {t:Nat} {os:OsState} {mC mB:Str->Option Value}
theorem W2 {name:Str} {y:Option Value} {Q:Option Value->Shared->Prop} (x:G5 h mC mB) (hB:typeLookup (.type "ValueError") name=pure y)
  (hq:Q (match mC name with|some v=>some v|none=>match mB name with|some v=>some v|none=>y) ⟨h,g,d,t,os⟩):wpAny M A (typeLookup (.ref 52) name) Q E ⟨h,g,d,t,os⟩:=by
 obtain⟨⟨z,c⟩,⟨ob,cd,b,hcd,e⟩,nc,nb⟩:=x;have hrest:lookupAlong W1 name=pure y:=by rw[typeLookup_eq,PySem.F.excBase_ValueError.mroIs] at hB;exact hB
 rw[typeLookup_eq];refine wpAny_bind (wpAny_mroOf_exc c ?_);rw[lookupAlong_cons];refine wpAny_bind (wpAny_classOwn_exc c nc ?_);cases hv:mC name with
 |some v=>rw[hv] at hq;exact wpAny_pure hq
 |none=>
  rw[hv] at hq;show wpAny M A (lookupAlong (.ref 32::W1) name) Q E _;rw[lookupAlong_cons];obtain⟨oc,odi,oda,osl⟩:=ob;cases hcd;refine wpAny_bind (wpAny_classOwn_cls b (e▸nb) ?_);cases hw:mB name with
  |some v=>rw[hw] at hq;exact wpAny_pure hq
  |none=>rw[hw] at hq;show wpAny M A (lookupAlong W1 name) Q E _;rw[hrest];exact wpAny_pure hq
end
section
variable {A:Around} {E:Value->Shared->Prop} {h:Heap} {g:Array GenState} {d:Drawn} {t:Nat} {os:OsState} {mC mB:Str->Option Value}
theorem nR {M:Model} {rest:List Value} {Q:Unit->Shared->Prop} (x:G5 h mC mB) (hq:Q () ⟨h,g,d,t,os⟩):
  wpAny M A (checkBuiltinCall "ValueError.__new__" ⟨.ref 52::rest,[]⟩) Q E ⟨h,g,d,t,os⟩:=by
 obtain⟨⟨xc,hC⟩,-,-,-⟩:=x;have F:=PySem.F.excBase_ValueError;have hcont:(Value.ref 52::.ref 32::W1).contains (.type "ValueError")=true:=by decide+kernel
 have hstar:=F.noStar;simp only[checkBuiltinCall,F.newKind,F.newSplit,F.newRow];repeat (first|refine wpAny_loadPart_at hC ?_|(refine wpAny_isSubtype_exc hC ?_;rw[hcont])|refine wpAny_staticBase_exc hC ?_|refine wpAny_madeBy_exc hC ?_|simp only[bne_self_eq_false,Bool.false_eq_true,if_false]|wp_step)
 exact hq
theorem LP {R:Result->Shared->Prop} {rest:List Value} (x:G5 h mC mB)
  (hq:R (.ok (.ret (.ref (h.objs.size+1)))) ⟨(h.push {cls:=.type "tuple",data:=.seq rest.toArray}).push
   {cls:=.ref 52,data:=.fields #[.ref h.objs.size,.none,.none,.none,.bool false,.none]},g,d,t,os⟩) (hrest:rest.length<=sizeLine):
  codeAny (model prog w) A (.builtin "ValueError.__new__" ⟨.ref 52::rest,[]⟩) R ⟨h,g,d,t,os⟩:=by
 obtain⟨⟨xc,hC⟩,-,-,-⟩:=x;have F:=PySem.F.excBase_ValueError;have hends:=F.ends;have hcB:(Value.ref 52::.ref 32::W1).contains (.type "ValueError")=true:=by decide+kernel
 have hcA:(Value.ref 52::.ref 32::W1).contains (.type "AttributeError")=false:=by decide+kernel
 have hcN:(Value.ref 52::.ref 32::W1).contains (.type "NameError")=false:=by decide+kernel
 refine codeAny_builtinAt F.entry ?_;unfold Builtin.«BaseException.__new__»;refine PySem.wpAt_bind ?_;show PySem.wpAt _ _ _ (stack>>=_) _ _ _;refine PySem.wpAt_bind (PySem.wpAt_stack fun p below=>PySem.wpAt_of_wpAny ?_);wp_walk
 refine PySem.wpAt_of_wpAny ?_;rw[F.owner];repeat (first|with_reducible refine wpAny_madeHere_exc F.canon hC ?_|with_reducible refine wpAny_loadPart_at hC ?_|(with_reducible refine wpAny_isSubtype_exc hC ?_;first|rw[hcB]|rw[hcA]|rw[hcN])|wp_step)
 show R _ _;rw[Heap.size_push];exact hq
end
section
variable {A:Around} {E:Value->Shared->Prop} {h:Heap} {g:Array GenState} {d:Drawn} {t:Nat} {os:OsState} {mC mB:Str->Option Value}
theorem nS {rest:List Value} {fI:Addr} {oI:Obj} {Q:Fin->Shared->Prop} (x:G5 h mC mB) (hi:mC "__init__"=some (.ref fI))
  (hfI:h.get? fI=some oI) (hfc:oI.cls=.type "function")
  (hq: ∀h' e,Heap.MadeExcOf h h' e (.ref 52) rest->
   wpAny (model prog w) A (call (.ref fI) (.ref e::rest)) (fun r s'=>r=.none/\Q (.done (.ret (.ref e))) s') E ⟨h',g,d,t,os⟩) (hrest:rest.length<=sizeLine):
  wpAny (model prog w) A (Builtin.«type.__call__» ⟨.ref 52::rest,[]⟩) Q E ⟨h,g,d,t,os⟩:=by
 have F:=PySem.F.excBase_ValueError;have x':=x;obtain⟨⟨xc,hC⟩,-,hn,-⟩:=x';repeat (first|with_reducible refine wpAny_loadPart_at hC ?_|with_reducible refine wpAny_madeBy_exc hC ?_|wp_step)
 refine codeAny_call_builtin_code (Code.quiet_builtin _ F.quiet) (nR x ?_);refine LP x ?_ hrest;show wpAny _ _ _ _ _ _;have kp: ∀b o,h.get? b=some o->((h.push {cls:=.type "tuple",data:=.seq rest.toArray}).push {cls:=.ref 52,data:=.fields #[.ref h.objs.size,.none,.none,.none,.bool false,.none]}).get? b=some o:=
  fun b o e=>Heap.get?_push_of_some _ (Heap.get?_push_of_some _ e)
 have VA:=kp _ _ hC;have RN:=kp _ _ hfI;have ZP:=x.keeps kp;have hget:((h.push {cls:=.type "tuple",data:=.seq rest.toArray}).push
   {cls:=.ref 52,data:=.fields #[.ref h.objs.size,.none,.none,.none,.bool false,.none]}).get? (h.objs.size+1)=some
   {cls:=.ref 52,data:=.fields #[.ref h.objs.size,.none,.none,.none,.bool false,.none]}:=by heap_get
 have hcC:(Value.ref 52::.ref 32::W1).contains (.ref 52)=true:=by decide+kernel
 unfold isInstance;repeat (first|with_reducible refine wpAny_loadPart_at hget ?_|(with_reducible refine wpAny_isSubtype_exc VA ?_;rw[hcC])|wp_step)
 show wpAny _ _ (typeLookup (.ref 52) _) _ _ _;refine W2 ZP F.init.lookup ?_;rw[hi];refine wpAny_holding (wpAny_bind ?_);unfold bindSpecial;refine wpAny_bind (wpAny_typeOf (T:="function") ⟨_,RN,hfc⟩ ?_);rw[if_pos (by decide)];refine wpAny_pure (wpAny_bind (wpAny_mono (hq _ (h.objs.size+1) ⟨kp,Heap.get?_none_of_le (Nat.le_succ _),h.objs.size,hget,Heap.get?_none_of_le (Nat.le_refl _),?_⟩) (fun r s' hr=> ?_) fun Z Z x=>x))
 ·exact Heap.get?_push_of_some _ (Heap.get?_push_at rfl rfl)
 ·refine f8 hr fun z1r hQ=> ?_;clear hr;subst z1r;wp_walk
  exact hQ
end
section
variable {A:Around} {E:Value->Shared->Prop} {h:Heap} {g:Array GenState} {d:Drawn} {t:Nat} {os:OsState} {mC mB:Str->Option Value}
theorem GN {rest:List Value} {fI:Addr} {oI:Obj} {Q:Value->Shared->Prop} (x:G5 h mC mB) (hi:mC "__init__"=some (.ref fI))
  (hfI:h.get? fI=some oI) (hfc:oI.cls=.type "function")
  (hq: ∀h' e,Heap.MadeExcOf h h' e (.ref 52) rest->
   wpAny (model prog w) (A.under (.builtin "type.__call__" ⟨.ref 52::rest,[]⟩)) (call (.ref fI) (.ref e::rest)) (fun r s'=>r=.none/\Q (.ref e) s') E ⟨h',g,d,t,os⟩) (hrest:rest.length<=sizeLine):
  wpAny (model prog w) A (call (.ref 52) rest) Q E ⟨h,g,d,t,os⟩:=by
 have x':=x;obtain⟨⟨xc,hC⟩,-,hn,-⟩:=x';have f1:=tc_lookup;have f2:=PySem.tc_bind (.ref 52);have hT:(⟨h,g,d,t,os⟩:Shared).TypeIs (.ref 52) "type":=⟨_,hC,rfl⟩;refine wpAny_call (codeAny_of_tree ?_);show wpAny _ _ (callAny (.ref 52) _) _ _ _;repeat (any_goals (first|assumption|with_reducible refine wpAny_loadPart_at hC ?_|wp_step))
 refine⟨rfl,?_⟩;refine codeAny_call_builtin_at (Code.quiet_builtin _ (by decide+kernel)) entry_typeCall (wpAny_check_type_call_sub hC (nS (hrest:=hrest) x hi hfI hfc fun h' e hm=> ?_));exact hq h' e hm
end
end
section
open PySem PySem.W PyProof.Rows Builtin Builtin.ObjectAttr
section
variable {A:Around} {E:Value->Shared->Prop} {h:Heap} {g:Array GenState} {d:Drawn} {t:Nat} {os:OsState} {mC mB mA:Str->Option Value} {x:Addr} {name:Str} {v:Value}
theorem iU {tk:Tok} {Q:Fin->Shared->Prop} {ns:List Str} (X:G5 h mC mB) (hna:mC name=none) (hnb:mB name=none)
  (hB:typeLookup (.type "ValueError") name=pure none) (hxC:x≠52) (I:h.Inst x 52 mA)
  (hq: ∀h' tk',h'.Inst x 52 (fun y=>if y=name then some v else mA y)->
   (∀b o,b≠x->(∀L2 dx,h.get? x=some L2->L2.dict=some dx->b≠dx)->h.get? b=some o->h'.get? b=some o)->
   (∀L2,h.get? x=some L2-> ∃L1,h'.get? x=some L1/\L1.cls=L2.cls/\L1.data=L2.data/\L1.slots=L2.slots/\ ∀dx,L2.dict=some dx->L1.dict=some dx)->
   (∀L2,h.get? x=some L2->L2.dict=none-> ∀L1 dO,h'.get? x=some L1->L1.dict=some dO->h.get? dO=none)->Q (.done (.ret .none)) ⟨h',g,d,tk',os⟩) (hw:Within mA ns:=by within_ways) (hsz:ns.length<=sizeLine:=by size_fits):
  wpAny (model prog w) A (Builtin.«object.__setattr__» ⟨[.ref x,.str name tk,v],[]⟩) Q E ⟨h,g,d,t,os⟩:=by
 refine iK I fun o hx hc hnc hd=> ?_;clear I;have SF:=PySem.F.store_ValueError;have hpass:=SF.passes (.ref x);have X':=X;obtain⟨⟨xc,hC⟩,-,-,-⟩:=X';unfold Builtin.«object.__setattr__»;repeat (first|rw[refuse_eq]|(rw[refuseLoop_ref,refuseLoop_ref,hpass])|(with_reducible refine wpAny_loadPart_at hx ?_;rw[hc])|with_reducible refine wpAny_mroOf_exc hC ?_|(with_reducible refine W2 X hB ?_;rw[hna,hnb])|wp_step)
 rcases hd with⟨hdn,hmA⟩|⟨dx,hdx,hne,hns⟩
 ·
  rw[hdn,if_neg (by simp[typeHasDict])];split
  ·rename_i hcd;injection hcd
  split
  ·rename_i c hcd;exact absurd hcd (hnc c)
  ·have OH:(h.push {cls:=.type "dict",data:=.dict #[]}).get? x=some o:=Heap.get?_push_of_some _ hx;have hxs:x≠h.objs.size:=Nat.ne_of_lt (Heap.lt_size hx);refine wpAny_bind (wpAny_alloc' ?_);refine wpAny_bind (wpAny_update' OH ?_);refine wpAny_pure ?_;have hgd:((h.push {cls:=.type "dict",data:=.dict #[]}).update x fun o=>{cls:=o.cls,dict:=some h.objs.size,data:=o.data,slots:=o.slots}).get? h.objs.size
     =some {cls:=.type "dict",data:=.dict #[]}:=
    (Heap.get?_update_ne _ _ _ _ hxs.symm).trans (Heap.get?_push_at rfl rfl)
   have hnd:((h.push {cls:=.type "dict",data:=.dict #[]}).update x fun o=>{cls:=o.cls,dict:=some h.objs.size,data:=o.data,slots:=o.slots}).Ns h.objs.size (fun Z=>none):=
    ⟨_,#[],_,hgd,rfl,fun e he=>absurd he (by simp),fun Z=>rfl⟩
   show wpAny _ _ (storeInDict h.objs.size (.str name tk) name v) _ _ _;unfold storeInDict newKeyGuard;refine wpAny_bind (wpAny_pure (wpAny_bind (wpAny_nsSet1 (Heap.Ns1.of_empty hnd) fun h' hn' hs=> ?_)));refine nK (hn'.count (Within.cons name v Within.nil)) fun oD esD epD hoD hdD hcD=> ?_;refine wpAny_bind (wpAny_lookBehind hoD (by rw[hdD];exact pastItsLine_dict (Nat.le_trans hcD (by rw[List.length_cons,List.length_nil,sizeLine_eq];omega))) ?_);wp_walk
   have hx':h'.get? x=some {cls:=o.cls,dict:=some h.objs.size,data:=o.data,slots:=o.slots}:= ?_;refine hq h' _ ⟨{cls:=o.cls,dict:=some h.objs.size,data:=o.data,slots:=o.slots},hx',hc,hnc,.inr ⟨h.objs.size,rfl,hxs.symm,?_⟩⟩ (fun b ob hbx Z hb=> ?_)
    (fun L2 h₀=>by obtain rfl:o=L2:=Option.some.inj (hx.symm.trans h₀);exact⟨_,hx',rfl,rfl,rfl,fun dx e=>by rw[hdn] at e;injection e⟩)
    (fun L2 h₀ Z L1 dO I5 oP=>by obtain rfl:=Option.some.inj (hx'.symm.trans I5);obtain rfl:h.objs.size=dO:=Option.some.inj oP;exact Heap.get?_none_of_le (Nat.le_refl _))
   ·refine ON hn' fun o' es ep e1 e2 e3 eu e4=> ?_;clear hn';exact⟨o',es,ep,e1,e2,e3,eu,fun y=>by rw[e4 y];by_cases hy:y=name<;>simp[hy,hmA]⟩
   ·exact(hs.2 b (Nat.ne_of_lt (Heap.lt_size hb))).trans ((Heap.get?_update_ne _ _ _ _ hbx).trans (Heap.get?_push_of_some _ hb))
   ·refine(hs.2 x hxs).trans (Heap.get?_update_self _ OH ?_);have hfr:=(Heap.get?_some_iff.mp hx).2;obtain⟨oc,od,odt,osl⟩:=o;cases odt<;>first|rfl|exact hfr
 ·
  rw[hdx];refine wpAny_pure ?_;show wpAny _ _ (storeInDict dx (.str name tk) name v) _ _ _;unfold storeInDict newKeyGuard;refine wpAny_bind (wpAny_pure (wpAny_bind (wpAny_nsSet1 hns fun h' hn' hs=> ?_)));refine nK (hn'.count (Within.cons name v hw)) fun oD esD epD hoD hdD hcD=> ?_;refine wpAny_bind (wpAny_lookBehind hoD (by rw[hdD];exact pastItsLine_dict (Nat.le_trans hcD (by rw[List.length_cons];exact Nat.succ_le_succ hsz))) ?_);wp_walk
  refine hq h' _ ⟨o,(hs.2 x hne.symm).trans hx,hc,hnc,.inr ⟨dx,hdx,hne,hn'⟩⟩ (fun b ob Z hbd hb=> ?_)
   (fun L2 h₀=>⟨L2,(hs.2 x hne.symm).trans h₀,rfl,rfl,rfl,fun Z e=>e⟩)
   (fun L2 h₀ sU=>by obtain rfl:=Option.some.inj (hx.symm.trans h₀);rw[hdx] at sU;injection sU)
  exact(hs.2 b (hbd o dx hx hdx)).trans hb
end
section
variable {A:Around} {E:Value->Shared->Prop} {h:Heap} {g:Array GenState} {d:Drawn} {t:Nat} {os:OsState} {mC mB mA:Str->Option Value} {x:Addr} {name:Str} {v:Value}
theorem rI {M:Model} {o:Obj} {s0:Value} {Q:Unit->Shared->Prop} (X:G5 h mC mB) (hx:h.get? x=some o) (hc:o.cls=.ref 52) (hq:Q () ⟨h,g,d,t,os⟩):
  wpAny M A (checkBuiltinCall "object.__setattr__" ⟨[.ref x,s0,v],[]⟩) Q E ⟨h,g,d,t,os⟩:=by
 have SF:=PySem.F.store_ValueError;obtain⟨⟨xc,hC⟩,-,-,-⟩:=X;have hcB:(Value.ref 52::.ref 32::W1).contains (.type "object")=true:=by decide+kernel
 have ha:=SF.args (.ref x) s0 v;simp only[checkBuiltinCall,SF.kind,SF.split];refine wpAny_bind ?_
 ·unfold isInstance;repeat (first|(with_reducible refine wpAny_loadPart_at hx ?_;rw[hc])|(with_reducible refine wpAny_isSubtype_exc hC ?_;rw[hcB])|wp_step)
  exact hq
theorem hW {Q:Unit->Shared->Prop} {ns:List Str} (X:G5 h mC mB) (hsC:mC "__setattr__"=none) (hsB:mB "__setattr__"=none) (hna:mC name=none) (hnb:mB name=none)
  (hB:typeLookup (.type "ValueError") name=pure none) (hxC:x≠52) (I:h.Inst x 52 mA)
  (hq: ∀h' tk',h'.Inst x 52 (fun y=>if y=name then some v else mA y)->
   (∀b o,b≠x->(∀L2 dx,h.get? x=some L2->L2.dict=some dx->b≠dx)->h.get? b=some o->h'.get? b=some o)->
   (∀L2,h.get? x=some L2-> ∃L1,h'.get? x=some L1/\L1.cls=L2.cls/\L1.data=L2.data/\L1.slots=L2.slots/\ ∀dx,L2.dict=some dx->L1.dict=some dx)->
   (∀L2,h.get? x=some L2->L2.dict=none-> ∀L1 dO,h'.get? x=some L1->L1.dict=some dO->h.get? dO=none)->Q () ⟨h',g,d,tk',os⟩) (hw:Within mA ns) (hsz:ns.length<=sizeLine):
  wpAny (model prog w) A (setAttr (.ref x) name v) Q E ⟨h,g,d,t,os⟩:=by
 have SF:=PySem.F.store_ValueError;refine s5 (id I) fun o hx hc Z=> ?_;have f3:=SF.slot.bind (.ref x);unfold setAttr callSpecial? specialOf;repeat (any_goals (first|assumption|(with_reducible refine wpAny_loadPart_at hx ?_;rw[hc])|(with_reducible refine W2 X SF.slot.lookup ?_;rw[hsC,hsB])|wp_step))
 refine codeAny_call_builtin SF.slot.plain SF.entry (rI X hx hc (iU X hna hnb hB hxC I (fun h' tk' I' hk hsame hfr=> ?_) hw hsz));repeat (any_goals (first|assumption|wp_step))
 exact hq h' tk' I' hk hsame hfr
end
section
variable {A:Around} {E:Value->Shared->Prop} {h:Heap} {g:Array GenState} {d:Drawn} {t:Nat} {os:OsState} {mC mB m:Str->Option Value} {x dx:Addr} {name:Str} {v:Value} {o:Obj} {vs:Array Value}
theorem rJ {M:Model} {s0:Value} {Q:Unit->Shared->Prop} (X:G5 h mC mB) (hx:h.get? x=some o) (hc:o.cls=.ref 52) (hq:Q () ⟨h,g,d,t,os⟩):
  wpAny M A (checkBuiltinCall "BaseException.__getattribute__" ⟨[.ref x,s0],[]⟩) Q E ⟨h,g,d,t,os⟩:=by
 obtain⟨⟨xc,hC⟩,-,-,-⟩:=X;have hk:builtinKind "BaseException.__getattribute__"=some .slot:=by decide+kernel
 have hsplit:splitId "BaseException.__getattribute__"=some ("BaseException","__getattribute__"):=by decide+kernel
 have hcB:(Value.ref 52::.ref 32::W1).contains (.type "BaseException")=true:=by decide+kernel
 have ha:=F.args_bexc_ga (.ref x) s0;simp only[checkBuiltinCall,hk,hsplit];refine wpAny_bind ?_
 ·unfold isInstance;repeat (first|(with_reducible refine wpAny_loadPart_at hx ?_;rw[hc])|(with_reducible refine wpAny_isSubtype_exc hC ?_;rw[hcB])|wp_step)
  exact hq
theorem rK {tk:Tok} {Q:Fin->Shared->Prop} (X:G5 h mC mB) (cn:mC name=none) (bn:mB name=none) (hB:typeLookup (.type "ValueError") name=pure none) (hx:h.get? x=some o) (hc:o.cls=.ref 52)
  (hdt:o.data=.fields vs) (hd:o.dict=some dx) (hn:h.Ns dx m) (hm:m name=some v) (hq:Q (.done (.ret v)) ⟨h,g,d,t,os⟩):
  wpAny (model prog w) A (Builtin.«object.__getattribute__» ⟨[.ref x,.str name tk],[]⟩) Q E ⟨h,g,d,t,os⟩:=by
 repeat (any_goals (first|assumption|(with_reducible refine wpAny_loadPart_at hx ?_;rw[hc])|(with_reducible refine W2 X hB ?_;rw[cn,bn])|wp_step))
 rw[hdt];show wpAny _ _ (instanceDict x false) _ _ _;unfold instanceDict;repeat (any_goals (first|assumption|(with_reducible refine wpAny_loadPart_at hx ?_;rw[hd])|wp_step))
 rw[hc];obtain⟨⟨xc,hC⟩,-,-,-⟩:=id X;repeat (any_goals (first|assumption|with_reducible refine wpAny_loadPart_at hC ?_|(with_reducible refine wpAny_nsGet hn ?_;rw[hm])|wp_step))
theorem uH {expr:Bool} {Q:Value->Shared->Prop} (X:G5 h mC mB) (cg:mC "__getattribute__"=none) (bg:mB "__getattribute__"=none) (ch:mC "__getattr__"=none) (bh:mB "__getattr__"=none) (cn:mC name=none) (bn:mB name=none)
  (hB:typeLookup (.type "ValueError") name=pure none) (hx:h.get? x=some o) (hc:o.cls=.ref 52) (hdt:o.data=.fields vs) (hd:o.dict=some dx) (hn:h.Ns dx m) (hm:m name=some v) (hv:handedOut v=pure v) (hq:Q v ⟨h,g,d,t+1,os⟩):
  wpAny (model prog w) A (getAttr (.ref x) name expr) Q E ⟨h,g,d,t,os⟩:=by
 have FB:=PySem.F.attr_ValueError;have f3:=FB.ga.bind (.ref x);have hx0:(expr &&onTheHeap (Value.builtin "BaseException.__getattribute__"))=false:=by cases expr<;>rfl
 have hx2:(Value.builtin "BaseException.__getattribute__"==Value.builtin "object.__getattribute__")=false:=by decide+kernel
 have hx1:(onTheHeap (Value.ref 52) &&Value.builtin "BaseException.__getattribute__"==Value.builtin "object.__getattribute__")=false:=by rw[hx2];rfl
 unfold getAttr;repeat (any_goals (first|assumption|(with_reducible refine wpAny_loadPart_at hx ?_;rw[hc])|(with_reducible refine W2 X FB.ga.lookup ?_;rw[cg,bg])|(with_reducible refine W2 X PySem.F.attrBase_ValueError.noGetattr ?_;rw[ch,bh])|wp_step))
 refine codeAny_call_builtin FB.ga.plain F.entry_bexc_ga (rJ X hx hc (rK X cn bn hB hx hc hdt hd hn hm ?_));repeat (any_goals (first|assumption|wp_step))
end
end
section
open PySem PySem.W PyProof.Rows
section
variable {A:Around} {E:Value->Shared->Prop} {s:Shared} {env:Env}
theorem hY {M:Model} {x name:Str} {np apos pos:Pos} {args:List Expr} {Q:Value->Shared->Prop} (hn:args.length<30) (hp:args.any Q2=false) (hl:(apos.endLine==pos.line)=true)
  (h:wpAny M A (eval (.Name x np) env) (fun ov s₁=>wpAny M A (getMethod ov name (do return (<-importBound (.Name x np) env).getD true)) (fun fx e7=>wpAny M A (callWith pos fx.1 fx.2 (backTo pos (starEach args env)) []) Q E e7) E s₁) E s):
  wpAny M A (eval (.Call (.Attribute (.Name x np) name apos) args [] pos) env) Q E s:=by
 rw[arm_eval_Call];have hform:methodCallForm (args.length+([]:List Keyword).length) (backTo pos (starEach args env)) (backToKw pos (keywordEach [] env))=true:=by
  unfold methodCallForm;rw[Bool.and_eq_true,Bool.and_eq_true];refine⟨⟨?_,rfl⟩,by show decide (args.length+0+0<30)=true;simpa using hn⟩;have:=(Y3 (env:=env) pos hp).1;rw[List.all_eq_not_any_not];simpa using this
 have hpos:methodCallPos true (.Name x np) env apos pos=pure pos:=by unfold methodCallPos;simp[hl]
 refine wpAny_bind (wpAny_mono h (fun ov s₁ y6=> ?_) fun Z Z e=>e);refine wpAny_bind (wpAny_standAt ?_);unfold methodCall;rw[hform];refine wpAny_bind (wpAny_holding ?_);show wpAny _ _ (getMethod ov name (do return (<-importBound (.Name x np) env).getD true)) _ _ _;exact wpAny_mono y6 (fun fx e7 i8=>wpAny_bind (wpAny_of_eq hpos i8)) fun Z Z e=>e
theorem LQ {pl:Sem Bool} {Q:Value×List Value->Shared->Prop} (h:Q (.builtin "ValueError.__init__",[]) {s with toks:=s.toks+1}):
  wpAny (model prog w) A (getMethod (.type "ValueError") "__init__" pl) Q E s:=by
 have X:Frag.In [] s.heap:=fun a o e=>by injection e
 have ht:typeOf (.type "ValueError")=pure (.type "type"):=by first|rfl|kernel_rfl
 have hstub:opaqueClassAbove (.type "ValueError")=pure none:=by unfold opaqueClassAbove;dsimp only;rw[show Manifest.isStub "ValueError"=false by decide+kernel];rfl
 have L0:Looks (model prog w) s.heap (typeOf (.type "ValueError")) (.type "type"):=Looks.of_pure ht;unfold getMethod specialOf;refine wpAny_bind (wpAny_bind (L0.here ((looks_findIn X type_tga).here ?_)));dsimp only;rw[if_pos canon_tga];refine wpAny_bind (wpAny_mono (Q:=fun v=>Q (v,[])) (E:=E) ?_ (fun Z Z z=>wpAny_pure z) fun Z Z z=>z);have LO:Looks (model prog w) s.heap (opaqueClassAbove (.type "ValueError")) none:=Looks.of_pure hstub;have hh:handedIn (.builtin "ValueError.__init__")=true:=by decide+kernel
 refine cls_open (r:=.val (.builtin "ValueError.__init__")) X LO L0 type_tga (looks_hook X (r:=none) (by rfl)) (by show subIn [] _ _=_;rfl) (by kernel_rfl)
  (wpAny_pure (by show wpAny _ _ (handedOut (.builtin "ValueError.__init__")) _ _ _;rw[handedOut_of hh];exact wpAny_pure h))
theorem GO {K:Frag} {D fB:Addr} {pl:Sem Bool} {Q:Value×List Value->Shared->Prop} (X:K.In s.heap) (hs:specialIn K (.ref D) "__getattribute__"=some (some (.builtin "type.__getattribute__")))
  (hr:readsIn K D (.type "type")=true) (hf:findCls K (.ref D) (.type "type") "__init__"=some (.val (.ref fB))) (h:Q (.ref fB,[]) {s with toks:=s.toks+1}):
  wpAny (model prog w) A (getMethod (.ref D) "__init__" pl) Q E s:=
 method_cls X hs (cls_value X hr hf rfl h)
end
section
variable {A:Around} {E:Value->Shared->Prop} {h:Heap} {g:Array GenState} {d:Drawn} {t:Nat} {os:OsState} {mC mB:Str->Option Value}
theorem lF {M:Model} {e:Addr} {oe:Obj} {rest:List Value} {Q:Unit->Shared->Prop} (x:G5 h mC mB) (he:h.get? e=some oe) (hcls:oe.cls=.ref 52) (hq:Q () ⟨h,g,d,t,os⟩):
  wpAny M A (checkBuiltinCall "ValueError.__init__" ⟨.ref e::rest,[]⟩) Q E ⟨h,g,d,t,os⟩:=by
 have F:=PySem.F.excBase_ValueError;obtain⟨⟨xc,hC⟩,-,-,-⟩:=x;have hcB:(Value.ref 52::.ref 32::W1).contains (.type "ValueError")=true:=by decide+kernel
 have hshort:=F.noStar;simp only[checkBuiltinCall,F.initKind,F.initSplit,F.initRow];repeat (first|(with_reducible refine wpAny_loadPart_at he ?_;rw[hcls])|with_reducible refine wpAny_loadPart_at hC ?_|(with_reducible refine wpAny_isSubtype_exc hC ?_;rw[hcB])|wp_step)
 refine wpAny_onRaise ?_;rw[show ∀(a b:String) (n:Nat),Bind.check ⟨.positional,"*","ValueError",.self,[⟨"args",.varPos,false⟩]⟩ a b n (List.map (fun x=>x.fst) ({pos:=Value.ref e::rest}:Args).kw)=pure () from
  fun a b n=>check_star_args _ _ _ _ _ _]
 exact wpAny_pure hq
theorem CD {e t0:Addr} {r:Value} {Q:Value->Shared->Prop} (x:G5 h mC mB)
  (he:h.get? e=some {cls:=.ref 52,data:=.fields #[.ref t0,.none,.none,.none,.bool false,.none]})
  (hq: ∀h',(∀b o,b≠e->h.get? b=some o->h'.get? b=some o)->h'.get? e=some {cls:=.ref 52,data:=.fields #[.ref h.objs.size,.none,.none,.none,.bool false,.none]}->
   Q .none ⟨h',g,d,t,os⟩):
  wpAny (model prog w) A (call (.builtin "ValueError.__init__") [.ref e,r]) Q E ⟨h,g,d,t,os⟩:=by
 have F:=PySem.F.excBase_ValueError;refine wpAny_call (codeAny_call_builtin F.init.plain F.initEntry (lF x he rfl ?_));wp_walk
 refine hq _ (fun b o hb h0=> ?_) ?_
 ·rw[Heap.get?_update_other _ _ (Ne.symm hb)];exact Heap.get?_push_of_some _ h0
 ·rw[Heap.get?_update_self _ (Heap.get?_push_of_some _ he) rfl];rfl
end
structure lG (h:Heap) (gl a:Addr) (ps:List Str) (gn:Str) (body:List Stmt) (fd:FuncData):Prop where
 obj: ∃o,h.get? a=some o/\o.data=.func fd/\o.cls=.type "function"
 code:h.CodeRec fd.code fd.qualname
 body:fd.body=.stmts body
 bind: ∀(s:Shared) (us:List Value),(∀b o,h.get? b=some o->s.heap.get? b=some o)->us.length=ps.length->BindsTo s fd ⟨us,[]⟩ (ps.zip us)
 glob:fd.globals=gl
 bis:fd.builtins=builtinsNs
 loc: ∀x∈ps,fd.scope.names.lookup x=some .local
 gn:fd.scope.names.lookup gn=some .globalImplicit
 cells: ∀x∈fd.scope.names,x.2≠.cell
 co:fd.scope.isCoroutine=false
 gen:fd.scope.isGenerator=false
 kind:fd.scope.kind=.function
noncomputable def pB (n:Nat):Pos:=([⟨5,8,5,18⟩,⟨5,8,5,27⟩,⟨5,28,5,32⟩,⟨5,34,5,40⟩,⟨5,8,5,41⟩,⟨5,8,5,41⟩,⟨6,8,6,12⟩,⟨6,8,6,19⟩,⟨6,22,6,28⟩,⟨6,8,6,28⟩]:List Pos).getD (n-1) ⟨0,0,0,0⟩
noncomputable def pC (n:Nat):Pos:=([⟨10,8,10,18⟩,⟨10,8,10,27⟩,⟨10,28,10,32⟩,⟨10,34,10,58⟩,⟨10,8,10,59⟩,⟨10,8,10,59⟩,⟨11,8,11,12⟩,⟨11,8,11,17⟩,⟨11,20,11,24⟩,⟨11,8,11,24⟩,⟨10,36,10,41⟩,⟨10,42,10,46⟩,⟨10,41,10,47⟩,⟨10,47,10,49⟩,⟨10,50,10,56⟩,⟨10,49,10,57⟩]:List Pos).getD (n-1) ⟨0,0,0,0⟩
noncomputable def zR:List Stmt:=
 [.Expr (.Call (.Attribute (.Name "ValueError" (pB 1)) "__init__" (pB 2)) [.Name "self" (pB 3),.Name "reason" (pB 4)] [] (pB 5)) (pB 6),
  .Assign [.Attribute (.Name "self" (pB 7)) "reason" (pB 8)] (.Name "reason" (pB 9)) (pB 10)]
noncomputable def zS:List Stmt:=
 [.Expr (.Call (.Attribute (.Name "BoardError" (pC 1)) "__init__" (pC 2)) [.Name "self" (pC 3),.JoinedStr [.Constant (.str "line ") 0 (pC 11),.FormattedValue (.Name "line" (pC 12)) (-1) none (pC 13),.Constant (.str ": ") 0 (pC 14),.FormattedValue (.Name "reason" (pC 15)) (-1) none (pC 16)] (pC 4)] [] (pC 5)) (pC 6),
  .Assign [.Attribute (.Name "self" (pC 7)) "line" (pC 8)] (.Name "line" (pC 9)) (pC 10)]
structure CE (W:Wd) (K:Frag) (mC mB mE:Str->Option Value) (fdC fdB:FuncData):Prop where
 at_:G5 W.G mC mB
 kin:K.In W.G
 E:W.G.Ns 3 mE
 eB:mE "BoardError"=some (.ref 32)
 eV:mE "ValueError"=none
 main:W.mg "BadText"=some (.ref 52)
 c1:mC "__setattr__"=none
 c2:mC "line"=none
 c3:mC "reason"=none
 b1:mB "__setattr__"=none
 b2:mB "line"=none
 b3:mB "reason"=none
 ci:mC "__init__"=some (.ref 49)
 rd:readsIn K 32 (.type "type")=true
 fc:findCls K (.ref 32) (.type "type") "__init__"=some (.val (.ref 29))
 sp:specialIn K (.ref 32) "__getattribute__"=some (some (.builtin "type.__getattribute__"))
 IC:lG W.G 3 49 ["self","line","reason"] "BoardError" zS fdC
 IB:lG W.G 3 29 ["self","reason"] "ValueError" zR fdB
noncomputable def GP (t:Addr) (dx:Option Addr):Obj:={cls:=.ref 52,dict:=dx,data:=.fields #[.ref t,.none,.none,.none,.bool false,.none]}
structure NY (h h':Heap) (e:Addr) (m:Str->Option Value):Prop where
 keep: ∀b o,b≠e->h.get? b=some o->h'.get? b=some o
 inst:h'.Inst e 52 m
 obj: ∃o t,h'.get? e=some o/\o.cls=.ref 52/\o.data=.fields #[.ref t,.none,.none,.none,.bool false,.none]
 fresh: ∀o d,h'.get? e=some o->o.dict=some d->h.get? d=none
section
variable {W:Wd} {A:Around} {E:Value->Shared->Prop} {s:Shared} {K:Frag} {mC mB mE:Str->Option Value} {fdC fdB:FuncData}
set_option backward.match.sparseCases true in
noncomputable def PX (Q:Value->Shared->Prop) (E:Value->Shared->Prop) (r:Result) (s:Shared):Prop:=match r with| .ok (.ret v)=>Q v s| .ok _=>False| .error x=>E x s
theorem GQ {h h':Heap} {L e:Addr} {m:Str->Option Value} (n:h.Ns L m) (k: ∀b o,b≠e->h.get? b=some o->h'.get? b=some o) (hne:L≠e):h'.Ns L m:=
 F6 (n) fun o es ep ho r=>⟨o,es,ep,k _ _ hne ho,r⟩
theorem TY {e t:Addr} {r:Value} {Q:Value->Shared->Prop} (wok:W.Ok) (B:CE W K mC mB mE fdC fdB) (hroom:A.depth<recursionLimit)
  (keep: ∀b o,W.G.get? b=some o->s.heap.get? b=some o) (heG:W.G.get? e=none) (he:s.heap.get? e=some (GP t none))
  (hq: ∀h' tk,NY s.heap h' e (fun y=>if y="reason" then some r else none)->Q .none {s with heap:=h',toks:=tk}):
  wpAny (model prog w) A (call (.ref 29) [.ref e,r]) Q E s:=by
 have I:=B.IB;refine s5 I.obj fun o ho hd hcl=> ?_;refine wpAny_call (codeAny_call_def (R:=PX Q E) hroom (keep _ _ ho) hd (wok.nolimit.keeps keep) (I.code.keeps keep) I.body (I.bind s [.ref e,r] keep rfl) I.cells (fun x hx=> ?_) (fun h₀ hns hk=> ?_) I.co I.gen I.kind)
 ·have:x.1∈(["self","reason"]:List Str):=by
   rcases hx with _|⟨_,_|⟨_,hx⟩⟩
   ·exact List.mem_cons_self
   ·exact List.mem_cons_of_mem _ List.mem_cons_self
   ·cases hx
  exact I.loc _ this
 have kG: ∀b o,W.G.get? b=some o->h₀.get? b=some o:=fun b o x=>hk b o (keep b o x);have bG: ∀{h':Heap},(∀b o,b≠e->h₀.get? b=some o->h'.get? b=some o)-> ∀b o,W.G.get? b=some o->h'.get? b=some o:=fun z b o x=>z b o (fun q=>by rw[q,heG] at x;injection x) (kG b o x);have heL:e≠s.heap.objs.size:=Nat.ne_of_lt (Heap.lt_size he);unfold zR;refine wpAny_execs_cons ?_;refine wpAny_Expr ?_ (R8 I.kind);refine hY (by simp) rfl rfl ?_;refine Calls.Name_function_global I.kind I.gn (Calls.loadGlobal_builtin (mg:=mE) (mb:=W.mb) ?_ B.eV ?_ (wok.boot "ValueError" (by decide)) ?_) (by decide)
 ·show h₀.Ns fdB.globals mE;rw[I.glob];exact A0 B.E kG
 ·show h₀.Ns fdB.builtins W.mb;rw[I.bis];exact A0 wok.b kG
 refine LQ ?_;refine Calls.callWith_builtin rfl ?_;refine Calls.evalArgs_plain (Calls.spliced_cons (ldc I.kind (I.loc _ List.mem_cons_self) hns (by rfl) (Calls.spliced_cons (ldc I.kind (I.loc _ (List.mem_cons_of_mem _ List.mem_cons_self)) hns (by rfl) (Calls.spliced_nil ?_)))));refine CD (B.at_.keeps kG) (hk _ _ he) fun y6 NB wJ=> ?_;have wK:=GQ hns NB heL.symm;refine wpAny_execs_cons ?_;refine plainObj_wpAny_Assign_Attribute (ldc I.kind (I.loc _ (List.mem_cons_of_mem _ List.mem_cons_self)) wK (by rfl) (ldc I.kind (I.loc _ List.mem_cons_self) wK (by rfl) ?_)) rfl;have hne:e≠52:=fun q=>by
  refine d6 B.at_.c fun xc hC=> ?_;rw[q,hC] at heG;injection heG
 have ZQ:y6.Inst e 52 (fun Z=>none):=⟨_,wJ,rfl,fun c q=>(by injection q),.inl ⟨rfl,fun Z=>rfl⟩⟩;refine hW (ns:=[]) (B.at_.keeps (bG NB)) B.c1 B.b1 B.c3 B.b3 (by rw[typeLookup_type,builtinLookup_eq_fast];kernel_rfl) hne ZQ (fun h' tk' I' kp hsame hfr=> ?_) Within.nil (by simp);refine wpAny_execs_nil ?_;refine hq h' tk' ⟨fun b o hb h0=>kp b o hb (fun L2 dx sU ed=>by rw[wJ] at sU;injection sU with sU;subst sU;injection ed) (NB b o hb (hk b o h0)),I',?_,fun L1 dO I5 ed=> ?_⟩
 ·refine iK (hsame _ wJ) fun L1 I5 RO VB Z=> ?_;exact⟨L1,_,I5,RO,VB⟩
 ·have hn:=hfr _ wJ rfl L1 dO I5 ed;cases hz:s.heap.get? dO with
  |none=>rfl
  |some oz=>
   by_cases hb:dO=e
   ·rw[hb,wJ] at hn;injection hn
   ·rw[NB _ _ hb (hk _ _ hz)] at hn;injection hn
end
section
variable {W:Wd} {A:Around} {E:Value->Shared->Prop} {s:Shared} {K:Frag} {mC mB mE:Str->Option Value} {fdC fdB:FuncData}
theorem TZ {e t:Addr} {l:Int} {lt rt:Tok} {r:Str} {Q:Value->Shared->Prop} (wok:W.Ok) (B:CE W K mC mB mE fdC fdB) (hroom:A.depth+1<recursionLimit) (hl:l.natAbs<1000000) (hr:r.length<=1000)
  (keep: ∀b o,W.G.get? b=some o->s.heap.get? b=some o) (heG:W.G.get? e=none) (he:s.heap.get? e=some (GP t none))
  (hq: ∀h' tk m,NY s.heap h' e m->m "line"=some (.int l lt)->Q .none {s with heap:=h',toks:=tk}):
  wpAny (model prog w) A (call (.ref 49) [.ref e,.int l lt,.str r rt]) Q E s:=by
 have I:=B.IC;refine s5 I.obj fun o ho hd hcl=> ?_;refine wpAny_call (codeAny_call_def (R:=PX Q E) (DY hroom) (keep _ _ ho) hd (wok.nolimit.keeps keep) (I.code.keeps keep) I.body (I.bind s [.ref e,.int l lt,.str r rt] keep rfl) I.cells (fun x hx=> ?_) (fun h₀ hns hk=> ?_) I.co I.gen I.kind)
 ·have:x.1∈(["self","line","reason"]:List Str):=by
   rcases hx with _|⟨_,_|⟨_,_|⟨_,hx⟩⟩⟩
   ·exact List.mem_cons_self
   ·exact List.mem_cons_of_mem _ List.mem_cons_self
   ·exact List.mem_cons_of_mem _ (List.mem_cons_of_mem _ List.mem_cons_self)
   ·cases hx
  exact I.loc _ this
 have kG: ∀b o,W.G.get? b=some o->h₀.get? b=some o:=fun b o x=>hk b o (keep b o x);have bG: ∀{h':Heap},(∀b o,b≠e->h₀.get? b=some o->h'.get? b=some o)-> ∀b o,W.G.get? b=some o->h'.get? b=some o:=fun z b o x=>z b o (fun q=>by rw[q,heG] at x;injection x) (kG b o x);have heL:e≠s.heap.objs.size:=Nat.ne_of_lt (Heap.lt_size he);have hlog:l.natAbs.log2<20:=by
  rcases Nat.eq_zero_or_pos l.natAbs with q|q
  ·rw[q];decide
  ·exact(Nat.log2_lt (by omega)).mpr (Nat.lt_of_lt_of_le hl (by decide))
 have hlen:(Str.ofString (toString l)).length<=21:=by rw[PySem.ofString_length];exact int_text_length_le (k:=20) (by decide) hlog
 unfold zS;refine wpAny_execs_cons ?_;refine wpAny_Expr ?_ (R8 I.kind);refine hY (by simp) rfl rfl ?_;refine Calls.Name_function_global I.kind I.gn (Calls.loadGlobal_global (mg:=mE) ?_ B.eB ?_) (by decide)
 ·show h₀.Ns fdC.globals mE;rw[I.glob];exact A0 B.E kG
 refine GO (B.kin.keeps kG) B.sp B.rd B.fc ?_;have IB:=B.IB;refine s5 IB.obj fun oB hoB hdB Z=> ?_;refine Calls.callWith_function (o:=oB) (fd:=fdB) ?_;refine Calls.evalArgs_plain (Calls.spliced_cons (ldc I.kind (I.loc _ List.mem_cons_self) hns (by rfl) (Calls.spliced_cons ?_)));have joined: ∀OI:Nat,wpAny (model prog w) (A.deeper (callEnv fdC s.heap.objs.size 49)) (eval (.JoinedStr [.Constant (.str "line ") 0 (pC 11),.FormattedValue (.Name "line" (pC 12)) (-1) none (pC 13),.Constant (.str ": ") 0 (pC 14),.FormattedValue (.Name "reason" (pC 15)) (-1) none (pC 16)] (pC 4)) (callEnv fdC s.heap.objs.size 49))
   (fun v s'=> ∃out tk tk',v=.str out tk/\s'={s with heap:=h₀,toks:=tk'}) (fun Z Z=>False) {s with heap:=h₀,toks:=OI}:=by
  intro OI;refine wpAny_JoinedStr ?_;refine Calls.Constant_str ⟨_,_,rfl,(by decide),?_⟩;refine wpAny_FormattedValue_plain (ldc I.kind (I.loc _ (List.mem_cons_of_mem _ List.mem_cons_self)) hns (by rfl) (wpAny_formatField_int (by omega) ⟨_,_,rfl,?_,?_⟩))
  ·rw[strLen_append];have:(Str.empty++Str.ofString "line ").length=5:=by decide
   rw[this,sizeLine_eq];exact r37 hlen
  refine Calls.Constant_str ⟨_,_,rfl,?_,?_⟩
  ·rw[strLen_append,strLen_append];have:(Str.empty++Str.ofString "line ").length=5:=by decide
   have:(Str.ofString ": ").length=2:=by decide
   rw[sizeLine_eq];omega
  have z:((Str.empty++Str.ofString "line "++Str.ofString (toString l)++Str.ofString ": ")++r).length<=sizeLine:=by
   rw[strLen_append,strLen_append,strLen_append];have:(Str.empty++Str.ofString "line ").length=5:=by decide
   have:(Str.ofString ": ").length=2:=by decide
   rw[sizeLine_eq];omega
  refine wpAny_FormattedValue_plain (ldc I.kind (I.loc _ (List.mem_cons_of_mem _ (List.mem_cons_of_mem _ List.mem_cons_self))) hns (by rfl) (wpAny_formatField_str ⟨_,_,rfl,z,z,_,_,_,rfl,rfl⟩ ⟨_,_,rfl,z,z,_,_,_,rfl,rfl⟩ (by rw[sizeLine_eq];exact Nat.le_trans hr (by decide))))
 rw[if_neg (show ¬(false=true) by decide)];refine wpAny_mono (joined _) (fun v s₁ hv=> ?_) fun _ _ (x:False)=>x.elim;refine F6 hv fun out tk tk' z1r z2r=> ?_;clear hv;subst z1r;subst z2r;refine Calls.spliced_nil ⟨⟨kG _ _ hoB,hdB⟩,?_⟩;refine TY (s:={s with heap:=h₀,toks:=tk'}) wok B (by show A.depth+1<_;exact hroom) kG heG (hk _ _ he) fun y6 OG yR=> ?_;show wpAny _ _ _ _ _ _;have wK:=GQ hns yR.keep heL.symm;refine wpAny_execs_cons ?_;refine plainObj_wpAny_Assign_Attribute (ldc I.kind (I.loc _ (List.mem_cons_of_mem _ List.mem_cons_self)) wK (by rfl) (ldc I.kind (I.loc _ List.mem_cons_self) wK (by rfl) ?_)) rfl;have hne:e≠52:=fun q=>by
  refine d6 B.at_.c fun xc hC=> ?_;rw[q,hC] at heG;injection heG
 refine hW (ns:=["reason"]) (B.at_.keeps (bG yR.keep)) B.c1 B.b1 B.c2 B.b2 (by rw[typeLookup_type,builtinLookup_eq_fast];kernel_rfl) hne yR.inst (fun h' tk' I' kp hsame hfr=> ?_) (fun y hy=> ?_) (by decide)
 ·refine wpAny_execs_nil ?_;refine v9 yR.obj fun L1 n7 I5 RO dO=> ?_;refine DZ (hsame _ I5) fun RJ oP ZR RK Z e7=> ?_;have hdx: ∃dx,L1.dict=some dx:=by
   refine iK yR.inst fun o' e' Z Z hd'=> ?_;obtain rfl:=Option.some.inj (I5.symm.trans e');rcases hd' with⟨_,hz⟩|⟨dx,h1,_⟩
   ·have:=hz "reason";cases (if_pos rfl).symm.trans this
   ·exact⟨dx,h1⟩
  refine d6 hdx fun dx hdx=> ?_;have nH:=yR.fresh _ _ I5 hdx;have frs:s.heap.get? dx=none:=by
   cases hz:s.heap.get? dx with
   |none=>rfl
   |some oz=>
    have:=hk _ _ hz;rw[show h₀.get? dx=none from nH] at this;injection this
  refine hq h' tk' _ ⟨fun b o hb h0=>kp b o hb (fun L2 d' sU ed=> ?_) (yR.keep b o hb (hk b o h0)),I',⟨RJ,n7,oP,ZR.trans RO,RK.trans dO⟩,fun aO5 aO6 JL ed=> ?_⟩ (if_pos rfl)
  ·obtain rfl:=Option.some.inj (I5.symm.trans sU);rw[hdx] at ed;injection ed with ed;subst ed;intro q;rw[q,frs] at h0;injection h0
  ·obtain rfl:=Option.some.inj (oP.symm.trans JL);have:=e7 dx hdx;rw[this] at ed;injection ed with ed;subst ed;exact frs
 ·have hy:(if y="reason" then some (Value.str out tk) else none)≠none:=hy;by_cases q:y="reason"
  ·rw[q];exact List.mem_cons_self
  ·rw[if_neg q] at hy;exact absurd rfl hy
end
section
variable {M:Model} {A:Around} {E:Value->Shared->Prop} {env:Env} {mC mB:Str->Option Value}
theorem nT {s:Shared} {x:Sem Value} {Q:Flow->Shared->Prop} (hh:A.handled=none)
  (h:wpAny M A x (fun v s₁=> ∃e o t,v=.ref e/\G5 s₁.heap mC mB/\s₁.heap.get? e=some o/\o.cls=.ref 52/\o.data=.fields #[.ref t,.none,.none,.none,.bool false,.none]/\E (.ref e) s₁) E s):
  wpAny M A (raiseStmt env (some x) none) Q E s:=by
 have hcB:(Value.ref 52::.ref 32::W1).contains (.type "BaseException")=true:=by decide+kernel
 unfold raiseStmt;refine wpAny_bind (wpAny_mono h (fun v s₁ y6=> ?_) fun Z Z x=>x);refine WP y6 fun e z1n t z2r X he hcls hdt hE=> ?_;clear y6;obtain⟨oc,od,odt,osl⟩:=z1n;subst z2r;dsimp only at hcls hdt;subst hcls hdt;obtain⟨⟨xc,hC⟩,-,-,-⟩:=X;obtain⟨hp,g,d,tk,os⟩:=s₁;repeat (first|with_reducible refine wpAny_loadPart_at he ?_|with_reducible refine wpAny_loadPart_at hC ?_|(with_reducible refine wpAny_isSubtype_exc hC ?_;rw[hcB])|wp_step)
 exact wpAny_raiseNew_none hh hE
end
section
variable {W:Wd} {K:Frag} {mC mB mE:Str->Option Value} {fdC fdB:FuncData}
theorem uI {g:G} {sc:Scope} {σ:d9} {x:Str} {l:Int}:s0 g sc σ x≠.err l:=by
 unfold s0;split
 ·exact fun z=>by injection z
 split;all_goals first|(split<;>exact fun z=>by cases z)|exact fun z=>by injection z
theorem rL {C C₀:Cx} {k:Nat} {env:Env} {sc:Scope} {s₀ s₁ e7:Shared} {opn:Option Str} {oa:Option Addr} {σ:d9} {e t0:Addr} {o:Obj} {i:Int} (F:M0 W C C₀ env sc s₀) (f:j7 W C k env sc s₀ opn oa σ s₁)
  (st:k9 C s₁ e7) (new:s₁.heap.get? e=none) (he:e7.heap.get? e=some o) (hcls:o.cls=.ref 52) (hd:o.data=.fields #[.ref t0,.none,.none,.none,.bool false,.none]) (hl:Y1 e7.heap e i):
  F0 C C₀ env s₀ i (.ref e) e7:=by
 have wL:=f.sit.inv.gr f.sit.ok f.sit.wf st.gr;have hen:C.base.get? e=none:=by
  cases hq:C.base.get? e with
  |none=>rfl
  |some o'=>have:=f.sit.inv.base e o' hq;rw[new] at this;injection this
 have s02:=f.step.trans st;have key:=(hK (.ref e) env).any (wpAny_leaving_firstW (M:=model prog w) (A:=C.A) (E:=fun Z Z=>False) (s:=e7) (base:=C.base) (env:=env) (outer:=C₀.fr) (e:=e) (Q:=fun Z s''=> ∃h'',s''={e7 with heap:=h''}/\Heap.FlyingW C.base C₀.fr e (.ref 52) (.ref t0) h''/\e7.heap.UpToSlots h'')
  (by rw[f.sit.ok.frames,F.fr]) (by rw[<-F.fr];exact wL.frames) F.frame he wL.base hen hd rfl rfl fun h' hL=>by
   refine Q1 hL fun k1 z5n k3 k4=> ?_;clear hL;refine n5 z5n fun Z Z k2=> ?_;clear z5n;rw[hcls] at k3;exact⟨h',rfl,⟨k1,hen,k2,k3⟩,k4⟩)
 unfold F0;refine wpAny_mono key (fun Z s'' q=> ?_) fun Z Z x=>x.1;refine f8 q fun z4n dk=> ?_;clear q;refine s5 z4n fun h'' z1r fl u=> ?_;clear z4n;subst z1r;refine r0 s02 fun i8 dK z3r gr=> ?_;clear s02;subst z3r;exact⟨e,.ref t0,h'',dK,rfl,rfl,F.base▸fl,(gr.upTo (.inr F.tabs₀)).trans u,hl.goes dk u⟩
theorem CE.oC (B:CE W K mC mB mE fdC fdB): ∃o,W.G.get? 49=some o/\o.cls=.type "function":=s5 (B.IC.obj) fun o h Z c=>⟨o,h,c⟩
theorem xX {M:Model} {A:Around} {E:Value->Shared->Prop} {h:Heap} {g:Array GenState} {d:Drawn} {t:Nat} {os:OsState} {Q:Keeper->Shared->Prop} (x:G5 h mC mB) (hq:Q .machine ⟨h,g,d,t,os⟩):wpAny M A (keeperOf (.ref 52)) Q E ⟨h,g,d,t,os⟩:=
 d6 (x.c) fun Z hC=>wpAny_keeperOf_exc hC hq
set_option tactic.hygienic true in
theorem PY (B:CE W K mC mB mE fdC fdB):rH W:=by
 intro n g C C₀ k env sc s₀ opn oa σ s hg F f fn fp l lp c kk cp p q;show w5 (needR (if c.length<=1000 then some (fn,l) else none) _) _ _ _ _;by_cases hc:c.length<=1000
 case neg=>rw[if_neg hc];trivial
 rw[if_pos hc];show w5 (if fn="BadText"/\sc.names.lookup fn=some .globalImplicit then (s0 g sc σ l).bind KC else .stuck) _ _ _ _;by_cases hf:fn="BadText"/\sc.names.lookup fn=some .globalImplicit
 case neg=>rw[if_neg hf];trivial
 rw[if_pos hf];refine f8 hf fun z2r hk=> ?_;clear hf;subst z2r;have hname:=O6 hg f.sit l lp;cases hv:s0 g sc σ l with
 |stuck=>trivial
 |err l=>exact absurd hv uI
 |ok v=>
  show w5 (KC v) _ _ _ _;unfold KC;cases v<;>try trivial
  rename_i i;dsimp only;by_cases hi:i.natAbs<1000000
  case neg=>rw[if_neg hi];trivial
  rw[if_pos hi];rw[hv] at hname;show wpAny _ _ _ (fun Z Z=>False) (F0 C C₀ env s₀ i) s;rw[arm_exec_Raise];refine wpAny_bind (wpAny_standAt (nT (mC:=mC) (mB:=mB) f.sit.ok.handled ?_));refine wpAny_bind (wpAny_mono (wpAny_Call_ofName ?_) (fun v l6 dM=>wpAny_bind (wpAny_standAt (wpAny_pure dM))) fun Z Z x=>x);refine Calls.Name_function_global f.sit.envOk.kind ((F.kinds _).trans hk) (Calls.loadGlobal_global (mg:=W.mg) ?_ B.main ?_) (by decide)
  ·rw[f.sit.envOk.globals];exact A0 f.sit.wok.g f.sit.inv.G
  unfold callWith;refine wpAny_bind (wpAny_holding (wpAny_mono (Q:=fun a e7=> ∃t u,a=⟨[.int i t,.str c u],[]⟩/\k9 C s e7) (E:=fun Z Z=>False) ?_ (fun a e7 i8=>wpAny_bind (wpAny_standAt ?_)) fun Z Z x=>x.elim))
  ·refine Calls.evalArgs_plain (Calls.spliced_cons (wpAny_mono hname (fun u s₁ z=> ?_) fun Z Z x=>x));refine f8 z fun st hu=> ?_;clear z;cases hu.plain rfl;rename_i t;exact Calls.spliced_cons (Calls.Constant_str (k:=kk) (pos:=cp) (Calls.spliced_nil ⟨t,_,rfl,st.trans (.of_keep fun Z Z e=>e)⟩))
  refine r0 i8 fun t u z1r st=> ?_;clear i8;subst z1r;have wL:=f.sit.inv.gr f.sit.ok f.sit.wf st.gr;have RP:=B.at_.keeps wL.G;refine e8 B.oC fun oI hoI hcI=> ?_;obtain⟨hp,gn,d,tk,os⟩:=e7;have hplain:(backTo p (starEach [.Name l lp,.Constant (.str c) kk cp] env)).any (·.1)=false:=rfl;simp only[hplain];refine wpAny_bind (xX RP ?_);refine wpAny_bind (GN RP B.ci (wL.G _ _ hoI) hcI (fun h' e hm=> ?_) (by show 2<=sizeLine;decide));have kp: ∀b o,W.G.get? b=some o->h'.get? b=some o:=fun b o z=>hm.keeps _ _ (wL.G b o z);refine s5 hm.there fun t0 he Z Z=> ?_;have heG:W.G.get? e=none:=by
   cases hq:W.G.get? e with
   |none=>rfl
   |some o'=>have:=wL.G e o' hq;rw[show hp.get? e=none from hm.new] at this;injection this
  have dep:=f.sit.ok.depth;have hdep:(C.A.under (.builtin "type.__call__" ⟨.ref 52::([]++[.int i t,.str c u]),[]⟩)).depth=C.A.depth+1:=rfl;refine TZ (s:=⟨h',gn,d,tk,os⟩) f.sit.wok B (by rw[hdep];exact q34 dep) hi hc kp heG he fun h'' tk' m M hm'=>⟨rfl,?_⟩;refine wpAny_bind (wpAny_holding (wpAny_point (wpAny_pure ?_)));refine v9 M.obj fun o t1 e1 c1 d1=> ?_;have keep2: ∀b o,hp.get? b=some o->h''.get? b=some o:=fun b o z=>M.keep b o (fun q=>by rw[q,show hp.get? e=none from hm.new] at z;injection z) (hm.keeps _ _ z);have st2:k9 C ⟨hp,gn,d,tk,os⟩ ⟨h'',gn,d,tk',os⟩:=⟨h'',tk',rfl,.of_keep keep2⟩;refine⟨e,o,t1,rfl,RP.keeps keep2,e1,c1,d1,?_⟩;have hnew:s.heap.get? e=none:=by
   cases hq:s.heap.get? e with
   |none=>rfl
   |some o'=>
    by_cases ht:C.tb/\o4 e
    ·refine d6 (wL.tabNone ht.2) fun ps z=> ?_;rw[show hp.get? e=none from hm.new] at z;injection z
    ·refine d6 (st.gr.slots e o' hq ht) fun sl z=> ?_;rw[show hp.get? e=none from hm.new] at z;injection z
  refine rL F f (st.trans st2) hnew e1 c1 d1 ?_;refine iK M.inst fun o' e' Z Z hd'=> ?_;rcases hd' with⟨_,z⟩|⟨dx,h1,_,h2⟩
  ·rw[z] at hm';injection hm'
  ·exact⟨o',dx,m,t,e',h1,h2.ns,hm'⟩
end
theorem aZ {pos:Pos} {a b:Int} {c cv:Value} (l:List Value) (h:TriplesOk l) (e:codeAmong pos (l++[rawInt a,rawInt b,c])=some cv):codeAmong pos l=some cv\/cv=c:=by
 fun_induction TriplesOk l with
 |case1=>
  simp only[List.nil_append,rawInt,codeAmong] at e;split at e
  ·exact .inr (Option.some.inj e).symm
  ·injection e
 |case2 a t b u x rest ih=>
  simp only[List.cons_append,codeAmong] at e ⊢;split at e
  ·rename_i q;rw[if_pos q];exact .inl e
  ·rename_i q;rw[if_neg q];exact ih h e
 |case3=>exact h.elim
theorem uJ {x y:Addr×Addr×Str} (hx:x∈E9) (hy:y∈E9) (e:y.2.1=x.2.1):y=x:=by
 simp only[E9,List.mem_cons,List.not_mem_nil,or_false] at hx hy;rcases hx with rfl|rfl|rfl<;>rcases hy with rfl|rfl|rfl<;>first|rfl|(exact absurd e (by decide))
theorem lH {x:Addr×Addr×Str} (hx:x∈E9):o4 x.2.1:=by
 simp only[E9,List.mem_cons,List.not_mem_nil,or_false] at hx;rcases hx with rfl|rfl|rfl
 ·exact .inl rfl
 ·exact .inr (.inl rfl)
 ·exact .inr (.inr rfl)
section
variable {h h':Heap}
theorem CF {x:Addr×Addr×Str} {ps:Array Value} {a b:Int} {c':Addr} (hx:x∈E9) (t:o3 h) (hP:h.get? x.2.1=some (tabObj ps)) (ht:TriplesOk ps.toList)
  (k: ∀b o,b≠x.2.1->h.get? b=some o->h'.get? b=some o) (hP':h'.get? x.2.1=some (tabObj (ps++ #[rawInt a,rawInt b,.ref c']))) (hc:h'.CodeRec (.ref c') x.2.2):o3 h':=fun y hy=>by
 refine f8 (t y hy) fun z5n z6t=> ?_;refine s5 z6t fun ps' p1 p2 p3=> ?_;clear z6t;refine WS z5n fun oc vs a1 a2 a3 a4 a5 a6 a7 c1 c2 cr=> ?_;clear z5n;have hcP:y.1≠x.2.1:=fun q=>by rw[q,hP] at c1;injection c1 with c1;subst c1;injection c2
 have recs: ∀cv,h.CodeRec cv y.2.2->h'.CodeRec cv y.2.2:=fun cv z=>sY z fun c o vs' tq e1 e2 e3 e4=>
  ⟨c,o,vs',tq,e1,k _ _ (fun q=>by
   rw[q,hP] at e2;injection e2 with e2;subst e2;injection e3 with e3;subst e3;rw[<-Array.getElem?_toList] at e4;exact triples_no_str ht _ _ e4) e2,e3,e4⟩
 refine⟨⟨oc,vs,a1,a2,a3,a4,a5,a6,a7,k _ _ hcP c1,c2,cr⟩,?_⟩;by_cases q:y.2.1=x.2.1
 ·have:=uJ hx hy q;subst this;rw[hP] at p1;injection p1 with p1;injection p1 with _ _ p1 _;injection p1 with p1;subst p1;refine⟨_,hP',?_,fun pos cv e=> ?_⟩
  ·simpa using TriplesOk_snoc a b (.ref c') ps.toList ht
  ·have e:codeAmong pos (ps.toList++[rawInt a,rawInt b,.ref c'])=some cv:=by simpa using e
   rcases aZ _ ht e with z|rfl
   ·exact recs cv (p3 pos cv z)
   ·exact hc
 ·exact⟨ps',k _ _ q p1,p2,fun pos cv e=>recs cv (p3 pos cv e)⟩
theorem uK {x:Addr×Addr×Str} {ps:Array Value} {a b:Int} {c' d:Addr} (hx:x∈E9) (t:o3 h) (hP:h.get? x.2.1=some (tabObj ps)) (ht:TriplesOk ps.toList)
  (k: ∀b o,b≠x.2.1->h.get? b=some o->h'.get? b=some o) (hP':h'.get? x.2.1=some (tabObj (ps++ #[rawInt a,rawInt b,.ref c']))) (hd:d≠c') (n:v0 h d):v0 h' d:=fun y hy ps' e=>by
 by_cases q:y.2.1=x.2.1
 ·have:=uJ hx hy q;subst this;rw[hP'] at e;injection e with e;injection e with _ _ e _;injection e with e;subst e;intro pos z;have z:codeAmong pos (ps.toList++[rawInt a,rawInt b,.ref c'])=some (.ref d):=by simpa using z
  rcases aZ _ ht z with z|z
  ·exact n y hy ps hP pos z
  ·injection z with z;subst z;exact hd rfl
 ·refine f8 (t y hy) fun Z z4t=> ?_;refine e8 z4t fun aD9 p1 Z=> ?_;clear z4t;have:=k _ _ q p1;rw[e] at this;injection this with this;injection this with _ _ this _;injection this with this;subst this;exact n y hy ps' p1
end
section
variable {W:Wd} {C:Cx} {X:Xs} {k:Nat} {env:Env} {sc:Scope} {oa:Option Addr} {σ:d9} {s s₁:Shared} {g:G} {n:Nat}
theorem uL (t:J3 W C X k env sc oa σ s.heap) (htb:C.tb) {as:Arguments} {body:Expr} {lsc:Scope} {lp:Pos} (hla:aJ as lsc=true) (hco:u6 sc lsc=true) {x:Addr×Addr×Str} (hx:x∈E9)
  (hcode:env.code=.ref x.1) (hq:env.qual++("<lambda>":Str)=x.2.2):
  wpAny (model prog w) C.A (eval (.Lambda as body lsc lp) env) (fun v s'=> ∃f c' ctv pm,v=.ref f/\k9 C s s'/\s.heap.get? f=none/\
   s'.heap.get? f=some (kla_obj "<lambda>" x.2.2 as body lsc (F8 env lsc.names []) pm c' ctv)/\s'.heap.CodeRec (.ref c') x.2.2) (fun Z Z=>False) s:=by
 refine f8 (t.inv.tabs x hx) fun hCd z3t=> ?_;refine s5 z3t fun ps hP ht hrec=> ?_;clear z3t;have hcl:closureFor lsc env=pure (F8 env lsc.names []):=by
  simp only[closureFor];rw[kM env _ lsc.names [] (R6 hco t.envOk t.st) (fun n kd acc=>by cases kd<;>rfl)];rfl
 have hdef:defaultsOf as env=([],[]):=by
  unfold aJ at hla;simp only[Bool.and_eq_true,List.isEmpty_iff] at hla;refine f8 hla fun z2n Z=> ?_;clear hla;refine f8 z2n fun z1n Z=> ?_;clear z2n;obtain⟨⟨⟨⟨⟨⟨⟨z1,z2⟩,z3⟩,z4⟩,z5⟩,z6⟩,z7⟩,_⟩:=z1n;obtain⟨p1,p2,p3,p4,p5,p6,p7⟩:=as;dsimp only at z5 z7;subst z5 z7;rfl
 have hgs:=A0 t.wok.g t.inv.G;have hbm:s.heap.BuiltinsAt W.mg x.2.1:=by
  refine OM (t.wok.bm x.2.1 (lH hx)) fun bm ob b1 b2 b3 b4 b5 b6=> ?_;exact⟨bm,ob,b1,b2,b3,b4,t.inv.G _ _ b5,b6⟩
 refine kla_eval hdef ?_;rw[hq];cases hca:codeAmong lp ps.toList with
 |none=>
  have hgP:mainGlobals≠x.2.1:=fun q=>by
   refine nK hgs fun o es ep e hd Z=> ?_;clear hgs;rw[q,hP] at e;injection e with e;subst e;injection hd
  refine kla_makeFunction (mg:=W.mg) hcl t.envOk.globals hgs hcode hCd hP ht hca hgP hbm fun c' ctv h' tk hx' hge hlt hr htab=> ?_;have kp: ∀b o,b≠x.2.1->s.heap.get? b=some o->(h'.push (kla_obj "<lambda>" x.2.2 as body lsc (F8 env lsc.names []) ((W.mg "__name__").getD .none) c' ctv)).get? b=some o:=fun b o n e=>Heap.get?_push_of_some _ (hx' b o n e);have hP':=Heap.get?_push_of_some (kla_obj "<lambda>" x.2.2 as body lsc (F8 env lsc.names []) ((W.mg "__name__").getD .none) c' ctv) htab;have hr':=hr.push (kla_obj "<lambda>" x.2.2 as body lsc (F8 env lsc.names []) ((W.mg "__name__").getD .none) c' ctv);refine⟨_,c',ctv,_,rfl,⟨_,tk,rfl,⟨fun b o e nt Z=>kp b o (fun q=>nt ⟨htb,q▸lH hx⟩) e,fun b o e nt=>⟨o.slots,kp b o (fun q=>nt ⟨htb,q▸lH hx⟩) e⟩,
   fun tt=>CF hx tt hP ht kp hP' hr',fun tt a o e Z nc=>uK hx tt hP ht kp hP' (fun q=>absurd (Heap.lt_size e) (Nat.not_lt.mpr (q▸hge))) nc⟩⟩,Heap.get?_none_of_le (Nat.le_of_lt (Nat.lt_of_le_of_lt hge hlt)),Heap.get?_push_size _ rfl,hr'⟩
 |some cv=>
  have hr:=hrec lp cv hca;refine sY (id hr) fun c' o' vs' tq z1r e2 e3 e4=> ?_;subst z1r;refine kla_makeFunctionHit (mg:=W.mg) hcl t.envOk.globals hgs hcode hCd hP ht hca hbm fun ctv h' tk hk hsz=> ?_;refine⟨_,c',ctv,_,rfl,⟨_,tk,rfl,.of_keep fun b o e=>Heap.get?_push_of_some _ (hk b o e)⟩,Heap.get?_none_of_le hsz,Heap.get?_push_size _ rfl,hr.keeps fun b o e=>Heap.get?_push_of_some _ (hk b o e)⟩
end
section
variable {W:Wd} {C:Cx} {X:Xs} {k:Nat} {env:Env} {sc:Scope} {oa:Option Addr} {σ:d9} {s s₁:Shared} {g:G} {n:Nat}
set_option backward.match.sparseCases true in
theorem uM (hE:I9 W n) (hg:C6 W k C.tb g) (t:J3 W C X (k+1) env sc oa σ s.heap) {as:Arguments} {body:Expr} {lsc:Scope} {nm q:Str} (hla:aJ as lsc=true) (hco:u6 sc lsc=true)
  {f c':Addr} {pm ctv:Value} (hf:s.heap.get? f=some (kla_obj nm q as body lsc (F8 env lsc.names []) pm c' ctv)) (hr:s.heap.CodeRec (.ref c') q):
  Ou C (ev g n false lsc (i5 σ sc lsc) body) (call (.ref f) [] []) (g5 C X oa s) (C7 C s) s:=by
 refine Q1 (J7 hco) fun n1 n2 n3 n4=> ?_;unfold aJ at hla;simp only[Bool.and_eq_true,List.isEmpty_iff,Bool.not_eq_true'] at hla;refine f8 hla fun z4n z10=> ?_;clear hla;refine f8 z4n fun z1n z9=> ?_;clear z4n;obtain⟨⟨⟨⟨⟨⟨⟨z1,z2⟩,z3⟩,z4⟩,z5⟩,z6⟩,z7⟩,z8⟩:=z1n;let fd:=kla_fn nm q as body lsc (F8 env lsc.names []) pm (.ref c') ctv;let env':Env:=envX q lsc s.heap.objs.size f (.ref c') (F8 env lsc.names []);let C':Cx:={A:=C.A.deeper env',fr:=env'::C.fr,base:=C.base,X:=fun b=>C.X b\/b=env'.locals,tb:=C.tb};have sLn:s.heap.get? s.heap.objs.size=none:=A3 (Nat.le_refl _);have hfr:env'.frame=some env'.locals:=rfl;have ok:=t.ok;have ok':C'.Ok k:=by
  refine⟨?_,ok.handled,?_,?_,fun b m=> ?_,ok.tab,fun b m=> ?_⟩
  ·show C.A.frames.map (env':: ·)=some (env'::C.fr);rw[ok.frames];rfl
  ·have:=ok.depth;show C.A.depth+1+k+10<_;exact WF this
  ·have:=ok.units;show C.A.units+3+8*k+40<_;exact WE this
  ·have m:b∈(env'::C.fr).filterMap (·.frame):=m;rw[List.filterMap_cons,hfr] at m;rcases List.mem_cons.mp m with z|z
   ·exact .inr z
   ·exact .inl (ok.locs b z)
  ·have m:b∈(env'::C.fr).filterMap (·.frame):=m;rw[List.filterMap_cons,hfr] at m;rcases List.mem_cons.mp m with z|z
   ·exact z▸o6 t.inv.tabs sLn
   ·exact ok.loct b z
 refine w5.of fun hns=> ?_;generalize hrr:ev g n false lsc (i5 σ sc lsc) body=r at hns ⊢;refine wpAny_call (kla_callFunE (R:=fun r' s'=>match r' with| .ok (.ret v)=>NX r (g5 C X oa s) v s'| .ok _=>False| .error e=>PU r (C7 C s) e s') (fd:=fd) (body:=body) (by have:=ok.depth;exact WJ this) hf rfl z9 z8 rfl hr ?_);have hbind:bindArgs fd ⟨[],[]⟩=pure []:=by
  obtain⟨p1,p2,p3,p4,p5,p6,p7⟩:=as;dsimp only at z1 z2 z3 z4 z5 z6 z7;cases p3<;>try cases z3
  cases p6<;>try cases z6
  subst z1 z2 z4 z5 z7;rfl
 rw[hbind];refine wpAny_pure (wpAny_newFunctionEnv n1 (fun y hy=>nomatch hy) (fun y6 P4 hsb=>⟨(t.wok.nolimit.keeps t.inv.G).fresh _ hsb,?_⟩) n4);show codeAny _ _ (.expr body env') _ _;have keep: ∀b o,s.heap.get? b=some o->y6.get? b=some o:=fun b o e=>hsb.extBut b o (Nat.ne_of_lt (Heap.lt_size e)) (Heap.get?_push_of_some _ e);refine kla_codeExpr ?_;refine F6 (D4 P4) fun oL esL epL eL dL=> ?_;have sV:k9 C s ({s with heap:=y6,toks:=s.toks+([]:List (Str×Value)).length}:Shared):=.of_keep keep;have n7:=t.step sV;have ek:W0 env' lsc:=⟨n4,rfl,rfl,fun x kd e=>.inl e,fun e=>absurd e (zI hco)⟩;have kx: ∀b,X b\/b=env'.locals->X b\/ ∀o,s.heap.get? b=some o-> ¬I8 o:=fun b z=>z.imp id fun z o q=>by rw[z] at q;have q:s.heap.get? s.heap.objs.size=some _:=q;rw[sLn] at q;injection q
 have stX:Mine.St env oa (fun b=>X b\/b=env'.locals) s.heap σ:=t.st.more kx;have T':J3 W C' (fun b=>X b\/b=env'.locals) k env' lsc oa (i5 σ sc lsc) y6:=by
  refine⟨t.wok,ok',⟨t.wf.notab⟩,fun b z=>z.imp (t.sub b) id,fun b z=> ?_,fun b z=> ?_,⟨fun b o e=>keep b o (t.inv.G b o e),fun b o e=>keep b o (t.inv.base b o e),⟨?_,⟨s.heap.objs.size,oL,rfl,?_,eL,fun vs z=>by rw[dL] at z;injection z⟩,t.inv.frames.of_keeps fun b o e Z=>⟨o,keep b o e,rfl⟩⟩,t.inv.tabs.keeps keep,fun b z=> ?_⟩,ek,?_,fun b z=>.inl (t.oaX b z)⟩
  ·rcases z with z|z
   ·exact t.xg b z
   ·rw[z];cases q:W.G.get? env'.locals with
    |none=>rfl
    |some o=>have:=t.inv.G _ _ q;rw[show s.heap.get? env'.locals=none from sLn] at this;injection this
  ·rcases z with z|z
   ·refine f8 (t.live b z) fun nt z3t=> ?_;refine d6 z3t fun o e=> ?_;clear z3t;exact⟨nt,o,keep b o e⟩
   ·exact⟨z▸o6 t.inv.tabs sLn,z▸⟨oL,eL⟩⟩
  ·show lsc.kind≠.module;rw[n4];exact fun z=>by injection z
  ·cases q:C.base.get? s.heap.objs.size with
   |none=>rfl
   |some o=>have:=t.inv.base _ _ q;rw[sLn] at this;injection this
  ·have z:b∈(env'::C.fr).filterMap (·.frame):=z;rw[List.filterMap_cons,hfr] at z;rcases List.mem_cons.mp z with z|z
   ·rw[z];cases q:W.G.get? env'.locals with
    |none=>rfl
    |some o=>have:=t.inv.G _ _ q;rw[show s.heap.get? env'.locals=none from sLn] at this;injection this
   ·exact t.inv.Gl b z
  ·refine aR (s:={s with heap:=y6}) hco t.envOk (stX.gr ok t.inv sV.gr fun b z=>.inl (t.sub b z)) (cenv:=env') rfl (fun x kd e z=> ?_) ek P4;rcases z with rfl|rfl
   ·exact absurd rfl (n1 _ (mem_of_lookup e))
   ·exact mem_of_lookup e
 have hg':C6 W k C'.tb g:=hg;have back: ∀{s':Shared},k9 C' ({s with heap:=y6,toks:=s.toks+([]:List (Str×Value)).length}:Shared) s'->k9 C s s':=fun⟨h',t',e',gr⟩=>⟨h',t',e',⟨fun b o e n m=>gr.keep b o (keep b o e) n fun z=>by
   have z:b∈(env'::C.fr).filterMap (·.frame):=z;rw[List.filterMap_cons,hfr] at z;rcases List.mem_cons.mp z with z|z
   ·have z:b=s.heap.objs.size:=z;rw[z,sLn] at e;injection e
   ·exact m z,fun b o e n=>gr.slots b o (keep b o e) n,fun tt=>gr.tabs (tt.keeps keep),fun tt b o e n nc=>gr.codes (tt.keeps keep) b o (keep b o e) n (nc.keeps tt keep)⟩⟩
 have hb:=(hE g C' _ k env' lsc oa (i5 σ sc lsc) body {s with heap:=y6,toks:=s.toks+([]:List (Str×Value)).length} hg' T').1;rw[hrr] at hb;cases r with
 |stuck=>exact absurd rfl hns
 |err l=>
  refine wpAny_mono hb (fun Z Z x=>x.elim) fun e s' p=> ?_;refine AS p fun ae a0 h' tk z1r z2r fl u li=> ?_;clear p;subst z1r;subst z2r;exact wpAny_mono (kX (C:=C') (C₀:=C) (env:=env') (s:=s) ok'.frames rfl rfl hfr ⟨ae,a0,h',tk,rfl,rfl,fl,(sV.gr.upTo t.nt).trans u,li⟩) (fun Z Z x=>x) fun Z Z x=>x.elim
 |ok d=>
  refine wpAny_mono hb (fun v s' p=> ?_) fun Z Z x=>x.elim;exact⟨back p.1,p.2.more fun b z=>.inl (.inl z)⟩
end
noncomputable def pT (n:Nat):Pos:=([⟨271,16,271,21⟩,⟨271,23,271,27⟩,⟨271,23,271,29⟩,⟨271,15,271,30⟩,⟨271,8,271,30⟩,⟨272,11,272,18⟩,⟨273,16,273,25⟩,⟨273,27,273,28⟩,⟨273,27,273,33⟩,⟨273,15,273,34⟩,⟨273,8,273,34⟩,⟨272,4,273,34⟩,⟨270,4,273,34⟩]:List Pos).getD (n-1) ⟨0,0,0,0⟩
noncomputable def GR:List Stmt:=
 [.Try [.Return (some (.Tuple [.Constant (.str "let") 0 (pT 1),.Call (.Name "call" (pT 2)) [] [] (pT 3)] 0 (pT 4))) (pT 5)]
  [.ExceptHandler (some (.Name "BadText" (pT 6))) (some "e") [.Return (some (.Tuple [.Constant (.str "refused") 0 (pT 7),.Attribute (.Name "e" (pT 8)) "line" (pT 9)] 0 (pT 10))) (pT 11)] (pT 12)] [] [] (pT 13)]
structure uN (W:Wd) (mC mB:Str->Option Value) (aT:Addr) (fd:FuncData):Prop where
 name:W.mg "_law_told"=some (.ref aT)
 I:lG W.G mainGlobals aT ["call"] "BadText" GR fd
 e:fd.scope.names.lookup ("e":Str)=some .local
 cg:mC "__getattribute__"=none
 bg:mB "__getattribute__"=none
 ch:mC "__getattr__"=none
 bh:mB "__getattr__"=none
 cn:mC "line"=none
 bn:mB "line"=none
theorem hZ {h h':Heap} (t:o3 h) (k: ∀b o vs,h.get? b=some o->o.data=.fields vs->h'.get? b=some o):o3 h':=fun y hy=>by
 refine f8 (t y hy) fun z10n z11t=> ?_;refine s5 z11t fun ps p1 p2 p3=> ?_;clear z11t;refine SM z10n fun oc vs a1 a2 a3 a4 a5 a6 a7 c1 c2 c3 cr=> ?_;clear z10n;exact⟨⟨oc,vs,a1,a2,a3,a4,a5,a6,a7,k _ _ _ c1 c3,c2,c3,cr⟩,ps,k _ _ _ p1 rfl,p2,fun pos cv e=>sY (p3 pos cv e) fun c o vs' tq e1 e2 e3 e4=>⟨c,o,vs',tq,e1,k _ _ _ e2 e3,e3,e4⟩⟩
theorem nU {h h':Heap} {a:Addr} (t:o3 h) (k: ∀b o vs,h.get? b=some o->o.data=.fields vs->h'.get? b=some o) (n:v0 h a):v0 h' a:=fun x hx ps e=>by
 refine f8 (t x hx) fun Z z9t=> ?_;refine e8 z9t fun ps' e' Z=> ?_;clear z9t;have:=k _ _ _ e' rfl;rw[e] at this;injection this with this;injection this with _ _ this _;injection this with this;subst this;exact n x hx ps e'
section
variable {W:Wd} {C:Cx} {A:Around} {E:Value->Shared->Prop} {s:Shared} {aT:Addr} {fd:FuncData} {mC mB:Str->Option Value}
theorem CG {e:Addr} {oe:Obj} {vs:Array Value} {l:Int} {Q:Value->Shared->Prop} (TG:uN W mC mB aT fd) (BA:G5 W.G mC mB) (kG: ∀b o,W.G.get? b=some o->s.heap.get? b=some o) (he:s.heap.get? e=some oe) (hc:oe.cls=.ref 52) (hdt:oe.data=.fields vs)
  (hl:Y1 s.heap e l) (hq: ∀t,Q (.int l t) {s with toks:=s.toks+1}):wpAny (model prog w) A (getAttr (.ref e) "line" true) Q E s:=by
 refine sY hl fun o d m t e1 e2 e3 e4=> ?_;clear hl;obtain rfl:=Option.some.inj (he.symm.trans e1);obtain⟨hp,gn,dr,tk,os⟩:=s;exact uH (BA.keeps kG) TG.cg TG.bg TG.ch TG.bh TG.cn TG.bn (by rw[typeLookup_type,builtinLookup_eq_fast];kernel_rfl) he hc hdt e2 e3 e4 rfl (hq t)
theorem LR {h h':Heap} (hl: ∀a∈C.locs,∀o,h.get? a=some o-> ∀vs,o.data≠.fields vs) (kp: ∀b o,h.get? b=some o->b∉C.locs->h'.get? b=some o)
  (u: ∀b∈C.locs,∀o,h.get? b=some o-> ∃sl,h'.get? b=some {o with slots:=sl}):Gr C h h':=by
 have kf: ∀b o vs,h.get? b=some o->o.data=.fields vs->h'.get? b=some o:=fun b o vs e d=>kp b o e fun m=>hl b m o e vs d;refine⟨fun b o e Z m=>kp b o e m,fun b o e Z=> ?_,fun t=>hZ t kf,fun t a o Z Z n=>nU t kf n⟩;by_cases m:b∈C.locs
 ·exact u b m o e
 ·exact⟨o.slots,kp b o e m⟩
theorem xY {C₀:Cx} {s₀:Shared} {env:Env} {l:Int} {e:Value} {s':Shared} {Q:Flow->Shared->Prop} (TG:uN W mC mB aT fd) (BA:G5 W.G mC mB) (hmain:W.mg "BadText"=some (.ref 52)) (wok:W.Ok)
  (hA:C.A.frames=some (env::C₀.fr)) (hfr:C.fr=env::C₀.fr) (hf:env.frame=some env.locals) (hk:env.scope.kind=.function) (hgl:env.globals=mainGlobals) (hkb:env.kindOf "BadText"=some .globalImplicit) (hke:env.kindOf "e"=some .local)
  {m:Str->Option Value} (hns:s.heap.Ns env.locals m) (hml:m "line"=none) (hB:C.base=hideAll s.heap C.locs) (i:aN W C s.heap) (hs0:s={s₀ with heap:=s.heap,toks:=s.toks}) (keep0: ∀b o,s₀.heap.get? b=some o->s.heap.get? b=some o) (hL0:s₀.heap.get? env.locals=none)
  (h:C7 C s l e s') (hQ: ∀T h' tk t u,k9 C₀ s₀ {s with heap:=h',toks:=tk}->s₀.heap.get? T=none->h'.get? T=some {cls:=.type "tuple",data:=.seq #[.str "refused" u,.int l t]}->Q (.ret (.ref T)) {s with heap:=h',toks:=tk}):
  wpAny (model prog w) C.A (noteFrame e env) (fun Z e7=>wpAny (model prog w) C.A (setFlight e none) (fun Z l6=>
   wpAny (model prog w) C.A (handleBy e env [.ExceptHandler (some (.Name "BadText" (pT 6))) (some "e") [.Return (some (.Tuple [.Constant (.str "refused") 0 (pT 7),.Attribute (.Name "e" (pT 8)) "line" (pT 9)] 0 (pT 10))) (pT 11)] (pT 12)]) Q E l6) E e7) E s':=by
 refine AS h fun ae a0 h1 tk z7r z8r fl u li=> ?_;clear h;subst z7r;subst z8r;rw[hfr] at fl;have n1:=(cM (.ref ae) env).any (wpAny_looks_onW (M:=model prog w) (A:=C.A) (E:=fun Z Z=>False) (s:={s with heap:=h1,toks:=tk}) (Q:=fun Z s''=> ∃h'',s''={s with heap:=h'',toks:=tk}/\Heap.HeldW C.base (env::C₀.fr) ae kC a0 env.locals h''/\h1.UpToSlots h'') hA hf fl fun h' a b=>⟨h',rfl,a,b⟩);refine wpAny_mono n1 (fun Z e7 q=> ?_) fun Z Z x=>False.elim (And.left x);refine f8 q fun z6n d2=> ?_;clear q;refine s5 z6n fun h2 z3r held u2=> ?_;clear z6n;subst z3r;have n2:=(U8 (.ref ae) none).any (wpAny_landsW (M:=model prog w) (A:=C.A) (E:=fun Z Z=>False) (s:={s with heap:=h2,toks:=tk}) (Q:=fun Z s''=> ∃h'',s''={s with heap:=h'',toks:=tk}/\Heap.FlyingW C.base (env::C₀.fr) ae kC a0 h''/\h2.UpToSlots h'') held fun h' a b=>⟨h',rfl,a,b⟩);refine wpAny_mono n2 (fun Z l6 q=> ?_) fun Z Z x=>False.elim (And.left x);refine f8 q fun z5n d3=> ?_;clear q;refine s5 z5n fun h3 z2r fl3 u3=> ?_;clear z5n;subst z2r;have li3:Y1 h3 ae l:=(li.goes d2 u2).goes d3 u3;have GB: ∀b o,W.G.get? b=some o->C.base.get? b=some o:=fun b o e=>by
  rw[hB];exact hideAll_get _ (i.G b o e) fun z=>by rw[i.Gl b z] at e;injection e
 have kG3: ∀b o,W.G.get? b=some o->h3.get? b=some o:=fun b o e=>fl3.1 b o (GB b o e);refine e8 fl3.there fun ob hob hobc=> ?_;refine wpAny_handleBy_cons (codeAny_handlers_test (Calls.Name_function_global hk hkb (Calls.loadGlobal_global (mg:=W.mg) (by rw[hgl];exact A0 wok.g kG3) hmain ?_) (by decide))) (by intro q;injection q);refine d6 BA.c fun xc hC=> ?_;refine wpAny_excMatches_sub_self (kG3 _ _ hC) hob hobc (by decide+kernel) (codeAny_handlers_suite_as ?_);have n4:=fun(A':Around) (E':Value->Shared->Prop)=>(U8 (.ref ae) none).any (lands_againW (M:=model prog w) (A:=A') (E:=E') (s:={s with heap:=h3,toks:=tk}) (Q:=fun Z s''=> ∃h'',s''={s with heap:=h'',toks:=tk}/\Heap.FlyingW C.base (env::C₀.fr) ae kC a0 h''/\h3.UpToSlots h'') fl3 fun h' a b=>⟨h',rfl,a,b⟩);refine wpAny_mono (n4 _ _) (fun Z C5 q=> ?_) fun Z Z x=>False.elim (And.left x);refine f8 q fun z4n d4=> ?_;clear q;refine s5 z4n fun h4 z1r fl4 u4=> ?_;clear z4n;subst z1r;have li4:Y1 h4 ae l:=li3.goes d4 u4;have u04:s.heap.UpToSlots h4:=((u.trans u2).trans u3).trans u4;have ns4:h4.Ns env.locals m:=u04.ns hns;have hp:(env.scope.kind==.class||(env.scope.kind==.module &&env.locals !=env.globals))=false:=by rw[hk];rfl
 have hloc:env.locals∈C.locs:=by unfold Cx.locs;rw[hfr,List.filterMap_cons,hf];exact .head _
 refine wpAny_storeName_local hke ns4 (fun h5 ns5 sb5=> ?_) hp;have kG4: ∀b o,W.G.get? b=some o->h4.get? b=some o:=fun b o e=>fl4.1 b o (GB b o e);have hGL: ∀b o,W.G.get? b=some o->b≠env.locals:=fun b o e q=>by rw[q,i.Gl _ hloc] at e;injection e
 have kG5: ∀b o,W.G.get? b=some o->h5.get? b=some o:=fun b o e=>(sb5.2 b (hGL b o e)).trans (kG4 b o e);refine cR fl4.first fun oe vs hoe hoec hoed Z=> ?_;refine F6 (D4 ns4) fun oL esL epL eL dL=> ?_;have heL:ae≠env.locals:=fun q=>by rw[q,eL] at hoe;injection hoe with hoe;subst hoe;rw[dL] at hoed;injection hoed
 have hoe5:h5.get? ae=some oe:=(sb5.2 ae heL).trans hoe;have li5:Y1 h5 ae l:=by
  refine sY li4 fun o d m' t e1 e2 e3 e4=> ?_;clear li4;have hdL:d≠env.locals:=fun q=>by
   refine X1 e3 fun o1 es1 ep1 f1 f2 Z f3=> ?_;clear e3;refine X1 ns4 fun o2 es2 ep2 g1 g2 Z g3=> ?_;clear ns4;rw[q,g1] at f1;injection f1 with f1;subst f1;rw[g2] at f2;injection f2 with f2 f22;subst f2;subst f22;have:=f3 "line";rw[g3 "line",hml,e4] at this;injection this
  exact⟨o,d,m',t,(sb5.2 ae heL).trans e1,e2,e3.sameBut sb5 hdL,e4⟩
 refine wpAny_execs_cons (wpAny_Return_some (wpAny_Tuple ?_));refine Calls.spliced_cons (Calls.Constant_str (k:=0) (pos:=(pT 7)) (Calls.spliced_cons (Attribute_name ?_)));refine wpAny_Name (wpAny_loadName_local hk hke ns5 (if_pos rfl) ?_) (by decide);refine CG TG BA kG5 hoe5 hoec hoed li5 fun t=> ?_;refine Calls.spliced_nil ⟨by show 2<=sizeLine;decide,?_⟩;have ns6:=ns5.push {cls:=.type "tuple",data:=.seq #[.str "refused" (tk+1),.int l t]};show wpAny _ _ (do bindName env "e" .none;unbindBehindTheSuite env "e" (pT 12)) _ _ _;refine wpAny_nameGoes hke ns6 hp fun h' m' ns' sb'=> ?_;have locs:C.locs=env.locals::C₀.locs:=by unfold Cx.locs;rw[hfr,List.filterMap_cons,hf]
 have kp: ∀b o,C.base.get? b=some o->h5.get? b=some o:=fun b o e=>by
  have hb:b≠env.locals:=fun q=>by
   rw[hB,q,hideAll_none _ hloc] at e;injection e
  exact(sb5.2 b hb).trans (fl4.1 b o e)
 have old: ∀b o,s.heap.get? b=some o->b∉C.locs->h5.get? b=some o:=fun b o e n=>kp b o (by rw[hB];exact hideAll_get _ e n);have old': ∀b o,s.heap.get? b=some o-> ∃o',h5.get? b=some o':=fun b o e=>by
  by_cases m:b∈C.locs
  ·refine f8 (i.locSome m) fun Z z3t=> ?_;refine e8 z3t fun o1 e1 hd=> ?_;clear z3t;rw[e] at e1;injection e1 with e1;subst e1;refine d6 (u04 b o e hd) fun sl z=> ?_;by_cases q:b=env.locals
   ·refine F6 ns5 fun o5 Z Z e5 Z=> ?_;clear ns5;exact⟨o5,q▸e5⟩
   ·exact⟨_,(sb5.2 b q).trans z⟩
  ·exact⟨o,old b o e m⟩
 have hT:s₀.heap.get? h5.objs.size=none:=by
  cases q:s₀.heap.get? h5.objs.size with
  |none=>rfl
  |some o=>
   refine d6 (old' _ o (keep0 _ _ q)) fun o' e'=> ?_;exact absurd (Heap.lt_size e') (Nat.lt_irrefl _)
 have hTL:h5.objs.size≠env.locals:=fun q=>by
  refine F6 ns5 fun o5 Z Z e5 Z=> ?_;clear ns5;exact absurd (Heap.lt_size e5) (q▸Nat.lt_irrefl _)
 refine hQ h5.objs.size h' _ t (tk+1) ⟨h',_,by rw[hs0],LR (fun a m o e=> ?_) (fun b o e n=> ?_) (fun b m o e=> ?_)⟩ hT ((sb'.2 _ hTL).trans (Heap.get?_push_size _ rfl))
 ·refine f8 (i.locSome (a:=a) (by rw[locs];exact List.mem_cons_of_mem _ m)) fun Z z2t=> ?_;refine e8 z2t fun o1 e1 hd=> ?_;clear z2t;have:=keep0 _ _ e;rw[e1] at this;injection this with this;subst this;exact hd
 ·have hb:b≠env.locals:=fun q=>by rw[q,hL0] at e;injection e
  exact(sb'.2 b hb).trans (Heap.get?_push_of_some _ (old b o (keep0 b o e) (by rw[locs,List.mem_cons,not_or];exact⟨hb,n⟩)))
 ·have hb:b≠env.locals:=fun q=>by rw[q,hL0] at e;injection e
  refine f8 (i.locSome (a:=b) (by rw[locs];exact List.mem_cons_of_mem _ m)) fun Z z1t=> ?_;refine e8 z1t fun o1 e1 hd=> ?_;clear z1t;have e2:=keep0 _ _ e;rw[e1] at e2;cases e2;refine d6 (u04 b o e1 hd) fun sl z=> ?_;exact⟨sl,(sb'.2 b hb).trans (Heap.get?_push_of_some _ ((sb5.2 b hb).trans z))⟩
end
section
variable {W:Wd} {C:Cx} {X:Xs} {k k':Nat} {env:Env} {sc:Scope} {oa:Option Addr} {σ:d9} {s s₁:Shared} {g:G} {n:Nat} {aT:Addr} {fd:FuncData} {mC mB:Str->Option Value}
theorem w5.to {α β:Type} {r:R α} {F:Tr β} {P:α->β->Shared->Prop} {E:Int->Value->Shared->Prop} (h:w5 r F P E s) (hn:r≠.stuck):F (NX r P) (PU r E) s:=by
 cases r with
 |stuck=>exact absurd rfl hn
 |err l=>exact h
 |ok a=>exact h
noncomputable abbrev fX (C:Cx) (env':Env) (h₀:Heap):Cx:={A:=C.A.deeper env',fr:=env'::C.fr,base:=hideAll h₀ (env'.locals::C.locs),X:=fun b=>C.X b\/b=env'.locals,tb:=False}
section
variable {env':Env} {h₀:Heap} {m:Str->Option Value} (t:J3 W C X k env sc oa σ s.heap) (hkk:k'+2<=k) (hfr:env'.frame=some env'.locals) (hkind:env'.scope.kind=.function) (hL:env'.locals=s.heap.objs.size) (gQ:h₀.Ns env'.locals m) (keep: ∀b o,s.heap.get? b=some o->h₀.get? b=some o)
include t hfr hL
theorem bA:s.heap.get? env'.locals=none:=A3 (Nat.le_of_eq hL.symm)
omit t hL in
theorem bY:(fX C env' h₀).locs=env'.locals::C.locs:=by
 show(env'::C.fr).filterMap (·.frame)=_;rw[List.filterMap_cons,hfr];rfl
include hkk in
theorem GS:(fX C env' h₀).Ok (k'+1):=by
 have ok:=t.ok;have mem: ∀b,b∈(fX C env' h₀).locs->b=env'.locals\/b∈C.locs:=fun b m=>by rw[bY hfr] at m;exact List.mem_cons.mp m
 refine⟨?_,ok.handled,?_,?_,fun b m=>(mem b m).elim .inr fun z=>.inl (ok.locs b z),fun z=>z.elim,fun b m=>(mem b m).elim (fun z=>z▸o6 t.inv.tabs (bA t hfr hL)) (ok.loct b)⟩
 ·show C.A.frames.map (env':: ·)=some (env'::C.fr);rw[ok.frames];rfl
 ·have:=ok.depth;show C.A.depth+1+(k'+1)+10<_;exact r1 hkk this
 ·have:=ok.units;show C.A.units+3+8*(k'+1)+40<_;exact q38 hkk this
theorem LS:W.G.get? env'.locals=none:=by
 cases q:W.G.get? env'.locals with
 |none=>rfl
 |some o=>exact no ((bA t hfr hL).symm.trans (t.inv.G _ _ q))
include hkk hkind gQ keep in
theorem GT:J3 W (fX C env' h₀) (fun b=>X b\/b=env'.locals) (k'+1) env sc oa σ h₀:=by
 have sLn:=bA t hfr hL;have GL:=LS t hfr hL;refine F6 (D4 gQ) fun oL esL epL eL dL=> ?_;have kx: ∀b,X b\/b=env'.locals->X b\/ ∀o,s.heap.get? b=some o-> ¬I8 o:=fun b z=>z.imp id fun z o q=>no (sLn.symm.trans (z▸q));have stX:Mine.St env oa (fun b=>X b\/b=env'.locals) s.heap σ:=t.st.more kx;refine⟨t.wok,GS t hkk hfr hL,⟨fun z=>z.elim⟩,fun b z=>z.imp (t.sub b) id,fun b z=>z.elim (t.xg b) fun z=>z▸GL,fun b z=> ?_,⟨fun b o e=>keep b o (t.inv.G b o e),fun b o e=>of_hideAll _ e,?_,t.inv.tabs.keeps keep,fun b z=> ?_⟩,t.envOk,
  stX.gr t.ok t.inv (Gr.of_keep (C:=C) keep) fun b z=>.inl (t.sub b z),fun b z=>.inl (t.oaX b z)⟩
 ·rcases z with z|z
  ·refine f8 (t.live b z) fun nt z2t=> ?_;refine d6 z2t fun o e=> ?_;clear z2t;exact⟨nt,o,keep b o e⟩
  ·exact⟨z▸o6 t.inv.tabs sLn,z▸⟨oL,eL⟩⟩
 ·refine funFrames_hide (base:=C.base) (l:=env'::C.fr) ⟨?_,⟨env'.locals,oL,hfr,?_,eL,fun vs z=>nomatch dL.symm.trans z⟩,t.inv.frames.of_keeps fun b o e Z=>⟨o,keep b o e,rfl⟩⟩ fun e he a ha=> ?_
  ·rw[hkind];exact fun z=>nomatch z
  ·cases q:C.base.get? env'.locals with
   |none=>rfl
   |some o=>exact no (sLn.symm.trans (t.inv.base _ _ q))
  ·rw[<-bY (C:=C) (h₀:=h₀) hfr];exact List.mem_filterMap.mpr ⟨e,he,ha⟩
 ·rw[bY hfr] at z;exact(List.mem_cons.mp z).elim (fun z=>z▸GL) (t.inv.Gl b)
include keep in
theorem CH {tk:Nat} {s':Shared} (st:k9 (fX C env' h₀) ({s with heap:=h₀,toks:=tk}:Shared) s'):k9 C s s':=by
 refine r0 st fun h' t' e' gr=> ?_;clear st;refine⟨h',t',e',⟨fun b o e n m=>gr.keep b o (keep b o e) (fun z=>z.1) fun z=> ?_,fun b o e n=>gr.slots b o (keep b o e) fun z=>z.1,fun tt=>gr.tabs (tt.keeps keep),fun tt b o e n nc=>gr.codes (tt.keeps keep) b o (keep b o e) n (nc.keeps tt keep)⟩⟩;rw[bY hfr] at z;exact(List.mem_cons.mp z).elim (fun z=>no ((bA t hfr hL).symm.trans (z▸e))) m
end
theorem CI (hE:I9 W n) (TG:uN W mC mB aT fd) (BA:G5 W.G mC mB) (hmain:W.mg "BadText"=some (.ref 52)) (hg:C6 W k' False g) (t:J3 W C X k env sc oa σ s.heap) (hkk:k'+2<=k)
  {as:Arguments} {body:Expr} {lsc:Scope} {nm q:Str} (hla:aJ as lsc=true) (hco:u6 sc lsc=true)
  {f c':Addr} {pm ctv:Value} (hf:s.heap.get? f=some (kla_obj nm q as body lsc (F8 env lsc.names []) pm c' ctv)) (hr:s.heap.CodeRec (.ref c') q):
  Ou C (D0 (ev g n false lsc (i5 σ sc lsc) body)) (call (.ref aT) [.ref f] []) (g5 C X oa s) (C7 C s) s:=by
 refine w5.of fun hns=> ?_;generalize hrr:ev g n false lsc (i5 σ sc lsc) body=r at hns ⊢;have I:=TG.I;refine s5 I.obj fun oT hoT hdT hcT=> ?_;have ok:=t.ok;refine wpAny_call (codeAny_call_def (A:=C.A) (R:=PX (NX (D0 r) (g5 C X oa s)) (PU (D0 r) (C7 C s))) (by have:=ok.depth;exact WJ this) (t.inv.G _ _ hoT) hdT (t.wok.nolimit.keeps t.inv.G) (I.code.keeps t.inv.G) I.body (I.bind s [.ref f] t.inv.G rfl) I.cells (fun x hx=> ?_) (fun h₀ gQ keep=> ?_) I.co I.gen I.kind)
 ·have:x.1∈(["call"]:List Str):=by
   rcases hx with _|⟨_,hx⟩
   ·exact List.mem_cons_self
   ·cases hx
  exact I.loc _ this
 let env':Env:=callEnv fd s.heap.objs.size aT;have hfr:env'.frame=some env'.locals:=rfl;have T':=GT (env':=env') t hkk hfr I.kind rfl gQ keep;have hc:=fun tk=>uM (s:={s with heap:=h₀,toks:=tk}) hE hg T' hla hco (keep _ _ hf) (hr.keeps keep);rw[hrr] at hc;have hrn:r≠.stuck:=fun z=>hns (by rw[z];rfl);unfold GR;refine wpAny_execs_cons (wpAny_Try_except ?_);refine wpAny_execs_cons (wpAny_Return_some (wpAny_Tuple ?_));refine Calls.spliced_cons (Calls.Constant_str (k:=0) (pos:=pT 1) (Calls.spliced_cons ?_));rw[if_neg (show ¬(false=true) by decide)];refine wpAny_Call_NameR (ldc I.kind (I.loc _ List.mem_cons_self) gQ (by rfl) ?_);refine Calls.callWith_function (o:=kla_obj nm q as body lsc (F8 env lsc.names []) pm c' ctv) (fd:=kla_fn nm q as body lsc (F8 env lsc.names []) pm (.ref c') ctv) ?_;refine PyProof.Rows.evalArgs_none ⟨⟨keep _ _ hf,rfl⟩,?_⟩;refine wpAny_mono (w5.to (hc _) hrn) (fun v s' hv=> ?_) fun e s' he=> ?_
 ·cases r with
  |stuck=>exact absurd rfl hrn
  |err l=>exact hv.elim
  |ok d=>
   refine f8 hv fun st hu=> ?_;clear hv;have hd:d.open? =false:=by
    cases q:d.open? with
    |false=>rfl
    |true=>exact absurd (by show D0 (.ok d)=.stuck;unfold D0;simp[q]) hns
   have hu':Rp s'.heap X v d:=(hu.plain hd).less fun b z=>.inl z;have st':=CH (env':=env') t hfr rfl keep st;refine Calls.spliced_nil ⟨by show 2<=sizeLine;decide,?_⟩;show NX (D0 (.ok d)) (g5 C X oa s) _ _;have htv:D0 (.ok d)=.ok (.tup [.str [108,101,116],d]):=by unfold D0;simp[hd]
   rw[htv];refine⟨st'.trans ⟨_,_,rfl,.push _⟩,?_⟩;have xn:=(t.step st').xn;refine B2.of (Rp.tup (vs:=[.str "let" _,v]) (Heap.get?_push_size _ rfl) rfl rfl (fun z=>absurd (xn _ z) (Nat.lt_irrefl _)) (.cons (.str [108,101,116] _) (.cons (hu'.carry fun b o e Z Z=>Heap.get?_push_of_some _ e) .nil)))
 ·cases r with
  |stuck=>exact absurd rfl hrn
  |ok d=>exact he.elim
  |err l=>
   refine xY (C:=fX C env' h₀) (C₀:=C) (s₀:=s) TG BA hmain t.wok T'.ok.frames rfl hfr I.kind I.glob I.gn TG.e gQ (by rfl) rfl T'.inv rfl keep (bA (env':=env') t hfr rfl) he fun T h' tk tt u st hT hT'=> ?_;show NX (D0 (.err l)) (g5 C X oa s) _ _;have live:=(t.step st).live;refine⟨st,B2.of (Rp.tup (vs:=[.str "refused" u,.int l tt]) hT' rfl rfl (fun z=> ?_) (.cons (.str [114,101,102,117,115,101,100] _) (.cons (.int l tt) .nil)))⟩;refine f8 (t.live _ z) fun Z z1t=> ?_;refine d6 z1t fun o e=> ?_;clear z1t;rw[hT] at e;injection e
end
section
variable {W:Wd} {aT:Addr} {fd:FuncData} {mC mB:Str->Option Value}
theorem XQ (TG:uN W mC mB aT fd) (BA:G5 W.G mC mB) (hmain:W.mg "BadText"=some (.ref 52)):LF W:=by
 intro n hE g C X k env sc oa σ s hg t f fp as body lsc lp p;show Ou C (if f="_law_told"/\g.lam=true/\sc.names.lookup f=some .globalImplicit/\aJ as lsc=true/\u6 sc lsc=true then D0 (ev g.lows n false lsc (i5 σ sc lsc) body) else .stuck) _ _ _ _;by_cases hc:f="_law_told"/\g.lam=true/\sc.names.lookup f=some .globalImplicit/\aJ as lsc=true/\u6 sc lsc=true
 case neg=>rw[if_neg hc];trivial
 rw[if_pos hc];refine OL hc fun z3r hlam hk hla hco=> ?_;clear hc;subst z3r;refine n5 (hg.lam hlam) fun htb z2n hbi=> ?_;refine e8 z2n fun k' hkk hlow=> ?_;clear z2n;refine s5 (t.envOk.told hk) fun x hx hcode hq=> ?_;have hk':env.kindOf "_law_told"=some .globalImplicit:=by
  rcases t.envOk.kinds _ _ hk with q|⟨q,_⟩
  ·exact q
  ·injection q
 have hgl:C6 W k' False g.lows:=⟨hg.const,hlow,hbi,fun z=>by injection z⟩;have I:=TG.I;refine s5 I.obj fun oT hoT hdT hcT=> ?_;refine w5.of fun hns=> ?_;refine wpAny_Call_NameR (Calls.Name_function_global t.envOk.kind hk' (Calls.loadGlobal_global (mg:=W.mg) (by rw[t.envOk.globals];exact A0 t.wok.g t.inv.G) TG.name ?_) (by decide));refine Calls.callWith_function (o:=oT) (fd:=fd) (Calls.evalArgs_plain (Calls.spliced_cons ?_));rw[if_neg (show ¬(false=true) by decide)];refine wpAny_mono (uL t htb hla hco hx hcode hq) (fun v s₁ h=> ?_) fun Z Z z=>z.elim;refine AS h fun a c' ctv pm z1r st hn hf hr=> ?_;clear h;subst z1r;have n7:=t.step st;refine Calls.spliced_nil ⟨⟨n7.inv.G _ _ hoT,hdT⟩,?_⟩;have key:=CI hE TG BA hmain hgl n7 hkk hla hco hf hr;exact w5.to (key.mono (fun Z Z Z Z z=>z.from st) fun Z Z Z Z z=>z.from st t.nt) hns
end
end
section
open PySem
section
variable (g:G) (opn:Option Str) (sc:Scope) (σ:d9)
noncomputable def c8 (tst:Bool) (e:Expr) (r:R V):Prop:= ∃N,∀n,ev g (n+N) tst sc σ e=r
noncomputable def d8 (st:Stmt) (q:R (Fl×d9)):Prop:= ∃N,∀n,ex g opn sc (n+N) σ st=q
noncomputable def d5 (b:List Stmt) (q:R (Fl×d9)):Prop:= ∃N,∀n,D2 (ex g opn sc (n+N)) σ b=q
noncomputable def P7 (t:Expr) (b:List Stmt) (vs:List V) (q:R (Fl×d9)):Prop:= ∃N,∀n,tC (fun σ v=>(t7 σ t v).bind fun σ'=>D2 (ex g opn sc (n+N)) σ' b) σ vs=q
noncomputable def g8 (ps:List Str) (body:List Stmt) (vs:List V) (r:R V):Prop:= ∃N,∀n,wZ g opn sc ps body (n+N) vs=r
end
section
variable {g:G} {opn:Option Str} {sc:Scope} {σ σ' W9:d9} {v:V} {r:R V} {l:Int} {x:Str} {xp p q:Pos} {e t:Expr} {s:Stmt} {b o:List Stmt} {u:R (Fl×d9)} {fl:Fl}
theorem up {α:Type} {f:Nat->α} {N:Nat} {a:α} (h: ∀n,f (n+N)=a) {M:Nat} (hM:N<=M) (n:Nat):f (n+M)=a:=by
 have:=h (n+(M-N));rwa[Nat.add_assoc,Nat.sub_add_cancel hM] at this
theorem d5.nil:d5 g opn sc σ [] (.ok (.next,σ)):=⟨0,fun Z=>rfl⟩
theorem d5.cons (h:d8 g opn sc σ s (.ok (.next,σ'))) (h':d5 g opn sc σ' b u):d5 g opn sc σ (s::b) u:=by
 refine d6 h fun N h=> ?_;refine d6 h' fun M h'=> ?_;refine⟨max N M,fun n=> ?_⟩;show(ex g opn sc _ σ s).bind _=_;rw[up (f:=fun n=>ex g opn sc n σ s) h (Nat.le_max_left N M) n];exact up (f:=fun n=>D2 (ex g opn sc n) σ' b) h' (Nat.le_max_right N M) n
theorem d5.ret (h:d8 g opn sc σ s (.ok (.ret v,σ'))):d5 g opn sc σ (s::b) (.ok (.ret v,σ')):=by
 refine d6 h fun N h=> ?_;exact⟨N,fun n=>by show(ex g opn sc _ σ s).bind _=_;rw[h n];rfl⟩
theorem d5.brk (h:d8 g opn sc σ s (.ok (.brk,σ'))):d5 g opn sc σ (s::b) (.ok (.brk,σ')):=by
 refine d6 h fun N h=> ?_;exact⟨N,fun n=>by show(ex g opn sc _ σ s).bind _=_;rw[h n];rfl⟩
theorem d5.err (h:d8 g opn sc σ s (.err l)):d5 g opn sc σ (s::b) (.err l):=by
 refine d6 h fun N h=> ?_;exact⟨N,fun n=>by show(ex g opn sc _ σ s).bind _=_;rw[h n];rfl⟩
theorem g8.ret {ps:List Str} {vs:List V} (hl:vs.length=ps.length) (h:d5 g opn sc (ps.zip vs) b (.ok (.ret v,σ'))):g8 g opn sc ps b vs (.ok v):=by
 refine d6 h fun N h=> ?_;exact⟨N,fun n=>by unfold wZ;rw[if_pos hl,h n];rfl⟩
theorem g8.next {ps:List Str} {vs:List V} (hl:vs.length=ps.length) (h:d5 g opn sc (ps.zip vs) b (.ok (.next,σ'))):g8 g opn sc ps b vs (.ok .none):=by
 refine d6 h fun N h=> ?_;exact⟨N,fun n=>by unfold wZ;rw[if_pos hl,h n];rfl⟩
theorem g8.err {ps:List Str} {vs:List V} (hl:vs.length=ps.length) (h:d5 g opn sc (ps.zip vs) b (.err l)):g8 g opn sc ps b vs (.err l):=by
 refine d6 h fun N h=> ?_;exact⟨N,fun n=>by unfold wZ;rw[if_pos hl,h n];rfl⟩
theorem d7 (h:c8 g sc σ false e (.ok v)) (hs:h7 sc x=true) (ho:opn≠some x) (hv:v.open? =false):d8 g opn sc σ (.Assign [.Name x xp] e q) (.ok (.next,σ.set x v)):=by
 refine d6 h fun N h=> ?_;refine⟨N+1,fun n=> ?_⟩;show(if h7 sc x=true/\(opn=some x->O2 e=true) then (ev g (n+N) false sc σ e).bind fun v=>(E8 opn σ x e v).map fun σ'=>(Fl.next,σ') else .stuck)=_;rw[if_pos ⟨hs,fun z=>absurd z ho⟩,h n];show(E8 opn σ x e v).map (fun σ'=>(Fl.next,σ'))=_;unfold E8;rw[if_neg ho,hv,if_neg (by decide)];rfl
theorem U3 (h:c8 g sc σ false e (.err l)) (hs:h7 sc x=true) (ho:opn≠some x):d8 g opn sc σ (.Assign [.Name x xp] e q) (.err l):=by
 refine d6 h fun N h=> ?_;refine⟨N+1,fun n=> ?_⟩;show(if h7 sc x=true/\(opn=some x->O2 e=true) then (ev g (n+N) false sc σ e).bind fun v=>(E8 opn σ x e v).map fun σ'=>(Fl.next,σ') else .stuck)=_;rw[if_pos ⟨hs,fun z=>absurd z ho⟩,h n];rfl
theorem uO {es:List Expr} {lp:Pos} {vs:List V} (h:c8 g sc σ false (.List es lp) (.ok (.list vs))) (hs:h7 sc x=true) (ho:opn=some x):d8 g opn sc σ (.Assign [.Name x xp] (.List es lp) q) (.ok (.next,σ.set x (.olist vs))):=by
 refine d6 h fun N h=> ?_;refine⟨N+1,fun n=> ?_⟩;show(if h7 sc x=true/\(opn=some x->O2 (.List es lp)=true) then (ev g (n+N) false sc σ (.List es lp)).bind fun v=>(E8 opn σ x (.List es lp) v).map fun σ'=>(Fl.next,σ') else .stuck)=_;rw[if_pos ⟨hs,fun Z=>rfl⟩,h n];show(E8 opn σ x (.List es lp) (.list vs)).map (fun σ'=>(Fl.next,σ'))=_;unfold E8;rw[if_pos ho];rfl
noncomputable def v6 (g:G) (sc:Scope) (σ:d9) (es:List Expr) (r:R (List V)):Prop:= ∃N,∀n,C0 (ev g (n+N) false sc σ) es=r
theorem v6.nil:v6 g sc σ [] (.ok []):=⟨0,fun Z=>rfl⟩
theorem v6.cons {es:List Expr} {vs:List V} (h:c8 g sc σ false e (.ok v)) (h':v6 g sc σ es (.ok vs)):v6 g sc σ (e::es) (.ok (v::vs)):=by
 refine d6 h fun N h=> ?_;refine d6 h' fun M h'=> ?_;refine⟨max N M,fun n=> ?_⟩;show(ev g _ false sc σ e).bind _=_;rw[up (f:=fun n=>ev g n false sc σ e) h (Nat.le_max_left N M) n];show(C0 (ev g (n+max N M) false sc σ) es).map _=_;rw[up (f:=fun n=>C0 (ev g n false sc σ) es) h' (Nat.le_max_right N M) n];rfl
theorem i7 {ts es:List Expr} {j j':Nat} {tp ep:Pos} {xs:List Str} {vs:List V} (h:v6 g sc σ es (.ok vs)) (hn:G4 ts=some xs) (hc:xs.Nodup/\aM es=true/\xs.all (h7 sc)=true/\xs.length<=8) (hs:U7 opn σ xs es vs=.ok σ'):
  d8 g opn sc σ (.Assign [.Tuple ts j tp] (.Tuple es j' ep) q) (.ok (.next,σ')):=by
 refine d6 h fun N h=> ?_;refine⟨N+1,fun n=> ?_⟩;show needR (G4 ts) _=_;rw[hn];show(if _ then (C0 (ev g (n+N) false sc σ) es).bind _ else _)=_;rw[if_pos hc,h n];show(U7 opn σ xs es vs).map _=_;rw[hs];rfl
theorem d8.append {a:Expr} {xp ap:Pos} {m:Str} {vs:List V} (h:c8 g sc σ false a (.ok v)) (hn:s0 g sc σ x=.ok (.olist vs)) (hc:m="append"/\opn=some x/\ap.endLine=p.line/\h7 sc x=true) (hv:v.open? =false) (hl:vs.length<g9):
  d8 g opn sc σ (.Expr (.Call (.Attribute (.Name x xp) m ap) [a] [] p) q) (.ok (.next,σ.set x (.olist (vs++[v])))):=by
 refine d6 h fun N h=> ?_;refine⟨N+1,fun n=> ?_⟩;show(if m="append"/\opn=some x/\ap.endLine=p.line/\h7 sc x=true then Y0 (s0 g sc σ x) fun vs=>(ev g (n+N) false sc σ a).bind fun v=>X9 v vs σ x else .stuck)=_;rw[if_pos hc,hn];show(ev g (n+N) false sc σ a).bind _=_;rw[h n];show(if v.open? ||decide (g9<=vs.length) then _ else _)=_;rw[hv,if_neg (by simpa using hl)]
theorem iA {a:Expr} {xp ap:Pos} {m:Str} {vs:List V} (h:c8 g sc σ false a (.err l)) (hn:s0 g sc σ x=.ok (.olist vs)) (hc:m="append"/\opn=some x/\ap.endLine=p.line/\h7 sc x=true):
  d8 g opn sc σ (.Expr (.Call (.Attribute (.Name x xp) m ap) [a] [] p) q) (.err l):=by
 refine d6 h fun N h=> ?_;refine⟨N+1,fun n=> ?_⟩;show(if m="append"/\opn=some x/\ap.endLine=p.line/\h7 sc x=true then Y0 (s0 g sc σ x) fun vs=>(ev g (n+N) false sc σ a).bind fun v=>X9 v vs σ x else .stuck)=_;rw[if_pos hc,hn];show(ev g (n+N) false sc σ a).bind _=_;rw[h n];rfl
theorem GU {i e:Expr} {xp ip:Pos} {vs:List V} (h:c8 g sc σ false e (.ok v)) (hn:s0 g sc σ x=.ok (.olist vs)) (hc:EI i=true/\dR e=false/\opn=some x/\h7 sc x=true) (hv:v.open? =false) (h0:vs≠[]) (hl:vs.length<=g9):
  d8 g opn sc σ (.Assign [.Subscript (.Name x xp) i ip] e q) (.ok (.next,σ.set x (.olist (vs.dropLast++[v])))):=by
 refine d6 h fun N h=> ?_;refine⟨N+1,fun n=> ?_⟩;show(if EI i=true/\dR e=false/\opn=some x/\h7 sc x=true then (ev g (n+N) false sc σ e).bind fun v=>Y0 (s0 g sc σ x) fun vs=>oV v vs σ x else .stuck)=_;rw[if_pos hc,h n];show Y0 (s0 g sc σ x) _=_;rw[hn];show(if v.open? ||vs.isEmpty||decide (g9<vs.length) then _ else _)=_;rw[hv,if_neg (by simp[h0,hl])]
theorem M4 {a:V} (h:c8 g sc σ false e (.ok v)) (hn:c8 g sc σ false (.Name x xp) (.ok a)) (ho:opn≠some x) (hs:h7 sc x=true) (hu:KB a v σ x=u):d8 g opn sc σ (.AugAssign (.Name x xp) .Add e p) u:=by
 refine d6 h fun N h=> ?_;refine d6 hn fun M hn=> ?_;refine⟨max N M+1,fun n=> ?_⟩;show(if opn=some x\/h7 sc x=false then .stuck else (ev g (n+max N M) false sc σ (.Name x xp)).bind fun a=>(ev g (n+max N M) false sc σ e).bind fun v=>KB a v σ x)=_;rw[if_neg (by rw[not_or];exact⟨ho,by rw[hs];decide⟩),up (f:=fun n=>ev g n false sc σ (.Name x xp)) hn (Nat.le_max_right N M) n];show(ev g (n+max N M) false sc σ e).bind _=_;rw[up (f:=fun n=>ev g n false sc σ e) h (Nat.le_max_left N M) n];exact hu
theorem d8.if_ {c:Bool} (h:c8 g sc σ true t (.ok (.bool c))) (h':d5 g opn sc σ (if c then b else o) u):d8 g opn sc σ (.If t b o p) u:=by
 refine d6 h fun N h=> ?_;refine d6 h' fun M h'=> ?_;refine⟨max N M+1,fun n=> ?_⟩;show((ev g (n+max N M) true sc σ t).bind l7).bind _=_;rw[up (f:=fun n=>ev g n true sc σ t) h (Nat.le_max_left N M) n];have:=up (f:=fun n=>D2 (ex g opn sc n) σ (if c then b else o)) h' (Nat.le_max_right N M) n;cases c<;>exact this
theorem d8.if1 (h:c8 g sc σ true t (.ok (.bool true))) (h':d5 g opn sc σ b u):d8 g opn sc σ (.If t b o p) u:=.if_ h h'
theorem d8.if0 (h:c8 g sc σ true t (.ok (.bool false))) (h':d5 g opn sc σ o u):d8 g opn sc σ (.If t b o p) u:=.if_ h h'
theorem i0 (h:c8 g sc σ true t (.ok (.bool false))):d8 g opn sc σ (.While t b [] p) (.ok (.next,σ)):=by
 refine d6 h fun N h=> ?_;exact⟨N+1,fun n=>by show((ev g (n+N) true sc σ t).bind l7).bind _=_;rw[h n];rfl⟩
theorem i3 (h:c8 g sc σ true t (.ok (.bool true))) (h':d5 g opn sc σ b (.ok (.next,σ'))) (h'':d8 g opn sc σ' (.While t b [] p) u):d8 g opn sc σ (.While t b [] p) u:=by
 refine d6 h fun N h=> ?_;refine d6 h' fun M h'=> ?_;refine d6 h'' fun L h''=> ?_;refine⟨max N (max M L)+1,fun n=> ?_⟩;show((ev g (n+max N (max M L)) true sc σ t).bind l7).bind _=_;rw[up (f:=fun n=>ev g n true sc σ t) h (Nat.le_max_left N _) n];show(D2 (ex g opn sc (n+max N (max M L))) σ b).bind _=_;rw[up (f:=fun n=>D2 (ex g opn sc n) σ b) h' (Nat.le_trans (Nat.le_max_left M L) (Nat.le_max_right N _)) n];exact up (f:=fun n=>ex g opn sc n σ' (.While t b [] p)) h'' (Nat.le_trans (Nat.le_max_right M L) (Nat.le_max_right N _)) n
theorem N6 (h:c8 g sc σ true t (.ok (.bool true))) (h':d5 g opn sc σ b (.ok (.ret v,σ'))):d8 g opn sc σ (.While t b [] p) (.ok (.ret v,σ')):=by
 refine d6 h fun N h=> ?_;refine d6 h' fun M h'=> ?_;refine⟨max N M+1,fun n=> ?_⟩;show((ev g (n+max N M) true sc σ t).bind l7).bind _=_;rw[up (f:=fun n=>ev g n true sc σ t) h (Nat.le_max_left N M) n];show(D2 (ex g opn sc (n+max N M)) σ b).bind _=_;rw[up (f:=fun n=>D2 (ex g opn sc n) σ b) h' (Nat.le_max_right N M) n];rfl
theorem K6 (h:c8 g sc σ true t (.ok (.bool true))) (h':d5 g opn sc σ b (.err l)):d8 g opn sc σ (.While t b [] p) (.err l):=by
 refine d6 h fun N h=> ?_;refine d6 h' fun M h'=> ?_;refine⟨max N M+1,fun n=> ?_⟩;show((ev g (n+max N M) true sc σ t).bind l7).bind _=_;rw[up (f:=fun n=>ev g n true sc σ t) h (Nat.le_max_left N M) n];show(D2 (ex g opn sc (n+max N M)) σ b).bind _=_;rw[up (f:=fun n=>D2 (ex g opn sc n) σ b) h' (Nat.le_max_right N M) n];rfl
theorem H4 {it:Expr} {iv:V} {items:List V} (h:c8 g sc σ false it (.ok iv)) (hi:s9 iv=.ok items) (ht:dQ sc opn t=true) (h':P7 g opn sc σ t b items u):d8 g opn sc σ (.For t it b [] p) u:=by
 refine d6 h fun N h=> ?_;refine d6 h' fun M h'=> ?_;refine⟨max N M+1,fun n=> ?_⟩;show(if dQ sc opn t=true then (ev g (n+max N M) false sc σ it).bind fun iv=>(s9 iv).bind fun items=>
    tC (fun σ v=>(t7 σ t v).bind fun σ'=>D2 (ex g opn sc (n+max N M)) σ' b) σ items else .stuck)=_
 rw[if_pos ht,up (f:=fun n=>ev g n false sc σ it) h (Nat.le_max_left N M) n];show(s9 iv).bind _=_;rw[hi];exact up (f:=fun n=>tC (fun σ v=>(t7 σ t v).bind fun σ'=>D2 (ex g opn sc n) σ' b) σ items) h' (Nat.le_max_right N M) n
theorem P7.nil:P7 g opn sc σ t b [] (.ok (.next,σ)):=⟨0,fun Z=>rfl⟩
theorem P7.cons {vs:List V} (hb:t7 σ t v=.ok σ') (h:d5 g opn sc σ' b (.ok (.next,W9))) (h':P7 g opn sc W9 t b vs u):P7 g opn sc σ t b (v::vs) u:=by
 refine d6 h fun N h=> ?_;refine d6 h' fun M h'=> ?_;refine⟨max N M,fun n=> ?_⟩;show((t7 σ t v).bind fun σ'=>D2 (ex g opn sc (n+max N M)) σ' b).bind _=_;rw[hb];show(D2 (ex g opn sc (n+max N M)) σ' b).bind _=_;rw[up (f:=fun n=>D2 (ex g opn sc n) σ' b) h (Nat.le_max_left N M) n];exact up (f:=fun n=>tC (fun σ v=>(t7 σ t v).bind fun σ'=>D2 (ex g opn sc n) σ' b) W9 vs) h' (Nat.le_max_right N M) n
theorem P7.brk {vs:List V} (hb:t7 σ t v=.ok σ') (h:d5 g opn sc σ' b (.ok (.brk,W9))):P7 g opn sc σ t b (v::vs) (.ok (.next,W9)):=by
 refine d6 h fun N h=> ?_;refine⟨N,fun n=> ?_⟩;show((t7 σ t v).bind fun σ'=>D2 (ex g opn sc (n+N)) σ' b).bind _=_;rw[hb];show(D2 (ex g opn sc (n+N)) σ' b).bind _=_;rw[h n];rfl
theorem P7.ret {vs:List V} {u:V} (hb:t7 σ t v=.ok σ') (h:d5 g opn sc σ' b (.ok (.ret u,W9))):P7 g opn sc σ t b (v::vs) (.ok (.ret u,W9)):=by
 refine d6 h fun N h=> ?_;refine⟨N,fun n=> ?_⟩;show((t7 σ t v).bind fun σ'=>D2 (ex g opn sc (n+N)) σ' b).bind _=_;rw[hb];show(D2 (ex g opn sc (n+N)) σ' b).bind _=_;rw[h n];rfl
theorem P7.err {vs:List V} (hb:t7 σ t v=.ok σ') (h:d5 g opn sc σ' b (.err l)):P7 g opn sc σ t b (v::vs) (.err l):=by
 refine d6 h fun N h=> ?_;refine⟨N,fun n=> ?_⟩;show((t7 σ t v).bind fun σ'=>D2 (ex g opn sc (n+N)) σ' b).bind _=_;rw[hb];show(D2 (ex g opn sc (n+N)) σ' b).bind _=_;rw[h n];rfl
theorem d8.ret (h:c8 g sc σ false e (.ok v)):d8 g opn sc σ (.Return (some e) p) (.ok (.ret v.freeze,σ)):=by
 refine d6 h fun N h=> ?_;exact⟨N+1,fun n=>by show(ev g (n+N) false sc σ e).map _=_;rw[h n];rfl⟩
theorem uP (h:c8 g sc σ false e (.err l)):d8 g opn sc σ (.Return (some e) p) (.err l):=by
 refine d6 h fun N h=> ?_;exact⟨N+1,fun n=>by show(ev g (n+N) false sc σ e).map _=_;rw[h n];rfl⟩
theorem d8.brk:d8 g opn sc σ (.Break p) (.ok (.brk,σ)):=⟨1,fun Z=>rfl⟩
theorem A9 {f c:Str} {i:Int} {fp lp cp:Pos} {kk:Nat} (hn:s0 g sc σ x=.ok (.int i)) (hc:c.length<=1000) (hf:f="BadText"/\sc.names.lookup f=some NameKind.globalImplicit) (hi:i.natAbs<1000000):
  d8 g opn sc σ (.Raise (some (.Call (.Name f fp) [.Name x lp,.Constant (.str c) kk cp] [] p)) none q) (.err i):=by
 refine⟨1,fun n=> ?_⟩;show needR (if c.length<=1000 then some (f,x) else none) _=_;rw[if_pos hc];show(if _ then _ else _)=_;rw[if_pos hf,hn];show(if i.natAbs<1000000 then R.err i else .stuck)=_;rw[if_pos hi]
end
section
variable {g:G} {sc:Scope} {σ:d9} {v u w:V} {r:R V} {l:Int} {x y f m:Str} {p q xp fp ap:Pos} {e e' e'' a b c:Expr} {es:List Expr} {vs:List V} {tst:Bool} {t t' t'':b9} {i j k:Int}
theorem Y8 (σ:d9) (x y:Str) (v:V):(σ.set x v).get y=if y=x then some v else σ.get y:=by
 unfold d9.get;induction σ with
 |nil=>
  show List.lookup y [(x,v)]=_;rw[List.lookup_cons];by_cases h:y=x
  ·subst h;simp
  ·have:(y==x)=false:=by simpa using h
   rw[this,if_neg h]
 |cons p r ih=>
  obtain⟨z,u⟩:=p;show List.lookup y (if x=z then (x,v)::r else (z,u)::d9.set r x v)=_;by_cases h:x=z
  ·subst h;rw[if_pos rfl,List.lookup_cons,List.lookup_cons];by_cases h:y=x
   ·subst h;simp
   ·have:(y==x)=false:=by simpa using h
    rw[this,if_neg h]
  ·rw[if_neg h,List.lookup_cons,List.lookup_cons,ih];by_cases hy:y=x
   ·subst hy;have:(y==z)=false:=by simpa using h
    rw[this]
   ·rw[if_neg hy,if_neg hy]
theorem d9.same:(σ.set x v).get x=some v:=by rw[Y8,if_pos rfl]
theorem d9.ne (h:y≠x) (h':σ.get y=some u):(σ.set x v).get y=some u:=by rw[Y8,if_neg h];exact h'
theorem g6 (h:σ.get x=some v) (hs:(sc.names.lookup x==some .local||sc.names.lookup x==some .cell||sc.names.lookup x==some .free)=true) (hd: ¬(x="__debug__"\/x="__classdict__")):s0 g sc σ x=.ok v:=by
 unfold s0;rw[if_neg hd];simp only[Bool.or_eq_true,beq_iff_eq] at hs;rcases hs with(hs|hs)|hs<;>rw[hs]<;>simp only[h]
theorem GV (h:g.const x=some v) (hs:sc.names.lookup x=some .globalImplicit) (hd: ¬(x="__debug__"\/x="__classdict__")):s0 g sc σ x=.ok v:=by
 unfold s0;rw[if_neg hd,hs];simp only[h]
theorem c8.name (h:s0 g sc σ x=r):c8 g sc σ false (.Name x xp) r:=⟨1,fun Z=>h⟩
theorem c8.const {c:Const} {kk:Nat} (h:qO c=r):c8 g sc σ false (.Constant c kk p) r:=⟨1,fun Z=>h⟩
theorem c8.bin {op:Operator} (h:c8 g sc σ false a (.ok v)) (h':c8 g sc σ false b (.ok u)) (hv:R1 op v u=.ok w):c8 g sc σ false (.BinOp a op b p) (.ok w):=by
 refine d6 h fun N h=> ?_;refine d6 h' fun M h'=> ?_;refine⟨max N M+1,fun n=> ?_⟩;show(ev g (n+max N M) false sc σ a).bind _=_;rw[up (f:=fun n=>ev g n false sc σ a) h (Nat.le_max_left N M) n];show(ev g (n+max N M) false sc σ b).bind _=_;rw[up (f:=fun n=>ev g n false sc σ b) h' (Nat.le_max_right N M) n];exact hv
theorem rM (h:c8 g sc σ false a (.ok (.int i))):c8 g sc σ false (.UnaryOp .USub a p) (.ok (.int (-i))):=by
 refine d6 h fun N h=> ?_;exact⟨N+1,fun n=>by show(ev g (n+N) false sc σ a).bind _=_;rw[h n];rfl⟩
theorem bB {bb:Bool} (h:c8 g sc σ true a (.ok (.bool bb))):c8 g sc σ true (.UnaryOp .Not a p) (.ok (.bool !bb)):=by
 refine d6 h fun N h=> ?_;exact⟨N+1,fun n=>by show((ev g (n+N) true sc σ a).bind l7).map _=_;rw[h n];rfl⟩
theorem rN {bb:Bool} (h:c8 g sc σ true c (.ok (.bool bb))) (h1:bb=true->c8 g sc σ false a (.ok v)) (h0:bb=false->c8 g sc σ false b (.ok u)):c8 g sc σ false (.IfExp c a b p) (.ok (if bb then v else u)):=by
 refine d6 h fun N h=> ?_;cases bb with
 |true=>
  refine d6 (h1 rfl) fun M h1=> ?_;refine⟨max N M+1,fun n=> ?_⟩;show((ev g (n+max N M) true sc σ c).bind l7).bind _=_;rw[up (f:=fun n=>ev g n true sc σ c) h (Nat.le_max_left N M) n];exact up (f:=fun n=>ev g n false sc σ a) h1 (Nat.le_max_right N M) n
 |false=>
  refine d6 (h0 rfl) fun M h0=> ?_;refine⟨max N M+1,fun n=> ?_⟩;show((ev g (n+max N M) true sc σ c).bind l7).bind _=_;rw[up (f:=fun n=>ev g n true sc σ c) h (Nat.le_max_left N M) n];exact up (f:=fun n=>ev g n false sc σ b) h0 (Nat.le_max_right N M) n
theorem e9 {op:CmpOp} {bb:Bool} (h:c8 g sc σ false a (.ok v)) (h':c8 g sc σ false b (.ok u)) (hv:w9 op v u=.ok bb) (hm:behindInMarks op b=false):c8 g sc σ tst (.Compare a [op] [b] p) (.ok (.bool bb)):=by
 refine d6 h fun N h=> ?_;refine d6 h' fun M h'=> ?_;refine⟨max N M+1,fun n=> ?_⟩;have key:AX (ev g (n+max N M) false sc σ) a op b=.ok (.bool bb):=by
  unfold AX;rw[hm,if_neg (by decide),up (f:=fun n=>ev g n false sc σ a) h (Nat.le_max_left N M) n];show(ev g (n+max N M) false sc σ b).bind _=_;rw[up (f:=fun n=>ev g n false sc σ b) h' (Nat.le_max_right N M) n];show(w9 op v u).map _=_;rw[hv];rfl
 cases tst<;>exact key
theorem c8.cmp2 {G8 I4:CmpOp} {b1 b2:Bool} (h:c8 g sc σ false a (.ok v)) (h':c8 g sc σ false b (.ok u)) (h'':b1=true->c8 g sc σ false c (.ok w)) (hv:w9 G8 v u=.ok b1) (hv':b1=true->w9 I4 u w=.ok b2) (hm:lastMarks [G8,I4] [b,c]=false):
  c8 g sc σ tst (.Compare a [G8,I4] [b,c] p) (.ok (.bool (b1 &&b2))):=by
 refine d6 h fun N h=> ?_;refine d6 h' fun M h'=> ?_;cases b1 with
 |false=>
  refine⟨max N M+1,fun n=> ?_⟩;have key:Mine.cmp2 (ev g (n+max N M) false sc σ) a G8 I4 b c=.ok (.bool false):=by
   unfold Mine.cmp2;rw[hm,if_neg (by decide),up (f:=fun n=>ev g n false sc σ a) h (Nat.le_max_left N M) n];show(ev g (n+max N M) false sc σ b).bind _=_;rw[up (f:=fun n=>ev g n false sc σ b) h' (Nat.le_max_right N M) n];show(w9 G8 v u).bind _=_;rw[hv];rfl
  cases tst<;>exact key
 |true=>
  refine d6 (h'' rfl) fun L h''=> ?_;refine⟨max N (max M L)+1,fun n=> ?_⟩;have key:Mine.cmp2 (ev g (n+max N (max M L)) false sc σ) a G8 I4 b c=.ok (.bool b2):=by
   unfold Mine.cmp2;rw[hm,if_neg (by decide),up (f:=fun n=>ev g n false sc σ a) h (Nat.le_max_left N _) n];show(ev g (n+max N (max M L)) false sc σ b).bind _=_;rw[up (f:=fun n=>ev g n false sc σ b) h' (Nat.le_trans (Nat.le_max_left M L) (Nat.le_max_right N _)) n];show(w9 G8 v u).bind _=_;rw[hv];show(if true=true then (ev g (n+max N (max M L)) false sc σ c).bind fun d=>(w9 I4 u d).map V.bool else R.ok (.bool false))=_;rw[if_pos rfl,up (f:=fun n=>ev g n false sc σ c) h'' (Nat.le_trans (Nat.le_max_right M L) (Nat.le_max_right N _)) n];show(w9 I4 u w).map _=_;rw[hv' rfl];rfl
  cases tst<;>exact key
theorem c9 {bb:Bool} (h:c8 g sc σ tst e (.ok (.bool bb))) (hc:bb=true):c8 g sc σ tst e (.ok (.bool true)):=hc▸h
theorem c7 {bb:Bool} (h:c8 g sc σ tst e (.ok (.bool bb))) (hc:bb=false):c8 g sc σ tst e (.ok (.bool false)):=hc▸h
theorem c8.to (h:c8 g sc σ tst e r) {r':R V} (hr:r=r'):c8 g sc σ tst e r':=hr▸h
noncomputable def J0 (g:G) (sc:Scope) (σ:d9) (es:List Expr) (r:R Bool):Prop:= ∃N,∀n,cS (fun x=>(ev g (n+N) true sc σ x).bind l7) es=r
noncomputable def aA (g:G) (sc:Scope) (σ:d9) (es:List Expr) (r:R Bool):Prop:= ∃N,∀n,sZ (fun x=>(ev g (n+N) true sc σ x).bind l7) es=r
theorem J0.one {bb:Bool} (h:c8 g sc σ true e (.ok (.bool bb))):J0 g sc σ [e] (.ok bb):=by
 refine d6 h fun N h=> ?_;refine⟨N,fun n=> ?_⟩;show((ev g (n+N) true sc σ e).bind l7).bind _=_;rw[h n];cases bb<;>rfl
theorem J0.cons {b1 b2:Bool} (h:c8 g sc σ true e (.ok (.bool b1))) (h':b1=true->J0 g sc σ (e'::es) (.ok b2)):J0 g sc σ (e::e'::es) (.ok (b1 &&b2)):=by
 refine d6 h fun N h=> ?_;cases b1 with
 |false=>exact⟨N,fun n=>by show((ev g (n+N) true sc σ e).bind l7).bind _=_;rw[h n];rfl⟩
 |true=>
  refine d6 (h' rfl) fun M h'=> ?_;refine⟨max N M,fun n=> ?_⟩;show((ev g (n+max N M) true sc σ e).bind l7).bind _=_;rw[up (f:=fun n=>ev g n true sc σ e) h (Nat.le_max_left N M) n];exact up (f:=fun n=>cS (fun x=>(ev g n true sc σ x).bind l7) (e'::es)) h' (Nat.le_max_right N M) n
theorem aA.one {bb:Bool} (h:c8 g sc σ true e (.ok (.bool bb))):aA g sc σ [e] (.ok bb):=by
 refine d6 h fun N h=> ?_;refine⟨N,fun n=> ?_⟩;show((ev g (n+N) true sc σ e).bind l7).bind _=_;rw[h n];cases bb<;>rfl
theorem aA.cons {b1 b2:Bool} (h:c8 g sc σ true e (.ok (.bool b1))) (h':b1=false->aA g sc σ (e'::es) (.ok b2)):aA g sc σ (e::e'::es) (.ok (b1||b2)):=by
 refine d6 h fun N h=> ?_;cases b1 with
 |true=>exact⟨N,fun n=>by show((ev g (n+N) true sc σ e).bind l7).bind _=_;rw[h n];rfl⟩
 |false=>
  refine d6 (h' rfl) fun M h'=> ?_;refine⟨max N M,fun n=> ?_⟩;show((ev g (n+max N M) true sc σ e).bind l7).bind _=_;rw[up (f:=fun n=>ev g n true sc σ e) h (Nat.le_max_left N M) n];exact up (f:=fun n=>sZ (fun x=>(ev g n true sc σ x).bind l7) (e'::es)) h' (Nat.le_max_right N M) n
theorem j2 {bb:Bool} (h:J0 g sc σ es (.ok bb)):c8 g sc σ true (.BoolOp .And es p) (.ok (.bool bb)):=by
 refine d6 h fun N h=> ?_;exact⟨N+1,fun n=>by show(cS (fun x=>(ev g (n+N) true sc σ x).bind l7) es).map _=_;rw[h n];rfl⟩
theorem C2 {bb:Bool} (h:aA g sc σ es (.ok bb)):c8 g sc σ true (.BoolOp .Or es p) (.ok (.bool bb)):=by
 refine d6 h fun N h=> ?_;exact⟨N+1,fun n=>by show(sZ (fun x=>(ev g (n+N) true sc σ x).bind l7) es).map _=_;rw[h n];rfl⟩
theorem pZ {bb:Bool} (h:c8 g sc σ false (.Name x xp) (.ok v)) (hv:B3 v=.ok bb):c8 g sc σ true (.Name x xp) (.ok (.bool bb)):=by
 refine d6 h fun N h=> ?_;exact⟨N+1,fun n=>by show(ev g (n+N) false sc σ (.Name x xp)).bind _=_;rw[h n];show(B3 v).map _=_;rw[hv];rfl⟩
theorem G0 {ks:List Keyword} {bb:Bool} (h:c8 g sc σ false (.Call e es ks p) (.ok v)) (hv:B3 v=.ok bb):c8 g sc σ true (.Call e es ks p) (.ok (.bool bb)):=by
 refine d6 h fun N h=> ?_;exact⟨N+1,fun n=>by show(ev g (n+N) false sc σ (.Call e es ks p)).bind _=_;rw[h n];show(B3 v).map _=_;rw[hv];rfl⟩
theorem H5 {op:BoolOp} (h:c8 g sc σ false e r):c8 g sc σ false (.BoolOp op [e] p) r:=by
 refine d6 h fun N h=> ?_;exact⟨N+1,fun n=>by cases op<;>exact h n⟩
end
section
variable {g:G} {sc:Scope} {σ:d9} {v u w:V} {r:R V} {l:Int} {x y f m:Str} {p q xp fp ap:Pos} {e e' e'' a b c:Expr} {es:List Expr} {vs us:List V} {tst:Bool} {t t' t'':b9} {i j k:Int}
theorem CJ {bb:Bool} (h:c8 g sc σ false a (.ok v)) (hv:B3 v=.ok bb) (h1:bb=true->c8 g sc σ false (.BoolOp .And (b::es) p) (.ok u)):c8 g sc σ false (.BoolOp .And (a::b::es) p) (.ok (if bb then u else v)):=by
 refine d6 h fun N h=> ?_;cases bb with
 |false=>exact⟨N+1,fun n=>by show(ev g (n+N) false sc σ a).bind _=_;rw[h n];show(B3 v).bind _=_;rw[hv];rfl⟩
 |true=>
  refine d6 (h1 rfl) fun M h1=> ?_;refine⟨max N M+1,fun n=> ?_⟩;show(ev g (n+max N M) false sc σ a).bind _=_;rw[up (f:=fun n=>ev g n false sc σ a) h (Nat.le_max_left N M) n];show(B3 v).bind _=_;rw[hv];exact up (f:=fun n=>ev g n false sc σ (.BoolOp .And (b::es) p)) h1 (Nat.le_max_right N M) n
theorem eO {bb:Bool} (h:c8 g sc σ false a (.ok v)) (hv:B3 v=.ok bb) (h1:bb=false->c8 g sc σ false (.BoolOp .Or (b::es) p) (.ok u)):c8 g sc σ false (.BoolOp .Or (a::b::es) p) (.ok (if bb then v else u)):=by
 refine d6 h fun N h=> ?_;cases bb with
 |true=>exact⟨N+1,fun n=>by show(ev g (n+N) false sc σ a).bind _=_;rw[h n];show(B3 v).bind _=_;rw[hv];rfl⟩
 |false=>
  refine d6 (h1 rfl) fun M h1=> ?_;refine⟨max N M+1,fun n=> ?_⟩;show(ev g (n+max N M) false sc σ a).bind _=_;rw[up (f:=fun n=>ev g n false sc σ a) h (Nat.le_max_left N M) n];show(B3 v).bind _=_;rw[hv];exact up (f:=fun n=>ev g n false sc σ (.BoolOp .Or (b::es) p)) h1 (Nat.le_max_right N M) n
theorem o7 {b1 b2:Bool} (h:c8 g sc σ false a (.ok (.bool b1))) (h1:b1=true->c8 g sc σ false (.BoolOp .And (b::es) p) (.ok (.bool b2))):c8 g sc σ false (.BoolOp .And (a::b::es) p) (.ok (.bool (b1 &&b2))):=
 (CJ h rfl h1).to (by cases b1<;>rfl)
theorem c8.tup {kk:Nat} (h:v6 g sc σ es (.ok vs)) (hv:vs.any V.open? =false) (hl:vs.length<=g9):c8 g sc σ false (.Tuple es kk p) (.ok (.tup vs)):=by
 refine d6 h fun N h=> ?_;refine⟨N+1,fun n=> ?_⟩;show((C0 (ev g (n+N) false sc σ) es).bind N2).map _=_;rw[h n];show(N2 vs).map _=_;unfold N2;rw[hv,if_neg (by simpa using hl)];rfl
theorem c8.list (h:v6 g sc σ es (.ok vs)) (hv:vs.any V.open? =false) (hl:vs.length<=g9):c8 g sc σ false (.List es p) (.ok (.list vs)):=by
 refine d6 h fun N h=> ?_;refine⟨N+1,fun n=> ?_⟩;show((C0 (ev g (n+N) false sc σ) es).bind N2).map _=_;rw[h n];show(N2 vs).map _=_;unfold N2;rw[hv,if_neg (by simpa using hl)];rfl
theorem c8.dict {ks:List (Option Expr)} {kvs:List (b9×Int)} (h:bT ks es=some kvs) (hc:1<=kvs.length/\kvs.length<=15/\(kvs.map (·.1)).Nodup):c8 g sc σ false (.Dict ks es p) (.ok (.dict kvs)):=by
 refine⟨1,fun n=> ?_⟩;show needR (bT ks es) _=_;rw[h];exact if_pos hc
noncomputable def zT (e:Expr):Bool:=(X8 e).isNone
theorem G6 (h:s0 g sc σ x=.ok v) (h':c8 g sc σ false e (.ok u)) (hv:P2 v u=r) (hn:zT e=true):c8 g sc σ false (.Subscript (.Name x xp) e p) r:=by
 refine d6 h' fun N h'=> ?_;refine⟨N+1+1,fun n=> ?_⟩;have hx:ev g (n+N+1) false sc σ (.Name x xp)=.ok v:=h;have key:((ev g (n+N+1) false sc σ (.Name x xp)).bind fun o=>(ev g (n+N+1) false sc σ e).bind fun k=>P2 o k)=r:=by
  rw[hx];show(ev g (n+N+1) false sc σ e).bind _=_;have e2:ev g (n+N+1) false sc σ e=.ok u:=up (f:=fun n=>ev g n false sc σ e) h' (M:=N+1) (Nat.le_succ N) n;rw[e2];exact hv
 have h0:X8 e=none:=Option.isNone_iff_eq_none.mp hn;show EH (ev g (n+N+1) false sc σ) (.Name x xp) e=r;unfold EH;simp only[h0];exact key
noncomputable def zU (g:G) (sc:Scope) (σ:d9) (e:Option Expr) (r:Option Int):Prop:= ∃N,∀n,(nM (ev g (n+N) false sc σ) e).bind R2=.ok r
theorem zU.none:zU g sc σ none none:=⟨0,fun Z=>rfl⟩
theorem zU.some (h:c8 g sc σ false e (.ok (.int i))) (hi:i.natAbs<2 ^40):zU g sc σ (some e) (some i):=by
 refine d6 h fun N h=> ?_;refine⟨N,fun n=> ?_⟩;show((ev g (n+N) false sc σ e).map _).bind _=_;rw[h n];exact if_pos hi
theorem c8.slice {lo hi:Option Expr} {li hj:Option Int} (h:s0 g sc σ x=.ok (.str t)) (h1:zU g sc σ lo li) (h2:zU g sc σ hi hj) (hl:t.length<=g9) {sp:Pos}:c8 g sc σ false (.Subscript (.Name x xp) (.Slice lo hi none sp) p) (.ok (.str (j9 t li hj))):=by
 refine d6 h1 fun N h1=> ?_;refine d6 h2 fun M h2=> ?_;refine⟨max N M+1+1,fun n=> ?_⟩;have hx:ev g (n+max N M+1) false sc σ (.Name x xp)=.ok (.str t):=h;show(ev g (n+max N M+1) false sc σ (.Name x xp)).bind _=_;rw[hx];show jV (ev g (n+max N M+1) false sc σ) (.str t) lo hi=_;have e1:=up (f:=fun n=>(nM (ev g n false sc σ) lo).bind R2) h1 (M:=max N M+1) (Nat.le_trans (Nat.le_max_left N M) (Nat.le_succ _)) n;have e2:=up (f:=fun n=>(nM (ev g n false sc σ) hi).bind R2) h2 (M:=max N M+1) (Nat.le_trans (Nat.le_max_right N M) (Nat.le_succ _)) n;have e1:(nM (ev g (n+max N M+1) false sc σ) lo).bind R2=.ok li:=e1;have e2:(nM (ev g (n+max N M+1) false sc σ) hi).bind R2=.ok hj:=e2;unfold jV;cases q1:nM (ev g (n+max N M+1) false sc σ) lo with
 |stuck=>rw[q1] at e1;injection e1
 |err l=>rw[q1] at e1;injection e1
 |ok lv=>
  rw[q1] at e1;cases q2:nM (ev g (n+max N M+1) false sc σ) hi with
  |stuck=>rw[q2] at e2;injection e2
  |err l=>rw[q2] at e2;injection e2
  |ok hv=>
   rw[q2] at e2;have e1:R2 lv=.ok li:=e1;have e2:R2 hv=.ok hj:=e2;show(R2 lv).bind _=_;rw[e1];show(R2 hv).bind _=_;rw[e2];exact if_pos hl
noncomputable def uQ (es:List Expr):Bool:=(oR es).isSome
theorem zV {n:Nat} (hl:uQ es=false):ev g (n+1) false sc σ (.Call (.Name f fp) es [] p)=if aK sc f es=true/\((g.fn f).isSome||m9.contains f)=true then (C0 (ev g n false sc σ) es).bind fun vs=>aH g f vs else .stuck:=by
 have h0:oR es=none:=by
  cases h:oR es with
  |none=>rfl
  |some _=>rw[uQ,h] at hl;injection hl
 show tB g (ev g n false sc σ) _ sc (.Name f fp) es p=_;unfold tB;simp only[h0]
theorem c8.call {F:List V->R V} (hs:v6 g sc σ es (.ok vs)) (hf:g.fn f=some F) (hF:F vs=r) (hc:aK sc f es=true) (hl:uQ es=false) (ho:vs.any V.open? =false):c8 g sc σ false (.Call (.Name f fp) es [] p) r:=by
 refine d6 hs fun N hs=> ?_;refine⟨N+1,fun n=> ?_⟩;rw[show n+(N+1)=(n+N)+1 from rfl,zV hl,if_pos ⟨hc,by rw[hf];rfl⟩,hs n];show aH g f vs=r;unfold aH;rw[hf];simp only[ho];exact hF
theorem c8.bcall (hs:v6 g sc σ es (.ok vs)) (hf:g.fn f=none) (hb:m9.contains f=true) (hF:fJ f vs=r) (hc:aK sc f es=true) (hl:uQ es=false):c8 g sc σ false (.Call (.Name f fp) es [] p) r:=by
 refine d6 hs fun N hs=> ?_;refine⟨N+1,fun n=> ?_⟩;rw[show n+(N+1)=(n+N)+1 from rfl,zV hl,if_pos ⟨hc,by rw[hb,Bool.or_true]⟩,hs n];show aH g f vs=r;unfold aH;rw[hf];simp only[hb,if_true];exact hF
theorem c8.told {f:Str} {fp p lp:Pos} {as:Arguments} {body:Expr} {lsc:Scope} (h:c8 g.lows lsc (i5 σ sc lsc) false body r) (hc:f="_law_told"/\g.lam=true/\sc.names.lookup f=some .globalImplicit/\aJ as lsc=true/\u6 sc lsc=true):
  c8 g sc σ false (.Call (.Name f fp) [.Lambda as body lsc lp] [] p) (D0 r):=by
 refine d6 h fun N h=> ?_;refine⟨N+1,fun n=> ?_⟩;show(if f="_law_told"/\g.lam=true/\sc.names.lookup f=some NameKind.globalImplicit/\aJ as lsc=true/\u6 sc lsc=true then D0 (ev g.lows (n+N) false lsc (i5 σ sc lsc) body) else .stuck)=_;rw[if_pos hc,h n]
theorem fY (h:c8 g sc σ false a (.ok v)) (hv:w4 m v []=r) (hc:ap.endLine=p.line/\R3 a=true):c8 g sc σ false (.Call (.Attribute a m ap) [] [] p) r:=by
 refine d6 h fun N h=> ?_;refine⟨N+1,fun n=> ?_⟩;show(if ap.endLine=p.line/\R3 a=true then (ev g (n+N) false sc σ a).calm.bind fun ov=>w4 m ov [] else .stuck)=_;rw[if_pos hc,h n];exact hv
theorem W3 (h:c8 g sc σ false a (.ok v)) (h':c8 g sc σ false b (.ok u)) (hv:w4 m v [u]=r) (hc:ap.endLine=p.line/\R3 a=true):c8 g sc σ false (.Call (.Attribute a m ap) [b] [] p) r:=by
 refine d6 h fun N h=> ?_;refine d6 h' fun M h'=> ?_;refine⟨max N M+1,fun n=> ?_⟩;show(if ap.endLine=p.line/\R3 a=true then (ev g (n+max N M) false sc σ a).calm.bind fun ov=>(ev g (n+max N M) false sc σ b).calm.bind fun v=>w4 m ov [v] else .stuck)=_;rw[if_pos hc,up (f:=fun n=>ev g n false sc σ a) h (Nat.le_max_left N M) n];show(ev g (n+max N M) false sc σ b).calm.bind _=_;rw[up (f:=fun n=>ev g n false sc σ b) h' (Nat.le_max_right N M) n];exact hv
theorem CK (h:c8 g sc σ false a (.ok v)) (h':c8 g sc σ false b (.ok u)) (h'':c8 g sc σ false c (.ok w)) (hv:w4 m v [u,w]=r) (hc:ap.endLine=p.line/\R3 a=true):c8 g sc σ false (.Call (.Attribute a m ap) [b,c] [] p) r:=by
 refine d6 h fun N h=> ?_;refine d6 h' fun M h'=> ?_;refine d6 h'' fun L h''=> ?_;refine⟨max N (max M L)+1,fun n=> ?_⟩;show(if ap.endLine=p.line/\R3 a=true then (ev g (n+max N (max M L)) false sc σ a).calm.bind fun ov=>(ev g (n+max N (max M L)) false sc σ b).calm.bind fun v=>(ev g (n+max N (max M L)) false sc σ c).calm.bind fun u=>w4 m ov [v,u] else .stuck)=_;rw[if_pos hc,up (f:=fun n=>ev g n false sc σ a) h (Nat.le_max_left N _) n];show(ev g (n+max N (max M L)) false sc σ b).calm.bind _=_;rw[up (f:=fun n=>ev g n false sc σ b) h' (Nat.le_trans (Nat.le_max_left M L) (Nat.le_max_right N _)) n];show(ev g (n+max N (max M L)) false sc σ c).calm.bind _=_;rw[up (f:=fun n=>ev g n false sc σ c) h'' (Nat.le_trans (Nat.le_max_right M L) (Nat.le_max_right N _)) n];exact hv
noncomputable def Q6 (g:G) (csc:Scope) (σ:d9) (t elt:Expr) (ifs:List Expr) (items:List V) (r:List V):Prop:= ∃N,∀n,D5 (F7 (ev g (n+N) false csc) (ev g (n+N) true csc) σ t elt ifs) items=.ok r
variable {csc:Scope} {tg elt it:Expr} {ifs:List Expr} {items:List V} {σ':d9}
theorem Q6.nil:Q6 g csc σ tg elt ifs [] []:=⟨0,fun Z=>rfl⟩
theorem Q6.take (hb:t7 σ tg v=.ok σ') (h:c8 g csc σ' false elt (.ok u)) (hu:u.open? =false) (h':Q6 g csc σ tg elt [] items vs):Q6 g csc σ tg elt [] (v::items) (u::vs):=by
 refine d6 h fun N h=> ?_;refine d6 h' fun M h'=> ?_;refine⟨max N M,fun n=> ?_⟩;have e1:F7 (ev g (n+max N M) false csc) (ev g (n+max N M) true csc) σ tg elt [] v=.ok (some u):=by
  show(t7 σ tg v).bind _=_;rw[hb];show((ev g (n+max N M) false csc σ' elt).bind iM).calm.map _=_;rw[up (f:=fun n=>ev g n false csc σ' elt) h (Nat.le_max_left N M) n];show(iM u).calm.map _=_;unfold iM;rw[hu];rfl
 show(F7 _ _ σ tg elt [] v).bind _=_;rw[e1];show(D5 _ items).map _=_;rw[up (f:=fun n=>D5 (F7 (ev g n false csc) (ev g n true csc) σ tg elt []) items) h' (Nat.le_max_right N M) n];rfl
theorem uR {c:Expr} (hb:t7 σ tg v=.ok σ') (hc:c8 g csc σ' true c (.ok (.bool false))) (h':Q6 g csc σ tg elt [c] items vs):Q6 g csc σ tg elt [c] (v::items) vs:=by
 refine d6 hc fun N h=> ?_;clear hc;refine d6 h' fun M h'=> ?_;refine⟨max N M,fun n=> ?_⟩;have e1:F7 (ev g (n+max N M) false csc) (ev g (n+max N M) true csc) σ tg elt [c] v=.ok none:=by
  show(t7 σ tg v).bind _=_;rw[hb];show((((ev g (n+max N M) true csc σ' c).bind l7).calm).bind _).bind _=_;rw[up (f:=fun n=>ev g n true csc σ' c) h (Nat.le_max_left N M) n];rfl
 show(F7 _ _ σ tg elt [c] v).bind _=_;rw[e1];show(D5 _ items).map _=_;rw[up (f:=fun n=>D5 (F7 (ev g n false csc) (ev g n true csc) σ tg elt [c]) items) h' (Nat.le_max_right N M) n];rfl
theorem lI {c:Expr} (hb:t7 σ tg v=.ok σ') (hc:c8 g csc σ' true c (.ok (.bool true))) (h:c8 g csc σ' false elt (.ok u)) (hu:u.open? =false) (h':Q6 g csc σ tg elt [c] items vs):Q6 g csc σ tg elt [c] (v::items) (u::vs):=by
 refine d6 h fun N h=> ?_;refine d6 h' fun M h'=> ?_;refine d6 hc fun L hc=> ?_;refine⟨max N (max M L),fun n=> ?_⟩;have e1:F7 (ev g (n+max N (max M L)) false csc) (ev g (n+max N (max M L)) true csc) σ tg elt [c] v=.ok (some u):=by
  show(t7 σ tg v).bind _=_;rw[hb];show((((ev g (n+max N (max M L)) true csc σ' c).bind l7).calm).bind _).bind _=_;rw[up (f:=fun n=>ev g n true csc σ' c) hc (Nat.le_trans (Nat.le_max_right M L) (Nat.le_max_right N _)) n];show((ev g (n+max N (max M L)) false csc σ' elt).bind iM).calm.map _=_;rw[up (f:=fun n=>ev g n false csc σ' elt) h (Nat.le_max_left N _) n];show(iM u).calm.map _=_;unfold iM;rw[hu];rfl
 show(F7 _ _ σ tg elt [c] v).bind _=_;rw[e1];show(D5 _ items).map _=_;rw[up (f:=fun n=>D5 (F7 (ev g n false csc) (ev g n true csc) σ tg elt [c]) items) h' (Nat.le_trans (Nat.le_max_left M L) (Nat.le_max_right N _)) n];rfl
theorem J9 {iv:V} (h:c8 g sc σ false it (.ok iv)) (hi:s9 iv=.ok items) (h':Q6 g csc (i5 σ sc csc) tg elt ifs items vs) (hc:(u6 sc csc &&X7 csc tg)=true):c8 g sc σ false (.ListComp elt [⟨tg,it,ifs,0⟩] csc p) (.ok (.list vs)):=by
 refine d6 h fun N h=> ?_;refine d6 h' fun M h'=> ?_;refine⟨max N M+1,fun n=> ?_⟩;show(if u6 sc csc &&X7 csc tg then
    (ev g (n+max N M) false sc σ it).bind fun iv=>(s9 iv).bind fun items=>
     (D5 (F7 (ev g (n+max N M) false csc) (ev g (n+max N M) true csc) (i5 σ sc csc) tg elt ifs) items).map V.list else R.stuck)=_
 rw[if_pos hc,up (f:=fun n=>ev g n false sc σ it) h (Nat.le_max_left N M) n];show(s9 iv).bind _=_;rw[hi];show(D5 _ items).map _=_;rw[up (f:=fun n=>D5 (F7 (ev g n false csc) (ev g n true csc) (i5 σ sc csc) tg elt ifs) items) h' (Nat.le_max_right N M) n];rfl
theorem uS:fJ "bytes" vs=wW vs:=rfl
theorem PZ:fJ "max" vs=OT vs:=rfl
theorem QA:fJ "sum" vs=OU vs:=rfl
theorem QB:fJ "all" vs=OV vs:=rfl
theorem GW:fJ "range" vs=jU vs:=rfl
end
structure Fd where
 body:List Stmt
 sc:Scope
noncomputable def XR:Stmt->Fd
 | .FunctionDef (body:=b) (scope:=sc) .. =>⟨b,sc⟩
 |_=>⟨[],PySem.Challenge.pw_tk0066_01.main.scope⟩
noncomputable def J1 (i:Nat):Fd:=XR (i4 PySem.Challenge.pw_tk0066_01.main.body i)
noncomputable def XS:Expr:=.Constant .none 0 ⟨0,0,0,0⟩
noncomputable def sE:Stmt->Expr
 | .If t _ _ _=>t
 | .While t _ _ _=>t
 | .Assign _ e _=>e
 | .Return e _=>e.getD XS
 | .For _ it _ _ _=>it
 |_=>XS
noncomputable def sB:Stmt->List Stmt
 | .If _ b _ _=>b
 | .While _ b _ _=>b
 | .For _ _ b _ _=>b
 |_=>[]
noncomputable def eL:Expr->List Expr
 | .IfExp t a b _=>[t,a,b]
 | .Tuple es _ _=>es
 | .BoolOp _ es _=>es
 | .Call _ es _ _=>es
 | .Compare a _ _ _=>[a]
 | .ListComp _ (c::_) _ _=>[c.iter]
 |_=>[]
noncomputable def eK (e:Expr) (i:Nat):Expr:=(eL e).getD i XS
noncomputable def eI (e:Expr):Expr:=eK e 0
noncomputable def eS:Expr->Scope
 | .ListComp _ _ s _=>s
 | .Lambda _ _ s _=>s
 |_=>PySem.Challenge.pw_tk0066_01.main.scope
noncomputable def r6:Fd:=J1 10
noncomputable def E6:Fd:=J1 11
noncomputable def O8:Fd:=J1 12
noncomputable def n9:Fd:=J1 13
noncomputable def s6:Fd:=J1 14
noncomputable def F2:Fd:=J1 15
noncomputable def D8:Fd:=J1 16
noncomputable def j3:Fd:=J1 17
noncomputable def lJ:Fd:=J1 18
noncomputable def fZ:Fd:=J1 19
noncomputable def D9:Fd:=J1 20
noncomputable def v2:Fd:=J1 21
noncomputable def l9:Fd:=J1 22
noncomputable def M5:Fd:=J1 23
noncomputable def bC:Fd:=J1 25
noncomputable def U4:Fd:=J1 26
noncomputable def rO:Fd:=J1 27
noncomputable def M6:Fd:=J1 28
noncomputable def o0:Fd:=J1 29
noncomputable def H6:Fd:=J1 30
noncomputable def GZ:Fd:=J1 31
noncomputable def B0:Fd:=J1 32
noncomputable def j5:Fd:=J1 33
noncomputable def l8:Fd:=J1 34
noncomputable def lK:Fd:=J1 35
noncomputable def dB:Fd:=J1 36
noncomputable def rP:Fd:=J1 37
noncomputable def v3:Fd:=J1 38
noncomputable def HA:Fd:=J1 40
noncomputable def XT:Fd:=J1 41
noncomputable def n6:Fd:=J1 42
noncomputable def f9:Fd:=J1 43
noncomputable def v4:Fd:=J1 44
theorem k_0:(Str.ofString "").cps.toList=[]:=rfl
theorem k_1:(Str.ofString "\t").cps.toList=[9]:=rfl
theorem k_2:(Str.ofString " ").cps.toList=[32]:=rfl
theorem k_3:(Str.ofString "\"").cps.toList=[34]:=rfl
theorem XU:(Str.ofString "#").cps.toList=[35]:=rfl
theorem XV:(Str.ofString "$").cps.toList=[36]:=rfl
theorem XW:(Str.ofString "'").cps.toList=[39]:=rfl
theorem XX:(Str.ofString "+").cps.toList=[43]:=rfl
theorem XY:(Str.ofString "+-").cps.toList=[43,45]:=rfl
theorem XZ:(Str.ofString ",").cps.toList=[44]:=rfl
theorem YA:(Str.ofString "-").cps.toList=[45]:=rfl
theorem YB:(Str.ofString ".").cps.toList=[46]:=rfl
theorem YC:(Str.ofString "0").cps.toList=[48]:=rfl
theorem YD:(Str.ofString "01234567").cps.toList=[48,49,50,51,52,53,54,55]:=rfl
theorem YE:(Str.ofString "0123456789").cps.toList=[48,49,50,51,52,53,54,55,56,57]:=rfl
theorem YF:(Str.ofString "0123456789abcdef").cps.toList=[48,49,50,51,52,53,54,55,56,57,97,98,99,100,101,102]:=rfl
theorem YG:(Str.ofString "0B").cps.toList=[48,66]:=rfl
theorem YH:(Str.ofString "0X").cps.toList=[48,88]:=rfl
theorem YI:(Str.ofString "0b").cps.toList=[48,98]:=rfl
theorem YJ:(Str.ofString "0x").cps.toList=[48,120]:=rfl
theorem YK:(Str.ofString "\\").cps.toList=[92]:=rfl
theorem YL:(Str.ofString "_").cps.toList=[95]:=rfl
theorem YM:(Str.ofString "b").cps.toList=[98]:=rfl
theorem YN:(Str.ofString "bf").cps.toList=[98,102]:=rfl
theorem YO:(Str.ofString "f").cps.toList=[102]:=rfl
theorem YP:(Str.ofString "let").cps.toList=[108,101,116]:=rfl
theorem YQ:(Str.ofString "refused").cps.toList=[114,101,102,117,115,101,100]:=rfl
theorem YR:(Str.ofString "x").cps.toList=[120]:=rfl
theorem YS:(Str.ofString "xX").cps.toList=[120,88]:=rfl
noncomputable def rQ:List (Str×V):=
 [("ESCAPES",.dict [([110],10),([116],9),([114],13),([92],92),([39],39),([34],34)]),
  ("FIGURES",.str ((List.range 10).map (· +48))),
  ("OCTAL",.str ((List.range 8).map (· +48))),
  ("NAME_SIGNS",.str ((List.range 26).map (· +97)++(List.range 26).map (· +65)++(List.range 10).map (· +48)++[95,46,36])),
  ("QUOTES",.str [34,39])]
structure N7 (g:G):Prop where
 const:g.const=fun x=>rQ.lookup x
 bi: ∀f,m9.contains f=true->g.fn f=none
section
variable {g:G} {sc:Scope} {σ:d9} {v u w:V} {r:R V} {l:Int} {x y f m:Str} {p q xp fp ap:Pos} {e e' e'' a b c:Expr} {es:List Expr} {vs us:List V} {tst:Bool} {t t' t'':b9} {i j k:Int}
noncomputable def k6 (t:b9) (i:Nat):Nat:=t.getD i 0
theorem jI (hl:t.length<=g9) (h:0<=i/\i<t.length):P2 (.str t) (.int i)=.ok (.str [t.getD i.toNat 0]):=by
 rw[NQ,if_pos hl];unfold G3;rw[if_pos h.1,if_pos h.2];rfl
theorem NZ {k:Nat} (hl:t.length<=g9) (h:k<t.length):P2 (.str t) (.int (k:Int))=.ok (.str [k6 t k]):=by
 rw[jI hl (by omega)];rfl
theorem UA (hl:t.length<=g9) (h:0<t.length):P2 (.str t) (.int 0)=.ok (.str [k6 t 0]):=by
 rw[jI hl (by omega)];rfl
theorem UB (hl:t.length<=g9) (h:1<t.length):P2 (.str t) (.int 1)=.ok (.str [k6 t 1]):=by
 rw[jI hl (by omega)];rfl
theorem QC (hl:t.length<=g9) (h:0<t.length):P2 (.str t) (.int (-1))=.ok (.str [k6 t (t.length-1)]):=by
 rw[NQ,if_pos hl];unfold G3;rw[if_neg (by omega),if_pos (by omega)];show R.ok (V.str [t.getD (-1+(t.length:Int)).toNat 0])=_;rw[show(-1+(t.length:Int)).toNat=t.length-1 by exact RT];rfl
theorem uT (a b:Nat):w9 .Eq (.str [a]) (.str [b])=.ok (a==b):=by
 rw[dS];congr 1;simp
theorem YT (a b:Nat):w9 .NotEq (.str [a]) (.str [b])=.ok (!(a==b)):=by
 rw[NK];congr 1;simp
theorem c8.str {s:Str} {kk:Nat} (h:s.cps.toList=t):c8 g sc σ false (.Constant (.str s) kk p) (.ok (.str t)):=c8.const (h▸rfl)
theorem C3 {t:b9} {e:Nat} (he:e<t.length):t.drop e=k6 t e::t.drop (e+1):=by
 rw[List.drop_eq_getElem_cons he];unfold k6;simp[he]
theorem QD (k:Nat):R1 .Add (.int (k:Int)) (.int 1)=.ok (.int ((k+1:Nat):Int)):=rfl
theorem QE (k:Nat):R1 .Add (.int (k:Int)) (.int 2)=.ok (.int ((k+2:Nat):Int)):=rfl
theorem QF (k:Nat):R1 .Add (.int (k:Int)) (.int 4)=.ok (.int ((k+4:Nat):Int)):=rfl
theorem HB (k m:Nat):R1 .Add (.int (k:Int)) (.int (m:Int))=.ok (.int ((k+m:Nat):Int)):=rfl
theorem in_str (h:t.length<=g9) {c:Nat}:w9 .In (.str [c]) (.str t)=.ok (t.contains c):=by rw[TK,if_pos h]
theorem CL (h:t.length<=g9) {c:Nat}:w9 .NotIn (.str [c]) (.str t)=.ok (!t.contains c):=by rw[EK,if_pos h]
theorem len_str (h:t.length<=g9):fJ "len" [.str t]=.ok (.int t.length):=if_pos h
theorem eP (h:vs.length<=g9):fJ "len" [.list vs]=.ok (.int vs.length):=if_pos h
theorem lL (h:vs.length<=g9):fJ "len" [.olist vs]=.ok (.int vs.length):=if_pos h
theorem HC {c:Nat}:fJ "ord" [.str [c]]=.ok (.int c):=rfl
theorem add_str (h:t.length+t'.length<=g9):R1 .Add (.str t) (.str t')=.ok (.str (t++t')):=if_pos h
theorem w6 (h:t.length<=g9):s9 (.str t)=.ok (t.map fun c=>.str [c]):=if_pos h
end
section
variable {g:G} {sc:Scope} {σ:d9} {v u w:V} {r:R V} {l:Int} {x y f m:Str} {p q xp fp ap:Pos} {e e' e'' a b c:Expr} {es:List Expr} {vs us:List V} {tst:Bool} {t t' t'':b9} {i j k:Int}
theorem c8.if1 (h:c8 g sc σ true c (.ok (.bool true))) (h1:c8 g sc σ false a r):c8 g sc σ false (.IfExp c a b p) r:=by
 refine d6 h fun N h=> ?_;refine d6 h1 fun M h1=> ?_;refine⟨max N M+1,fun n=> ?_⟩;show((ev g (n+max N M) true sc σ c).bind l7).bind _=_;rw[up (f:=fun n=>ev g n true sc σ c) h (Nat.le_max_left N M) n];exact up (f:=fun n=>ev g n false sc σ a) h1 (Nat.le_max_right N M) n
theorem c8.if0 (h:c8 g sc σ true c (.ok (.bool false))) (h1:c8 g sc σ false b r):c8 g sc σ false (.IfExp c a b p) r:=by
 refine d6 h fun N h=> ?_;refine d6 h1 fun M h1=> ?_;refine⟨max N M+1,fun n=> ?_⟩;show((ev g (n+max N M) true sc σ c).bind l7).bind _=_;rw[up (f:=fun n=>ev g n true sc σ c) h (Nat.le_max_left N M) n];exact up (f:=fun n=>ev g n false sc σ b) h1 (Nat.le_max_right N M) n
theorem bD (l:List b9):M1 (l.map V.str)=some l:=by
 induction l with
 |nil=>rfl
 |cons x r ih=>show(M1 (r.map V.str)).map _=_;rw[ih];rfl
theorem bE (l:List Int):J4 (l.map V.int)=some l:=by
 induction l with
 |nil=>rfl
 |cons x r ih=>show(J4 (r.map V.int)).map _=_;rw[ih];rfl
theorem CM (l:List Bool):U6 (l.map V.bool)=some l:=by
 induction l with
 |nil=>rfl
 |cons x r ih=>show(U6 (r.map V.bool)).map _=_;rw[ih];rfl
theorem eQ (l:List b9):X5 l=l.flatten.length:=by simp[X5,List.length_flatten]
theorem HD {l:List b9} (h:l.flatten.length<=g9) (h':l.length<=g9):w4 "join" (.str []) [.olist (l.map V.str)]=.ok (.str l.flatten):=by
 show needR (M1 (l.map V.str)) _=_;rw[bD];exact if_pos ⟨rfl,eQ l▸h,h'⟩
theorem lM (h:t.length<=g9):w4 "strip" (.str t) [.str [32]]=.ok (.str (i6 t)):=by
 show(if ([32]:b9)=[32]/\t.length<=g9 then _ else _)=_;exact if_pos ⟨rfl,h⟩
theorem HE (h:t.length<=g9) (h':j6 t=true):w4 "lower" (.str t) []=.ok (.str (t.map cH)):=by
 show(if t.length<=g9/\j6 t=true then R.ok (V.str (t.map cH)) else R.stuck)=_;exact if_pos ⟨h,h'⟩
theorem HF {c:Nat} (h:c<128):w4 "isalpha" (.str [c]) []=.ok (.bool (X4 c)):=if_pos h
theorem LT {c:Nat} (h:t.length<=g9):w4 "find" (.str t) [.str [c]]=.ok (.int (if t.contains c then (J5 c t:Int) else -1)):=if_pos h
theorem HG {c:Nat} (h:t.length<=g9) (h':t.contains c=true):w4 "index" (.str t) [.str [c]]=.ok (.int (J5 c t:Int)):=by
 show(if t.length<=g9/\t.contains c=true then R.ok (V.int (J5 c t:Int)) else R.stuck)=_;exact if_pos ⟨h,h'⟩
theorem bF {a b:Nat} (h:a<=b) (h':b<=t.length):j9 t (some (a:Int)) (some (b:Int))=(t.drop a).take (b-a):=by
 unfold j9 AW P5;dsimp only;rw[if_neg (by omega),if_neg (by omega)];simp only[Int.toNat_natCast];rw[Nat.min_eq_left (Nat.le_trans h h'),Nat.min_eq_left h',List.drop_take]
theorem jJ {a:Nat} (h':a<=t.length):j9 t (some (a:Int)) none=t.drop a:=by
 unfold j9 AW P5;dsimp only;rw[if_neg (by omega)];simp only[Int.toNat_natCast];rw[Nat.min_eq_left h',List.take_length]
theorem jK {b:Nat}:j9 t none (some (b:Int))=t.take b:=by
 unfold j9 AW P5;dsimp only;rw[if_neg (by omega)];simp only[Int.toNat_natCast,List.drop_zero];rcases Nat.le_total b t.length with h|h
 ·rw[Nat.min_eq_left h]
 ·rw[Nat.min_eq_right h,List.take_of_length_le (Nat.le_refl _),List.take_of_length_le h]
theorem qA (x:b9):(i6 x).length<=x.length:=by
 have d: ∀(p:Nat->Bool) (l:b9),(l.dropWhile p).length<=l.length:=fun p l=>by
  induction l with
  |nil=>simp
  |cons a r ih=>rw[List.dropWhile_cons];split<;>simp;exact Nat.le_succ_of_le ih
 unfold i6;rw[List.length_reverse];refine Nat.le_trans (d _ _) ?_;rw[List.length_reverse];exact d _ _
theorem zW {t:b9} {k:Nat} (h:k<t.length):k6 t k∈t:=by
 unfold k6;rw[List.getD_eq_getElem?_getD,List.getElem?_eq_getElem h];exact List.getElem_mem h
theorem U5 (n:Nat) (p:Nat->Bool) (h:(List.range n).all p=true) {c:Nat} (hc:c<n):p c=true:=List.all_eq_true.mp h c (List.mem_range.mpr hc)
theorem lN {l:b9} {n c:Nat} (h:l.all (fun x=>decide (x<n))=true) (hc:n<=c):l.contains c=false:=by
 rw[Bool.eq_false_iff];intro z;exact absurd (of_decide_eq_true (List.all_eq_true.mp h c (List.contains_iff_mem.mp z))) (Nat.not_lt.mpr hc)
theorem lO {a b n c:Nat} (h:b<n) (hc:n<=c): ¬(a<=c/\c<=b):=fun z=>absurd (Nat.lt_of_lt_of_le h hc) (Nat.not_lt.mpr z.2)
end
theorem E0 {c:Prop} {i:Decidable c} {r:R V} (h:(if c then r else .stuck)≠R.stuck):c:=Decidable.byContradiction fun z=>h (if_neg z)
theorem UC {c:Prop} {i:Decidable c} {r x:R V} (h:c) (hn:(if c then r else x)≠R.stuck):r≠R.stuck:=by rwa[if_pos h] at hn
noncomputable def CN:V->Option b9
 | .str t=>some t
 |_=>none
noncomputable def HH:V->Option Int
 | .int i=>some i
 |_=>none
noncomputable def QG:V->Option Bool
 | .bool b=>some b
 |_=>none
theorem W4 {v:V} {t:b9} (h:CN v=some t):v=.str t:=by
 cases v with
 |str x=>exact congrArg V.str (Option.some.inj h)
 |_=>exact no h
theorem bZ {v:V} {i:Int} (h:HH v=some i):v=.int i:=by
 cases v with
 |int x=>exact congrArg V.int (Option.some.inj h)
 |_=>exact no h
theorem qB {v:V} {b:Bool} (h:QG v=some b):v=.bool b:=by
 cases v with
 |bool x=>exact congrArg V.bool (Option.some.inj h)
 |_=>exact no h
noncomputable def SC {α:Type}:List α->Option (α×List α)
 |[]=>none
 |a::r=>some (a,r)
theorem eR {α:Type} {l:List α} {q:α×List α} (h:SC l=some q):l=q.1::q.2:=by
 cases l with
 |nil=>exact no h
 |cons a r=>rw[<-Option.some.inj h]
noncomputable def QH {α:Type} {β:Type} (r:R β):List α->R β
 |[]=>r
 |_::_=>.stuck
theorem zX {α β:Type} {r:R β} {l:List α} (h:QH r l≠.stuck):l=[]:=by
 cases l with
 |nil=>rfl
 |cons _ _=>exact absurd rfl h
noncomputable def f1 (f:V->R V) (vs:List V):R V:=needR (SC vs) fun q=>QH (f q.1) q.2
noncomputable def f2 (f:V->V->R V) (vs:List V):R V:=needR (SC vs) fun q=>f1 (f q.1) q.2
theorem HI {f:V->R V} {vs:List V} (h:f1 f vs≠.stuck): ∃v,vs=[v]/\f v≠.stuck:=by
 refine e8 (u7 h) fun q e h=> ?_;have e2:=zX h;rw[e2] at h;exact⟨q.1,by rw[eR e,e2],h⟩
theorem lP {f:V->V->R V} {vs:List V} (h:f2 f vs≠.stuck): ∃v u,vs=[v,u]/\f v u≠.stuck:=by
 refine e8 (u7 h) fun q e h=> ?_;refine e8 (HI h) fun u e2 h=> ?_;exact⟨q.1,u,by rw[eR e,e2],h⟩
noncomputable def fS (f:b9->R V):List V->R V:=f1 fun v=>needR (CN v) f
noncomputable def CO (f:b9->Int->R V):List V->R V:=f2 fun v u=>needR (CN v) fun t=>needR (HH u) (f t)
noncomputable def fSS (f:b9->b9->R V):List V->R V:=f2 fun v u=>needR (CN v) fun t=>needR (CN u) (f t)
noncomputable def fBB (f:Bool->Bool->R V):List V->R V:=f2 fun v u=>needR (QG v) fun t=>needR (QG u) (f t)
noncomputable def fVI (f:V->Int->R V):List V->R V:=f2 fun v u=>needR (HH u) (f v)
noncomputable def QI (f:b9->Int->Int->R V) (vs:List V):R V:=needR (SC vs) fun q=>needR (CN q.1) fun t=>f2 (fun v u=>needR (HH v) fun p=>needR (HH u) (f t p)) q.2
theorem R9 {f:b9->R V} {vs:List V} (h:fS f vs≠.stuck): ∃t,vs=[.str t]:=by
 refine e8 (HI h) fun v e h=> ?_;refine e8 (u7 h) fun t e1 h=> ?_;exact⟨t,by rw[e,W4 e1]⟩
theorem K1 {f:b9->Int->R V} {vs:List V} (h:CO f vs≠.stuck): ∃t l,vs=[.str t,.int l]:=by
 refine r0 (lP h) fun v u e h=> ?_;refine e8 (u7 h) fun t e1 h=> ?_;refine e8 (u7 h) fun l e2 h=> ?_;exact⟨t,l,by rw[e,W4 e1,bZ e2]⟩
theorem LU {f:b9->b9->R V} {vs:List V} (h:fSS f vs≠.stuck): ∃t l,vs=[.str t,.str l]:=by
 refine r0 (lP h) fun v u e h=> ?_;refine e8 (u7 h) fun t e1 h=> ?_;refine e8 (u7 h) fun l e2 h=> ?_;exact⟨t,l,by rw[e,W4 e1,W4 e2]⟩
theorem LV {f:Bool->Bool->R V} {vs:List V} (h:fBB f vs≠.stuck): ∃t l,vs=[.bool t,.bool l]:=by
 refine r0 (lP h) fun v u e h=> ?_;refine e8 (u7 h) fun t e1 h=> ?_;refine e8 (u7 h) fun l e2 h=> ?_;exact⟨t,l,by rw[e,qB e1,qB e2]⟩
theorem LX {f:V->Int->R V} {vs:List V} (h:fVI f vs≠.stuck): ∃v l,vs=[v,.int l]:=by
 refine r0 (lP h) fun v u e h=> ?_;refine e8 (u7 h) fun l e2 h=> ?_;exact⟨v,l,by rw[e,bZ e2]⟩
theorem uU {f:b9->Int->Int->R V} {vs:List V} (h:QI f vs≠.stuck): ∃t p l,vs=[.str t,.int p,.int l]:=by
 refine e8 (u7 h) fun q e h=> ?_;refine e8 (u7 h) fun t e1 h=> ?_;refine r0 (lP h) fun v u e2 h=> ?_;refine e8 (u7 h) fun p e3 h=> ?_;refine e8 (u7 h) fun l e4 h=> ?_;exact⟨t,p,l,by rw[eR e,e2,W4 e1,bZ e3,bZ e4]⟩
theorem l5 {g:G} {o:Option Str} {sc:Scope} {ps:List Str} {b:List Stmt} {vs:List V} {r r':R V} (e:r=r') (h:g8 g o sc ps b vs r'):g8 g o sc ps b vs r:=e▸h
end
section
open PySem
set_option hygiene false in
local macro_rules | `(tactic| tm_at $s:str) => do
  let f := SJ #[<- `(_), <- `(?_), <- `(by omega), <- `(by tm_at "o"), <- `(by first | omega | decide), <- `(by assumption), <- `(V.open?), <- `(m9)]
  let k := s.getString
  if k == "o" then `(tactic| first | omega | (simp only [decide_eq_true_eq, decide_eq_false_iff_not] at *; omega))
  else if k == "n" then `(tactic| first | assumption | exact d9.same | exact d9.ne (by decide) (by tm_at "n") | exact rfl)
  else if k == "v" then `(tactic| first | assumption | exact g6 (by tm_at "n") rfl (by decide) | exact GV (by first | assumption | (rw[N7.const (by assumption)]; exact rfl)) rfl (by decide))
  else if k == "r" then
    let a := f "aK/000 List.contains/70 zT/0"
    let b := f "behindInMarks/00 lastMarks/00 uQ/0 List.any/06"
    `(tactic| first | ((with_reducible first $[| show $a = true]* $[| show $b = false]* | show qO _ = R.ok _); exact rfl) | exact⟨rfl, rfl⟩ | ((with_reducible show List.length _ <= g9); decide))
  else if k == "p" then
    let a := f "uT/00 YT/00 NZ/23 UA/23 UB/23 QC/23 QD/0 QE/0 QF/0 HB/00 cT/00 fM/00 yV/00 dS/00 EJ/00 NK/00 gS/00 NN/00 NO/00 NP/00 T8 jW/0 gT/0 xA/0 yX/00 cU N4/0 HC lM/2 HD/22 jI/23 in_str/4 CL/4 len_str/2 eP/2 lL/2 w6/2 add_str/2"
    `(tactic| (show(_ : Prop)); first | assumption | (intro _; tm_at "p") | (with_reducible first $[| exact $a]*) | tm_at "o")
  else if k == "k" then
    let a := f "k_0 k_1 k_2 k_3 XU XV XW XX XY XZ YA YB YC YD YE YF YG YH YI YJ YK YL YM YN YO YP YQ YR YS"
    `(tactic| with_reducible first $[| exact $a]*)
  else if k == "g" then `(tactic| first | tm_at "e" | tm_at "r" | tm_at "p" | skip)
  else if k == "e" then
    let a := f "c8.name/1 c8.str/1 c8.const/1 e9/1111 c8.cmp2/111111 j2/1 C2/1 bB/1 J0.one/1 J0.cons/11 aA.one/1 aA.cons/11 v6.nil v6.cons/11 c8.bin/111 G6/1111 c8.slice/1111 zU.none zU.some/11 c8.call/151111 c8.bcall/151111 fY/111 W3/1111 c8.tup/111 c8.list/111 rM/1 rN/111 o7/11 c8.vorB/11 H5/1 pZ/11 G0/11"
    `(tactic| first | (intro _; tm_at "e") | ((with_reducible show s0 _ _ _ _ = _); tm_at "v") | ((with_reducible show Array.toList _ = _); tm_at "k") | ((with_reducible first $[| refine' $a]*) <;> tm_at "g"))
  else Lean.Macro.throwUnsupported
section
open PySem
noncomputable def s8 (q:Nat):b9->Option Nat
 |[]=>none
 |c::r=>if c=q then some 1 else if c=92 then (match r with|[]=>none|_::r'=>(s8 q r').map (· +2)) else (s8 q r).map (· +1)
theorem O9 {q:Nat}: ∀{t:b9} {n:Nat},s8 q t=some n->1<=n/\n<=t.length
 |[],n,h=>by injection h
 |c::r,n,h=>by
  unfold s8 at h;split at h
  ·injection h with h;subst h;simp
  split at h
  ·rcases r with _|⟨d,r'⟩
   ·injection h
   ·dsimp only at h;cases hq:s8 q r' with
    |none=>rw[hq] at h;injection h
    |some k=>rw[hq] at h;injection h with h;subst h;have:=O9 hq;simp;omega
  ·cases hq:s8 q r with
   |none=>rw[hq] at h;injection h
   |some k=>rw[hq] at h;injection h with h;subst h;have:=O9 hq;simp;omega
section
variable {g:G} {t:b9}
theorem uV (hlen:g.fn "len"=none) (hl:t.length<=5000) {q:Nat} {l:Int}: ∀(m:Nat) (σ:d9) (e:Nat),t.length+2-e<=m->σ.get "text"=some (.str t)->σ.get "quote"=some (.str [q])->σ.get "end"=some (.int (e:Nat))->σ.get "line"=some (.int l)->
  ∃σ' e',d8 g none E6.sc σ (i4 E6.body 1) (.ok (.next,σ'))/\σ'.get "text"=some (.str t)/\σ'.get "end"=some (.int (e':Nat))/\σ'.get "line"=some (.int l)/\
   (match s8 q (t.drop e) with|some n=>e'+1=e+n/\e'<t.length|none=>t.length<=e'):=by
 intro m;have hlim:g9=1048576:=rfl;induction m with
 |zero=>
  intro σ e hm h1 h2 h3 h4;have hd:t.drop e=[]:=List.drop_eq_nil_of_le (RV hm);refine⟨σ,e,i0 (c7 (by tm_at "e") ?_),h1,h3,h4,?_⟩
  ·simp only[Bool.and_eq_false_imp,decide_eq_true_eq];intro z;exact r5 hm z
  ·rw[hd];show t.length<=e;exact RV hm
 |succ m ih=>
  intro σ e hm h1 h2 h3 h4;by_cases he:e<t.length
  case neg=>
   have hd:t.drop e=[]:=List.drop_eq_nil_of_le (Nat.le_of_not_lt he);refine⟨σ,e,i0 (c7 (by tm_at "e") ?_),h1,h3,h4,?_⟩
   ·simp only[Bool.and_eq_false_imp,decide_eq_true_eq];intro z;omega
   ·rw[hd];show t.length<=e;exact Nat.le_of_not_lt he
  have hdr:=C3 he;by_cases hq:k6 t e=q
  ·refine⟨σ,e,i0 (c7 (by tm_at "e") ?_),h1,h3,h4,?_⟩
   ·simp[hq]
   ·rw[hdr];unfold s8;rw[if_pos hq];exact⟨rfl,he⟩
  have ht:(decide ((e:Int)<(t.length:Int)) && !(k6 t e==q))=true:=by simp[he,hq]
  by_cases hb:k6 t e=92
  ·refine iL (ih (σ.set "end" (.int ((e+2:Nat):Int))) (e+2) (oz8 hm) (by tm_at "n") (by tm_at "n") (by tm_at "n") (by tm_at "n")) fun σ' e' hx g1 g3 g4 gq=> ?_;refine⟨σ',e',i3 (c9 (by tm_at "e") ht) (d5.cons (M4 (v:=.int 2) (c8.to (by tm_at "e") (by simp[hb])) (by tm_at "e") (by decide) rfl rfl) d5.nil) hx,g1,g3,g4,?_⟩;rw[hdr];unfold s8;rw[if_neg hq,if_pos hb];by_cases he2:e+1<t.length
   ·rw[C3 he2];dsimp only;cases hs:s8 q (t.drop (e+1+1)) with
    |none=>rw[show e+1+1=e+2 from rfl] at hs;rw[hs] at gq;exact gq
    |some n=>rw[show e+1+1=e+2 from rfl] at hs;rw[hs] at gq;dsimp only[Option.map] at gq ⊢;exact VQ gq
   ·have hd:t.drop (e+1)=[]:=List.drop_eq_nil_of_le (Nat.le_of_not_lt he2);have hd2:t.drop (e+2)=[]:=List.drop_eq_nil_of_le (r30 he2);rw[hd];rw[hd2] at gq;exact gq
  ·refine iL (ih (σ.set "end" (.int ((e+1:Nat):Int))) (e+1) (JV hm) (by tm_at "n") (by tm_at "n") (by tm_at "n") (by tm_at "n")) fun σ' e' hx g1 g3 g4 gq=> ?_;refine⟨σ',e',i3 (c9 (by tm_at "e") ht) (d5.cons (M4 (v:=.int 1) (c8.to (by tm_at "e") (by simp[hb])) (by tm_at "e") (by decide) rfl rfl) d5.nil) hx,g1,g3,g4,?_⟩;rw[hdr];unfold s8;rw[if_neg hq,if_neg hb];cases hs:s8 q (t.drop (e+1)) with
   |none=>rw[hs] at gq;exact gq
   |some n=>rw[hs] at gq;dsimp only[Option.map] at gq ⊢;exact VQ gq
noncomputable def t9:List V->R V:=QI fun t p l=>
  if t.length<=5000/\0<=p/\p<t.length/\l.natAbs<1000000 then
   (match s8 (k6 t p.toNat) (t.drop (p.toNat+1)) with|some n=>.ok (.int (p+1+n))|none=>.err l) else .stuck
theorem lQ (hlen:g.fn "len"=none) (vs:List V) (hn:t9 vs≠.stuck):g8 g none E6.sc ["text","place","line"] E6.body vs (t9 vs):=by
 have hlim:g9=1048576:=rfl;refine wR (uU hn) fun t p l z2r=> ?_;subst z2r;have hc:=E0 hn;refine l5 (if_pos hc) ?_;refine Q1 hc fun hl hp0 hp hline=> ?_;clear hc;refine d6 (Int.eq_ofNat_of_zero_le hp0) fun k z1r=> ?_;subst z1r;have hk:k<t.length:=by omega
 rw[show((k:Int)).toNat=k from rfl];have e1:d8 g none E6.sc (List.zip ["text","place","line"] [.str t,.int k,.int l]) (i4 E6.body 0) (.ok (.next,d9.set (d9.set (List.zip ["text","place","line"] [.str t,.int k,.int l]) "quote" (.str [k6 t k])) "end" (.int ((k+1:Nat):Int)))):=
  i7 (by tm_at "e") rfl (by decide) rfl
 refine iL (uV (l:=l) hlen hl (t.length+2) (d9.set (d9.set (List.zip ["text","place","line"] [.str t,.int k,.int l]) "quote" (.str [k6 t k])) "end" (.int ((k+1:Nat):Int))) (k+1) (Nat.sub_le _ _) (by tm_at "n") (by tm_at "n") (by tm_at "n") (by tm_at "n")) fun σ' e' hx g1 g3 g4 gq=> ?_;cases hs:s8 (k6 t k) (t.drop (k+1)) with
 |none=>
  rw[hs] at gq;exact g8.err rfl (d5.cons e1 (d5.cons hx (d5.err (d8.if1 (c9 (by tm_at "e") (by simpa using gq)) (d5.err (A9 (by tm_at "v") (by decide) ⟨rfl,rfl⟩ hline))))))
 |some n=>
  rw[hs] at gq;refine g8.ret rfl (d5.cons e1 (d5.cons hx (d5.cons (d8.if0 (c7 (by tm_at "e") (by simp;omega)) d5.nil) (d5.ret (σ':=σ') ?_))));have:c8 g E6.sc σ' false (.BinOp (.Name "end" ⟨0,0,0,0⟩) .Add (.Constant (.int 1) 0 ⟨0,0,0,0⟩) ⟨0,0,0,0⟩) (.ok (.int ((e':Int)+1))):=by tm_at "e"
  exact(show(k:Int)+1+n=(e':Int)+1 by omega)▸d8.ret (v:=.int ((e':Int)+1)) (by tm_at "e")
end
section
noncomputable def nV (c:Nat):Bool:=c==34||c==39
noncomputable def push (c:Nat):List b9->List b9
 |p::ps=>(c::p)::ps
 |[]=>[[c]]
noncomputable def A1 (cs:b9):List b9->List b9
 |p::ps=>(cs++p)::ps
 |[]=>[cs]
theorem cA (l:List b9) (h:l≠[]):A1 [] l=l:=by cases l<;>first|rfl|exact absurd rfl h
theorem lR (c:Nat) (cs:b9) (l:List b9):push c (A1 cs l)=A1 (c::cs) l:=by cases l<;>rfl
theorem bH (a b:b9) (l:List b9):A1 a (A1 b l)=A1 (a++b) l:=by cases l<;>simp[A1]
theorem zY (c:Nat) (l:List b9):push c l=A1 [c] l:=by cases l<;>rfl
noncomputable def T7 (tb:Bool) (c:Nat):Nat:=if tb &&c==9 then 32 else c
noncomputable def pm (stop:Option Nat) (tb:Bool):b9->Option Nat->Bool->Option (List b9)
 |[],none,_=>some [[]]
 |[],some _,_=>none
 |c::r,none,_=>
  if stop=some c then some [[]]
  else if nV c then (pm stop tb r (some c) false).map (push c)
  else if c=44/\stop=none then (pm stop tb r none false).map ([]:: ·)
  else (pm stop tb r none false).map (push (T7 tb c))
 |c::r,some q,true=>(pm stop tb r (some q) false).map (push c)
 |c::r,some q,false=>
  if c=92 then (pm stop tb r (some q) true).map (push c)
  else if c=q then (pm stop tb r none false).map (push c)
  else (pm stop tb r (some q) false).map (push c)
set_option tactic.hygienic true in
theorem cN {stop:Option Nat} {tb:Bool}: ∀{t:b9} {q:Option Nat} {e:Bool} {l:List b9},pm stop tb t q e=some l->l≠[]
 |[],none,_,l,h=>by injection h with h;subst h;simp
 |[],some _,_,l,h=>by injection h
 |c::r,none,e,l,h=>by
  unfold pm at h;have pne: ∀{c:Nat} {x:Option (List b9)},x.map (push c)=some l->l≠[]:=by
   intro c x h;cases x with
   |none=>injection h
   |some y=>injection h with h;subst h;cases y<;>simp[push]
  split at h
  ·injection h with h;subst h;simp
  split at h
  ·exact pne h
  split at h
  ·cases q:pm stop tb r none false<;>rw[q] at h<;>cases h;simp
  ·exact pne h
 |c::r,some q,true,l,h=>by
  unfold pm at h;cases z:pm stop tb r (some q) false<;>rw[z] at h<;>cases h;rename_i y;cases y<;>simp[push]
 |c::r,some q,false,l,h=>by
  unfold pm at h;have pne: ∀{c:Nat} {x:Option (List b9)},x.map (push c)=some l->l≠[]:=by
   intro c x h;cases x with
   |none=>injection h
   |some y=>injection h with h;subst h;cases y<;>simp[push]
  split at h
  ·exact pne h
  split at h
  ·exact pne h
  ·exact pne h
section
variable (stop:Option Nat) (tb:Bool) (c:Nat) (r:b9) (q:Nat) (e:Bool)
theorem lS:pm stop tb (c::r) (some q) false=if c=92 then (pm stop tb r (some q) true).map (push c) else if c=q then (pm stop tb r none false).map (push c) else (pm stop tb r (some q) false).map (push c):=rfl
theorem uW:pm stop tb (c::r) (some q) true=(pm stop tb r (some q) false).map (push c):=rfl
theorem gC:pm stop tb (c::r) none e=if stop=some c then some [[]] else if nV c then (pm stop tb r (some c) false).map (push c) else if c=44/\stop=none then (pm stop tb r none false).map ([]:: ·) else (pm stop tb r none false).map (push (T7 tb c)):=rfl
theorem S0:s8 q (c::r)=if c=q then some 1 else if c=92 then (match r with|[]=>none|_::r'=>(s8 q r').map (· +2)) else (s8 q r).map (· +1):=by rcases r with _|⟨d,r'⟩<;>rfl
end
theorem lT {c:Nat} {cs:b9} {x:Option (List b9)}:(x.map (A1 cs)).map (push c)=x.map (A1 (c::cs)):=by
 cases x with
 |none=>rfl
 |some l=>simp[lR]
theorem jL {stop:Option Nat} {tb:Bool} {q:Nat} (hq:q≠92): ∀(n:Nat) (t:b9),t.length<=n->
  pm stop tb t (some q) false=(match s8 q t with|none=>none|some n=>(pm stop tb (t.drop n) none false).map (A1 (t.take n)))
 |_,[],_=>rfl
 |0,c::r,h=>by simp at h
 |n+1,c::r,h=>by
  rw[lS,S0];by_cases h1:c=q
  ·rw[if_pos h1,if_neg (by rw[h1];exact hq),if_pos h1];show(pm stop tb r none false).map (push c)=(pm stop tb r none false).map (A1 [c]);congr 1
  rw[if_neg h1 (α:=Option Nat)];by_cases h2:c=92
  ·rw[if_pos h2,if_pos h2];rcases r with _|⟨d,r'⟩
   ·rfl
   ·show(((pm stop tb r' (some q) false).map (push d)).map (push c))=(match (s8 q r').map (· +2) with|none=>none|some n=>(pm stop tb ((c::d::r').drop n) none false).map (A1 ((c::d::r').take n)));rw[jL hq n r' (by simp at h;exact RX h)];cases hs:s8 q r' with
    |none=>rfl
    |some k=>
     show(((pm stop tb (r'.drop k) none false).map (A1 (r'.take k))).map (push d)).map (push c)=(pm stop tb ((c::d::r').drop (k+2)) none false).map (A1 ((c::d::r').take (k+2)));rw[lT,lT];rfl
  ·rw[if_neg h2,if_neg h2];try rw[if_neg h1]
   rw[jL hq n r (by simp at h;omega)];cases hs:s8 q r with
   |none=>rfl
   |some k=>
    show((pm stop tb (r.drop k) none false).map (A1 (r.take k))).map (push c)=(pm stop tb ((c::r).drop (k+1)) none false).map (A1 ((c::r).take (k+1)));rw[lT];rfl
end
theorem Y9 {s:Nat} {tb:Bool}: ∀{t:b9} {q:Option Nat} {e:Bool} {l:List b9},pm (some s) tb t q e=some l-> ∃b,l=[b]:=by
 intro t;have one: ∀{x:Option (List b9)} {c:Nat} {l:List b9},(∀l,x=some l-> ∃b,l=[b])->x.map (push c)=some l-> ∃b,l=[b]:=by
  intro x c l h e;cases x with
  |none=>injection e
  |some y=>refine d6 (h y rfl) fun b z4r=> ?_;subst z4r;injection e with e;subst e;exact⟨_,rfl⟩
 induction t with
 |nil=>intro q e l h;cases q<;>cases h;exact⟨_,rfl⟩
 |cons c r ih=>
  intro q e l h;cases q with
  |none=>
   rw[gC] at h;split at h
   ·injection h with h;subst h;exact⟨_,rfl⟩
   split at h
   ·exact one (fun l z=>ih z) h
   rw[if_neg (by rintro ⟨_,z⟩;injection z)] at h;exact one (fun l z=>ih z) h
  |some q=>
   cases e with
   |true=>rw[uW] at h;exact one (fun l z=>ih z) h
   |false=>
    rw[lS] at h;split at h
    ·exact one (fun l z=>ih z) h
    split at h
    ·exact one (fun l z=>ih z) h
    ·exact one (fun l z=>ih z) h
section
variable {g:G} {t:b9}
theorem CP (hg:N7 g) (hlen:g.fn "len"=none) (hqe:g.fn "quoted_end"=some t9) (hl:t.length<=5000) {l:Int} (hline:l.natAbs<1000000): ∀(m:Nat) (σ:d9) (k:Nat) (acc:List b9),t.length+1-k<=m->k<=t.length->acc.length<=k->acc.flatten.length<=k->
  σ.get "text"=some (.str t)->σ.get "found"=some (.olist (acc.map .str))->σ.get "place"=some (.int (k:Nat))->σ.get "line"=some (.int l)->
  match pm (some 35) true (t.drop k) none false with
  |none=>d8 g (some "found") O8.sc σ (i4 O8.body 1) (.err l)
  |some ps=> ∃(σ':d9) (acc':List b9),d8 g (some "found") O8.sc σ (i4 O8.body 1) (.ok (.next,σ'))/\σ'.get "found"=some (.olist (acc'.map .str))/\acc'.flatten=acc.flatten++ps.headD []/\acc'.length<=t.length/\acc'.flatten.length<=t.length:=by
 intro m;have hlim:g9=1048576:=rfl;induction m with
 |zero=>intro σ k acc hm hk;exact q55 hm hk
 |succ m ih=>
  intro σ k acc hm hk ha hf h1 h2 h3 h4;by_cases he:k<t.length
  case neg=>
   have hd:t.drop k=[]:=List.drop_eq_nil_of_le (Nat.le_of_not_lt he);rw[hd];refine⟨σ,acc,i0 (c7 (by tm_at "e") ?_),h2,(List.append_nil _).symm,by exact Nat.le_trans ha hk,by exact Nat.le_trans hf hk⟩;simp only[Bool.and_eq_false_imp,decide_eq_true_eq];intro z;omega
  have hdr:=C3 he;rw[hdr,gC];by_cases hc:k6 t k=35
  ·rw[if_pos (by rw[hc])];refine⟨σ,acc,i0 (c7 (by tm_at "e") ?_),h2,(List.append_nil _).symm,by exact Nat.le_trans ha hk,by exact Nat.le_trans hf hk⟩;simp[hc]
  rw[if_neg (by intro z;exact hc (Option.some.inj z).symm)];have ht:(decide ((k:Int)<(t.length:Int)) && !(k6 t k==35))=true:=by simp[he,hc]
  have hq:([34,39]:b9).contains (k6 t k)=nV (k6 t k):=by simp only[List.contains_cons,List.contains_nil,Bool.or_false,nV]
  cases hQ:nV (k6 t k) with
  |true=>
   rw[if_pos rfl];have hq92:k6 t k≠92:=by intro z;rw[z] at hQ;exact absurd hQ (by decide)
   rw[jL hq92 _ _ (Nat.le_refl _)];have hF:t9 [.str t,.int k,.int l]=(match s8 (k6 t k) (t.drop (k+1)) with|some n=>.ok (.int ((k:Int)+1+n))|none=>.err l):=by
    show(if _ then _ else _)=_;rw[if_pos ⟨hl,by omega,by omega,hline⟩];rfl
   cases hs:s8 (k6 t k) (t.drop (k+1)) with
   |none=>
    rw[hs] at hF;exact K6 (c9 (by tm_at "e") ht) (d5.err (U3 (c8.if1 (c9 (by tm_at "e") (hq.trans hQ)) (by tm_at "e")) (by decide) (by decide)))
   |some n=>
    rw[hs] at hF;refine f8 (O9 hs) fun n1 n2=> ?_;rw[List.length_drop] at n2;have e1:(t.drop (k+1)).drop n=t.drop (k+1+n):=List.drop_drop;dsimp only;rw[e1];have hc9:k6 t k≠9:=by intro z;rw[z] at hQ;exact absurd hQ (by decide)
    have hsl:j9 t (some (k:Int)) (some ((k+1+n:Nat):Int))=k6 t k::(t.drop (k+1)).take n:=by
     rw[bF (WN) (VN he n2),hdr,show k+1+n-k=n+1 by exact okk];rfl
    have IH:=ih (((σ.set "end" (.int ((k+1+n:Nat):Int))).set "found" (.olist (acc.map .str++[.str (k6 t k::(t.drop (k+1)).take n)]))).set "place" (.int ((k+1+n:Nat):Int))) (k+1+n) (acc++[k6 t k::(t.drop (k+1)).take n]) (oz9 hm) (VN he n2)
     (by simp;exact WG ha) (by simp at hf ⊢;exact q10 hf) (by tm_at "n") (by rw[List.map_append];tm_at "n") (by tm_at "n") (by tm_at "n")
    have step: ∀{u:R (Fl×d9)},d8 g (some "found") O8.sc (((σ.set "end" (.int ((k+1+n:Nat):Int))).set "found" (.olist (acc.map .str++[.str (k6 t k::(t.drop (k+1)).take n)]))).set "place" (.int ((k+1+n:Nat):Int))) (i4 O8.body 1) u->d8 g (some "found") O8.sc σ (i4 O8.body 1) u:=fun h=>
     i3 (c9 (by tm_at "e") ht) (d5.cons (d7 (v:=.int ((k+1+n:Nat):Int)) (c8.if1 (c9 (by tm_at "e") (hq.trans hQ)) (by tm_at "e")) (by decide) (by decide) rfl)
      (d5.cons (d8.append (vs:=acc.map .str) (v:=.str (k6 t k::(t.drop (k+1)).take n)) (c8.if0 (c7 (by tm_at "e") (by simp[hc9])) (hsl▸c8.slice (li:=some (k:Int)) (hj:=some ((k+1+n:Nat):Int)) (by tm_at "v") (by tm_at "e") (by tm_at "e") (Nat.le_trans hl (by decide)))) (by tm_at "v") (by decide) rfl (by simp;exact JU ha he hl (by decide)))
      (d5.cons (d7 (v:=.int ((k+1+n:Nat):Int)) (by tm_at "e") (by decide) (by decide) rfl) d5.nil))) h
    cases hp:pm (some 35) true (t.drop (k+1+n)) none false with
    |none=>rw[hp] at IH;exact step IH
    |some ps=>
     rw[hp] at IH;refine iL IH fun σ' acc' x1 x2 x3 x4 x5=> ?_;clear IH;refine⟨σ',acc',step x1,x2,?_,x4,x5⟩;refine d6 (Y9 hp) fun b z3r=> ?_;subst z3r;rw[x3];simp[push,A1]
  |false=>
   rw[if_neg (by decide),if_neg (by rintro ⟨_,z⟩;injection z)];have IH:=fun(c:Nat)=>ih (((σ.set "end" (.int ((k+1:Nat):Int))).set "found" (.olist (acc.map .str++[.str [c]]))).set "place" (.int ((k+1:Nat):Int))) (k+1) (acc++[[c]]) (JV hm) (Nat.succ_le_of_lt he)
     (by simp;omega) (by simp at hf ⊢;omega) (by tm_at "n") (by rw[List.map_append];tm_at "n") (by tm_at "n") (by tm_at "n")
   have step: ∀{u:R (Fl×d9)},d8 g (some "found") O8.sc (((σ.set "end" (.int ((k+1:Nat):Int))).set "found" (.olist (acc.map .str++[.str [T7 true (k6 t k)]]))).set "place" (.int ((k+1:Nat):Int))) (i4 O8.body 1) u->d8 g (some "found") O8.sc σ (i4 O8.body 1) u:=fun h=>
     i3 (c9 (by tm_at "e") ht) (d5.cons (d7 (v:=.int ((k+1:Nat):Int)) (c8.if0 (c7 (by tm_at "e") (hq.trans hQ)) (by tm_at "e")) (by decide) (by decide) rfl)
      (d5.cons (d8.append (vs:=acc.map .str) (v:=.str [T7 true (k6 t k)]) (by
        by_cases h9:k6 t k=9
        ·have:T7 true (k6 t k)=32:=by rw[h9];rfl
         rw[this];exact c8.if1 (c9 (by tm_at "e") (by simp[h9])) (by tm_at "e")
        ·have:[T7 true (k6 t k)]=j9 t (some (k:Int)) (some ((k+1:Nat):Int)):=by
          rw[bF (by omega) (Nat.succ_le_of_lt he),hdr,show k+1-k=1 by omega];simp[T7,h9]
         rw[this];exact c8.if0 (c7 (by tm_at "e") (by simp[h9])) (c8.slice (li:=some (k:Int)) (hj:=some ((k+1:Nat):Int)) (by tm_at "v") (by tm_at "e") (by tm_at "e") (Nat.le_trans hl (by decide)))) (by tm_at "v") (by decide) rfl (by simp;exact JU ha he hl (by decide)))
      (d5.cons (d7 (v:=.int ((k+1:Nat):Int)) (by tm_at "e") (by decide) (by decide) rfl) d5.nil))) h
   cases hp:pm (some 35) true (t.drop (k+1)) none false with
   |none=>have IH:=IH (T7 true (k6 t k));rw[hp] at IH;exact step IH
   |some ps=>
    have IH:=IH (T7 true (k6 t k));rw[hp] at IH;refine iL IH fun σ' acc' x1 x2 x3 x4 x5=> ?_;clear IH;refine⟨σ',acc',step x1,x2,?_,x4,x5⟩;refine d6 (Y9 hp) fun b z2r=> ?_;subst z2r;rw[x3];simp[push]
noncomputable def N1 (t:b9):Option b9:=(pm (some 35) true t none false).map fun ps=>i6 (ps.headD [])
noncomputable def gD:List V->R V:=CO fun t l=>
  if t.length<=5000/\l.natAbs<1000000 then (match N1 t with|some b=>.ok (.str b)|none=>.err l) else .stuck
theorem HJ (hg:N7 g) (hlen:g.fn "len"=none) (hqe:g.fn "quoted_end"=some t9) (vs:List V) (hn:gD vs≠.stuck):g8 g (some "found") O8.sc ["text","line"] O8.body vs (gD vs):=by
 have hlim:g9=1048576:=rfl;refine C1 (K1 hn) fun t l z1r=> ?_;subst z1r;have hc:=E0 hn;refine l5 (if_pos hc) ?_;refine f8 hc fun hl hline=> ?_;clear hc;have e1:d8 g (some "found") O8.sc (List.zip ["text","line"] [.str t,.int l]) (i4 O8.body 0) (.ok (.next,d9.set (d9.set (List.zip ["text","line"] [.str t,.int l]) "found" (.olist [])) "place" (.int 0))):=
  i7 (by tm_at "e") rfl (by decide) rfl
 have L:=CP (t:=t) hg hlen hqe hl hline (t.length+1) (d9.set (d9.set (List.zip ["text","line"] [.str t,.int l]) "found" (.olist [])) "place" (.int 0)) 0 [] (Nat.sub_le _ _) (by omega) (by simp) (by simp) (by tm_at "n") (by tm_at "n") (by tm_at "n") (by tm_at "n");rw[List.drop_zero] at L;unfold N1;cases hp:pm (some 35) true t none false with
 |none=>
  rw[hp] at L;exact g8.err rfl (d5.cons e1 (d5.err L))
 |some ps=>
  rw[hp] at L;refine iL L fun σ' acc' x1 x2 x3 x4 x5=> ?_;clear L;rw[List.flatten_nil,List.nil_append] at x3;refine g8.ret rfl (d5.cons e1 (d5.cons x1 (d5.ret (v:=.str (i6 (ps.headD []))) (d8.ret (v:=.str (i6 (ps.headD []))) ?_))));rw[<-x3];tm_at "e"
end
theorem HK {a:b9} {l:List b9} (h:l.length<=g9):w9 .In (.str a) (.olist (l.map V.str))=.ok (l.contains a):=by
 rw[WY];show(if (l.map V.str).length<=g9 then needR (M1 (l.map V.str)) (fun l=>R.ok (l.contains a)) else R.stuck)=_;rw[List.length_map,if_pos h,bD];rfl
theorem CQ {t:b9} {b k n:Nat} (hb:b<=k):(t.drop b).take (k+n-b)=(t.drop b).take (k-b)++(t.drop k).take n:=by
 rw[show k+n-b=(k-b)+n by exact Nat.sub_add_comm hb,List.take_add,List.drop_drop,show b+(k-b)=k by exact Nat.add_sub_cancel' hb]
section
variable {g:G} {t:b9}
theorem uX (hg:N7 g) (hlen:g.fn "len"=none) (hqe:g.fn "quoted_end"=some t9) (hl:t.length<=5000) {l:Int} (hline:l.natAbs<1000000): ∀(m:Nat) (σ:d9) (b k:Nat) (acc:List b9),t.length+1-k<=m->b<=k->k<=t.length->acc.length<=k->
  σ.get "text"=some (.str t)->σ.get "found"=some (.olist (acc.map .str))->σ.get "begin"=some (.int (b:Nat))->σ.get "place"=some (.int (k:Nat))->σ.get "line"=some (.int l)->
  match pm none false (t.drop k) none false with
  |none=>d8 g (some "found") n9.sc σ (i4 n9.body 2) (.err l)
  |some ps=> ∃(σ':d9) (acc':List b9) (b':Nat),d8 g (some "found") n9.sc σ (i4 n9.body 2) (.ok (.next,σ'))/\σ'.get "text"=some (.str t)/\σ'.get "found"=some (.olist (acc'.map .str))/\σ'.get "begin"=some (.int (b':Nat))/\σ'.get "line"=some (.int l)/\b'<=t.length/\
    acc'++[i6 (t.drop b')]=acc++(A1 ((t.drop b).take (k-b)) ps).map i6/\acc'.length<=t.length:=by
 intro m;have hlim:g9=1048576:=rfl;induction m with
 |zero=>intro σ b k acc hm hb hk;exact q55 hm hk
 |succ m ih=>
  intro σ b k acc hm hb hk ha h1 h2 h3 h4 h5;by_cases he:k<t.length
  case neg=>
   have hd:t.drop k=[]:=List.drop_eq_nil_of_le (Nat.le_of_not_lt he);rw[hd];refine⟨σ,acc,b,i0 (c7 (by tm_at "e") (by simp;exact Nat.le_of_not_lt he)),h1,h2,h3,h5,by exact Nat.le_trans hb hk,?_,by exact Nat.le_trans ha hk⟩;have:(t.drop b).take (k-b)=t.drop b:=List.take_of_length_le (by simp;exact q46 hb he);simp[A1,this]
  have hdr:=C3 he;rw[hdr,gC,if_neg (by intro z;injection z)];have ht:(decide ((k:Int)<(t.length:Int)))=true:=by simp[he]
  have hq:([34,39]:b9).contains (k6 t k)=nV (k6 t k):=by simp only[List.contains_cons,List.contains_nil,Bool.or_false,nV]
  have more:=fun n=>CQ (t:=t) (n:=n+1) hb;cases hQ:nV (k6 t k) with
  |true=>
   rw[if_pos rfl];have hq92:k6 t k≠92:=by intro z;rw[z] at hQ;exact absurd hQ (by decide)
   have hq44:k6 t k≠44:=by intro z;rw[z] at hQ;exact absurd hQ (by decide)
   rw[jL hq92 _ _ (Nat.le_refl _)];have hF:t9 [.str t,.int k,.int l]=(match s8 (k6 t k) (t.drop (k+1)) with|some n=>.ok (.int ((k:Int)+1+n))|none=>.err l):=by
    show(if _ then _ else _)=_;rw[if_pos ⟨hl,by omega,by omega,hline⟩];rfl
   cases hs:s8 (k6 t k) (t.drop (k+1)) with
   |none=>
    rw[hs] at hF;exact K6 (c9 (by tm_at "e") ht) (d5.cons (d8.if0 (c7 (by tm_at "e") (by simp[hq44])) d5.nil) (d5.err (U3 (c8.if1 (c9 (by tm_at "e") (hq.trans hQ)) (by tm_at "e")) (by decide) (by decide))))
   |some n=>
    rw[hs] at hF;refine f8 (O9 hs) fun n1 n2=> ?_;rw[List.length_drop] at n2;have e1:(t.drop (k+1)).drop n=t.drop (k+1+n):=List.drop_drop;dsimp only;rw[e1];have IH:=ih (σ.set "place" (.int ((k+1+n:Nat):Int))) b (k+1+n) acc (oz9 hm) (WM hb) (VN he n2) (WM ha)
     (by tm_at "n") (by tm_at "n") (by tm_at "n") (by tm_at "n") (by tm_at "n")
    have step: ∀{u:R (Fl×d9)},d8 g (some "found") n9.sc (σ.set "place" (.int ((k+1+n:Nat):Int))) (i4 n9.body 2) u->d8 g (some "found") n9.sc σ (i4 n9.body 2) u:=fun h=>
     i3 (c9 (by tm_at "e") ht) (d5.cons (d8.if0 (c7 (by tm_at "e") (by simp[hq44])) d5.nil)
      (d5.cons (d7 (v:=.int ((k+1+n:Nat):Int)) (c8.if1 (c9 (by tm_at "e") (hq.trans hQ)) (by tm_at "e")) (by decide) (by decide) rfl) d5.nil)) h
    cases hp:pm none false (t.drop (k+1+n)) none false with
    |none=>rw[hp] at IH;exact step IH
    |some ps=>
     rw[hp] at IH;refine JX IH fun σ' acc' b' x1 x2 x3 x4 x5 x6 x7 x8=> ?_;clear IH;refine⟨σ',acc',b',step x1,x2,x3,x4,x5,x6,?_,x8⟩;rw[x7];have:=more n;rw[hdr] at this;rw[show k+1+n-b=k+(n+1)-b by exact oa1,this];show _=acc++(A1 _ (push (k6 t k) (A1 ((t.drop (k+1)).take n) ps))).map i6;rw[lR,bH];rfl
  |false=>
   rw[if_neg (by decide)];by_cases hc:k6 t k=44
   ·rw[if_pos ⟨hc,rfl⟩];have hsl:j9 t (some (b:Int)) (some (k:Int))=(t.drop b).take (k-b):=bF hb hk;have hsz:((t.drop b).take (k-b)).length<=g9:=by simp;exact q3 he hl (by decide)
    have IH:=ih (((σ.set "found" (.olist (acc.map .str++[.str (i6 ((t.drop b).take (k-b)))]))).set "begin" (.int ((k+1:Nat):Int))).set "place" (.int ((k+1:Nat):Int))) (k+1) (k+1) (acc++[i6 ((t.drop b).take (k-b))]) (JV hm) (Nat.le_refl _) (Nat.succ_le_of_lt he)
     (by simp;omega) (by tm_at "n") (by rw[List.map_append];tm_at "n") (by tm_at "n") (by tm_at "n") (by tm_at "n")
    have step: ∀{u:R (Fl×d9)},d8 g (some "found") n9.sc (((σ.set "found" (.olist (acc.map .str++[.str (i6 ((t.drop b).take (k-b)))]))).set "begin" (.int ((k+1:Nat):Int))).set "place" (.int ((k+1:Nat):Int))) (i4 n9.body 2) u->d8 g (some "found") n9.sc σ (i4 n9.body 2) u:=fun h=>
     i3 (c9 (by tm_at "e") ht) (d5.cons (d8.if1 (c9 (by tm_at "e") (by simp[hc]))
       (d5.cons (d8.append (vs:=acc.map .str) (v:=.str (i6 ((t.drop b).take (k-b)))) (W3 (v:=.str ((t.drop b).take (k-b))) (hsl▸c8.slice (li:=some (b:Int)) (hj:=some (k:Int)) (by tm_at "v") (by tm_at "e") (by tm_at "e") (Nat.le_trans hl (by decide))) (by tm_at "e") (lM hsz) ⟨rfl,rfl⟩) (by tm_at "v") (by decide) rfl (by simp;exact JU ha he hl (by decide)))
       (d5.cons (d7 (v:=.int ((k+1:Nat):Int)) (by tm_at "e") (by decide) (by decide) rfl) d5.nil)))
      (d5.cons (d7 (v:=.int ((k+1:Nat):Int)) (c8.if0 (c7 (by tm_at "e") (hq.trans hQ)) (by tm_at "e")) (by decide) (by decide) rfl) d5.nil)) h
    cases hp:pm none false (t.drop (k+1)) none false with
    |none=>rw[hp] at IH;exact step IH
    |some ps=>
     rw[hp] at IH;refine JX IH fun σ' acc' b' x1 x2 x3 x4 x5 x6 x7 x8=> ?_;clear IH;refine⟨σ',acc',b',step x1,x2,x3,x4,x5,x6,?_,x8⟩;rw[x7,Nat.sub_self,List.take_zero,cA _ (cN hp)];show _=acc++(A1 _ ([]::ps)).map i6;simp[A1]
   ·rw[if_neg (by rintro ⟨z,_⟩;exact hc z)];have IH:=ih (σ.set "place" (.int ((k+1:Nat):Int))) b (k+1) acc (JV hm) (Nat.le_succ_of_le hb) (Nat.succ_le_of_lt he) (Nat.le_succ_of_le ha)
     (by tm_at "n") (by tm_at "n") (by tm_at "n") (by tm_at "n") (by tm_at "n")
    have step: ∀{u:R (Fl×d9)},d8 g (some "found") n9.sc (σ.set "place" (.int ((k+1:Nat):Int))) (i4 n9.body 2) u->d8 g (some "found") n9.sc σ (i4 n9.body 2) u:=fun h=>
     i3 (c9 (by tm_at "e") ht) (d5.cons (d8.if0 (c7 (by tm_at "e") (by simp[hc])) d5.nil)
      (d5.cons (d7 (v:=.int ((k+1:Nat):Int)) (c8.if0 (c7 (by tm_at "e") (hq.trans hQ)) (by tm_at "e")) (by decide) (by decide) rfl) d5.nil)) h
    cases hp:pm none false (t.drop (k+1)) none false with
    |none=>rw[hp] at IH;exact step IH
    |some ps=>
     rw[hp] at IH;refine JX IH fun σ' acc' b' x1 x2 x3 x4 x5 x6 x7 x8=> ?_;clear IH;refine⟨σ',acc',b',step x1,x2,x3,x4,x5,x6,?_,x8⟩;have:=more 0;rw[hdr] at this;rw[x7,show k+1-b=k+(0+1)-b by omega,this];show _=acc++(A1 _ (push (T7 false (k6 t k)) ps)).map i6;rw[zY,bH];rfl
noncomputable def V0 (tb:Bool) (t:b9):Option (List b9):=
 if t=[] then some [] else (pm none tb t none false).bind fun ps=>if (ps.map i6).contains [] then none else some (ps.map i6)
noncomputable def W5:List V->R V:=CO fun t l=>
  if t.length<=5000/\l.natAbs<1000000 then (match V0 false t with|some b=>.ok (.list (b.map .str))|none=>.err l) else .stuck
theorem xZ (hg:N7 g) (hlen:g.fn "len"=none) (hqe:g.fn "quoted_end"=some t9) (vs:List V) (hn:W5 vs≠.stuck):g8 g (some "found") n9.sc ["text","line"] n9.body vs (W5 vs):=by
 have hlim:g9=1048576:=rfl;refine C1 (K1 hn) fun t l z1r=> ?_;subst z1r;have hc:=E0 hn;refine l5 (if_pos hc) ?_;refine f8 hc fun hl hline=> ?_;clear hc;unfold V0;by_cases h0:t=[]
 ·rw[if_pos h0];exact g8.ret rfl (d5.ret (d8.if1 (c9 (by tm_at "e") (by simp[h0])) (d5.ret (d8.ret (v:=.list []) (by tm_at "e")))))
 rw[if_neg h0];have e0:d8 g (some "found") n9.sc (List.zip ["text","line"] [.str t,.int l]) (i4 n9.body 0) (.ok (.next,List.zip ["text","line"] [.str t,.int l])):=
  d8.if0 (c7 (by tm_at "e") (by simp[h0])) d5.nil
 have e1:d8 g (some "found") n9.sc (List.zip ["text","line"] [.str t,.int l]) (i4 n9.body 1) (.ok (.next,d9.set (d9.set (d9.set (List.zip ["text","line"] [.str t,.int l]) "found" (.olist [])) "begin" (.int 0)) "place" (.int 0))):=
  i7 (by tm_at "e") rfl (by decide) rfl
 have L:=uX (t:=t) hg hlen hqe hl hline (t.length+1) (d9.set (d9.set (d9.set (List.zip ["text","line"] [.str t,.int l]) "found" (.olist [])) "begin" (.int 0)) "place" (.int 0)) 0 0 [] (Nat.sub_le _ _) (Nat.le_refl _) (by omega) (by simp) (by tm_at "n") (by tm_at "n") (by tm_at "n") (by tm_at "n") (by tm_at "n");rw[List.drop_zero] at L;cases hp:pm none false t none false with
 |none=>
  rw[hp] at L;exact g8.err rfl (d5.cons e0 (d5.cons e1 (d5.err L)))
 |some ps=>
  rw[hp] at L;refine JX L fun σ' acc' b' x1 x2 x3 x4 x5 x6 x7 x8=> ?_;clear L;rw[Nat.sub_zero,List.take_zero,cA _ (cN hp),List.nil_append] at x7;have hsz:(t.drop b').length<=g9:=by simp;exact r36 hl (by decide)
  have e3:d8 g (some "found") n9.sc σ' (i4 n9.body 3) (.ok (.next,σ'.set "found" (.olist (acc'.map .str++[.str (i6 (t.drop b'))])))):=
   d8.append (W3 (v:=.str (t.drop b')) ((jJ x6)▸c8.slice (li:=some (b':Int)) (hj:=none) (by tm_at "v") (by tm_at "e") (by tm_at "e") (Nat.le_trans hl (by decide))) (by tm_at "e") (lM hsz) ⟨rfl,rfl⟩) (by tm_at "v") (by decide) rfl (by simp;exact r46 x8 hl (by decide))
  have e4:acc'.map V.str++[.str (i6 (t.drop b'))]=(ps.map i6).map .str:=by rw[<-x7];simp
  rw[e4] at e3;have hlen':(ps.map i6).length<=g9:=by rw[<-x7];simp;omega
  show g8 g (some "found") n9.sc _ n9.body _ (match (if (ps.map i6).contains [] then none else some (ps.map i6):Option (List b9)) with|some b=>.ok (.list (b.map .str))|none=>.err l);have h2:(σ'.set "found" (.olist ((ps.map i6).map .str))).get "found"=some (.olist ((ps.map i6).map .str)):=d9.same;cases hq:(ps.map i6).contains [] with
  |true=>
   rw[if_pos rfl];exact g8.err rfl (d5.cons e0 (d5.cons e1 (d5.cons x1 (d5.cons e3 (d5.err (d8.if1 (c9 (e9 (by tm_at "e") (by tm_at "e") (HK hlen') rfl) hq) (d5.err (A9 (by tm_at "v") (by decide) ⟨rfl,rfl⟩ hline))))))))
  |false=>
   rw[if_neg (by decide)];exact g8.ret rfl (d5.cons e0 (d5.cons e1 (d5.cons x1 (d5.cons e3 (d5.cons (d8.if0 (c7 (e9 (by tm_at "e") (by tm_at "e") (HK hlen') rfl) hq) d5.nil) (d5.ret (d8.ret (v:=.olist ((ps.map i6).map .str)) (by tm_at "e"))))))))
end
noncomputable def V1:Stmt->Expr
 | .For t _ _ _ _=>t
 |_=>.Constant .none 0 ⟨0,0,0,0⟩
section
variable {g:G} {sc csc:Scope} {σ:d9} {t:b9} {elt:Expr} {x:Str} {xp:Pos}
theorem Q6.map {f:Nat->V} (hf: ∀c,(f c).open? =false): ∀{r:b9},(∀c∈r,c8 g csc (σ.set x (.str [c])) false elt (.ok (f c)))->Q6 g csc σ (.Name x xp) elt [] (r.map fun c=>.str [c]) (r.map f)
 |[],_=>Q6.nil
 |c::r,h=>Q6.take rfl (h c List.mem_cons_self) (hf c) (Q6.map hf fun d hd=>h d (List.mem_cons_of_mem _ hd))
theorem LY {l:List Bool}:fJ "all" [.list (l.map V.bool)]=.ok (.bool (l.all id)):=by
 rw[QB];show needR (U6 (l.map V.bool)) _=_;rw[CM];rfl
theorem zZ {r:b9} {f:Nat->Bool}:fJ "all" [.list (r.map fun c=>V.bool (f c))]=.ok (.bool (r.all f)):=by
 have:(r.map fun c=>V.bool (f c))=(r.map f).map V.bool:=by simp
 rw[this,LY];simp
theorem eT (h:0<t.length):j9 t none (some (-1))=t.dropLast:=by
 unfold j9 AW P5;dsimp only;rw[if_pos (by omega),List.drop_zero,show(-1+(t.length:Int)).toNat=t.length-1 by exact RT,List.dropLast_eq_take]
noncomputable def A4 (c:Nat):Bool:=(decide (32<=c) &&decide (c<=126))||c==9
theorem lU (hord:g.fn "ord"=none) {l:Int} (hline:l.natAbs<1000000): ∀(r:b9) (σ:d9),σ.get "line"=some (.int l)->
  (r.all A4=true-> ∃σ',P7 g none r6.sc σ (V1 (i4 r6.body 0)) (sB (i4 r6.body 0)) (r.map fun c=>.str [c]) (.ok (.next,σ')))/\
  (r.all A4=false->P7 g none r6.sc σ (V1 (i4 r6.body 0)) (sB (i4 r6.body 0)) (r.map fun c=>.str [c]) (.err l))
 |[],σ,h=>⟨fun Z=>⟨σ,P7.nil⟩,fun z=>by simp at z⟩
 |c::r,σ,h=>by
  refine f8 (lU hord hline r (σ.set "letter" (.str [c])) (by tm_at "n")) fun i1 i2=> ?_;have hb:t7 σ (V1 (i4 r6.body 0)) (.str [c])=.ok (σ.set "letter" (.str [c])):=rfl;rw[List.all_cons];cases hs:A4 c with
  |true=>
   have hc:(32<=c/\c<=126)\/c=9:=by simpa[A4] using hs
   have st:d5 g none r6.sc (σ.set "letter" (.str [c])) (sB (i4 r6.body 0)) (.ok (.next,σ.set "letter" (.str [c]))):=
    d5.cons (d8.if0 (c7 (by tm_at "e") (by simp;omega)) d5.nil) d5.nil
   refine⟨fun z=> ?_,fun z=>P7.cons hb st (i2 (by simpa using z))⟩;refine d6 (i1 (by simpa using z)) fun σ' x=> ?_;exact⟨σ',P7.cons hb st x⟩
  |false=>
   have hc: ¬((32<=c/\c<=126)\/c=9):=by
    intro z;have:A4 c=true:=by simpa[A4] using z
    rw[hs] at this;injection this
   refine⟨fun z=>by simp at z,fun Z=>P7.err hb (d5.err (d8.if1 (c9 (by tm_at "e") (by simp;exact q85 hc)) (d5.err (A9 (by tm_at "v") (by decide) ⟨rfl,rfl⟩ hline))))⟩
noncomputable def o8:List V->R V:=CO fun t l=>
  if t.length<=5000/\l.natAbs<1000000 then (if t.all A4 then .ok .none else .err l) else .stuck
theorem iV (hord:g.fn "ord"=none) (vs:List V) (hn:o8 vs≠.stuck):g8 g none r6.sc ["text","line"] r6.body vs (o8 vs):=by
 have hlim:g9=1048576:=rfl;refine C1 (K1 hn) fun t l z3r=> ?_;subst z3r;have hc:=E0 hn;refine l5 (if_pos hc) ?_;refine f8 hc fun hl hline=> ?_;clear hc;refine f8 (lU hord hline t (List.zip ["text","line"] [.str t,.int l]) rfl) fun i1 i2=> ?_;cases hs:t.all A4 with
 |true=>
  refine d6 (i1 hs) fun σ' x=> ?_;rw[if_pos rfl];exact g8.next rfl (d5.cons (H4 (by tm_at "e") (w6 (Nat.le_trans hl (by decide))) rfl x) d5.nil)
 |false=>
  rw[if_neg (by decide)];exact g8.err rfl (d5.err (H4 (by tm_at "e") (w6 (Nat.le_trans hl (by decide))) rfl (i2 hs)))
noncomputable def E1 (c:Nat):Bool:=((List.range 26).map (· +97)++(List.range 26).map (· +65)++(List.range 10).map (· +48)++[95,46,36]).contains c
noncomputable def cI (c:Nat):Bool:=((List.range 10).map (· +48)).contains c
noncomputable def G7 (t:b9):Bool:= !(t==[]) && !cI (k6 t 0) &&t.all E1 && !(t==[46])
noncomputable def B6 (t:b9):Bool:=decide (1<t.length) &&([98,102]:b9).contains (k6 t (t.length-1)) &&t.dropLast.all cI
noncomputable def E2:List V->R V:=fS fun t=>
  if t.length<=5000 then .ok (.bool (G7 t)) else .stuck
noncomputable def H7:List V->R V:=fS fun t=>
  if t.length<=5000 then .ok (.bool (B6 t)) else .stuck
theorem uY (hg:N7 g) (hall:g.fn "all"=none) (vs:List V) (hn:E2 vs≠.stuck):g8 g none lJ.sc ["text"] lJ.body vs (E2 vs):=by
 have hlim:g9=1048576:=rfl;refine d6 (R9 hn) fun t z2r=> ?_;subst z2r;have hl:=E0 hn;refine l5 (if_pos hl) ?_;refine g8.ret (σ':=List.zip ["text"] [.str t]) rfl (d5.ret (d8.ret (v:=.bool (G7 t)) ?_));by_cases h0:t=[]
 ·refine c8.to (o7 (b1:=false) (b2:=true) (c7 (by tm_at "e") (by simp[h0])) fun h=>by injection h) ?_;simp[G7,h0]
 ·have hp:0<t.length:=List.length_pos_iff.mpr h0;refine c8.to (o7 (by tm_at "e") fun Z=>o7 (by tm_at "e") fun Z=>o7 (b1:=t.all E1) (c8.bcall (v6.cons (J9 (by tm_at "e") (w6 (Nat.le_trans hl (by decide))) (Q6.map (f:=fun c=>.bool (E1 c)) (fun Z=>rfl) fun c Z=>e9 (by tm_at "e") (by tm_at "e") (in_str (by decide)) rfl) rfl) v6.nil) hall rfl zZ rfl rfl) fun Z=>H5 (by tm_at "e")) ?_;simp[G7,cI,Bool.and_assoc]
theorem rR (hg:N7 g) (hlen:g.fn "len"=none) (hall:g.fn "all"=none) (vs:List V) (hn:H7 vs≠.stuck):g8 g none fZ.sc ["text"] fZ.body vs (H7 vs):=by
 have hlim:g9=1048576:=rfl;refine d6 (R9 hn) fun t z1r=> ?_;subst z1r;have hl:=E0 hn;refine l5 (if_pos hl) ?_;refine g8.ret (σ':=List.zip ["text"] [.str t]) rfl (d5.ret (d8.ret (v:=.bool (B6 t)) ?_));by_cases h1:1<t.length
 ·have hd:t.dropLast.length<=g9:=by simp;exact Nat.le_trans hl (by decide)
  refine c8.to (o7 (by tm_at "e") fun Z=>o7 (by tm_at "e") fun Z=>H5 (c8.bcall (v6.cons (J9 (iv:=.str t.dropLast) (eT (t:=t) (by omega)▸c8.slice (by tm_at "v") (by tm_at "e") (by tm_at "e") (Nat.le_trans hl (by decide))) (w6 hd) (Q6.map (f:=fun c=>.bool (cI c)) (fun Z=>rfl) fun c Z=>e9 (by tm_at "e") (by tm_at "e") (in_str (by decide)) rfl) rfl) v6.nil) hall rfl zZ rfl rfl)) ?_;rw[show decide ((1:Int)<(t.length:Int))=true by simp;omega];simp[B6,h1]
 ·refine c8.to (o7 (b1:=false) (b2:=true) (c7 (by tm_at "e") (by simp;omega)) fun h=>by injection h) ?_;simp[B6,h1]
end
theorem rS (a b:Int):fJ "min" [.int a,.int b]=.ok (.int (min a b)):=rfl
theorem QJ {a:b9} {l:List b9} (h:l.length<=g9):w9 .In (.str a) (.tup (l.map V.str))=.ok (l.contains a):=by
 rw[WZ];show(if (l.map V.str).length<=g9 then needR (M1 (l.map V.str)) (fun l=>R.ok (l.contains a)) else R.stuck)=_;rw[List.length_map,if_pos h,bD];rfl
theorem eU {a b:Int} (h:a.natAbs<2 ^4096) (h':b.natAbs<2 ^4096):R1 .Mult (.int a) (.int b)=.ok (.int (a*b)):=by
 rw[OX];have e1:small a=true:=by unfold small;exact decide_eq_true h
 have e2:small b=true:=by unfold small;exact decide_eq_true h'
 rw[e1,e2];rfl
noncomputable def k8 (c:Nat):Bool:=((List.range 8).map (· +48)).contains c
theorem lV (c:Nat):k8 c=true↔48<=c/\c<=55:=by
 rcases Nat.lt_or_ge c 56 with h|h
 ·exact of_decide_eq_true (U5 56 (fun c=>decide (k8 c=true↔48<=c/\c<=55)) (by decide+kernel) h)
 ·rw[show k8 c=false from lN (n:=56) rfl h];exact⟨fun z=>(by injection z),fun z=>absurd z (lO (by decide) h)⟩
section
variable {g:G} {t:b9}
theorem yA (hg:N7 g) (hlen:g.fn "len"=none) (hmin:g.fn "min"=none) (hl:t.length<=5000) {k:Nat}: ∀(m:Nat) (σ:d9) (e:Nat),k+3-e<=m->k<=e->e<=k+3->σ.get "text"=some (.str t)->σ.get "place"=some (.int (k:Nat))->σ.get "end"=some (.int (e:Nat))->
  ∃σ',d8 g none F2.sc σ (i4 F2.body 1) (.ok (.next,σ'))/\σ'.get "end"=some (.int ((e+(((t.drop e).take (k+3-e)).takeWhile k8).length:Nat):Int)):=by
 intro m;have hlim:g9=1048576:=rfl;induction m with
 |zero=>
  intro σ e hm hk he h1 h2 h3;refine⟨σ,i0 (c7 (j2 (J0.cons (b1:=false) (b2:=true) (c7 (e9 (by tm_at "e") (c8.bcall (by tm_at "e") hmin rfl (rS _ _) rfl rfl) (gS _ _) rfl) (by simp;exact q6 hm)) fun h=>by injection h)) rfl),?_⟩;rw[h3,show k+3-e=0 by exact Nat.eq_zero_of_le_zero hm];simp
 |succ m ih=>
  intro σ e hm hk he h1 h2 h3;by_cases hc:e<k+3/\e<t.length
  case neg=>
   refine⟨σ,i0 (c7 (j2 (J0.cons (b1:=false) (b2:=true) (c7 (e9 (by tm_at "e") (c8.bcall (by tm_at "e") hmin rfl (rS _ _) rfl rfl) (gS _ _) rfl) (by simp;exact q7 hc)) fun h=>by injection h)) rfl),?_⟩;rw[h3];have:(t.drop e).take (k+3-e)=[]:=by
    rcases Nat.lt_or_ge e (k+3) with z|z
    ·rw[List.drop_eq_nil_of_le (q8 hc z)];exact List.take_nil
    ·rw[show k+3-e=0 by exact Nat.sub_eq_zero_of_le z];rfl
   rw[this];simp
  refine f8 hc fun e1 e2=> ?_;clear hc;have hd:(t.drop e).take (k+3-e)=k6 t e::(t.drop (e+1)).take (k+3-(e+1)):=by
   rw[C3 e2,show k+3-e=(k+3-(e+1))+1 by exact q2 e1];rfl
  have hT:c8 g F2.sc σ true (sE (i4 F2.body 1)) (.ok (.bool (decide ((e:Int)<min (((k+3:Nat):Int)) (t.length:Int)) &&k8 (k6 t e)))):=
   j2 (J0.cons (e9 (by tm_at "e") (c8.bcall (v6.cons (c8.bin (by tm_at "e") (by tm_at "e") rfl) (by tm_at "e")) hmin rfl (rS _ _) rfl rfl) (gS _ _) rfl) fun Z=>J0.one (e9 (by tm_at "e") (by tm_at "e") (in_str (by decide)) rfl))
  have hlt:decide ((e:Int)<min (((k+3:Nat):Int)) (t.length:Int))=true:=by simp;exact r2 e1 e2
  rw[hlt,Bool.true_and] at hT;rw[hd];cases ho:k8 (k6 t e) with
  |false=>
   rw[ho] at hT;refine⟨σ,i0 hT,?_⟩;rw[h3,List.takeWhile_cons,ho];simp
  |true=>
   rw[ho] at hT;refine e8 (ih (σ.set "end" (.int ((e+1:Nat):Int))) (e+1) (JV hm) (Nat.le_succ_of_le hk) (Nat.succ_le_of_lt e1) (by tm_at "n") (by tm_at "n") (by tm_at "n")) fun σ' x1 x2=> ?_;refine⟨σ',i3 hT (d5.cons (M4 (v:=.int 1) (by tm_at "e") (by tm_at "e") (by decide) rfl rfl) d5.nil) x1,?_⟩;rw[x2,List.takeWhile_cons,ho];simp;exact RW
noncomputable def H8:List V->R V:=CO fun t p=>
  if t.length<=5000/\0<=p then .ok (.int (p+((((t.drop p.toNat).take 3).takeWhile k8).length:Nat))) else .stuck
theorem nW (hg:N7 g) (hlen:g.fn "len"=none) (hmin:g.fn "min"=none) (vs:List V) (hn:H8 vs≠.stuck):g8 g none F2.sc ["text","place"] F2.body vs (H8 vs):=by
 have hlim:g9=1048576:=rfl;refine C1 (K1 hn) fun t p z4r=> ?_;subst z4r;have hc:=E0 hn;refine l5 (if_pos hc) ?_;refine f8 hc fun hl hp0=> ?_;clear hc;refine d6 (Int.eq_ofNat_of_zero_le hp0) fun k z3r=> ?_;subst z3r;have e1:d8 g none F2.sc (List.zip ["text","place"] [.str t,.int k]) (i4 F2.body 0) (.ok (.next,d9.set (List.zip ["text","place"] [.str t,.int k]) "end" (.int (k:Int)))):=d7 (c8.name (g6 (v:=.int k) rfl rfl (by decide))) (by decide) (by decide) rfl;refine e8 (yA (t:=t) hg hlen hmin hl (k:=k) 3 (d9.set (List.zip ["text","place"] [.str t,.int k]) "end" (.int (k:Int))) k (by omega) (Nat.le_refl _) (by omega) (by tm_at "n") (by tm_at "n") (by tm_at "n")) fun σ' x1 x2=> ?_;rw[show k+3-k=3 by omega] at x2;exact g8.ret rfl (d5.cons e1 (d5.cons x1 (d5.ret (d8.ret (c8.name (g6 x2 rfl (by decide)))))))
noncomputable def V2 (v:Nat):b9->Nat
 |[]=>v
 |c::r=>V2 (8*v+(c-48)) r
theorem CR {c:Nat} (h:k8 c=true):J5 c ((List.range 8).map (· +48))=c-48:=
 of_decide_eq_true (U5 56 (fun c=>decide (k8 c=true->J5 c ((List.range 8).map (· +48))=c-48)) (by decide+kernel) (Nat.lt_of_not_le fun z=>by rw[show k8 c=false from lN (n:=56) rfl z] at h;injection h)) h
theorem jM {a:Int} (h:a.natAbs<2 ^64):a.natAbs<2 ^4096:=Nat.lt_of_lt_of_le h (Nat.pow_le_pow_right (by decide) (by decide))
theorem cO (hg:N7 g) {l:Int}: ∀(r:b9) (σ:d9) (v:Nat),r.all k8=true->v<8 ^(10-r.length)->r.length<=3->σ.get "line"=some (.int l)->σ.get "value"=some (.int (v:Nat))->
  ∃σ',P7 g none D8.sc σ (V1 (i4 D8.body 1)) (sB (i4 D8.body 1)) (r.map fun c=>.str [c]) (.ok (.next,σ'))/\σ'.get "line"=some (.int l)/\σ'.get "value"=some (.int (V2 v r:Nat))
 |[],σ,v,_,_,_,h1,h2=>⟨σ,P7.nil,h1,h2⟩
 |c::r,σ,v,ha,hv,hr,h1,h2=>by
  rw[List.all_cons,Bool.and_eq_true] at ha;rw[List.length_cons] at hv hr;have hb:t7 σ (V1 (i4 D8.body 1)) (.str [c])=.ok (σ.set "figure" (.str [c])):=rfl;refine f8 ((lV c).mp ha.1) fun b1 b2=> ?_;have hv':8*v+(c-48)<8 ^(10-r.length):=by
   have:8 ^(10-r.length)=8*8 ^(10-(r.length+1)):=by rw[show 10-r.length=(10-(r.length+1))+1 by exact oz5 hr (by decide),Nat.pow_succ,Nat.mul_comm]
   rw[this];exact q14 b2 hv
  have hvs:v<2 ^64:=Nat.lt_of_lt_of_le hv (Nat.le_trans (Nat.pow_le_pow_right (by decide) (Nat.sub_le 10 _)) (by decide));refine s5 (cO hg (l:=l) r ((σ.set "figure" (.str [c])).set "value" (.int ((8*v+(c-48):Nat):Int))) (8*v+(c-48)) ha.2 hv' (RX hr) (by tm_at "n") (by tm_at "n")) fun σ' x1 x2 x3=> ?_;refine⟨σ',P7.cons hb (d5.cons (d7 (v:=.int ((8*v+(c-48):Nat):Int)) (c8.to (c8.bin (c8.bin (by tm_at "e") (by tm_at "e") (eU (by decide) (jM (by simpa using hvs)))) (W3 (by tm_at "e") (by tm_at "e") (HG (by decide) ha.1) ⟨rfl,rfl⟩) (cT _ _)) ?_) (by decide) (by decide) rfl) d5.nil) x1,x2,x3⟩;rw[CR ha.1];congr 2<;>omega
noncomputable def K7:List V->R V:=CO fun t l=>
  if t.length<=3/\t.all k8=true/\l.natAbs<1000000 then (if 255<V2 0 t then .err l else .ok (.int (V2 0 t:Nat))) else .stuck
theorem rT (hg:N7 g) (vs:List V) (hn:K7 vs≠.stuck):g8 g none D8.sc ["figures","line"] D8.body vs (K7 vs):=by
 have hlim:g9=1048576:=rfl;refine C1 (K1 hn) fun t l z2r=> ?_;subst z2r;have hc:=E0 hn;refine l5 (if_pos hc) ?_;refine n5 hc fun hl ho hline=> ?_;clear hc;refine s5 (cO hg (l:=l) t (d9.set (List.zip ["figures","line"] [.str t,.int l]) "value" (.int ((0:Nat):Int))) 0 ho (Nat.pow_pos (by decide)) hl (by tm_at "n") (by tm_at "n")) fun σ' x1 x2 x3=> ?_;have e0:d8 g none D8.sc (List.zip ["figures","line"] [.str t,.int l]) (i4 D8.body 0) (.ok (.next,d9.set (List.zip ["figures","line"] [.str t,.int l]) "value" (.int ((0:Nat):Int)))):=d7 (by tm_at "e") (by decide) (by decide) rfl;have e1:d8 g none D8.sc (d9.set (List.zip ["figures","line"] [.str t,.int l]) "value" (.int ((0:Nat):Int))) (i4 D8.body 1) (.ok (.next,σ')):=H4 (c8.name (g6 (v:=.str t) (by tm_at "n") rfl (by decide))) (w6 (Nat.le_trans hl (by decide))) rfl x1;by_cases h:255<V2 0 t
 ·rw[if_pos h];exact g8.err rfl (d5.cons e0 (d5.cons e1 (d5.err (d8.if1 (c9 (by tm_at "e") (by simp;omega)) (d5.err (A9 (by tm_at "v") (by decide) ⟨rfl,rfl⟩ hline))))))
 ·rw[if_neg h];exact g8.ret rfl (d5.cons e0 (d5.cons e1 (d5.cons (d8.if0 (c7 (by tm_at "e") (by simp;omega)) d5.nil) (d5.ret (d8.ret (v:=.int (V2 0 t:Nat)) (by tm_at "e"))))))
noncomputable def M7 (c:Nat):Option Nat:=if 48<=c/\c<=57 then some (c-48) else if 97<=c/\c<=102 then some (c-87) else none
noncomputable def P8 (b:Nat):Nat->b9->Option Nat
 |v,[]=>some v
 |v,c::r=>match M7 c with
  |some d=>if d<b then P8 b (v*b+d) r else none
  |none=>none
noncomputable def l4 (t:b9):Nat×b9:=if ([[48,120],[48,88],[48,98],[48,66]]:List b9).contains (t.take 2) then (if ([120,88]:b9).contains (k6 t 1) then 16 else 2,(t.drop 2).map cH) else (10,t)
noncomputable def B8 (t:b9):Option Nat:=
 match P8 (l4 t).1 0 (l4 t).2 with
 |some v=>if (l4 t).2=[]\/((l4 t).1=10/\1<(l4 t).2.length/\k6 (l4 t).2 0=48) then none else some v
 |none=>none
noncomputable abbrev lW:b9:=[48,49,50,51,52,53,54,55,56,57,97,98,99,100,101,102]
theorem gE (c:Nat):(if lW.contains c then (J5 c lW:Int) else -1)=(match M7 c with|some d=>(d:Int)|none=> -1):=by
 rcases Nat.lt_or_ge c 103 with h|h
 ·exact of_decide_eq_true (U5 103 (fun c=>decide ((if lW.contains c then (J5 c lW:Int) else -1)=(match M7 c with|some d=>(d:Int)|none=> -1))) (by decide+kernel) h)
 ·rw[show lW.contains c=false from lN (n:=103) rfl h,show M7 c=none from (if_neg (lO (by decide) h)).trans (if_neg (lO (by decide) h))];rfl
theorem HL {c d:Nat} (h:M7 c=some d):d<16:=by
 unfold M7 at h;split at h
 ·injection h with h;subst h;omega
 split at h
 ·injection h with h;subst h;omega
 ·injection h
theorem lX (hg:N7 g) {l:Int} (hline:l.natAbs<1000000) {b:Nat} (hb16:b<=16) (hb2:2<=b): ∀(r:b9) (σ:d9) (v:Nat),v<16 ^(1010-r.length)->r.length<=1000->σ.get "line"=some (.int l)->σ.get "value"=some (.int (v:Nat))->σ.get "base"=some (.int (b:Nat))-> ∀fs,σ.get "figures"=some (.str fs)->
  match P8 b v r with
  |none=>P7 g none j3.sc σ (V1 (i4 j3.body 3)) (sB (i4 j3.body 3)) (r.map fun c=>.str [c]) (.err l)
  |some u=> ∃σ',P7 g none j3.sc σ (V1 (i4 j3.body 3)) (sB (i4 j3.body 3)) (r.map fun c=>.str [c]) (.ok (.next,σ'))/\σ'.get "line"=some (.int l)/\σ'.get "value"=some (.int (u:Nat))/\σ'.get "base"=some (.int (b:Nat))/\σ'.get "figures"=some (.str fs)
 |[],σ,v,_,_,h1,h2,h3,fs,h4=>⟨σ,P7.nil,h1,h2,h3,h4⟩
 |c::r,σ,v,hv,hr,h1,h2,h3,fs,h4=>by
  rw[List.length_cons] at hv hr;have hb:t7 σ (V1 (i4 j3.body 3)) (.str [c])=.ok (σ.set "figure" (.str [c])):=rfl;have ep: ∀z:Int,z=(if lW.contains c then (J5 c lW:Int) else -1)->d8 g none j3.sc (σ.set "figure" (.str [c])) (i4 (sB (i4 j3.body 3)) 0) (.ok (.next,(σ.set "figure" (.str [c])).set "part" (.int z))):=fun z hz=>
   hz▸d7 (W3 (by tm_at "e") (by tm_at "e") (LT (by decide)) ⟨rfl,rfl⟩) (by decide) (by decide) rfl
  show(match (match M7 c with|some d=>if d<b then P8 b (v*b+d) r else none|none=>none:Option Nat) with|none=>_|some u=>_);cases hd:M7 c with
  |none=>
   refine P7.err hb (d5.cons (ep (-1) (by rw[gE,hd])) (d5.err (d8.if1 (c9 (by tm_at "e") (by simp)) (d5.err (A9 (by tm_at "v") (by decide) ⟨rfl,rfl⟩ hline)))))
  |some d=>
   have hd16:=HL hd;by_cases hdb:d<b
   ·simp only[hdb,if_true];have hv':v*b+d<16 ^(1010-r.length):=by
     have e:16 ^(1010-r.length)=16*16 ^(1010-(r.length+1)):=by rw[show 1010-r.length=(1010-(r.length+1))+1 by exact oz5 hr (by decide),Nat.pow_succ,Nat.mul_comm]
     rw[e];have:v*b<=v*16:=Nat.mul_le_mul_left v hb16;exact q30 this hv hd16
    have hvs:v<2 ^4096:=by
     refine Nat.lt_of_lt_of_le hv (Nat.le_trans (Nat.pow_le_pow_right (by decide) (show 1010-(r.length+1)<=1024 by exact q31 (by decide))) ?_);rw[show(16:Nat)=2 ^4 by rfl,<-Nat.pow_mul];exact Nat.pow_le_pow_right (by decide) (by decide)
    have IH:=lX hg hline hb16 hb2 r (((σ.set "figure" (.str [c])).set "part" (.int (d:Int))).set "value" (.int ((v*b+d:Nat):Int))) (v*b+d) hv' (RX hr) (by tm_at "n") (by tm_at "n") (by tm_at "n") fs (by tm_at "n");have hbs:(b:Int).natAbs<2 ^64:=by
     rw[Int.natAbs_natCast];exact Nat.lt_of_le_of_lt hb16 (by decide)
    have st:d5 g none j3.sc (σ.set "figure" (.str [c])) (sB (i4 j3.body 3)) (.ok (.next,((σ.set "figure" (.str [c])).set "part" (.int (d:Int))).set "value" (.int ((v*b+d:Nat):Int)))):=
     d5.cons (ep (d:Int) (by rw[gE,hd])) (d5.cons (d8.if0 (c7 (by tm_at "e") (by simp;omega)) d5.nil)
      (d5.cons (d7 (v:=.int ((v*b+d:Nat):Int)) (c8.to (c8.bin (c8.bin (by tm_at "e") (by tm_at "e") (eU (by rw[Int.natAbs_natCast];exact hvs) (jM hbs))) (by tm_at "e") (cT _ _)) (by congr 2)) (by decide) (by decide) rfl) d5.nil))
    cases hh:P8 b (v*b+d) r with
    |none=>rw[hh] at IH;exact P7.cons hb st IH
    |some u=>
     rw[hh] at IH;refine e8 IH fun σ' y1 y2=> ?_;clear IH;exact⟨σ',P7.cons hb st y1,y2⟩
   ·simp only[hdb,if_false];refine P7.err hb (d5.cons (ep (d:Int) (by rw[gE,hd])) (d5.err (d8.if1 (c9 (by tm_at "e") (by simp;exact Nat.le_of_not_lt hdb)) (d5.err (A9 (by tm_at "v") (by decide) ⟨rfl,rfl⟩ hline)))))
noncomputable def y0:List V->R V:=CO fun t l=>
  if t.length<=1000/\j6 t=true/\l.natAbs<1000000 then (match B8 t with|some v=>.ok (.int (v:Nat))|none=>.err l) else .stuck
theorem rU (hg:N7 g) (hlen:g.fn "len"=none) (vs:List V) (hn:y0 vs≠.stuck):g8 g none j3.sc ["text","line"] j3.body vs (y0 vs):=by
 have hlim:g9=1048576:=rfl;refine C1 (K1 hn) fun t l z1r=> ?_;subst z1r;have hc:=E0 hn;refine l5 (if_pos hc) ?_;refine n5 hc fun hl hasc hline=> ?_;clear hc;have hs2:j9 t none (some 2)=t.take 2:=jK (b:=2);have e01: ∃ZS wM,d8 g none j3.sc (List.zip ["text","line"] [.str t,.int l]) (i4 j3.body 0) (.ok (.next,ZS))/\d8 g none j3.sc ZS (i4 j3.body 1) (.ok (.next,wM))/\wM.get "line"=some (.int l)/\wM.get "base"=some (.int ((l4 t).1:Nat))/\wM.get "figures"=some (.str (l4 t).2):=by
  have e0:d8 g none j3.sc (List.zip ["text","line"] [.str t,.int l]) (i4 j3.body 0) (.ok (.next,d9.set (d9.set (List.zip ["text","line"] [.str t,.int l]) "base" (.int 10)) "figures" (.str t))):=
   i7 (by tm_at "e") rfl (by decide) rfl
  have g1:(d9.set (d9.set (List.zip ["text","line"] [.str t,.int l]) "base" (.int 10)) "figures" (.str t)).get "text"=some (.str t):=by tm_at "n"
  have hcond:c8 g j3.sc (d9.set (d9.set (List.zip ["text","line"] [.str t,.int l]) "base" (.int 10)) "figures" (.str t)) true (sE (i4 j3.body 1)) (.ok (.bool (([[48,120],[48,88],[48,98],[48,66]]:List b9).contains (t.take 2)))):=
   e9 (u:=.tup [.str [48,120],.str [48,88],.str [48,98],.str [48,66]]) (hs2▸c8.slice (by tm_at "v") (by tm_at "e") (by tm_at "e") (Nat.le_trans hl (by decide))) (by tm_at "e") (QJ (l:=[[48,120],[48,88],[48,98],[48,66]]) (by decide)) rfl
  unfold l4;cases hb:([[48,120],[48,88],[48,98],[48,66]]:List b9).contains (t.take 2) with
  |false=>
   rw[hb] at hcond;rw[if_neg (by decide)];exact⟨_,_,e0,d8.if0 hcond d5.nil,by tm_at "n",by tm_at "n",by tm_at "n"⟩
  |true=>
   rw[hb] at hcond;rw[if_pos rfl];have h2:2<=t.length:=by
    rcases t with _|⟨a,_|⟨b,r⟩⟩
    ·exact absurd hb (by decide)
    ·exfalso;simp at hb
    ·simp
   have hd2:j9 t (some 2) none=t.drop 2:=jJ (a:=2) h2;have hasc2:j6 (t.drop 2)=true:=by
    unfold j6 at hasc ⊢;rw[List.all_eq_true] at hasc ⊢;exact fun x hx=>hasc x (List.mem_of_mem_drop hx)
   refine⟨_,_,e0,d8.if1 hcond (d5.cons (i7 (vs:=[.int (if ([120,88]:b9).contains (k6 t 1) then 16 else 2),.str ((t.drop 2).map cH)]) (v6.cons (c8.to (by tm_at "e") ?_) (v6.cons (fY (v:=.str (t.drop 2)) (hd2▸c8.slice (by tm_at "v") (by tm_at "e") (by tm_at "e") (Nat.le_trans hl (by decide))) (HE (by simp;exact Nat.le_trans hl (by decide)) hasc2) ⟨rfl,rfl⟩) v6.nil)) rfl (by decide) rfl) d5.nil),by tm_at "n",?_,by tm_at "n"⟩
   ·cases ([120,88]:b9).contains (k6 t 1)<;>rfl
   ·have:((((d9.set (d9.set (List.zip ["text","line"] [.str t,.int l]) "base" (.int 10)) "figures" (.str t))).set "base" (.int (if ([120,88]:b9).contains (k6 t 1) then 16 else 2))).set "figures" (.str ((t.drop 2).map cH))).get "base"=some (.int (if ([120,88]:b9).contains (k6 t 1) then 16 else 2)):=by tm_at "n"
    refine Eq.trans this ?_;cases ([120,88]:b9).contains (k6 t 1)<;>rfl
 refine iL e01 fun ZS wM e0 e1 g1 g2 g3=> ?_;clear e01;have hb:(l4 t).1<=16/\2<=(l4 t).1:=by
  unfold l4;split
  ·dsimp only;split<;>omega
  ·dsimp only;omega
 have hfl:(l4 t).2.length<=t.length:=by
  unfold l4;split<;>simp
 have e2:d8 g none j3.sc wM (i4 j3.body 2) (.ok (.next,wM.set "value" (.int ((0:Nat):Int)))):=d7 (by tm_at "e") (by decide) (by decide) rfl;have L:=lX hg hline hb.1 hb.2 (l4 t).2 (wM.set "value" (.int ((0:Nat):Int))) 0 (Nat.pow_pos (by decide)) (Nat.le_trans hfl hl) (by tm_at "n") (by tm_at "n") (by tm_at "n") (l4 t).2 (by tm_at "n");have hsz:(l4 t).2.length<=g9:=by exact DS hfl hl (by decide)
 unfold B8;cases hh:P8 (l4 t).1 0 (l4 t).2 with
 |none=>
  rw[hh] at L;exact g8.err rfl (d5.cons e0 (d5.cons e1 (d5.cons e2 (d5.err (H4 (by tm_at "e") (w6 hsz) rfl L)))))
 |some v=>
  rw[hh] at L;refine DZ L fun σ' x1 x2 x3 x4 x5=> ?_;clear L;have e3:d8 g none j3.sc (wM.set "value" (.int ((0:Nat):Int))) (i4 j3.body 3) (.ok (.next,σ')):=H4 (by tm_at "e") (w6 hsz) rfl x1;generalize (l4 t).2=fs at*;generalize (l4 t).1=b at*;have hf0:k6 fs 0=48↔k6 fs 0=48:=Iff.rfl;have hcond:c8 g j3.sc σ' true (sE (i4 j3.body 4)) (.ok (.bool (decide (fs=[]\/(b=10/\1<fs.length/\k6 fs 0=48))))):=by
   by_cases h0:fs=[]
   ·refine c8.to (C2 (aA.cons (b1:=true) (b2:=true) (c9 (by tm_at "e") (by simp[h0])) fun h=>by injection h)) (by simp[h0])
   ·by_cases h1:1<fs.length
    ·refine c8.to (C2 (aA.cons (by tm_at "e") fun Z=>aA.one (j2 (J0.cons (by tm_at "e") fun Z=>J0.cons (by tm_at "e") fun Z=>J0.one (by tm_at "e"))))) ?_;rw[show(fs==[])=false by simp[h0],show decide ((1:Int)<(fs.length:Int))=true by simp;omega];simp[h0,h1];rw[show((b:Int)==10)=decide (b=10) by
      rw[Bool.eq_iff_iff];simp;exact WK]
     by_cases hb10:b=10<;>by_cases hc0:k6 fs 0=48<;>simp[hb10,hc0]
    ·refine c8.to (C2 (aA.cons (by tm_at "e") fun Z=>aA.one (j2 (J0.cons (by tm_at "e") fun Z=>J0.cons (b1:=false) (b2:=true) (c7 (by tm_at "e") (by simp;omega)) fun h=>by injection h)))) ?_;rw[show(fs==[])=false by simp[h0]];simp[h0,h1]
  by_cases hq:fs=[]\/(b=10/\1<fs.length/\k6 fs 0=48)
  ·rw[decide_eq_true hq] at hcond;show g8 g none _ _ _ _ (match (if fs=[]\/(b=10/\1<fs.length/\k6 fs 0=48) then none else some v:Option Nat) with|some v=>.ok (.int (v:Nat))|none=>.err l);rw[if_pos hq];exact g8.err rfl (d5.cons e0 (d5.cons e1 (d5.cons e2 (d5.cons e3 (d5.err (d8.if1 hcond (d5.err (A9 (by tm_at "v") (by decide) ⟨rfl,rfl⟩ hline))))))))
  ·rw[decide_eq_false hq] at hcond;show g8 g none _ _ _ _ (match (if fs=[]\/(b=10/\1<fs.length/\k6 fs 0=48) then none else some v:Option Nat) with|some v=>.ok (.int (v:Nat))|none=>.err l);rw[if_neg hq];exact g8.ret rfl (d5.cons e0 (d5.cons e1 (d5.cons e2 (d5.cons e3 (d5.cons (d8.if0 hcond d5.nil) (d5.ret (d8.ret (v:=.int (v:Nat)) (by tm_at "e"))))))))
end
theorem CS {l:List Int} (h:l.length<=g9) (h': ∀n∈l,0<=n/\n<256):fJ "bytes" [.olist (l.map V.int)]=.ok (.bytes l):=by
 rw[uS];show needR (J4 (l.map V.int)) _=_;rw[bE];exact if_pos ⟨h,by rw[List.all_eq_true];exact fun n hn=>decide_eq_true (h' n hn)⟩
theorem S1 {t:b9} {a b:Nat}:j9 t (some (a:Int)) (some (b:Int))=(t.drop a).take (b-a):=by
 unfold j9 AW P5;dsimp only;rw[if_neg (by omega),if_neg (by omega)];simp only[Int.toNat_natCast];rw[List.drop_take];rcases Nat.le_total a t.length with h|h
 ·rw[Nat.min_eq_left h];rcases Nat.le_total b t.length with h'|h'
  ·rw[Nat.min_eq_left h']
  ·rw[Nat.min_eq_right h',List.take_of_length_le (by simp),List.take_of_length_le (by simp;exact q47 h')]
 ·rw[Nat.min_eq_right h,List.drop_eq_nil_of_le (Nat.le_refl _),List.drop_eq_nil_of_le h];simp
noncomputable def yB (c:Nat):Option Nat:=if c=110 then some 10 else if c=116 then some 9 else if c=114 then some 13 else if c=92 then some 92 else if c=39 then some 39 else if c=34 then some 34 else none
inductive fK:b9->Option (List Nat)->Prop
 |nil:fK [] (some [])
 |plain {c:Nat} {r:b9} {x:Option (List Nat)}:c≠92->fK r x->fK (c::r) (x.map (c:: ·))
 |bsEnd:fK [92] none
 |hexBad {r:b9}:(r.length<2\/B8 (48::120::r.take 2)=none)->fK (92::120::r) none
 |hex {r:b9} {v:Nat} {x:Option (List Nat)}:2<=r.length->B8 (48::120::r.take 2)=some v->fK (r.drop 2) x->fK (92::120::r) (x.map (v:: ·))
 |octBad {d:Nat} {r:b9}:k8 d=true->255<V2 0 (((d::r).take 3).takeWhile k8)->fK (92::d::r) none
 |oct {d:Nat} {r:b9} {x:Option (List Nat)}:k8 d=true->V2 0 (((d::r).take 3).takeWhile k8)<=255->fK ((d::r).drop (((d::r).take 3).takeWhile k8).length) x->fK (92::d::r) (x.map (V2 0 (((d::r).take 3).takeWhile k8):: ·))
 |escBad {d:Nat} {r:b9}:d≠120->k8 d=false->yB d=none->fK (92::d::r) none
 |esc {d v:Nat} {r:b9} {x:Option (List Nat)}:d≠120->k8 d=false->yB d=some v->fK r x->fK (92::d::r) (x.map (v:: ·))
theorem fK.ex: ∀(n:Nat) (s:b9),s.length<=n-> ∃x,fK s x
 |_,[],_=>⟨_,.nil⟩
 |0,c::r,h=>by simp at h
 |n+1,c::r,h=>by
  rw[List.length_cons] at h;by_cases hc:c=92
  case neg=>refine d6 (fK.ex n r (by omega)) fun x hx=> ?_;exact⟨_,.plain hc hx⟩
  subst hc;rcases r with _|⟨d,r⟩
  ·exact⟨_,.bsEnd⟩
  rw[List.length_cons] at h;by_cases hd:d=120
  ·subst hd;by_cases h2:r.length<2
   ·exact⟨_,.hexBad (.inl h2)⟩
   cases hv:B8 (48::120::r.take 2) with
   |none=>exact⟨_,.hexBad (.inr hv)⟩
   |some v=>refine d6 (fK.ex n (r.drop 2) (by simp;omega)) fun x hx=> ?_;exact⟨_,.hex (Nat.le_of_not_lt h2) hv hx⟩
  cases ho:k8 d with
  |true=>
   by_cases hv:255<V2 0 (((d::r).take 3).takeWhile k8)
   ·exact⟨_,.octBad ho hv⟩
   ·refine d6 (fK.ex n ((d::r).drop (((d::r).take 3).takeWhile k8).length) (by simp;exact r31 h)) fun x hx=> ?_;exact⟨_,.oct ho (Nat.le_of_not_lt hv) hx⟩
  |false=>
   cases he:yB d with
   |none=>exact⟨_,.escBad hd ho he⟩
   |some v=>refine d6 (fK.ex n r (by omega)) fun x hx=> ?_;exact⟨_,.esc hd ho he hx⟩
noncomputable def Q7 (s:b9):Option (List Nat):=Classical.choose (fK.ex s.length s (Nat.le_refl _))
theorem L4 (s:b9):fK s (Q7 s):=Classical.choose_spec (fK.ex s.length s (Nat.le_refl _))
noncomputable def SD (q:Nat):Prop:=q=34\/q=39
section
variable {g:G} {t:b9}
theorem uZ {q:Nat} (hq:SD q) {b:Nat}: ∀(r:b9) (v:Nat),P8 b v (r++[q])=none
 |[],v=>by
  have:M7 q=none:=by rcases hq with rfl|rfl<;>rfl
  show(match M7 q with|some d=>if d<b then P8 b (v*b+d) [] else none|none=>none)=none;rw[this]
 |c::r,v=>by
  show(match M7 c with|some d=>if d<b then P8 b (v*b+d) (r++[q]) else none|none=>none)=none;cases M7 c with
  |none=>rfl
  |some d=>
   dsimp only;split
   ·exact uZ hq r _
   ·rfl
theorem vA (r:b9):l4 (48::120::r)=(16,r.map cH):=by
 unfold l4;rw[if_pos (by rfl)];rfl
theorem LZ {q:Nat} (hq:SD q) (r:b9):B8 (48::120::(r++[q]))=none:=by
 unfold B8;rw[vA];have hl:cH q=q:=by rcases hq with rfl|rfl<;>rfl
 rw[List.map_append,List.map_cons,List.map_nil,hl];dsimp only;rw[uZ hq]
theorem AA {b:Nat}: ∀(r:b9) (v u:Nat),P8 b v r=some u->u<(v+1)*b ^r.length
 |[],v,u,h=>by injection h with h;subst h;simp
 |c::r,v,u,h=>by
  have h:(match M7 c with|some d=>if d<b then P8 b (v*b+d) r else none|none=>none)=some u:=h;cases hd:M7 c with
  |none=>rw[hd] at h;injection h
  |some d=>
   rw[hd] at h;dsimp only at h;split at h
   ·rename_i hdb;have:=AA r _ _ h;refine Nat.lt_of_lt_of_le this ?_;rw[List.length_cons,Nat.pow_succ,Nat.mul_comm (b ^r.length) b,<-Nat.mul_assoc];refine Nat.mul_le_mul_right _ ?_;rw[Nat.add_mul];exact q69 hdb
   ·injection h
theorem QK {r:b9} {v:Nat} (h:B8 (48::120::r.take 2)=some v):v<=255:=by
 unfold B8 at h;rw[vA] at h;dsimp only at h;cases hh:P8 16 0 ((r.take 2).map cH) with
 |none=>rw[hh] at h;injection h
 |some u=>
  rw[hh] at h;dsimp only at h;split at h
  ·injection h
  ·cases h;have:=AA _ _ _ hh;rw[List.length_map,Nat.zero_add,Nat.one_mul] at this;have h2:(r.take 2).length<=2:=by simp;exact q4 (by decide)
   have:v<16 ^2:=Nat.lt_of_lt_of_le this (Nat.pow_le_pow_right (by decide) h2);exact Nat.le_of_lt_succ this
theorem g7 {T:b9} {p c:Nat} {r:b9} (h:T.drop p=c::r):p<T.length/\k6 T p=c/\T.drop (p+1)=r:=by
 have hp:p<T.length:=by
  rcases Nat.lt_or_ge p T.length with z|z
  ·exact z
  ·rw[List.drop_eq_nil_of_le z] at h;injection h
 rw[C3 hp] at h;injection h with h1 h2;exact⟨hp,h1,h2⟩
theorem V3 {q:Nat} (hq:k8 q=false): ∀(n:Nat) (s:b9),((s++[q]).take n).takeWhile k8=(s.take n).takeWhile k8
 |0,s=>by simp
 |n+1,[]=>by simp[hq]
 |n+1,c::r=>by
  simp only[List.cons_append,List.take_succ_cons,List.takeWhile_cons];rw[V3 hq n r]
theorem jN {p:Nat->Bool}: ∀(n:Nat) (s:b9),s.take ((s.take n).takeWhile p).length=(s.take n).takeWhile p
 |0,s=>by simp
 |n+1,[]=>by simp
 |n+1,c::r=>by
  simp only[List.take_succ_cons,List.takeWhile_cons];cases p c with
  |false=>rfl
  |true=>simp only[if_true,List.length_cons,List.take_succ_cons];rw[jN n r]
theorem bI (d:Nat):(([([110],10),([116],9),([114],13),([92],92),([39],39),([34],34)]:List (b9×Int)).lookup [d])=(yB d).map fun v=>(v:Int):=by
 unfold yB;by_cases h1:d=110; · subst h1;rfl
 by_cases h2:d=116; · subst h2;rfl
 by_cases h3:d=114; · subst h3;rfl
 by_cases h4:d=92; · subst h4;rfl
 by_cases h5:d=39; · subst h5;rfl
 by_cases h6:d=34; · subst h6;rfl
 rw[if_neg h1,if_neg h2,if_neg h3,if_neg h4,if_neg h5,if_neg h6];have e: ∀k:Nat,d≠k->(([d]:b9)==[k])=false:=fun k h=>by simp[h]
 simp only[List.lookup_cons,List.lookup_nil,e _ h1,e _ h2,e _ h3,e _ h4,e _ h5,e _ h6,Option.map_none];rfl
theorem N8 {a:b9} {kvs:List (b9×Int)}:w9 .NotIn (.str a) (.dict kvs)=.ok (!(kvs.lookup a).isSome):=KD a kvs
theorem lY {a:b9} {kvs:List (b9×Int)} {i:Int} (h:kvs.lookup a=some i):P2 (.dict kvs) (.str a)=.ok (.int i):=by
 show needR (kvs.lookup a) _=_;rw[h];rfl
noncomputable def yC (g:G) (T:b9) (l:Int) (σ:d9) (acc:List Int):Option (List Nat)->Prop
 |none=>d8 g (some "found") s6.sc σ (i4 s6.body 1) (.err l)\/ ∃(σ':d9) (p':Nat),d8 g (some "found") s6.sc σ (i4 s6.body 1) (.ok (.next,σ'))/\σ'.get "place"=some (.int (p':Nat))/\σ'.get "end"=some (.int ((T.length:Int)-1))/\σ'.get "line"=some (.int l)/\(p':Int)≠(T.length:Int)-1
 |some v=> ∃(σ':d9),d8 g (some "found") s6.sc σ (i4 s6.body 1) (.ok (.next,σ'))/\σ'.get "found"=some (.olist ((acc++v.map fun(n:Nat)=>(n:Int)).map .int))/\σ'.get "place"=some (.int ((T.length:Int)-1))/\σ'.get "end"=some (.int ((T.length:Int)-1))/\σ'.get "line"=some (.int l)
theorem eW {T:b9} {l:Int} {σ σ2:d9} {acc:List Int} {x:Option (List Nat)} {v:Nat} (step: ∀{u:R (Fl×d9)},d8 g (some "found") s6.sc σ2 (i4 s6.body 1) u->d8 g (some "found") s6.sc σ (i4 s6.body 1) u)
  (h:yC g T l σ2 (acc++[(v:Int)]) x):yC g T l σ acc (x.map (v:: ·)):=by
 cases x with
 |none=>
  rcases h with h|⟨σ',p',h,r⟩
  ·exact .inl (step h)
  ·exact .inr ⟨σ',p',step h,r⟩
 |some w=>
  refine s5 h fun σ' h h2 r=> ?_;refine⟨σ',step h,?_,r⟩;rw[h2];simp
set_option maxHeartbeats 4000000 in
theorem vB (hg:N7 g) (hlen:g.fn "len"=none) (hord:g.fn "ord"=none) (hw:g.fn "whole_of"=some y0) (hoe:g.fn "octal_end"=some H8) (hoo:g.fn "octal_of"=some K7) {T:b9} (hl:T.length<=1000) (hasc:j6 T=true) {q:Nat} (hq:SD q) {l:Int} (hline:l.natAbs<1000000)
  {s:b9} {x:Option (List Nat)} (O:fK s x): ∀(σ:d9) (p:Nat) (acc:List Int),T.drop p=s++[q]->acc.length<=p->σ.get "text"=some (.str T)->σ.get "found"=some (.olist (acc.map .int))->σ.get "place"=some (.int (p:Nat))->σ.get "end"=some (.int ((T.length:Int)-1))->σ.get "line"=some (.int l)->
  yC g T l σ acc x:=by
 have hlim:g9=1048576:=rfl;have hqo:k8 q=false:=by rcases hq with rfl|rfl<;>rfl
 induction O with
 |nil=>
  intro σ p acc hT ha h1 h2 h3 h4 h5;refine n5 (g7 hT) fun hp Z hd=> ?_;have hpe:(p:Int)=(T.length:Int)-1:=by
   have:=congrArg List.length hT;rw[List.length_drop] at this;simp at this;exact q22 hp this
  refine⟨σ,i0 (c7 (by tm_at "e") (by simp;omega)),by rw[h2];simp,by rw[h3,hpe],h4,h5⟩
 | @plain c r x hc O ih=>
  intro σ p acc hT ha h1 h2 h3 h4 h5;refine n5 (g7 hT) fun hp hch hd=> ?_;have hlt:(p:Int)+1<(T.length:Int):=by
   have:=congrArg List.length hT;rw[List.length_drop] at this;simp at this;exact q23 hp this
  refine eW (σ2:=((σ.set "letter" (.str [k6 T p])).set "found" (.olist (acc.map .int++[.int (k6 T p:Nat)]))).set "place" (.int ((p+1:Nat):Int))) (fun h=>i3 (c9 (by tm_at "e") (by simp;omega)) (d5.cons (d7 (by tm_at "e") (by decide) (by decide) rfl)
   (d5.cons (d8.if1 (c9 (by tm_at "e") (by simp[hch,hc])) (d5.cons (d8.append (vs:=acc.map .int) (by tm_at "e") (by tm_at "v") (by decide) rfl (by simp;exact JU ha hp hl (by decide))) (d5.cons (M4 (v:=.int 1) (by tm_at "e") (c8.name (g6 (v:=.int (p:Nat)) (by tm_at "n") rfl (by decide))) (by decide) rfl rfl) d5.nil))) d5.nil)) h) ?_
  have:=ih (((σ.set "letter" (.str [k6 T p])).set "found" (.olist (acc.map .int++[.int (k6 T p:Nat)]))).set "place" (.int ((p+1:Nat):Int))) (p+1) (acc++[(c:Int)]) hd (by simp;omega) (by tm_at "n") (by rw[hch,List.map_append];tm_at "n") (by tm_at "n") (by tm_at "n") (by tm_at "n");exact this
 |bsEnd=>
  intro σ p acc hT ha h1 h2 h3 h4 h5;refine n5 (g7 hT) fun hp hch hd=> ?_;refine n5 (g7 hd) fun hp1 hch1 hd1=> ?_;have hlen2:p+2=T.length:=by
   have:=congrArg List.length hT;rw[List.length_drop] at this;simp at this;exact q1 hp1 this
  have he:yB q=some q:=by rcases hq with rfl|rfl<;>rfl
  have hlk:=bI (k6 T (p+1));rw[hch1,he] at hlk;have hqx:k6 T (p+1)≠120:=by rw[hch1];rcases hq with rfl|rfl<;>decide
  refine .inr ⟨((σ.set "letter" (.str [k6 T p])).set "found" (.olist (acc.map .int++[.int (q:Nat)]))).set "place" (.int ((p+2:Nat):Int)),p+2,i3 (c9 (by tm_at "e") (by simp;omega)) (d5.cons (d7 (by tm_at "e") (by decide) (by decide) rfl)
   (d5.cons (d8.if0 (c7 (by tm_at "e") (by simp[hch])) (d5.cons (d8.if0 (c7 (by tm_at "e") (by simp[hqx])) (d5.cons (d8.if0 (c7 (e9 (by tm_at "e") (by tm_at "e") (in_str (by decide)) rfl) (by rw[hch1];exact hqo))
    (d5.cons (d8.if0 (c7 (e9 (by tm_at "e") (by tm_at "e") N8 rfl) (by rw[hch1,hlk];rfl)) d5.nil) (d5.cons (d8.append (vs:=acc.map .int) (v:=.int (q:Nat)) (G6 (by tm_at "v") (by tm_at "e") (lY (by rw[hch1];exact hlk)) rfl) (by tm_at "v") (by decide) rfl (by simp;exact JU ha hp hl (by decide)))
     (d5.cons (M4 (v:=.int 2) (by tm_at "e") (c8.name (g6 (v:=.int (p:Nat)) (by tm_at "n") rfl (by decide))) (by decide) rfl rfl) d5.nil)))) d5.nil)) d5.nil)) d5.nil)) (i0 (c7 (by tm_at "e") (by simp;omega))),by tm_at "n",by tm_at "n",by tm_at "n",by omega⟩
 | @hexBad r hbad=>
  intro σ p acc hT ha h1 h2 h3 h4 h5;refine n5 (g7 hT) fun hp hch hd=> ?_;refine n5 (g7 hd) fun hp1 hch1 hd1=> ?_;have hll:p+r.length+3=T.length:=by
   have:=congrArg List.length hT;rw[List.length_drop] at this;simp at this;exact RU hp1 this
  have hnum:B8 ([48,120]++(T.drop (p+2)).take 2)=none:=by
   rw[show T.drop (p+2)=r++[q] from hd1];by_cases h2:r.length<2
   ·rw[List.take_of_length_le (by simp;exact Nat.le_of_lt_succ h2)];exact LZ hq r
   ·rcases hbad with z|z
    ·exact absurd z h2
    ·rw[List.take_append_of_le_length (Nat.le_of_not_lt h2)];exact z
  have hF:y0 [.str ([48,120]++(T.drop (p+2)).take 2),.int l]=.err l:=by
   show(if _ then _ else _)=_;have hasc':j6 ([48,120]++(T.drop (p+2)).take 2)=true:=by
    unfold j6 at hasc ⊢;rw[List.all_eq_true] at hasc ⊢;intro x hx;rcases List.mem_append.mp hx with z|z
    ·rcases List.mem_cons.mp z with rfl|z
     ·rfl
     ·rcases List.mem_singleton.mp z with rfl;rfl
    ·exact hasc x (List.mem_of_mem_drop (List.mem_of_mem_take z))
   rw[if_pos ⟨by simp;exact q4 (by decide),hasc',hline⟩,hnum]
  have hsl:j9 T (some ((p+2:Nat):Int)) (some ((p+4:Nat):Int))=(T.drop (p+2)).take 2:=by rw[S1,show p+4-(p+2)=2 by omega]
  refine .inl (K6 (c9 (by tm_at "e") (by simp;exact oT hll)) (d5.cons (d7 (by tm_at "e") (by decide) (by decide) rfl)
   (d5.err (d8.if0 (c7 (by tm_at "e") (by simp[hch])) (d5.err (d8.if1 (c9 (by tm_at "e") (by simp[hch1])) (d5.err (iA (c8.call (v6.cons (c8.bin (by tm_at "e") (hsl▸c8.slice (by tm_at "v") (by tm_at "e") (by tm_at "e") (Nat.le_trans hl (by decide))) (add_str (by simp;exact q5 (by decide)))) (v6.cons (by tm_at "e") v6.nil)) hw hF rfl rfl rfl) (by tm_at "v") (by decide)))))))))
 | @hex r v x h2l hv O ih=>
  intro σ p acc hT ha h1 h2 h3 h4 h5;refine n5 (g7 hT) fun hp hch hd=> ?_;refine n5 (g7 hd) fun hp1 hch1 hd1=> ?_;have hll:p+r.length+3=T.length:=by
   have:=congrArg List.length hT;rw[List.length_drop] at this;simp at this;exact RU hp1 this
  have hnum:B8 ([48,120]++(T.drop (p+2)).take 2)=some v:=by
   rw[show T.drop (p+2)=r++[q] from hd1,List.take_append_of_le_length (by omega)];exact hv
  have hF:y0 [.str ([48,120]++(T.drop (p+2)).take 2),.int l]=.ok (.int (v:Nat)):=by
   show(if _ then _ else _)=_;have hasc':j6 ([48,120]++(T.drop (p+2)).take 2)=true:=by
    unfold j6 at hasc ⊢;rw[List.all_eq_true] at hasc ⊢;intro x hx;rcases List.mem_append.mp hx with z|z
    ·rcases List.mem_cons.mp z with rfl|z
     ·rfl
     ·rcases List.mem_singleton.mp z with rfl;rfl
    ·exact hasc x (List.mem_of_mem_drop (List.mem_of_mem_take z))
   rw[if_pos ⟨by simp;exact q4 (by decide),hasc',hline⟩,hnum]
  have hsl:j9 T (some ((p+2:Nat):Int)) (some ((p+4:Nat):Int))=(T.drop (p+2)).take 2:=by rw[S1,show p+4-(p+2)=2 by omega]
  have hd4:T.drop (p+4)=r.drop 2++[q]:=by
   rw[show p+4=p+1+1+2 by omega,<-List.drop_drop,hd1];exact List.drop_append_of_le_length (l₂:=[q]) (by omega)
  refine eW (σ2:=((σ.set "letter" (.str [k6 T p])).set "found" (.olist (acc.map .int++[.int (v:Nat)]))).set "place" (.int ((p+4:Nat):Int))) (fun h=>i3 (c9 (by tm_at "e") (by simp;exact oT hll)) (d5.cons (d7 (by tm_at "e") (by decide) (by decide) rfl)
   (d5.cons (d8.if0 (c7 (by tm_at "e") (by simp[hch])) (d5.cons (d8.if1 (c9 (by tm_at "e") (by simp[hch1])) (d5.cons (d8.append (vs:=acc.map .int) (c8.call (v6.cons (c8.bin (by tm_at "e") (hsl▸c8.slice (by tm_at "v") (by tm_at "e") (by tm_at "e") (Nat.le_trans hl (by decide))) (add_str (by simp;exact q5 (by decide)))) (v6.cons (by tm_at "e") v6.nil)) hw hF rfl rfl rfl) (by tm_at "v") (by decide) rfl (by simp;exact JU ha hp hl (by decide)))
    (d5.cons (M4 (v:=.int 4) (by tm_at "e") (c8.name (g6 (v:=.int (p:Nat)) (by tm_at "n") rfl (by decide))) (by decide) rfl rfl) d5.nil))) d5.nil)) d5.nil)) h) ?_
  have:=ih (((σ.set "letter" (.str [k6 T p])).set "found" (.olist (acc.map .int++[.int (v:Nat)]))).set "place" (.int ((p+4:Nat):Int))) (p+4) (acc++[(v:Int)]) hd4 (by simp;exact Nat.le_add_right_of_le ha) (by tm_at "n") (by rw[List.map_append];tm_at "n") (by tm_at "n") (by tm_at "n") (by tm_at "n");exact this
 | @octBad d r ho hv=>
  intro σ p acc hT ha h1 h2 h3 h4 h5;refine n5 (g7 hT) fun hp hch hd=> ?_;refine n5 (g7 hd) fun hp1 hch1 hd1=> ?_;have hll:p+r.length+3=T.length:=by
   have:=congrArg List.length hT;rw[List.length_drop] at this;simp at this;exact RU hp1 this
  have htw:((T.drop (p+1)).take 3).takeWhile k8=((d::r).take 3).takeWhile k8:=by rw[hd];exact V3 hqo 3 (d::r)
  have hn3:(((d::r).take 3).takeWhile k8).length<=3:=Nat.le_trans (List.takeWhile_sublist k8).length_le (by simp;exact q4 (by decide));generalize hw':((d::r).take 3).takeWhile k8=w at*;have hoc:w.all k8=true:=by rw[<-hw',List.all_takeWhile]
  have hF1:H8 [.str T,.int ((p+1:Nat):Int)]=.ok (.int ((p+1+w.length:Nat):Int)):=by
   show(if _ then _ else _)=_;rw[if_pos ⟨by exact Nat.le_trans hl (by decide),by omega⟩,show((p+1:Nat):Int).toNat=p+1 from rfl,htw];rfl
  have hsl:j9 T (some ((p+1:Nat):Int)) (some ((p+1+w.length:Nat):Int))=w:=by
   rw[S1,show p+1+w.length-(p+1)=w.length by omega,<-htw];exact jN 3 _
  have hF2:K7 [.str w,.int l]=.err l:=by
   show(if _ then _ else _)=_;rw[if_pos ⟨hn3,hoc,hline⟩,if_pos hv]
  have hqx:k6 T (p+1)≠120:=by rw[hch1];intro z;rw[z] at ho;exact absurd ho (by decide)
  refine .inl (K6 (c9 (by tm_at "e") (by simp;exact oT hll)) (d5.cons (d7 (by tm_at "e") (by decide) (by decide) rfl)
   (d5.err (d8.if0 (c7 (by tm_at "e") (by simp[hch])) (d5.err (d8.if0 (c7 (by tm_at "e") (by simp[hqx])) (d5.err (d8.if1 (c9 (e9 (by tm_at "e") (by tm_at "e") (in_str (by decide)) rfl) (by rw[hch1];exact ho))
    (d5.cons (d7 (v:=.int ((p+1+w.length:Nat):Int)) (by tm_at "e") (by decide) (by decide) rfl) (d5.err (iA (c8.call (v6.cons (hsl▸c8.slice (li:=some ((p+1:Nat):Int)) (hj:=some ((p+1+w.length:Nat):Int)) (by tm_at "v") (by tm_at "e") (by tm_at "e") (Nat.le_trans hl (by decide))) (v6.cons (by tm_at "e") v6.nil)) hoo hF2 rfl rfl rfl) (by tm_at "v") (by decide))))))))))))
 | @oct d r x ho hv O ih=>
  intro σ p acc hT ha h1 h2 h3 h4 h5;refine n5 (g7 hT) fun hp hch hd=> ?_;refine n5 (g7 hd) fun hp1 hch1 hd1=> ?_;have hll:p+r.length+3=T.length:=by
   have:=congrArg List.length hT;rw[List.length_drop] at this;simp at this;exact RU hp1 this
  have htw:((T.drop (p+1)).take 3).takeWhile k8=((d::r).take 3).takeWhile k8:=by rw[hd];exact V3 hqo 3 (d::r)
  have hn3:(((d::r).take 3).takeWhile k8).length<=3:=Nat.le_trans (List.takeWhile_sublist k8).length_le (by simp;exact q4 (by decide));have hnr:(((d::r).take 3).takeWhile k8).length<=r.length+1:=Nat.le_trans (List.takeWhile_sublist k8).length_le (by simp;exact Nat.min_le_right _ _);generalize hw':((d::r).take 3).takeWhile k8=w at*;have hoc:w.all k8=true:=by rw[<-hw',List.all_takeWhile]
  have hF1:H8 [.str T,.int ((p+1:Nat):Int)]=.ok (.int ((p+1+w.length:Nat):Int)):=by
   show(if _ then _ else _)=_;rw[if_pos ⟨by exact Nat.le_trans hl (by decide),by omega⟩,show((p+1:Nat):Int).toNat=p+1 from rfl,htw];rfl
  have hsl:j9 T (some ((p+1:Nat):Int)) (some ((p+1+w.length:Nat):Int))=w:=by
   rw[S1,show p+1+w.length-(p+1)=w.length by omega,<-htw];exact jN 3 _
  have hF2:K7 [.str w,.int l]=.ok (.int (V2 0 w:Nat)):=by
   show(if _ then _ else _)=_;rw[if_pos ⟨hn3,hoc,hline⟩,if_neg (by omega)]
  have hqx:k6 T (p+1)≠120:=by rw[hch1];intro z;rw[z] at ho;exact absurd ho (by decide)
  have hdn:T.drop (p+1+w.length)=(d::r).drop w.length++[q]:=by
   rw[<-List.drop_drop,hd];exact List.drop_append_of_le_length (by simp;omega)
  refine eW (σ2:=(((σ.set "letter" (.str [k6 T p])).set "behind" (.int ((p+1+w.length:Nat):Int))).set "found" (.olist (acc.map .int++[.int (V2 0 w:Nat)]))).set "place" (.int ((p+1+w.length:Nat):Int))) (fun h=>i3 (c9 (by tm_at "e") (by simp;exact oT hll)) (d5.cons (d7 (by tm_at "e") (by decide) (by decide) rfl)
   (d5.cons (d8.if0 (c7 (by tm_at "e") (by simp[hch])) (d5.cons (d8.if0 (c7 (by tm_at "e") (by simp[hqx])) (d5.cons (d8.if1 (c9 (e9 (by tm_at "e") (by tm_at "e") (in_str (by decide)) rfl) (by rw[hch1];exact ho))
    (d5.cons (d7 (v:=.int ((p+1+w.length:Nat):Int)) (by tm_at "e") (by decide) (by decide) rfl) (d5.cons (d8.append (vs:=acc.map .int) (c8.call (v6.cons (hsl▸c8.slice (li:=some ((p+1:Nat):Int)) (hj:=some ((p+1+w.length:Nat):Int)) (by tm_at "v") (by tm_at "e") (by tm_at "e") (Nat.le_trans hl (by decide))) (v6.cons (by tm_at "e") v6.nil)) hoo hF2 rfl rfl rfl) (by tm_at "v") (by decide) rfl (by simp;exact JU ha hp hl (by decide)))
    (d5.cons (d7 (by tm_at "e") (by decide) (by decide) rfl) d5.nil)))) d5.nil)) d5.nil)) d5.nil)) h) ?_
  have:=ih ((((σ.set "letter" (.str [k6 T p])).set "behind" (.int ((p+1+w.length:Nat):Int))).set "found" (.olist (acc.map .int++[.int (V2 0 w:Nat)]))).set "place" (.int ((p+1+w.length:Nat):Int))) (p+1+w.length) (acc++[(V2 0 w:Int)]) hdn (by simp;exact WG ha) (by tm_at "n") (by rw[List.map_append];tm_at "n") (by tm_at "n") (by tm_at "n") (by tm_at "n");exact this
 | @escBad d r hdx ho he=>
  intro σ p acc hT ha h1 h2 h3 h4 h5;refine n5 (g7 hT) fun hp hch hd=> ?_;refine n5 (g7 hd) fun hp1 hch1 hd1=> ?_;have hll:p+r.length+3=T.length:=by
   have:=congrArg List.length hT;rw[List.length_drop] at this;simp at this;exact RU hp1 this
  have hlk:=bI d;rw[he] at hlk;refine .inl (K6 (c9 (by tm_at "e") (by simp;exact oT hll)) (d5.cons (d7 (by tm_at "e") (by decide) (by decide) rfl)
   (d5.err (d8.if0 (c7 (by tm_at "e") (by simp[hch])) (d5.err (d8.if0 (c7 (by tm_at "e") (by simp[hch1,hdx])) (d5.err (d8.if0 (c7 (e9 (by tm_at "e") (by tm_at "e") (in_str (by decide)) rfl) (by rw[hch1];exact ho))
    (d5.err (d8.if1 (c9 (e9 (by tm_at "e") (by tm_at "e") N8 rfl) (by rw[hch1,hlk];rfl)) (d5.err (A9 (by tm_at "v") (by decide) ⟨rfl,rfl⟩ hline))))))))))))
 | @esc d v r x hdx ho he O ih=>
  intro σ p acc hT ha h1 h2 h3 h4 h5;refine n5 (g7 hT) fun hp hch hd=> ?_;refine n5 (g7 hd) fun hp1 hch1 hd1=> ?_;have hll:p+r.length+3=T.length:=by
   have:=congrArg List.length hT;rw[List.length_drop] at this;simp at this;exact RU hp1 this
  have hlk:=bI d;rw[he] at hlk;refine eW (σ2:=((σ.set "letter" (.str [k6 T p])).set "found" (.olist (acc.map .int++[.int (v:Nat)]))).set "place" (.int ((p+2:Nat):Int))) (fun h=>i3 (c9 (by tm_at "e") (by simp;exact oT hll)) (d5.cons (d7 (by tm_at "e") (by decide) (by decide) rfl)
   (d5.cons (d8.if0 (c7 (by tm_at "e") (by simp[hch])) (d5.cons (d8.if0 (c7 (by tm_at "e") (by simp[hch1,hdx])) (d5.cons (d8.if0 (c7 (e9 (by tm_at "e") (by tm_at "e") (in_str (by decide)) rfl) (by rw[hch1];exact ho))
    (d5.cons (d8.if0 (c7 (e9 (by tm_at "e") (by tm_at "e") N8 rfl) (by rw[hch1,hlk];rfl)) d5.nil) (d5.cons (d8.append (vs:=acc.map .int) (v:=.int (v:Nat)) (G6 (by tm_at "v") (by tm_at "e") (lY (by rw[hch1];exact hlk)) rfl) (by tm_at "v") (by decide) rfl (by simp;exact JU ha hp hl (by decide)))
     (d5.cons (M4 (v:=.int 2) (by tm_at "e") (c8.name (g6 (v:=.int (p:Nat)) (by tm_at "n") rfl (by decide))) (by decide) rfl rfl) d5.nil)))) d5.nil)) d5.nil)) d5.nil)) h) ?_
  have:=ih (((σ.set "letter" (.str [k6 T p])).set "found" (.olist (acc.map .int++[.int (v:Nat)]))).set "place" (.int ((p+2:Nat):Int))) (p+2) (acc++[(v:Int)]) hd1 (by simp;exact Nat.le_succ_of_le ha) (by tm_at "n") (by rw[List.map_append];tm_at "n") (by tm_at "n") (by tm_at "n") (by tm_at "n");exact this
end
theorem lZ {b:List Int} (h:b.length<=g9) (h':0<b.length):P2 (.bytes b) (.int 0)=.ok (.int (b.getD 0 0)):=by
 show(if b.length<=g9/\(0:Int)<=0/\(0:Int)<b.length then R.ok (V.int (b.getD (0:Int).toNat 0)) else .stuck)=_;rw[if_pos ⟨h,by omega,by omega⟩];rfl
theorem len_bytes {b:List Int} (h:b.length<=g9):fJ "len" [.bytes b]=.ok (.int b.length):=if_pos h
theorem fK.lt {s:b9} {x:Option (List Nat)} (O:fK s x):(∀c∈s,c<128)-> ∀v,x=some v-> ∀n∈v,n<256:=by
 have step: ∀{y:Option (List Nat)} {a:Nat} {v:List Nat},a<256->(∀v,y=some v-> ∀n∈v,n<256)->y.map (a:: ·)=some v-> ∀n∈v,n<256:=by
  intro y a v ha hy e;cases y with
  |none=>injection e
  |some w=>
   injection e with e;subst e;intro n hn;rcases List.mem_cons.mp hn with rfl|hn
   ·exact ha
   ·exact hy w rfl n hn
 induction O with
 |nil=>intro _ v e n hn;injection e with e;subst e;cases hn
 | @plain c r x hc O ih=>exact fun hs v e=>step (Nat.lt_trans (hs c List.mem_cons_self) (by decide)) (ih fun d hd=>hs d (List.mem_cons_of_mem _ hd)) e
 |bsEnd=>intro _ v e;injection e
 |hexBad _=>intro _ v e;injection e
 | @hex r v x h2 hv O ih=>exact fun hs w e=>step (Nat.lt_succ_of_le (QK hv)) (ih fun d hd=>hs d (List.mem_cons_of_mem _ (List.mem_cons_of_mem _ (List.mem_of_mem_drop hd)))) e
 |octBad _ _=>intro _ v e;injection e
 | @oct d r x ho hv O ih=>exact fun hs w e=>step (Nat.lt_succ_of_le hv) (ih fun d hd=>hs d (List.mem_cons_of_mem _ (List.mem_of_mem_drop hd))) e
 |escBad _ _ _=>intro _ v e;injection e
 | @esc d v r x hdx ho he O ih=>
  refine fun hs w e=>step ?_ (ih fun d hd=>hs d (List.mem_cons_of_mem _ (List.mem_cons_of_mem _ hd))) e;unfold yB at he;repeat (split at he; · injection he with he;subst he;decide)
  injection he
theorem fK.len {s:b9} {x:Option (List Nat)} (O:fK s x): ∀v,x=some v->v.length<=s.length:=by
 have step: ∀{y:Option (List Nat)} {a n m:Nat} {v:List Nat},(∀v,y=some v->v.length<=n)->n+1<=m->y.map (a:: ·)=some v->v.length<=m:=by
  intro y a n m v hy hn e;cases y with
  |none=>injection e
  |some w=>injection e with e;subst e;have:=hy w rfl;simp;exact r51 this hn
 induction O with
 |nil=>intro v e;injection e with e;subst e;simp
 |plain _ _ ih=>exact fun v e=>step ih (by simp) e
 |bsEnd=>intro v e;injection e
 |hexBad _=>intro v e;injection e
 | @hex r v x h2 hv O ih=>exact fun w e=>step ih (by first|(simp;done)|(simp;exact WN)) e
 |octBad _ _=>intro v e;injection e
 | @oct d r x ho hv O ih=>exact fun w e=>step ih (by first|(simp;done)|(simp;omega)) e
 |escBad _ _ _=>intro v e;injection e
 |esc _ _ _ _ ih=>exact fun w e=>step ih (by simp) e
section
variable {g:G} {t:b9}
noncomputable def j8 (T:b9):b9:=(T.drop 1).dropLast
noncomputable def N9 (T:b9):Bool:=decide (2<=T.length) &&decide (T.length<=1000) &&j6 T &&(k6 T (T.length-1)==34||k6 T (T.length-1)==39)
theorem S2 {T:b9}:N9 T=true↔2<=T.length/\T.length<=1000/\j6 T=true/\SD (k6 T (T.length-1)):=by
 unfold N9 SD;simp[and_assoc]
theorem rV {T:b9} (h:N9 T=true):T.drop 1=j8 T++[k6 T (T.length-1)]:=by
 refine f8 (S2.mp h) fun h2 Z=> ?_;have hne:T.drop 1≠[]:=by intro z;have:=congrArg List.length z;simp at this;exact r9 this h2
 have:=List.dropLast_concat_getLast hne;unfold j8;rw[<-this];congr 1
 ·simp
 ·congr 1
  rw[List.getLast_eq_getElem];unfold k6;rw[List.getD_eq_getElem?_getD,List.getElem?_eq_getElem (q52 h2)];simp;congr 1
  exact oj2 h2
noncomputable def E7:List V->R V:=CO fun T l=>
  if N9 T=true/\l.natAbs<1000000 then (match Q7 (j8 T) with|some v=>.ok (.bytes (v.map fun(n:Nat)=>(n:Int)))|none=>.err l) else .stuck
theorem cB {T:b9}:(j8 T).length<=T.length:=by unfold j8;simp;exact WN
theorem nY (hg:N7 g) (hlen:g.fn "len"=none) (hord:g.fn "ord"=none) (hby:g.fn "bytes"=none) (hw:g.fn "whole_of"=some y0) (hoe:g.fn "octal_end"=some H8) (hoo:g.fn "octal_of"=some K7) (vs:List V) (hn:E7 vs≠.stuck):
  g8 g (some "found") s6.sc ["text","line"] s6.body vs (E7 vs):=by
 have hlim:g9=1048576:=rfl;refine C1 (K1 hn) fun T l z4r=> ?_;subst z4r;have hc:=E0 hn;refine l5 (if_pos hc) ?_;refine f8 hc fun hQ hline=> ?_;clear hc;refine Q1 (S2.mp hQ) fun h2 hl hasc hq=> ?_;have hsp:=rV hQ;have e0:d8 g (some "found") s6.sc (List.zip ["text","line"] [.str T,.int l]) (i4 s6.body 0) (.ok (.next,d9.set (d9.set (d9.set (List.zip ["text","line"] [.str T,.int l]) "found" (.olist [])) "place" (.int ((1:Nat):Int))) "end" (.int ((T.length:Int)-1)))):=
  i7 (vs:=[.list [],.int 1,.int ((T.length:Int)-1)]) (by tm_at "e") rfl (by decide) rfl
 have L:=vB hg hlen hord hw hoe hoo hl hasc hq hline (L4 (j8 T)) (d9.set (d9.set (d9.set (List.zip ["text","line"] [.str T,.int l]) "found" (.olist [])) "place" (.int ((1:Nat):Int))) "end" (.int ((T.length:Int)-1))) 1 [] hsp (by simp) (by tm_at "n") (by tm_at "n") (by tm_at "n") (by tm_at "n") (by tm_at "n");have hlt:=(L4 (j8 T)).lt (fun c hc=>by
  unfold j6 at hasc;rw[List.all_eq_true] at hasc;have:c∈T:=List.mem_of_mem_drop (List.dropLast_subset _ hc);simpa using hasc c this)
 have hle:=(L4 (j8 T)).len;have hil:=cB (T:=T);cases hx:Q7 (j8 T) with
 |none=>
  rw[hx] at L;rcases L with L|⟨σ',p',L,g1,g2,g3,hne⟩
  ·exact g8.err rfl (d5.cons e0 (d5.err L))
  ·exact g8.err rfl (d5.cons e0 (d5.cons L (d5.err (d8.if1 (c9 (by tm_at "e") (by simp;omega)) (d5.err (A9 (by tm_at "v") (by decide) ⟨rfl,rfl⟩ hline))))))
 |some v=>
  rw[hx] at L;refine DZ L fun σ' L g0 g1 g2 g3=> ?_;have hv:=hle v hx;have hf:fJ "bytes" [.olist (([]++v.map fun(n:Nat)=>(n:Int)).map V.int)]=.ok (.bytes (v.map fun(n:Nat)=>(n:Int))):=
   CS (by simp;exact VR hv hil hl (by decide)) fun n hn=>by
    refine e8 (List.mem_map.mp hn) fun m hm z3r=> ?_;subst z3r;have:=hlt v hx m hm;omega
  exact g8.ret rfl (d5.cons e0 (d5.cons L (d5.cons (d8.if0 (c7 (by tm_at "e") (by simp)) d5.nil) (d5.ret (d8.ret (v:=.bytes (v.map fun(n:Nat)=>(n:Int))) (c8.bcall (by tm_at "e") hby rfl hf rfl rfl))))))
noncomputable def A7:List V->R V:=CO fun a l=>
  if a.length<=1000/\j6 a=true/\l.natAbs<1000000/\a≠[] then
   (if k6 a 0=39 then (if N9 a=true then (match Q7 (j8 a) with|some [v]=>.ok (.int (v:Nat))|_=>.err l) else .stuck)
    else (match B8 a with|some v=>.ok (.int (v:Nat))|none=>.err l)) else .stuck
theorem iW (hg:N7 g) (hlen:g.fn "len"=none) (hw:g.fn "whole_of"=some y0) (hoi:g.fn "octets_in"=some E7) (vs:List V) (hn:A7 vs≠.stuck):
  g8 g none M5.sc ["atom","line"] M5.body vs (A7 vs):=by
 have hlim:g9=1048576:=rfl;refine C1 (K1 hn) fun a l z2r=> ?_;subst z2r;have hc:=E0 hn;have hn:=UC hc hn;refine l5 (if_pos hc) ?_;refine Q1 hc fun hl hasc hline hne=> ?_;clear hc;have hp:0<a.length:=List.length_pos_iff.mpr hne;by_cases hq:k6 a 0=39
 ·rw[if_pos hq] at hn ⊢;by_cases hQ:N9 a=true
  case neg=>exact absurd (E0 (show(if N9 a=true then _ else _)≠R.stuck from hn)) hQ
  rw[if_pos hQ];have hF:E7 [.str a,.int l]=(match Q7 (j8 a) with|some v=>.ok (.bytes (v.map fun(n:Nat)=>(n:Int)))|none=>.err l):=by
   show(if _ then _ else _)=_;rw[if_pos ⟨hQ,hline⟩]
  have hle:=(L4 (j8 a)).len;have hil:=cB (T:=a);cases hx:Q7 (j8 a) with
  |none=>
   rw[hx] at hF;exact g8.err rfl (d5.err (d8.if1 (c9 (by tm_at "e") (by simp[hq])) (d5.err (U3 (by tm_at "e") (by decide) (by decide)))))
  |some v=>
   rw[hx] at hF;have hv:=hle v hx;have hbl:(v.map fun(n:Nat)=>(n:Int)).length<=g9:=by simp;exact VR hv hil hl (by decide)
   by_cases h1:v.length=1
   ·refine d6 (List.length_eq_one_iff.mp h1) fun n z1r=> ?_;subst z1r;exact g8.ret rfl (d5.ret (σ':=d9.set (List.zip ["atom","line"] [.str a,.int l]) "octets" (.bytes [(n:Int)])) (d8.if1 (c9 (by tm_at "e") (by simp[hq])) (d5.cons (d7 (v:=.bytes [(n:Int)]) (by tm_at "e") (by decide) (by decide) rfl)
     (d5.cons (d8.if0 (c7 (e9 (c8.bcall (by tm_at "e") hlen rfl (len_bytes hbl) rfl rfl) (by tm_at "e") (EJ _ _) rfl) (by simp)) d5.nil) (d5.ret (d8.ret (v:=.int (n:Nat)) (G6 (by tm_at "v") (by tm_at "e") (lZ hbl (by simp)) rfl)))))))
   ·have:(match some v with|some [v]=>R.ok (V.int (v:Nat))|_=>.err l)=.err l:=by
     rcases v with _|⟨n,_|⟨m,r⟩⟩
     ·rfl
     ·exact absurd rfl h1
     ·rfl
    rw[this];exact g8.err rfl (d5.err (d8.if1 (c9 (by tm_at "e") (by simp[hq])) (d5.cons (d7 (v:=.bytes (v.map fun(n:Nat)=>(n:Int))) (by tm_at "e") (by decide) (by decide) rfl)
     (d5.err (d8.if1 (c9 (e9 (c8.bcall (by tm_at "e") hlen rfl (len_bytes hbl) rfl rfl) (by tm_at "e") (EJ _ _) rfl) (by simp;omega)) (d5.err (A9 (by tm_at "v") (by decide) ⟨rfl,rfl⟩ hline)))))))
 ·rw[if_neg hq];have hF:y0 [.str a,.int l]=(match B8 a with|some v=>.ok (.int (v:Nat))|none=>.err l):=by
   show(if _ then _ else _)=_;rw[if_pos ⟨hl,hasc,hline⟩]<;>cases B8 a<;>rfl
  have e0:d8 g none M5.sc (List.zip ["atom","line"] [.str a,.int l]) (i4 M5.body 0) (.ok (.next,List.zip ["atom","line"] [.str a,.int l])):=d8.if0 (c7 (by tm_at "e") (by simp[hq])) d5.nil;cases hx:B8 a with
  |none=>
   rw[hx] at hF;exact g8.err rfl (d5.cons e0 (d5.err (uP (by tm_at "e"))))
  |some v=>
   rw[hx] at hF;exact g8.ret rfl (d5.cons e0 (d5.ret (d8.ret (v:=.int (v:Nat)) (by tm_at "e"))))
end
noncomputable def iC:b9->Option Nat
 |[]=>none
 |c::r=>if c=39 then (s8 39 r).map (· +1) else if E1 c then some ((c::r).takeWhile E1).length else none
theorem Z0 (c:Nat) (r:b9):iC (c::r)=if c=39 then (s8 39 r).map (· +1) else if E1 c then some ((c::r).takeWhile E1).length else none:=rfl
theorem bJ {s:b9} {n:Nat} (h:iC s=some n):1<=n/\n<=s.length:=by
 cases s with
 |nil=>injection h
 |cons c r=>
  rw[Z0] at h;split at h
  ·cases hq:s8 39 r with
   |none=>rw[hq] at h;injection h
   |some k=>rw[hq] at h;injection h with h;subst h;have:=O9 hq;simp;omega
  split at h
  ·rename_i hn;injection h with h;subst h;refine⟨?_,(List.takeWhile_sublist _).length_le⟩;rw[List.takeWhile_cons,hn];simp
  ·injection h
section
variable {g:G} {t:b9}
theorem CT (hg:N7 g) (hlen:g.fn "len"=none) (hl:t.length<=5000) {k:Nat} {l:Int}: ∀(m:Nat) (σ:d9) (e:Nat),t.length-e<=m->e<=t.length->σ.get "text"=some (.str t)->σ.get "end"=some (.int (e:Nat))->σ.get "place"=some (.int (k:Nat))->σ.get "line"=some (.int l)->
  ∃σ',d8 g none D9.sc σ (i4 D9.body 2) (.ok (.next,σ'))/\σ'.get "end"=some (.int ((e+((t.drop e).takeWhile E1).length:Nat):Int))/\σ'.get "place"=some (.int (k:Nat))/\σ'.get "line"=some (.int l):=by
 intro m;have hlim:g9=1048576:=rfl;induction m with
 |zero=>
  intro σ e hm he h1 h2 h3 h4;refine⟨σ,i0 (c7 (j2 (J0.cons (b1:=false) (b2:=true) (c7 (by tm_at "e") (by simp;exact r19 hm)) fun h=>by injection h)) rfl),?_,h3,h4⟩;rw[h2,List.drop_eq_nil_of_le (r19 hm)];simp
 |succ m ih=>
  intro σ e hm he h1 h2 h3 h4;by_cases hlt:e<t.length
  case neg=>
   refine⟨σ,i0 (c7 (j2 (J0.cons (b1:=false) (b2:=true) (c7 (by tm_at "e") (by simp;exact Nat.le_of_not_lt hlt)) fun h=>by injection h)) rfl),?_,h3,h4⟩;rw[h2,List.drop_eq_nil_of_le (Nat.le_of_not_lt hlt)];simp
  have hT:c8 g D9.sc σ true (sE (i4 D9.body 2)) (.ok (.bool (decide ((e:Int)<(t.length:Int)) &&E1 (k6 t e)))):=
   j2 (J0.cons (by tm_at "e") fun Z=>J0.one (e9 (by tm_at "e") (by tm_at "e") (in_str (by decide)) rfl))
  rw[show decide ((e:Int)<(t.length:Int))=true by simp;omega,Bool.true_and] at hT;rw[C3 hlt,List.takeWhile_cons];cases hn:E1 (k6 t e) with
  |false=>
   rw[hn] at hT;exact⟨σ,i0 hT,by rw[h2];simp,h3,h4⟩
  |true=>
   rw[hn] at hT;refine iK (ih (σ.set "end" (.int ((e+1:Nat):Int))) (e+1) (JV hm) (Nat.succ_le_of_lt hlt) (by tm_at "n") (by tm_at "n") (by tm_at "n") (by tm_at "n")) fun σ' x1 x2 x3 x4=> ?_;refine⟨σ',i3 hT (d5.cons (M4 (v:=.int 1) (by tm_at "e") (by tm_at "e") (by decide) rfl rfl) d5.nil) x1,?_,x3,x4⟩;rw[x2];simp;exact RW
noncomputable def K8:List V->R V:=QI fun t p l=>
  if t.length<=5000/\0<=p/\p<t.length/\l.natAbs<1000000 then (match iC (t.drop p.toNat) with|some n=>.ok (.int (p+n))|none=>.err l) else .stuck
theorem rW (hg:N7 g) (hlen:g.fn "len"=none) (hqe:g.fn "quoted_end"=some t9) (vs:List V) (hn:K8 vs≠.stuck):g8 g none D9.sc ["text","place","line"] D9.body vs (K8 vs):=by
 have hlim:g9=1048576:=rfl;refine wR (uU hn) fun t p l z4r=> ?_;subst z4r;have hc:=E0 hn;refine l5 (if_pos hc) ?_;refine Q1 hc fun hl hp0 hp hline=> ?_;clear hc;refine d6 (Int.eq_ofNat_of_zero_le hp0) fun k z3r=> ?_;subst z3r;have hk:k<t.length:=by omega
 rw[show((k:Int)).toNat=k from rfl,C3 hk,Z0];by_cases hq:k6 t k=39
 ·rw[if_pos hq];have hF:t9 [.str t,.int k,.int l]=(match s8 39 (t.drop (k+1)) with|some n=>.ok (.int ((k:Int)+1+n))|none=>.err l):=by
   show(if _ then _ else _)=_;rw[if_pos ⟨hl,by omega,by omega,hline⟩,show((k:Int)).toNat=k from rfl,hq]<;>cases s8 39 (t.drop (k+1))<;>rfl
  cases hs:s8 39 (t.drop (k+1)) with
  |none=>
   rw[hs] at hF;exact g8.err rfl (d5.err (d8.if1 (c9 (by tm_at "e") (by simp[hq])) (d5.err (uP (by tm_at "e")))))
  |some n=>
   rw[hs] at hF;refine g8.ret rfl (d5.ret (σ':=List.zip ["text","place","line"] [.str t,.int k,.int l]) (d8.if1 (c9 (by tm_at "e") (by simp[hq])) (d5.ret (d8.ret (v:=.int ((k:Int)+((n+1:Nat):Int))) ?_))));exact c8.to (c8.call (by tm_at "e") hqe hF rfl rfl rfl) (by show R.ok (V.int ((k:Int)+1+(n:Int)))=_;rw[show(k:Int)+1+(n:Int)=(k:Int)+((n+1:Nat):Int) by exact r41])
 rw[if_neg hq];have e0:d8 g none D9.sc (List.zip ["text","place","line"] [.str t,.int k,.int l]) (i4 D9.body 0) (.ok (.next,List.zip ["text","place","line"] [.str t,.int k,.int l])):=d8.if0 (c7 (by tm_at "e") (by simp[hq])) d5.nil;have e1:d8 g none D9.sc (List.zip ["text","place","line"] [.str t,.int k,.int l]) (i4 D9.body 1) (.ok (.next,d9.set (List.zip ["text","place","line"] [.str t,.int k,.int l]) "end" (.int (k:Nat)))):=d7 (c8.name (g6 (v:=.int k) rfl rfl (by decide))) (by decide) (by decide) rfl;refine iK (CT hg hlen hl (k:=k) (l:=l) t.length (d9.set (List.zip ["text","place","line"] [.str t,.int k,.int l]) "end" (.int (k:Nat))) k (Nat.sub_le _ _) (Nat.le_of_lt hk) (by tm_at "n") (by tm_at "n") (by tm_at "n") (by tm_at "n")) fun σ' x1 x2 x3 x4=> ?_;rw[C3 hk] at x2;cases hnm:E1 (k6 t k) with
 |false=>
  rw[if_neg (by decide)];rw[List.takeWhile_cons,hnm] at x2;have x2:σ'.get "end"=some (.int (k:Nat)):=x2;exact g8.err rfl (d5.cons e0 (d5.cons e1 (d5.cons x1 (d5.err (d8.if1 (c9 (by tm_at "e") (by simp)) (d5.err (A9 (by tm_at "v") (by decide) ⟨rfl,rfl⟩ hline)))))))
 |true=>
  rw[if_pos rfl];have hpos:1<=((k6 t k::t.drop (k+1)).takeWhile E1).length:=by rw[List.takeWhile_cons,hnm];simp
  generalize ((k6 t k::t.drop (k+1)).takeWhile E1).length=n at*;exact g8.ret rfl (d5.cons e0 (d5.cons e1 (d5.cons x1 (d5.cons (d8.if0 (c7 (by tm_at "e") (by simp;omega)) d5.nil) (d5.ret (d8.ret (v:=.int ((k+n:Nat):Int)) (by tm_at "e")))))))
inductive At:Int->Bool->b9->Option (List (Int×b9))->Prop
 |fin {s:Int}:At s false [] (some [])
 |open_ {s:Int}:At s true [] none
 |sgn {s:Int} {w:Bool} {c:Nat} {r:b9} {x:Option (List (Int×b9))}:(c=43\/c=45)->At (if c=45 then -(if w then s else 1) else (if w then s else 1)) true r x->At s w (c::r) x
 |sp {s:Int} {w:Bool} {r:b9} {x:Option (List (Int×b9))}:At s w r x->At s w (32::r) x
 |two {s:Int} {c:Nat} {r:b9}:c≠43->c≠45->c≠32->At s false (c::r) none
 |bad {s:Int} {c:Nat} {r:b9}:c≠43->c≠45->c≠32->iC (c::r)=none->At s true (c::r) none
 |atom {s:Int} {c n:Nat} {r:b9} {x:Option (List (Int×b9))}:c≠43->c≠45->c≠32->iC (c::r)=some n->At 1 false ((c::r).drop n) x->At s true (c::r) (x.map ((s,(c::r).take n):: ·))
theorem At.ex: ∀(n:Nat) (t:b9) (s:Int) (w:Bool),t.length<=n-> ∃x,At s w t x
 |_,[],s,w,_=>by cases w<;>exact⟨_,by constructor⟩
 |0,c::r,_,_,h=>by simp at h
 |n+1,c::r,s,w,h=>by
  rw[List.length_cons] at h;by_cases h1:c=43
  ·obtain⟨x,hx⟩:=At.ex n r _ true (by omega);exact⟨x,.sgn (.inl h1) hx⟩
  by_cases h2:c=45
  ·obtain⟨x,hx⟩:=At.ex n r _ true (by omega);exact⟨x,.sgn (.inr h2) hx⟩
  by_cases h3:c=32
  ·subst h3;refine d6 (At.ex n r s w (by omega)) fun x hx=> ?_;exact⟨x,.sp hx⟩
  cases w with
  |false=>exact⟨_,.two h1 h2 h3⟩
  |true=>
   cases ha:iC (c::r) with
   |none=>exact⟨_,.bad h1 h2 h3 ha⟩
   |some k=>
    have:=bJ ha;refine d6 (At.ex n ((c::r).drop k) 1 false (by simp;exact r20 h this)) fun x hx=> ?_;exact⟨_,.atom h1 h2 h3 ha hx⟩
noncomputable def y5 (t:b9):Option (List (Int×b9)):=Classical.choose (At.ex t.length t 1 true (Nat.le_refl _))
theorem L5 (t:b9):At 1 true t (y5 t):=Classical.choose_spec (At.ex t.length t 1 true (Nat.le_refl _))
noncomputable def w7 (p:Int×b9):V:=.tup [.int p.1,.str p.2]
noncomputable def vC (g:G) (T:b9) (l:Int) (σ:d9) (acc:List (Int×b9)):Option (List (Int×b9))->Prop
 |none=>d8 g (some "found") v2.sc σ (i4 v2.body 1) (.err l)\/ ∃(σ':d9),d8 g (some "found") v2.sc σ (i4 v2.body 1) (.ok (.next,σ'))/\σ'.get "wanted"=some (.bool true)/\σ'.get "line"=some (.int l)
 |some v=> ∃(σ':d9),d8 g (some "found") v2.sc σ (i4 v2.body 1) (.ok (.next,σ'))/\σ'.get "found"=some (.olist ((acc++v).map w7))/\σ'.get "wanted"=some (.bool false)
theorem jO {T:b9} {l:Int} {σ σ2:d9} {acc:List (Int×b9)} {x:Option (List (Int×b9))} (step: ∀{u:R (Fl×d9)},d8 g (some "found") v2.sc σ2 (i4 v2.body 1) u->d8 g (some "found") v2.sc σ (i4 v2.body 1) u)
  (h:vC g T l σ2 acc x):vC g T l σ acc x:=by
 cases x with
 |none=>
  rcases h with h|⟨σ',h,r⟩
  ·exact .inl (step h)
  ·exact .inr ⟨σ',step h,r⟩
 |some w=>refine e8 h fun σ' h r=> ?_;exact⟨σ',step h,r⟩
theorem MA {T:b9} {l:Int} {σ:d9} {acc:List (Int×b9)} {x:Option (List (Int×b9))} {v:Int×b9} (h:vC g T l σ (acc++[v]) x):vC g T l σ acc (x.map (v:: ·)):=by
 cases x with
 |none=>exact h
 |some w=>refine s5 h fun σ' h h2 r=> ?_;exact⟨σ',h,by rw[h2];simp,r⟩
theorem yD (hg:N7 g) (hlen:g.fn "len"=none) (hae:g.fn "atom_end"=some K8) {T:b9} (hl:T.length<=5000) {l:Int} (hline:l.natAbs<1000000) {s:Int} {w:Bool} {t:b9} {x:Option (List (Int×b9))} (A:At s w t x):
  (w=false->s=1)-> ∀(σ:d9) (p:Nat) (acc:List (Int×b9)),p<=T.length->T.drop p=t->acc.length<=p->σ.get "text"=some (.str T)->σ.get "found"=some (.olist (acc.map w7))->σ.get "sign"=some (.int s)->σ.get "place"=some (.int (p:Nat))->σ.get "wanted"=some (.bool w)->σ.get "line"=some (.int l)->
  vC g T l σ acc x:=by
 have hlim:g9=1048576:=rfl;induction A with
 |fin=>
  intro _ σ p acc hp hT ha h1 h2 h3 h4 h5 h6;have hpe:T.length<=p:=by
   have:=congrArg List.length hT;simp at this;exact Nat.le_of_sub_eq_zero this
  exact⟨σ,i0 (c7 (by tm_at "e") (by simp;omega)),by rw[h2];simp,h5⟩
 |open_=>
  intro _ σ p acc hp hT ha h1 h2 h3 h4 h5 h6;have hpe:T.length<=p:=by
   have:=congrArg List.length hT;simp at this;exact Nat.le_of_sub_eq_zero this
  exact .inr ⟨σ,i0 (c7 (by tm_at "e") (by simp;omega)),h5,h6⟩
 | @sgn s w c r x hc A ih=>
  intro hw σ p acc hp hT ha h1 h2 h3 h4 h5 h6;refine n5 (g7 hT) fun hlt hch hd=> ?_;have hin:([43,45]:b9).contains (k6 T p)=true:=by rw[hch];rcases hc with rfl|rfl<;>rfl
  cases w with
  |true=>
   simp only[if_true] at A ih;refine jO (σ2:=((σ.set "letter" (.str [k6 T p])).set "sign" (.int (if c=45 then -s else s))).set "place" (.int ((p+1:Nat):Int))) (fun h=>i3 (c9 (by tm_at "e") (by simp;omega)) (d5.cons (d7 (by tm_at "e") (by decide) (by decide) rfl)
    (d5.cons (d8.if1 (c9 (by tm_at "e") hin) (d5.cons (d8.if0 (c7 (by tm_at "e") (by exact rfl)) d5.nil) (d5.cons (d7 (v:=.int (if c=45 then -s else s)) (c8.to (by tm_at "e") (by rw[hch];by_cases h45:c=45<;>simp[h45])) (by decide) (by decide) rfl) (d5.cons (M4 (v:=.int 1) (by tm_at "e") (c8.name (g6 (v:=.int (p:Nat)) (by tm_at "n") rfl (by decide))) (by decide) rfl rfl) d5.nil)))) d5.nil)) h) ?_
   exact ih (fun z=>by injection z) (((σ.set "letter" (.str [k6 T p])).set "sign" (.int (if c=45 then -s else s))).set "place" (.int ((p+1:Nat):Int))) (p+1) acc (Nat.succ_le_of_lt hlt) hd (Nat.le_succ_of_le ha) (by tm_at "n") (by tm_at "n") (by tm_at "n") (by tm_at "n") (by tm_at "n") (by tm_at "n")
  |false=>
   simp only[Bool.false_eq_true,if_false] at A ih;refine jO (σ2:=((((σ.set "letter" (.str [k6 T p])).set "sign" (.int 1)).set "wanted" (.bool true)).set "sign" (.int (if c=45 then -1 else 1))).set "place" (.int ((p+1:Nat):Int))) (fun h=>i3 (c9 (by tm_at "e") (by simp;omega)) (d5.cons (d7 (by tm_at "e") (by decide) (by decide) rfl)
    (d5.cons (d8.if1 (c9 (by tm_at "e") hin) (d5.cons (d8.if1 (c9 (by tm_at "e") (by exact rfl)) (d5.cons (i7 (vs:=[.int 1,.bool true]) (by tm_at "e") rfl (by decide) rfl) d5.nil)) (d5.cons (d7 (v:=.int (if c=45 then -1 else 1)) (c8.to (by tm_at "e") (by rw[hch];by_cases h45:c=45<;>simp[h45])) (by decide) (by decide) rfl) (d5.cons (M4 (v:=.int 1) (by tm_at "e") (c8.name (g6 (v:=.int (p:Nat)) (by tm_at "n") rfl (by decide))) (by decide) rfl rfl) d5.nil)))) d5.nil)) h) ?_
   exact ih (fun z=>by injection z) (((((σ.set "letter" (.str [k6 T p])).set "sign" (.int 1)).set "wanted" (.bool true)).set "sign" (.int (if c=45 then -1 else 1))).set "place" (.int ((p+1:Nat):Int))) (p+1) acc (Nat.succ_le_of_lt hlt) hd (Nat.le_succ_of_le ha) (by tm_at "n") (by tm_at "n") (by tm_at "n") (by tm_at "n") (by tm_at "n") (by tm_at "n")
 | @sp s w r x A ih=>
  intro hw σ p acc hp hT ha h1 h2 h3 h4 h5 h6;refine n5 (g7 hT) fun hlt hch hd=> ?_;refine jO (σ2:=(σ.set "letter" (.str [k6 T p])).set "place" (.int ((p+1:Nat):Int))) (fun h=>i3 (c9 (by tm_at "e") (by simp;omega)) (d5.cons (d7 (by tm_at "e") (by decide) (by decide) rfl)
   (d5.cons (d8.if0 (c7 (by tm_at "e") (by rw[hch];rfl)) (d5.cons (d8.if1 (c9 (by tm_at "e") (by simp[hch])) (d5.cons (M4 (v:=.int 1) (by tm_at "e") (c8.name (g6 (v:=.int (p:Nat)) (by tm_at "n") rfl (by decide))) (by decide) rfl rfl) d5.nil)) d5.nil)) d5.nil)) h) ?_
  exact ih hw ((σ.set "letter" (.str [k6 T p])).set "place" (.int ((p+1:Nat):Int))) (p+1) acc (Nat.succ_le_of_lt hlt) hd (Nat.le_succ_of_le ha) (by tm_at "n") (by tm_at "n") (by tm_at "n") (by tm_at "n") (by tm_at "n") (by tm_at "n")
 | @two s c r c1 c2 c3=>
  intro hw σ p acc hp hT ha h1 h2 h3 h4 h5 h6;refine n5 (g7 hT) fun hlt hch hd=> ?_;have hin:([43,45]:b9).contains (k6 T p)=false:=by rw[hch];simp[c1,c2]
  exact .inl (K6 (c9 (by tm_at "e") (by simp;omega)) (d5.cons (d7 (by tm_at "e") (by decide) (by decide) rfl)
   (d5.err (d8.if0 (c7 (by tm_at "e") hin) (d5.err (d8.if0 (c7 (by tm_at "e") (by simp[hch,c3])) (d5.err (d8.if1 (c9 (by tm_at "e") (by exact rfl)) (d5.err (A9 (by tm_at "v") (by decide) ⟨rfl,rfl⟩ hline))))))))))
 | @bad s c r c1 c2 c3 hbad=>
  intro hw σ p acc hp hT ha h1 h2 h3 h4 h5 h6;refine n5 (g7 hT) fun hlt hch hd=> ?_;have hin:([43,45]:b9).contains (k6 T p)=false:=by rw[hch];simp[c1,c2]
  have hF:K8 [.str T,.int p,.int l]=.err l:=by
   show(if _ then _ else _)=_;rw[if_pos ⟨hl,by omega,by omega,hline⟩,show((p:Int)).toNat=p from rfl,hT,hbad]
  exact .inl (K6 (c9 (by tm_at "e") (by simp;omega)) (d5.cons (d7 (by tm_at "e") (by decide) (by decide) rfl)
   (d5.err (d8.if0 (c7 (by tm_at "e") hin) (d5.err (d8.if0 (c7 (by tm_at "e") (by simp[hch,c3])) (d5.err (d8.if0 (c7 (by tm_at "e") (by exact rfl)) (d5.err (U3 (by tm_at "e") (by decide) (by decide)))))))))))
 | @atom s c n r x c1 c2 c3 hat A ih=>
  intro hw σ p acc hp hT ha h1 h2 h3 h4 h5 h6;refine n5 (g7 hT) fun hlt hch hd=> ?_;refine f8 (bJ hat) fun n1 n2=> ?_;have hin:([43,45]:b9).contains (k6 T p)=false:=by rw[hch];simp[c1,c2]
  have hpn:p+n<=T.length:=by
   have:=congrArg List.length hT;rw[List.length_drop] at this;exact VO hlt n2 this
  have hF:K8 [.str T,.int p,.int l]=.ok (.int ((p+n:Nat):Int)):=by
   show(if _ then _ else _)=_;rw[if_pos ⟨hl,by omega,by omega,hline⟩,show((p:Int)).toNat=p from rfl,hT,hat];rfl
  have hsl:j9 T (some (p:Int)) (some ((p+n:Nat):Int))=(c::r).take n:=by
   rw[bF (by omega) hpn,hT,show p+n-p=n by omega]
  have hdn:T.drop (p+n)=(c::r).drop n:=by rw[<-List.drop_drop,hT]
  refine MA (jO (σ2:=(((((σ.set "letter" (.str [k6 T p])).set "end" (.int ((p+n:Nat):Int))).set "found" (.olist (acc.map w7++[.tup [.int s,.str ((c::r).take n)]]))).set "sign" (.int 1)).set "place" (.int ((p+n:Nat):Int))).set "wanted" (.bool false)) (fun h=>i3 (c9 (by tm_at "e") (by simp;omega)) (d5.cons (d7 (by tm_at "e") (by decide) (by decide) rfl)
   (d5.cons (d8.if0 (c7 (by tm_at "e") hin) (d5.cons (d8.if0 (c7 (by tm_at "e") (by simp[hch,c3])) (d5.cons (d8.if0 (c7 (by tm_at "e") (by exact rfl)) (d5.cons (d7 (v:=.int ((p+n:Nat):Int)) (by tm_at "e") (by decide) (by decide) rfl)
    (d5.cons (d8.append (vs:=acc.map w7) (v:=.tup [.int s,.str ((c::r).take n)]) (c8.tup (v6.cons (by tm_at "e") (v6.cons (hsl▸c8.slice (li:=some (p:Int)) (hj:=some ((p+n:Nat):Int)) (by tm_at "v") (by tm_at "e") (by tm_at "e") (Nat.le_trans hl (by decide))) v6.nil)) rfl (by show 2<=g9;decide)) (by tm_at "v") (by decide) rfl (by simp;exact JU ha hlt hl (by decide)))
    (d5.cons (i7 (vs:=[.int 1,.int ((p+n:Nat):Int),.bool false]) (by tm_at "e") rfl (by decide) rfl) d5.nil)))) d5.nil)) d5.nil)) d5.nil)) h) ?_)
  exact ih (fun Z=>rfl) ((((((σ.set "letter" (.str [k6 T p])).set "end" (.int ((p+n:Nat):Int))).set "found" (.olist (acc.map w7++[.tup [.int s,.str ((c::r).take n)]]))).set "sign" (.int 1)).set "place" (.int ((p+n:Nat):Int))).set "wanted" (.bool false)) (p+n) (acc++[(s,(c::r).take n)]) hpn hdn (by simp;exact Nat.add_le_add ha n1)
   (by tm_at "n") (by rw[List.map_append];tm_at "n") (by tm_at "n") (by tm_at "n") (by tm_at "n") (by tm_at "n")
noncomputable def H9:List V->R V:=CO fun t l=>
  if t.length<=5000/\l.natAbs<1000000 then (match y5 t with|some as=>.ok (.list (as.map w7))|none=>.err l) else .stuck
theorem rX (hg:N7 g) (hlen:g.fn "len"=none) (hae:g.fn "atom_end"=some K8) (vs:List V) (hn:H9 vs≠.stuck):g8 g (some "found") v2.sc ["text","line"] v2.body vs (H9 vs):=by
 have hlim:g9=1048576:=rfl;refine C1 (K1 hn) fun t l z2r=> ?_;subst z2r;have hc:=E0 hn;refine l5 (if_pos hc) ?_;refine f8 hc fun hl hline=> ?_;clear hc;have e0:d8 g (some "found") v2.sc (List.zip ["text","line"] [.str t,.int l]) (i4 v2.body 0) (.ok (.next,d9.set (d9.set (d9.set (d9.set (List.zip ["text","line"] [.str t,.int l]) "found" (.olist [])) "sign" (.int 1)) "place" (.int ((0:Nat):Int))) "wanted" (.bool true))):=
  i7 (vs:=[.list [],.int 1,.int 0,.bool true]) (by tm_at "e") rfl (by decide) rfl
 have L:=yD hg hlen hae hl hline (L5 t) (fun z=>by injection z) (d9.set (d9.set (d9.set (d9.set (List.zip ["text","line"] [.str t,.int l]) "found" (.olist [])) "sign" (.int 1)) "place" (.int ((0:Nat):Int))) "wanted" (.bool true)) 0 [] (by omega) (by simp) (by simp) (by tm_at "n") (by tm_at "n") (by tm_at "n") (by tm_at "n") (by tm_at "n") (by tm_at "n");cases hx:y5 t with
 |none=>
  rw[hx] at L;rcases L with L|⟨σ',L,g1,g2⟩
  ·exact g8.err rfl (d5.cons e0 (d5.err L))
  ·exact g8.err rfl (d5.cons e0 (d5.cons L (d5.err (d8.if1 (c9 (by tm_at "e") (by exact rfl)) (d5.err (A9 (by tm_at "v") (by decide) ⟨rfl,rfl⟩ hline))))))
 |some v=>
  rw[hx] at L;refine s5 L fun σ' L g0 g1=> ?_;exact g8.ret rfl (d5.cons e0 (d5.cons L (d5.cons (d8.if0 (c7 (by tm_at "e") (by exact rfl)) d5.nil) (d5.ret (d8.ret (v:=.olist (v.map w7)) (by tm_at "e"))))))
theorem HM {sc:Scope} {opn:Option Str} {σ:d9} {tg it:Expr} {b:List Stmt} {p:Pos} {l:Int} (h:c8 g sc σ false it (.err l)) (ht:dQ sc opn tg=true):d8 g opn sc σ (.For tg it b [] p) (.err l):=by
 refine d6 h fun N h=> ?_;refine⟨N+1,fun n=> ?_⟩;show(if dQ sc opn tg=true then (ev g (n+N) false sc σ it).bind fun iv=>(s9 iv).bind fun items=>
    tC (fun σ v=>(t7 σ tg v).bind fun σ'=>D2 (ex g opn sc (n+N)) σ' b) σ items else .stuck)=_
 rw[if_pos ht,h n];rfl
noncomputable def K9 (a:b9):Bool:=a==[46]||(G7 a||B6 a)
theorem iD (hg:N7 g) (hin:g.fn "is_name"=some E2) (hil:g.fn "is_local"=some H7): ∀(as:List (Int×b9)) (σ:d9),(∀p∈as,p.2.length<=5000)->
  (as.any (fun p=>K9 p.2)=true-> ∃σ',P7 g none l9.sc σ (V1 (i4 l9.body 0)) (sB (i4 l9.body 0)) (as.map w7) (.ok (.ret (.bool true),σ')))/\
  (as.any (fun p=>K9 p.2)=false-> ∃σ',P7 g none l9.sc σ (V1 (i4 l9.body 0)) (sB (i4 l9.body 0)) (as.map w7) (.ok (.next,σ')))
 |[],σ,_=>⟨fun z=>by simp at z,fun Z=>⟨σ,P7.nil⟩⟩
 |(s,a)::r,σ,h=>by
  have hlim:g9=1048576:=rfl;refine f8 (iD hg hin hil r ((σ.set "sign" (.int s)).set "atom" (.str a)) (fun p hp=>h p (List.mem_cons_of_mem _ hp))) fun i1 i2=> ?_;have hla:=h (s,a) List.mem_cons_self;have hb:t7 σ (V1 (i4 l9.body 0)) (w7 (s,a))=.ok ((σ.set "sign" (.int s)).set "atom" (.str a)):=rfl;have hF1:E2 [.str a]=.ok (.bool (G7 a)):=if_pos hla;have hF2:H7 [.str a]=.ok (.bool (B6 a)):=if_pos hla;have hT:c8 g l9.sc ((σ.set "sign" (.int s)).set "atom" (.str a)) true (sE (i4 (sB (i4 l9.body 0)) 0)) (.ok (.bool (K9 a))):=
   C2 (aA.cons (by tm_at "e") fun Z=>aA.cons (G0 (by tm_at "e") (N4 _)) fun Z=>aA.one (G0 (by tm_at "e") (N4 _)))
  rw[List.any_cons];cases hp:K9 a with
  |true=>
   rw[hp] at hT;refine⟨fun Z=>⟨_,P7.ret hb (d5.ret (d8.if1 hT (d5.ret (d8.ret (v:=.bool true) (by tm_at "e")))))⟩,fun z=>by simp[hp] at z⟩
  |false=>
   rw[hp] at hT;have st:d5 g none l9.sc ((σ.set "sign" (.int s)).set "atom" (.str a)) (sB (i4 l9.body 0)) (.ok (.next,(σ.set "sign" (.int s)).set "atom" (.str a))):=d5.cons (d8.if0 hT d5.nil) d5.nil;refine⟨fun z=> ?_,fun z=> ?_⟩
   ·refine d6 (i1 (by simpa[hp] using z)) fun σ' x=> ?_;exact⟨σ',P7.cons hb st x⟩
   ·refine d6 (i2 (by simpa[hp] using z)) fun σ' x=> ?_;exact⟨σ',P7.cons hb st x⟩
theorem At.le {s:Int} {w:Bool} {t:b9} {x:Option (List (Int×b9))} (A:At s w t x): ∀v,x=some v->v.length<=t.length/\ ∀p∈v,p.2.length<=t.length/\p.2≠[]:=by
 induction A with
 |fin=>intro v e;injection e with e;subst e;simp
 |open_=>intro v e;injection e
 |sgn _ _ ih=>intro v e;refine f8 (ih v e) fun a b=> ?_;exact⟨by simp;exact Nat.le_succ_of_le a,fun p hp=>⟨by have:=(b p hp).1;simp;exact Nat.le_succ_of_le this,(b p hp).2⟩⟩
 |sp _ ih=>intro v e;refine f8 (ih v e) fun a b=> ?_;exact⟨by simp;exact Nat.le_succ_of_le a,fun p hp=>⟨by have:=(b p hp).1;simp;exact Nat.le_succ_of_le this,(b p hp).2⟩⟩
 |two _ _ _=>intro v e;injection e
 |bad _ _ _ _=>intro v e;injection e
 | @atom s c n r x c1 c2 c3 hat A ih=>
  intro v e;refine f8 (bJ hat) fun n1 n2=> ?_;cases x with
  |none=>injection e
  |some w=>
   injection e with e;subst e;refine f8 (ih w rfl) fun a b=> ?_;rw[List.length_drop] at a;refine⟨by simp at a ⊢;exact q64 a n1,fun p hp=> ?_⟩;rcases List.mem_cons.mp hp with rfl|hp
   ·refine⟨by simp;exact Nat.min_le_right _ _,?_⟩;obtain⟨k,rfl⟩: ∃k,n=k+1:=⟨n-1,by exact on1 n1⟩;simp
   ·have:=(b p hp).1;rw[List.length_drop] at this;exact⟨by exact q63 this,(b p hp).2⟩
noncomputable def G1:List V->R V:=CO fun t l=>
  if t.length<=5000/\l.natAbs<1000000 then (match y5 t with|some as=>.ok (.bool (as.any fun p=>K9 p.2))|none=>.err l) else .stuck
theorem iX (hg:N7 g) (hao:g.fn "atoms_of"=some H9) (hin:g.fn "is_name"=some E2) (hil:g.fn "is_local"=some H7) (vs:List V) (hn:G1 vs≠.stuck):g8 g none l9.sc ["text","line"] l9.body vs (G1 vs):=by
 have hlim:g9=1048576:=rfl;refine C1 (K1 hn) fun t l z1r=> ?_;subst z1r;have hc:=E0 hn;refine l5 (if_pos hc) ?_;refine f8 hc fun hl hline=> ?_;clear hc;have hF:H9 [.str t,.int l]=(match y5 t with|some as=>.ok (.list (as.map w7))|none=>.err l):=by
  show(if _ then _ else _)=_;rw[if_pos ⟨hl,hline⟩]
 have hle:=(L5 t).le;cases hx:y5 t with
 |none=>
  rw[hx] at hF;exact g8.err rfl (d5.err (HM (by tm_at "e") rfl))
 |some as=>
  rw[hx] at hF;refine f8 (hle as hx) fun l1 l2=> ?_;have hit:s9 (.list (as.map w7))=.ok (as.map w7):=if_pos (by simp;exact DS l1 hl (by decide));refine f8 (iD hg hin hil as (List.zip ["text","line"] [.str t,.int l]) (fun p hp=>by have:=(l2 p hp).1;exact Nat.le_trans this hl)) fun i1 i2=> ?_;show g8 g none _ _ _ _ (.ok (.bool (as.any fun p=>K9 p.2)));cases hp:as.any (fun p=>K9 p.2) with
  |true=>
   refine d6 (i1 hp) fun σ' x=> ?_;exact g8.ret rfl (d5.ret (H4 (by tm_at "e") hit rfl x))
  |false=>
   refine d6 (i2 hp) fun σ' x=> ?_;exact g8.ret rfl (d5.cons (H4 (by tm_at "e") hit rfl x) (d5.ret (d8.ret (v:=.bool false) (by tm_at "e"))))
end
theorem J2 {a:b9} {l:List b9} (h:l.length<=g9):w9 .In (.str a) (.list (l.map V.str))=.ok (l.contains a):=by
 rw[PA];show(if (l.map V.str).length<=g9 then needR (M1 (l.map V.str)) (fun l=>R.ok (l.contains a)) else R.stuck)=_;rw[List.length_map,if_pos h,bD];rfl
theorem CU {a:b9} {l:List b9} (h:l.length<=g9):w9 .NotIn (.str a) (.list (l.map V.str))=.ok (!l.contains a):=by
 rw[yW,<-PA,J2 h];rfl
theorem MB {init:List b9} {last:b9} (h:init.length+1<=g9):P2 (.olist ((init++[last]).map V.str)) (.int (-1))=.ok (.str last):=by
 show(if ((init++[last]).map V.str).length<=g9 then needR (G3 (-1) ((init++[last]).map V.str).length) (fun k=>needR ((init++[last]).map V.str)[k]? R.ok) else R.stuck)=_;rw[if_pos (by simp;omega)];have:G3 (-1) ((init++[last]).map V.str).length=some init.length:=by
  unfold G3;rw[if_neg (by omega),if_pos (by simp;omega),List.length_map,List.length_append,List.length_singleton];congr 1;exact q57
 rw[this];show needR ((init++[last]).map V.str)[init.length]? R.ok=_;rw[show((init++[last]).map V.str)[init.length]? =some (V.str last) by simp];rfl
noncomputable def qc:Option Nat->b9
 |none=>[]
 |some q=>[q]
theorem qC (c:Nat):([[39],[34]]:List b9).contains [c]=nV c:=by
 unfold nV;rw[List.contains_cons,List.contains_cons,List.contains_nil,Bool.or_false,Bool.or_comm];have e: ∀k:Nat,((([c]:b9)==[k]))=(c==k):=fun k=>by simp
 rw[e,e]
section
variable {g:G} {t:b9}
noncomputable def newC (q:Option Nat) (c:Nat):Nat:=if q=none then T7 true c else c
theorem L6 {stop:Option Nat} {σ:d9} {c:Nat} {q:Option Nat} {e:Bool} {init:List b9} {last:b9} (hl1:init.length+2<=6000) (hl2:last.length+1<=6000) (hne: ¬(q=none/\c=44/\e=false/\stop=none))
  (h1:σ.get "found"=some (.olist ((init++[last]).map .str))) (h2:σ.get "quote"=some (.str (qc q))) (h3:σ.get "is_escaped"=some (.bool e)) (h4:σ.get "stop"=some (.str (qc stop))) (h5:σ.get "letter"=some (.str [c])):
  d8 g (some "found") o0.sc σ (i4 (sB (i4 o0.body 1)) 2) (.ok (.next,σ.set "found" (.olist ((init++[last++[newC q c]]).map .str)))):=by
 have hlim:g9=1048576:=rfl;have hcond:c8 g o0.sc σ true (sE (i4 (sB (i4 o0.body 1)) 2)) (.ok (.bool false)):=by
  refine c7 (j2 (J0.cons (by tm_at "e") fun Z=>J0.cons (by tm_at "e") fun Z=>J0.cons (by tm_at "e") fun Z=>J0.one (by tm_at "e"))) ?_;by_cases hc:c=44
  ·cases q<;>cases e<;>cases stop<;>simp_all[qc]
  ·have:(c==44)=false:=by simp[hc]
   simp[this]
 have e4:((init++[last]).map V.str).dropLast++[V.str (last++[newC q c])]=(init++[last++[newC q c]]).map V.str:=by simp
 exact d8.if0 hcond (d5.cons (e4▸GU (vs:=(init++[last]).map V.str) (c8.bin (G6 (by tm_at "v") (by tm_at "e") (MB (r18 hl1 (by decide))) rfl) (c8.to (r':=.ok (.str [newC q c])) (by tm_at "e") (by
   unfold newC T7;by_cases h9:c=9
   ·subst h9;cases q<;>simp[qc]
   ·cases q<;>simp[qc,h9])) (add_str (by simp;exact Nat.le_trans hl2 (by decide)))) (by tm_at "v") ⟨rfl,rfl,rfl,rfl⟩ rfl (by simp) (by simp;exact r18 hl1 (by decide))) d5.nil)
theorem yE {stop:Option Nat} {σ:d9} {c:Nat} {q:Option Nat} {e:Bool} {init:List b9} {last:b9} (hs:stop=none\/stop=some 35) (hqe:q=none->e=false) (hqq: ∀k,q=some k->nV k=true) (h0: ¬(q=none/\stop=some c)) (hl1:init.length+2<=6000) (hl2:last.length+1<=6000)
  (h1:σ.get "found"=some (.olist ((init++[last]).map .str))) (h2:σ.get "quote"=some (.str (qc q))) (h3:σ.get "is_escaped"=some (.bool e)) (h4:σ.get "stop"=some (.str (qc stop))) (h5:σ.get "letter"=some (.str [c])):
  ∃σ' q' e' init' last',d5 g (some "found") o0.sc σ (sB (i4 o0.body 1)) (.ok (.next,σ'))/\(q'=none->e'=false)/\(∀k,q'=some k->nV k=true)/\init'.length<=init.length+1/\last'.length<=last.length+1/\
   σ'.get "found"=some (.olist ((init'++[last']).map .str))/\σ'.get "quote"=some (.str (qc q'))/\σ'.get "is_escaped"=some (.bool e')/\σ'.get "stop"=some (.str (qc stop))/\
   ∀r,(match pm stop true (c::r) q e with|none=>pm stop true r q' e'=none|some ps=> ∃ps',pm stop true r q' e'=some ps'/\init++A1 last ps=init'++A1 last' ps'):=by
 have hlim:g9=1048576:=rfl;have e0:d8 g (some "found") o0.sc σ (i4 (sB (i4 o0.body 1)) 0) (.ok (.next,σ)):=by
  refine d8.if0 (c7 (by tm_at "e") ?_) d5.nil;cases q with
  |none=>
   have:stop≠some c:=fun z=>h0 ⟨rfl,z⟩;rcases hs with rfl|rfl
   ·rfl
   ·have:c≠35:=fun z=>this (by rw[z]);simp[qc,this]
  |some k=>rfl
 have push1: ∀{x:Option (List b9)} {c':Nat} {y:Option (List b9)},(∀l,x=some l->l≠[])->y=x.map (push c')->(match y with|none=>x=none|some ps=> ∃ps',x=some ps'/\init++A1 last ps=init++A1 (last++[c']) ps'):=by
  intro x c' y hx hy;subst hy;cases x with
  |none=>rfl
  |some l=>exact⟨l,rfl,by rw[zY,bH]⟩
 cases q with
 |none=>
  have he:e=false:=hqe rfl;subst he;have hst:stop≠some c:=fun z=>h0 ⟨rfl,z⟩;cases hQ:nV c with
  |true=>
   have h44:c≠44:=by intro z;rw[z] at hQ;exact absurd hQ (by decide)
   have h9:newC (some c) c=c:=rfl;have e1:d8 g (some "found") o0.sc σ (i4 (sB (i4 o0.body 1)) 1) (.ok (.next,σ.set "quote" (.str [c]))):=
    d8.if0 (c7 (by tm_at "e") (by exact rfl)) (d5.cons (d8.if0 (c7 (by tm_at "e") (by simp[qc])) (d5.cons (d8.if0 (c7 (j2 (J0.cons (b1:=false) (b2:=true) (c7 (by tm_at "e") (by exact rfl)) fun h=>by injection h)) (by exact rfl)) (d5.cons (d8.if1 (c9 (j2 (J0.cons (by tm_at "e") fun Z=>J0.one (e9 (by tm_at "e") (c8.list (vs:=[.str [39],.str [34]]) (by tm_at "e") rfl (by decide)) (J2 (l:=[[39],[34]]) (by decide)) rfl))) (by rw[qC,hQ];rfl)) (d5.cons (d7 (by tm_at "e") (by decide) (by decide) rfl) d5.nil)) d5.nil)) d5.nil)) d5.nil)
   have e2:=L6 (g:=g) (stop:=stop) (q:=some c) (e:=false) (c:=c) (init:=init) (last:=last) (σ:=σ.set "quote" (.str [c])) hl1 hl2 (by rintro ⟨z,_⟩;injection z) (by tm_at "n") (by tm_at "n") (by tm_at "n") (by tm_at "n") (by tm_at "n");refine⟨_,some c,false,init,last++[c],d5.cons e0 (d5.cons e1 (d5.cons e2 d5.nil)),fun z=>(by injection z),fun k z=>(by injection z with z;subst z;exact hQ),by omega,by simp,by rw[h9];tm_at "n",by tm_at "n",by tm_at "n",by tm_at "n",fun r=> ?_⟩;exact push1 (fun l h=>cN h) (by rw[gC,if_neg hst,hQ,if_pos rfl])
  |false=>
   have e1:d8 g (some "found") o0.sc σ (i4 (sB (i4 o0.body 1)) 1) (.ok (.next,σ)):=
    d8.if0 (c7 (by tm_at "e") (by exact rfl)) (d5.cons (d8.if0 (c7 (by tm_at "e") (by simp[qc])) (d5.cons (d8.if0 (c7 (j2 (J0.cons (b1:=false) (b2:=true) (c7 (by tm_at "e") (by exact rfl)) fun h=>by injection h)) (by exact rfl)) (d5.cons (d8.if0 (c7 (j2 (J0.cons (by tm_at "e") fun Z=>J0.one (e9 (by tm_at "e") (c8.list (vs:=[.str [39],.str [34]]) (by tm_at "e") rfl (by decide)) (J2 (l:=[[39],[34]]) (by decide)) rfl))) (by rw[qC,hQ];rfl)) d5.nil) d5.nil)) d5.nil)) d5.nil)
   by_cases hcm:c=44/\stop=none
   ·refine f8 hcm fun z3r z4r=> ?_;clear hcm;subst z3r;subst z4r;have e2:d8 g (some "found") o0.sc σ (i4 (sB (i4 o0.body 1)) 2) (.ok (.next,σ.set "found" (.olist ((init++[last]).map .str++[.str []])))):=
     d8.if1 (c9 (j2 (J0.cons (by tm_at "e") fun Z=>J0.cons (by tm_at "e") fun Z=>J0.cons (by tm_at "e") fun Z=>J0.one (by tm_at "e"))) (by exact rfl)) (d5.cons (d8.append (by tm_at "e") (by tm_at "v") (by decide) rfl (by simp;omega)) d5.nil)
    refine⟨_,none,false,init++[last],[],d5.cons e0 (d5.cons e1 (d5.cons e2 d5.nil)),fun Z=>rfl,fun k z=>(by injection z),by simp,by simp,by rw[List.map_append (l₁:=init++[last])];tm_at "n",by tm_at "n",by tm_at "n",by tm_at "n",fun r=> ?_⟩;rw[gC,if_neg hst,hQ,if_neg (by decide),if_pos ⟨rfl,rfl⟩];cases hp:pm none true r none false with
    |none=>rfl
    |some l=>exact⟨l,rfl,by rw[cA _ (cN hp)];simp[A1]⟩
   ·have e2:=L6 (g:=g) (stop:=stop) (q:=none) (e:=false) (c:=c) (init:=init) (last:=last) (σ:=σ) hl1 hl2 (by rintro ⟨_,z,_,z'⟩;exact hcm ⟨z,z'⟩) h1 h2 h3 h4 h5;refine⟨_,none,false,init,last++[T7 true c],d5.cons e0 (d5.cons e1 (d5.cons e2 d5.nil)),fun Z=>rfl,fun k z=>(by injection z),by omega,by simp,by tm_at "n",by tm_at "n",by tm_at "n",by tm_at "n",fun r=> ?_⟩;exact push1 (fun l h=>cN h) (by rw[gC,if_neg hst,hQ,if_neg (by decide),if_neg hcm])
 |some k=>
  have hk:=hqq k rfl;have hk92:k≠92:=by intro z;rw[z] at hk;exact absurd hk (by decide)
  cases e with
  |true=>
   have e1:d8 g (some "found") o0.sc σ (i4 (sB (i4 o0.body 1)) 1) (.ok (.next,σ.set "is_escaped" (.bool false))):=
    d8.if1 (c9 (by tm_at "e") (by exact rfl)) (d5.cons (d7 (by tm_at "e") (by decide) (by decide) rfl) d5.nil)
   have e2:=L6 (g:=g) (stop:=stop) (q:=some k) (e:=false) (c:=c) (init:=init) (last:=last) (σ:=σ.set "is_escaped" (.bool false)) hl1 hl2 (by rintro ⟨z,_⟩;injection z) (by tm_at "n") (by tm_at "n") (by tm_at "n") (by tm_at "n") (by tm_at "n");refine⟨_,some k,false,init,last++[c],d5.cons e0 (d5.cons e1 (d5.cons e2 d5.nil)),fun z=>(by injection z),fun k' z=>(by injection z with z;subst z;exact hk),by omega,by simp,by tm_at "n",by tm_at "n",by tm_at "n",by tm_at "n",fun r=> ?_⟩;exact push1 (fun l h=>cN h) (uW ..)
  |false=>
   by_cases h92:c=92
   ·have e1:d8 g (some "found") o0.sc σ (i4 (sB (i4 o0.body 1)) 1) (.ok (.next,σ.set "is_escaped" (.bool true))):=
     d8.if0 (c7 (by tm_at "e") (by exact rfl)) (d5.cons (d8.if1 (c9 (by tm_at "e") (by simp[qc,h92])) (d5.cons (d7 (by tm_at "e") (by decide) (by decide) rfl) d5.nil)) d5.nil)
    have e2:=L6 (g:=g) (stop:=stop) (q:=some k) (e:=true) (c:=c) (init:=init) (last:=last) (σ:=σ.set "is_escaped" (.bool true)) hl1 hl2 (by rintro ⟨z,_⟩;injection z) (by tm_at "n") (by tm_at "n") (by tm_at "n") (by tm_at "n") (by tm_at "n");refine⟨_,some k,true,init,last++[c],d5.cons e0 (d5.cons e1 (d5.cons e2 d5.nil)),fun z=>(by injection z),fun k' z=>(by injection z with z;subst z;exact hk),by omega,by simp,by tm_at "n",by tm_at "n",by tm_at "n",by tm_at "n",fun r=> ?_⟩;exact push1 (fun l h=>cN h) (by rw[lS,if_pos h92])
   ·by_cases hck:c=k
    ·subst hck;have e1:d8 g (some "found") o0.sc σ (i4 (sB (i4 o0.body 1)) 1) (.ok (.next,σ.set "quote" (.str []))):=
      d8.if0 (c7 (by tm_at "e") (by exact rfl)) (d5.cons (d8.if0 (c7 (by tm_at "e") (by simp[h92])) (d5.cons (d8.if1 (c9 (j2 (J0.cons (by tm_at "e") fun Z=>J0.one (by tm_at "e"))) (by simp[qc])) (d5.cons (d7 (by tm_at "e") (by decide) (by decide) rfl) d5.nil)) d5.nil)) d5.nil)
     have h44:c≠44:=by intro z;rw[z] at hk;exact absurd hk (by decide)
     have h9:newC none c=c:=by
      have:c≠9:=by intro z;rw[z] at hk;exact absurd hk (by decide)
      simp[newC,T7,this]
     have e2:=L6 (g:=g) (stop:=stop) (q:=none) (e:=false) (c:=c) (init:=init) (last:=last) (σ:=σ.set "quote" (.str [])) hl1 hl2 (by rintro ⟨_,z,_⟩;exact h44 z) (by tm_at "n") (by tm_at "n") (by tm_at "n") (by tm_at "n") (by tm_at "n");refine⟨_,none,false,init,last++[c],d5.cons e0 (d5.cons e1 (d5.cons e2 d5.nil)),fun Z=>rfl,fun k' z=>(by injection z),by omega,by simp,by rw[h9];tm_at "n",by tm_at "n",by tm_at "n",by tm_at "n",fun r=> ?_⟩;exact push1 (fun l h=>cN h) (by rw[lS,if_neg h92,if_pos rfl])
    ·have e1:d8 g (some "found") o0.sc σ (i4 (sB (i4 o0.body 1)) 1) (.ok (.next,σ)):=
      d8.if0 (c7 (by tm_at "e") (by exact rfl)) (d5.cons (d8.if0 (c7 (by tm_at "e") (by simp[h92])) (d5.cons (d8.if0 (c7 (j2 (J0.cons (by tm_at "e") fun Z=>J0.one (by tm_at "e"))) (by simp[qc,hck])) (d5.cons (d8.if0 (c7 (j2 (J0.cons (b1:=false) (b2:=true) (c7 (by tm_at "e") (by exact rfl)) fun h=>by injection h)) (by exact rfl)) d5.nil) d5.nil)) d5.nil)) d5.nil)
     have e2:=L6 (g:=g) (stop:=stop) (q:=some k) (e:=false) (c:=c) (init:=init) (last:=last) (σ:=σ) hl1 hl2 (by rintro ⟨z,_⟩;injection z) h1 h2 h3 h4 h5;refine⟨_,some k,false,init,last++[c],d5.cons e0 (d5.cons e1 (d5.cons e2 d5.nil)),fun z=>(by injection z),fun k' z=>(by injection z with z;subst z;exact hk),by omega,by simp,by tm_at "n",by tm_at "n",by tm_at "n",by tm_at "n",fun r=> ?_⟩;exact push1 (fun l h=>cN h) (by rw[lS,if_neg h92,if_neg hck])
theorem mF {stop:Option Nat} (hs:stop=none\/stop=some 35): ∀(r:b9) (σ:d9) (q:Option Nat) (e:Bool) (init:List b9) (last:b9),(q=none->e=false)->(∀k,q=some k->nV k=true)->init.length+r.length+2<=6000->last.length+r.length+1<=6000->
  σ.get "found"=some (.olist ((init++[last]).map .str))->σ.get "quote"=some (.str (qc q))->σ.get "is_escaped"=some (.bool e)->σ.get "stop"=some (.str (qc stop))->
  match pm stop true r q e with
  |none=> ∃σ' k,P7 g (some "found") o0.sc σ (V1 (i4 o0.body 1)) (sB (i4 o0.body 1)) (r.map fun c=>.str [c]) (.ok (.next,σ'))/\σ'.get "quote"=some (.str [k])
  |some ps=> ∃σ',P7 g (some "found") o0.sc σ (V1 (i4 o0.body 1)) (sB (i4 o0.body 1)) (r.map fun c=>.str [c]) (.ok (.next,σ'))/\σ'.get "quote"=some (.str [])/\σ'.get "found"=some (.olist ((init++A1 last ps).map .str))
 |[],σ,none,e,init,last,_,_,_,_,h1,h2,_,_=>⟨σ,P7.nil,h2,by rw[h1];simp[A1]⟩
 |[],σ,some k,e,init,last,_,_,_,_,_,h2,_,_=>⟨σ,k,P7.nil,h2⟩
 |c::r,σ,q,e,init,last,hqe,hqq,hl1,hl2,h1,h2,h3,h4=>by
  have hlim:g9=1048576:=rfl;rw[List.length_cons] at hl1 hl2;have hb:t7 σ (V1 (i4 o0.body 1)) (.str [c])=.ok (σ.set "letter" (.str [c])):=rfl;by_cases h0:q=none/\stop=some c
  ·refine f8 h0 fun z2r hst=> ?_;clear h0;subst z2r;rw[gC,if_pos hst];have hc:c=35:=by
    rcases hs with z|z
    ·rw[z] at hst;injection hst
    ·rw[z] at hst;exact(Option.some.inj hst).symm
   subst hc;have hst':qc stop=[35]:=by rw[hst];rfl
   refine⟨σ.set "letter" (.str [35]),P7.brk hb (d5.brk (d8.if1 (c9 (by tm_at "e") (by rw[hst'];rfl)) (d5.brk d8.brk))),by tm_at "n",?_⟩;have:(σ.set "letter" (.str [35])).get "found"=some (.olist ((init++[last]).map .str)):=by tm_at "n"
   rw[this];simp[A1]
  ·refine SL (yE (g:=g) (σ:=σ.set "letter" (.str [c])) hs hqe hqq h0 (init:=init) (last:=last) (r15 hl1) (oda hl2) (by tm_at "n") (by tm_at "n") (by tm_at "n") (by tm_at "n") (by tm_at "n")) fun σ' q' e' init' last' st p1 p2 p3 p4 g1 g2 g3 g4 rel=> ?_;have IH:=mF hs r σ' q' e' init' last' p1 p2 (q40 p3 hl1) (q40 p4 hl2) g1 g2 g3 g4;have rel:=rel r;cases hp:pm stop true (c::r) q e with
   |none=>
    rw[hp] at rel;rw[rel] at IH;refine r0 IH fun σ2 k x y=> ?_;clear IH;exact⟨σ2,k,P7.cons hb st x,y⟩
   |some ps=>
    rw[hp] at rel;refine e8 rel fun ps' e1 e2=> ?_;clear rel;rw[e1] at IH;refine s5 IH fun σ2 x y z=> ?_;clear IH;exact⟨σ2,P7.cons hb st x,y,by rw[z,e2]⟩
noncomputable def rY (s:b9):Option (Option Nat):=if s=[] then some none else if s=[35] then some (some 35) else none
noncomputable def A8:List V->R V:=
 fSS fun t s=>needR (rY s) fun stop=>if t.length<=5000 then (match pm stop true t none false with|some ps=>.ok (.list (ps.map .str))|none=>.ok .none) else .stuck
theorem nZ (vs:List V) (hn:A8 vs≠.stuck):g8 g (some "found") o0.sc ["text","stop"] o0.body vs (A8 vs):=by
 have hlim:g9=1048576:=rfl;refine C1 (LU hn) fun t s zr=> ?_;subst zr;refine e8 (u7 (show needR (rY s) _≠R.stuck from hn)) fun stop hstop hn=> ?_;have hl:=E0 hn;refine l5 (r':=match pm stop true t none false with|some ps=>.ok (.list (ps.map .str))|none=>.ok .none) (by show needR (rY s) _=_;rw[hstop];exact if_pos hl) ?_;have hs:(stop=none\/stop=some 35)/\s=qc stop:=by
  unfold rY at hstop;by_cases h1:s=[]
  ·rw[if_pos h1] at hstop;injection hstop with hstop;subst hstop;exact⟨.inl rfl,h1⟩
  rw[if_neg h1] at hstop;by_cases h2:s=[35]
  ·rw[if_pos h2] at hstop;injection hstop with hstop;subst hstop;exact⟨.inr rfl,h2⟩
  ·rw[if_neg h2] at hstop;injection hstop
 obtain⟨hs,rfl⟩:=hs;have e0:d8 g (some "found") o0.sc (List.zip ["text","stop"] [.str t,.str (qc stop)]) (i4 o0.body 0) (.ok (.next,d9.set (d9.set (d9.set (List.zip ["text","stop"] [.str t,.str (qc stop)]) "found" (.olist [.str []])) "quote" (.str [])) "is_escaped" (.bool false))):=
  i7 (vs:=[.list [.str []],.str [],.bool false]) (by tm_at "e") rfl (by decide) rfl
 have L:=mF (g:=g) hs t (d9.set (d9.set (d9.set (List.zip ["text","stop"] [.str t,.str (qc stop)]) "found" (.olist [.str []])) "quote" (.str [])) "is_escaped" (.bool false)) none false [] [] (fun Z=>rfl) (fun k z=>by injection z) (by simp;exact Nat.le_trans hl (by decide)) (by simp;exact Nat.le_trans hl (by decide)) (by tm_at "n") (by tm_at "n") (by tm_at "n") (by tm_at "n");have htx:(d9.set (d9.set (d9.set (List.zip ["text","stop"] [.str t,.str (qc stop)]) "found" (.olist [.str []])) "quote" (.str [])) "is_escaped" (.bool false)).get "text"=some (.str t):=by tm_at "n"
 cases hp:pm stop true t none false with
 |none=>
  rw[hp] at L;refine r0 L fun σ' k x y=> ?_;clear L;exact g8.ret rfl (d5.cons e0 (d5.cons (H4 (by tm_at "e") (w6 (Nat.le_trans hl (by decide))) rfl x) (d5.ret (d8.ret (v:=.none) (c8.if1 (c9 (by tm_at "e") (by exact rfl)) (by tm_at "e"))))))
 |some ps=>
  rw[hp] at L;refine s5 L fun σ' x y z=> ?_;clear L;rw[List.nil_append,cA _ (cN hp)] at z;exact g8.ret rfl (d5.cons e0 (d5.cons (H4 (by tm_at "e") (w6 (Nat.le_trans hl (by decide))) rfl x) (d5.ret (d8.ret (v:=.olist (ps.map .str)) (c8.if0 (c7 (by tm_at "e") (by exact rfl)) (by tm_at "e"))))))
end
theorem HN {v:V} {vs:List V} (h:vs.length+1<=g9):P2 (.list (v::vs)) (.int 0)=.ok v:=by
 show(if (v::vs).length<=g9 then needR (G3 0 (v::vs).length) (fun k=>needR (v::vs)[k]? R.ok) else R.stuck)=_;rw[if_pos (show(v::vs).length<=g9 from h)];have:G3 0 (v::vs).length=some 0:=by
  unfold G3;rw[if_pos (by omega),if_pos (by simp)];rfl
 rw[this];rfl
theorem vD {t:b9}:j9 t none (some 1)=t.take 1:=jK (b:=1)
theorem HO {t:b9} (h:1<=t.length):j9 t (some 1) none=t.drop 1:=jJ (a:=1) h
theorem mG {t:b9}:j9 t (some (-1)) none=t.drop (t.length-1):=by
 unfold j9 AW P5;dsimp only;rw[if_pos (by omega),List.take_length,show(-1+(t.length:Int)).toNat=t.length-1 by exact RT]
section
variable {g:G} {t:b9}
theorem mH: ∀(t:b9) (σ:d9),t.length<=5000->σ.get "text"=some (.str t)-> ∃σ',d8 g none H6.sc σ (i4 H6.body 0) (.ok (.next,σ'))/\σ'.get "text"=some (.str (t.dropWhile j4))
 |[],σ,hl,h=>by
  have hlim:g9=1048576:=rfl;exact⟨σ,i0 (c7 (e9 (vD (t:=[])▸c8.slice (by tm_at "v") (by tm_at "e") (by tm_at "e") (by simp)) (by tm_at "e") (dS _ _) rfl) (by simp)),h⟩
 |c::r,σ,hl,h=>by
  have hlim:g9=1048576:=rfl;have hsz:(c::r).length<=g9:=by exact Nat.le_trans hl (by decide)
  have hT:c8 g H6.sc σ true (sE (i4 H6.body 0)) (.ok (.bool (j4 c))):=
   c8.to (e9 (vD (t:=c::r)▸c8.slice (by tm_at "v") (by tm_at "e") (by tm_at "e") hsz) (by tm_at "e") (dS _ _) rfl) (by simp[j4])
  rw[List.dropWhile_cons];cases hb:j4 c with
  |false=>
   rw[hb] at hT;exact⟨σ,i0 hT,h⟩
  |true=>
   rw[hb] at hT;refine e8 (mH r (σ.set "text" (.str r)) (by simp at hl;exact Nat.le_trans hl (by decide)) (by tm_at "n")) fun σ' x y=> ?_;exact⟨σ',i3 hT (d5.cons (d7 (v:=.str r) (c8.to (c8.slice (by tm_at "v") (by tm_at "e") (by tm_at "e") hsz) (by rw[HO (t:=c::r) (by simp)];rfl)) (by decide) (by decide) rfl) d5.nil) x,y⟩
theorem CV: ∀(n:Nat) (t:b9) (σ:d9),t.length<=n->t.length<=5000->σ.get "text"=some (.str t)-> ∃σ',d8 g none H6.sc σ (i4 H6.body 1) (.ok (.next,σ'))/\σ'.get "text"=some (.str (t.reverse.dropWhile j4).reverse):=by
 intro n;have hlim:g9=1048576:=rfl;induction n with
 |zero=>
  intro t σ hn hl h;have:t=[]:=List.length_eq_zero_iff.mp (Nat.eq_zero_of_le_zero hn);subst this;exact⟨σ,i0 (c7 (e9 (mG (t:=[])▸c8.slice (by tm_at "v") (by tm_at "e") (by tm_at "e") (by simp)) (by tm_at "e") (dS _ _) rfl) (by simp)),h⟩
 |succ n ih=>
  intro t σ hn hl h;rcases List.eq_nil_or_concat t with rfl|⟨i,c,rfl⟩
  ·exact⟨σ,i0 (c7 (e9 (mG (t:=[])▸c8.slice (by tm_at "v") (by tm_at "e") (by tm_at "e") (by simp)) (by tm_at "e") (dS _ _) rfl) (by simp)),h⟩
  rw[List.concat_eq_append] at*;have hsz:(i++[c]).length<=g9:=by exact Nat.le_trans hl (by decide)
  have hT:c8 g H6.sc σ true (sE (i4 H6.body 1)) (.ok (.bool (j4 c))):=
   c8.to (e9 (mG (t:=i++[c])▸c8.slice (by tm_at "v") (by tm_at "e") (by tm_at "e") hsz) (by tm_at "e") (dS _ _) rfl) (by simp[j4])
  rw[List.reverse_append,List.reverse_singleton,List.singleton_append,List.dropWhile_cons];cases hb:j4 c with
  |false=>
   rw[hb] at hT;exact⟨σ,i0 hT,by rw[h];simp⟩
  |true=>
   rw[hb] at hT;refine e8 (ih i (σ.set "text" (.str i)) (by simp at hn;omega) (by simp at hl;exact Nat.le_trans hl (by decide)) (by tm_at "n")) fun σ' x y=> ?_;have hdl:j9 (i++[c]) none (some (-1))=i:=by rw[eT (by simp)];simp
   exact⟨σ',i3 hT (d5.cons (d7 (v:=.str i) (c8.to (c8.slice (by tm_at "v") (by tm_at "e") (by tm_at "e") hsz) (by rw[hdl])) (by decide) (by decide) rfl) d5.nil) x,y⟩
noncomputable def C8:List V->R V:=fS fun t=>
  if t.length<=5000 then .ok (.str (i6 t)) else .stuck
theorem iY (vs:List V) (hn:C8 vs≠.stuck):g8 g none H6.sc ["text"] H6.body vs (C8 vs):=by
 refine d6 (R9 hn) fun t z4r=> ?_;subst z4r;have hl:=E0 hn;refine l5 (if_pos hl) ?_;refine e8 (mH (g:=g) t (List.zip ["text"] [.str t]) hl rfl) fun wM x1 y1=> ?_;have hd:(t.dropWhile j4).length<=t.length:=(List.dropWhile_sublist _).length_le;refine e8 (CV (g:=g) _ (t.dropWhile j4) wM (Nat.le_refl _) (Nat.le_trans hd hl) y1) fun σ2 x2 y2=> ?_;exact g8.ret rfl (d5.cons x1 (d5.cons x2 (d5.ret (d8.ret (v:=.str (i6 t)) (c8.name (g6 y2 rfl (by decide)))))))
noncomputable def S3:List V->R V:=fS fun t=>
  if t.length<=5000 then (match N1 t with|some b=>.ok (.str b)|none=>.ok .none) else .stuck
theorem rZ {stop:Option Nat} {tb:Bool}: ∀{t:b9} {q:Option Nat} {e:Bool} {l:List b9},pm stop tb t q e=some l->l.length<=t.length+1/\ ∀p∈l,p.length<=t.length:=by
 intro t;have one: ∀{x:Option (List b9)} {c n:Nat} {l:List b9},(∀l,x=some l->l.length<=n+1/\ ∀p∈l,p.length<=n)->x.map (push c)=some l->l.length<=n+1+1/\ ∀p∈l,p.length<=n+1:=by
  intro x c n l h e;cases x with
  |none=>injection e
  |some y=>
   refine f8 (h y rfl) fun h1 h2=> ?_;injection e with e;subst e;cases y with
   |nil=>simp[push]
   |cons p ps=>
    refine⟨by simp[push] at h1 ⊢;exact Nat.le_succ_of_le h1,fun p' hp=> ?_⟩;rcases List.mem_cons.mp hp with rfl|hp
    ·have:=h2 p List.mem_cons_self;simp;omega
    ·have:=h2 p' (List.mem_cons_of_mem _ hp);exact Nat.le_succ_of_le this
 induction t with
 |nil=>intro q e l h;cases q<;>cases h;simp
 |cons c r ih=>
  intro q e l h;rw[List.length_cons];cases q with
  |none=>
   rw[gC] at h;split at h
   ·injection h with h;subst h;simp
   split at h
   ·exact one (fun l z=>ih z) h
   split at h
   ·cases hp:pm stop tb r none false with
    |none=>rw[hp] at h;injection h
    |some y=>
     rw[hp] at h;injection h with h;subst h;refine f8 (ih hp) fun h1 h2=> ?_;refine⟨by simp;omega,fun p hp'=> ?_⟩;rcases List.mem_cons.mp hp' with rfl|hp'
     ·simp
     ·have:=h2 p hp';exact Nat.le_succ_of_le this
   exact one (fun l z=>ih z) h
  |some q=>
   cases e with
   |true=>rw[uW] at h;exact one (fun l z=>ih z) h
   |false=>
    rw[lS] at h;split at h
    ·exact one (fun l z=>ih z) h
    split at h
    ·exact one (fun l z=>ih z) h
    ·exact one (fun l z=>ih z) h
theorem sA (hp:g.fn "_law_parts"=some A8) (ht:g.fn "_law_trimmed"=some C8) (vs:List V) (hn:S3 vs≠.stuck):g8 g none GZ.sc ["text"] GZ.body vs (S3 vs):=by
 have hlim:g9=1048576:=rfl;refine d6 (R9 hn) fun t z3r=> ?_;subst z3r;have hl:=E0 hn;refine l5 (if_pos hl) ?_;have hF:A8 [.str t,.str [35]]=(match pm (some 35) true t none false with|some ps=>.ok (.list (ps.map .str))|none=>.ok .none):=if_pos hl;unfold N1;cases hpm:pm (some 35) true t none false with
 |none=>
  rw[hpm] at hF;exact g8.ret rfl (d5.cons (d7 (v:=.none) (by tm_at "e") (by decide) (by decide) rfl) (d5.ret (d8.if1 (c9 (by tm_at "e") (by exact rfl)) (d5.ret (d8.ret (v:=.none) (by tm_at "e"))))))
 |some ps=>
  rw[hpm] at hF;refine d6 (Y9 hpm) fun b z2r=> ?_;subst z2r;have hbl:=(rZ hpm).2 b List.mem_cons_self;have hF2:C8 [.str b]=.ok (.str (i6 b)):=if_pos (Nat.le_trans hbl hl);exact g8.ret rfl (d5.cons (d7 (v:=.list [.str b]) (by tm_at "e") (by decide) (by decide) rfl) (d5.cons (d8.if0 (c7 (by tm_at "e") (by exact rfl)) d5.nil) (d5.ret (d8.ret (v:=.str (i6 b)) (c8.call (v6.cons (G6 (by tm_at "v") (by tm_at "e") (HN (by decide)) rfl) v6.nil) ht hF2 rfl rfl rfl)))))
theorem vE {csc:Scope} {elt:Expr} {x:Str} {xp:Pos} {σ:d9} {f:b9->V} (hf: ∀c,(f c).open? =false): ∀{r:List b9},(∀c∈r,c8 g csc (σ.set x (.str c)) false elt (.ok (f c)))->Q6 g csc σ (.Name x xp) elt [] (r.map V.str) (r.map f)
 |[],_=>Q6.nil
 |c::r,h=>Q6.take rfl (h c List.mem_cons_self) (hf c) (vE hf fun d hd=>h d (List.mem_cons_of_mem _ hd))
noncomputable def I0:List V->R V:=fS fun t=>
  if t.length<=5000 then (match V0 true t with|some b=>.ok (.list (b.map .str))|none=>.ok .none) else .stuck
theorem gF (hp:g.fn "_law_parts"=some A8) (ht:g.fn "_law_trimmed"=some C8) (vs:List V) (hn:I0 vs≠.stuck):g8 g none B0.sc ["text"] B0.body vs (I0 vs):=by
 have hlim:g9=1048576:=rfl;refine d6 (R9 hn) fun t z1r=> ?_;subst z1r;have hl:=E0 hn;refine l5 (if_pos hl) ?_;unfold V0;by_cases h0:t=[]
 ·rw[if_pos h0];exact g8.ret rfl (d5.ret (d8.if1 (c9 (by tm_at "e") (by simp[h0])) (d5.ret (d8.ret (v:=.list []) (by tm_at "e")))))
 rw[if_neg h0];have e0:d8 g none B0.sc (List.zip ["text"] [.str t]) (i4 B0.body 0) (.ok (.next,List.zip ["text"] [.str t])):=d8.if0 (c7 (by tm_at "e") (by simp[h0])) d5.nil;have hF:A8 [.str t,.str []]=(match pm none true t none false with|some ps=>.ok (.list (ps.map .str))|none=>.ok .none):=if_pos hl;cases hpm:pm none true t none false with
 |none=>
  rw[hpm] at hF;exact g8.ret rfl (d5.cons e0 (d5.cons (d7 (v:=.none) (by tm_at "e") (by decide) (by decide) rfl) (d5.cons (d7 (v:=.none) (c8.if1 (c9 (by tm_at "e") (by exact rfl)) (by tm_at "e")) (by decide) (by decide) rfl) (d5.ret (d8.ret (v:=.none) (c8.if1 (c9 (C2 (aA.cons (b1:=true) (b2:=true) (c9 (by tm_at "e") (by exact rfl)) fun h=>by injection h)) (by exact rfl)) (by tm_at "e")))))))
 |some ps=>
  rw[hpm] at hF;refine f8 (rZ hpm) fun l1 l2=> ?_;have hsz:ps.length<=g9:=by exact OK l1 hl (by decide)
  have hsz2:(ps.map i6).length<=g9:=by simp;omega
  have e1:d8 g none B0.sc (List.zip ["text"] [.str t]) (i4 B0.body 1) (.ok (.next,d9.set (List.zip ["text"] [.str t]) "found" (.list (ps.map .str)))):=d7 (v:=.list (ps.map .str)) (by tm_at "e") (by decide) (by decide) rfl;have hit:s9 (.list (ps.map V.str))=.ok (ps.map V.str):=if_pos (by simp;omega);have e2:d8 g none B0.sc (d9.set (List.zip ["text"] [.str t]) "found" (.list (ps.map .str))) (i4 B0.body 2) (.ok (.next,(d9.set (List.zip ["text"] [.str t]) "found" (.list (ps.map .str))).set "found" (.list ((ps.map i6).map .str)))):=by
   refine d7 (v:=.list ((ps.map i6).map .str)) (c8.if0 (c7 (by tm_at "e") (by exact rfl)) ?_) (by decide) (by decide) rfl;rw[List.map_map];refine J9 (by tm_at "e") hit (vE (f:=V.str ∘ i6) (fun Z=>rfl) fun c hc=> ?_) rfl;have hF2:C8 [.str c]=.ok (.str (i6 c)):=if_pos (by have:=l2 c hc;exact Nat.le_trans this hl);show c8 _ _ _ _ _ (.ok (.str (i6 c)));tm_at "e"
  have h2:((d9.set (List.zip ["text"] [.str t]) "found" (.list (ps.map .str))).set "found" (.list ((ps.map i6).map .str))).get "found"=some (.list ((ps.map i6).map .str)):=d9.same;show g8 g none B0.sc _ B0.body _ (match (if (ps.map i6).contains [] then none else some (ps.map i6):Option (List b9)) with|some b=>.ok (.list (b.map .str))|none=>.ok .none);have hcond:c8 g B0.sc ((d9.set (List.zip ["text"] [.str t]) "found" (.list (ps.map .str))).set "found" (.list ((ps.map i6).map .str))) true (eK (sE (i4 B0.body 3)) 0) (.ok (.bool ((ps.map i6).contains []))):=
   c8.to (C2 (aA.cons (by tm_at "e") fun Z=>aA.one (e9 (by tm_at "e") (by tm_at "e") (J2 hsz2) rfl))) (by simp)
  cases hq:(ps.map i6).contains [] with
  |true=>
   rw[hq] at hcond;rw[if_pos rfl];exact g8.ret rfl (d5.cons e0 (d5.cons e1 (d5.cons e2 (d5.ret (d8.ret (v:=.none) (c8.if1 hcond (by tm_at "e")))))))
  |false=>
   rw[hq] at hcond;rw[if_neg (by decide)];exact g8.ret rfl (d5.cons e0 (d5.cons e1 (d5.cons e2 (d5.ret (d8.ret (v:=.list ((ps.map i6).map .str)) (c8.if0 hcond (by tm_at "e")))))))
end
theorem CW {i:Int} {l:List Int} (h:l.length<=g9):w9 .NotIn (.int i) (.list (l.map V.int))=.ok (!l.contains i):=by
 rw[yW];show(if (l.map V.int).length<=g9 then needR (J4 (l.map V.int)) (fun l=>R.ok (l.contains i)) else R.stuck).map (!·)=_;rw[List.length_map,if_pos h,bE];rfl
theorem MC {us:List V} (h:us.length<=g9):w9 .Eq (.list us) (.list [])=.ok us.isEmpty:=by rw[TH,if_pos h]
section
variable {g:G} {t:b9}
noncomputable def u5 (c:Nat):Int:=if cI c then 1 else if X4 c||([[95],[46],[36]]:List b9).contains [c] then 2 else 0
noncomputable def v5:List V->R V:=fS fun t=>needR (SC t) fun q=>QH (if q.1<128 then .ok (.int (u5 q.1)) else .stuck) q.2
theorem sF (hord:g.fn "ord"=none) (vs:List V) (hn:v5 vs≠.stuck):g8 g none lK.sc ["letter"] lK.body vs (v5 vs):=by
 have hlim:g9=1048576:=rfl;refine d6 (R9 hn) fun t zr=> ?_;subst zr;refine e8 (u7 (show needR (SC t) _≠R.stuck from hn)) fun q e hn'=> ?_;have e2:=zX hn';have e:=eR e;rw[e2] at e;generalize q.1=c at e;subst e;have hc:c<128:=E0 hn;refine l5 (if_pos hc) ?_;unfold u5;have hT:c8 g lK.sc (List.zip ["letter"] [.str [c]]) true (sE (i4 lK.body 0)) (.ok (.bool (cI c))):=
  c8.to (j2 (J0.cons (e9 (by tm_at "e") (by tm_at "e") (in_str (by decide)) rfl) fun Z=>J0.one (by tm_at "e"))) (by
   have hlit:([48,49,50,51,52,53,54,55,56,57]:b9)=(List.range 10).map (· +48):=by decide
   rw[hlit];show R.ok (V.bool (cI c &&true))=_;rw[Bool.and_true])
 cases hf:cI c with
 |true=>
  rw[hf] at hT;rw[if_pos rfl];exact g8.ret rfl (d5.ret (d8.if1 hT (d5.ret (d8.ret (v:=.int 1) (by tm_at "e")))))
 |false=>
  rw[hf] at hT;rw[if_neg (by decide)];have h2:c8 g lK.sc (List.zip ["letter"] [.str [c]]) true (eK (sE (i4 lK.body 1)) 0) (.ok (.bool (X4 c||([[95],[46],[36]]:List b9).contains [c]))):=by
   refine c8.to (C2 (aA.cons (j2 (J0.cons (G0 (fY (by tm_at "e") (HF hc) ⟨rfl,rfl⟩) (N4 _)) fun Z=>J0.one (by tm_at "e"))) fun Z=>aA.one (e9 (by tm_at "e") (c8.list (vs:=[.str [95],.str [46],.str [36]]) (by tm_at "e") rfl (by decide)) (J2 (l:=[[95],[46],[36]]) (by decide)) rfl))) ?_;rw[show decide ((c:Int)<128)=true by simp;omega,Bool.and_true]
  cases hb:X4 c||([[95],[46],[36]]:List b9).contains [c] with
  |true=>
   rw[hb] at h2;rw[if_pos rfl];exact g8.ret rfl (d5.cons (d8.if0 hT d5.nil) (d5.ret (d8.ret (v:=.int 2) (c8.if1 h2 (by tm_at "e")))))
  |false=>
   rw[hb] at h2;rw[if_neg (by decide)];exact g8.ret rfl (d5.cons (d8.if0 hT d5.nil) (d5.ret (d8.ret (v:=.int 0) (c8.if0 h2 (by tm_at "e")))))
theorem mJ {c:Nat} (h:123<=c):E1 c=false:=lN rfl h
theorem AB {c:Nat} (h:123<=c):cI c=false:=lN rfl h
theorem mK {c:Nat} (h:123<=c):u5 c=0:=by
 unfold u5;rw[AB h,show X4 c=false by unfold X4;rw[decide_eq_false (lO (by decide) h),decide_eq_false (lO (by decide) h)];rfl,show([[95],[46],[36]]:List b9).contains [c]=false from ?_]
 ·rfl
 rw[Bool.eq_false_iff];intro z;have:c=95\/c=46\/c=36:=by simpa using z
 rcases this with rfl|rfl|rfl<;>exact absurd h (by decide)
theorem gG (c:Nat):u5 c=0↔E1 c=false:=by
 rcases Nat.lt_or_ge c 123 with h|h
 ·exact of_decide_eq_true (U5 123 (fun c=>decide (u5 c=0↔E1 c=false)) (by decide+kernel) h)
 ·rw[mK h,mJ h];exact⟨fun Z=>rfl,fun Z=>rfl⟩
theorem vF (c:Nat):u5 c=1↔cI c=true:=by
 rcases Nat.lt_or_ge c 123 with h|h
 ·exact of_decide_eq_true (U5 123 (fun c=>decide (u5 c=1↔cI c=true)) (by decide+kernel) h)
 ·rw[mK h,AB h];exact⟨fun z=>(by cases z),fun z=>(by cases z)⟩
theorem vG (c:Nat):0<u5 c↔E1 c=true:=by
 rcases Nat.lt_or_ge c 123 with h|h
 ·exact of_decide_eq_true (U5 123 (fun c=>decide (0<u5 c↔E1 c=true)) (by decide+kernel) h)
 ·rw[mK h,mJ h];exact⟨fun z=>absurd z (by decide),fun z=>(by injection z)⟩
theorem HP {c:Nat} (h:E1 c=true):u5 c=2↔cI c=false:=
 of_decide_eq_true (U5 123 (fun c=>decide (E1 c=true->(u5 c=2↔cI c=false))) (by decide+kernel) (Nat.lt_of_not_le fun z=>by rw[mJ z] at h;injection h)) h
theorem vH {csc:Scope} {elt cnd:Expr} {x:Str} {xp:Pos} {σ:d9} {f:Nat->V} {p:Nat->Bool} (hf: ∀c,(f c).open? =false): ∀{r:b9},(∀c∈r,c8 g csc (σ.set x (.str [c])) true cnd (.ok (.bool (p c))))->(∀c∈r,p c=true->c8 g csc (σ.set x (.str [c])) false elt (.ok (f c)))->
  Q6 g csc σ (.Name x xp) elt [cnd] (r.map fun c=>.str [c]) ((r.filter p).map f)
 |[],_,_=>Q6.nil
 |c::r,h,h'=>by
  have hc:=h c List.mem_cons_self;have ih:=vH (f:=f) (p:=p) (xp:=xp) hf (r:=r) (fun d hd=>h d (List.mem_cons_of_mem _ hd)) (fun d hd=>h' d (List.mem_cons_of_mem _ hd));rw[List.filter_cons];cases hp:p c with
  |true=>
   rw[hp] at hc;exact lI rfl hc (h' c List.mem_cons_self hp) (hf c) ih
  |false=>
   rw[hp] at hc;exact uR rfl hc ih
noncomputable def I1:List V->R V:=fS fun t=>
  if t.length<=5000/\j6 t=true then .ok (.bool (G7 t)) else .stuck
theorem w8 {t:b9} (h:j6 t=true) {c:Nat} (hc:c∈t):c<128:=by
 unfold j6 at h;rw[List.all_eq_true] at h;simpa using h c hc
theorem HQ (t:b9):((!([[],[46]]:List b9).contains t) &&((!(t.map u5).contains 0) &&(t==[]||u5 (k6 t 0)==2)))=G7 t:=by
 unfold G7;cases t with
 |nil=>rfl
 |cons a r=>
  have hch:k6 (a::r) 0=a:=rfl;rw[hch];have e1:((a::r).map u5).contains 0= !(a::r).all E1:=by
   rw[Bool.eq_iff_iff,List.contains_iff_mem,List.mem_map];simp only[Bool.not_eq_true',List.all_eq_false,gG,Bool.not_eq_true]
  rw[e1];have e2:(([[],[46]]:List b9).contains (a::r))=((a::r)==[46]):=by
   show(false||((a::r)==[46]||false))=_;rw[Bool.false_or,Bool.or_false]
  rw[e2];cases hall:(a::r).all E1 with
  |false=>simp
  |true=>
   have ha:E1 a=true:=by rw[List.all_cons,Bool.and_eq_true] at hall;exact hall.1
   have:(u5 a==2)= !cI a:=by
    rw[Bool.eq_iff_iff,beq_iff_eq,HP ha];simp
   rw[this];cases cI a<;>cases ((a::r)==[46])<;>rfl
theorem oA (hso:g.fn "_law_sort"=some v5) (vs:List V) (hn:I1 vs≠.stuck):g8 g none dB.sc ["text"] dB.body vs (I1 vs):=by
 have hlim:g9=1048576:=rfl;refine d6 (R9 hn) fun t z2r=> ?_;subst z2r;have hc:=E0 hn;refine l5 (if_pos hc) ?_;refine f8 hc fun hl hasc=> ?_;clear hc;have e0:d8 g none dB.sc (List.zip ["text"] [.str t]) (i4 dB.body 0) (.ok (.next,d9.set (List.zip ["text"] [.str t]) "sorts" (.list ((t.map u5).map .int)))):=by
  refine d7 (v:=.list ((t.map u5).map .int)) ?_ (by decide) (by decide) rfl;rw[List.map_map];refine J9 (by tm_at "e") (w6 (Nat.le_trans hl (by decide))) (Q6.map (f:=V.int ∘ u5) (fun Z=>rfl) fun c hc=> ?_) rfl;have hF:v5 [.str [c]]=.ok (.int (u5 c)):=if_pos (w8 hasc hc);show c8 _ _ _ _ _ (.ok (.int (u5 c)));tm_at "e"
 rw[<-HQ];have hsz:(t.map u5).length<=g9:=by simp;exact Nat.le_trans hl (by decide)
 refine g8.ret rfl (d5.cons e0 (d5.ret (σ':=d9.set (List.zip ["text"] [.str t]) "sorts" (.list ((t.map u5).map .int))) (d8.ret (v:=.bool _) ?_)));have h1:c8 g dB.sc (d9.set (List.zip ["text"] [.str t]) "sorts" (.list ((t.map u5).map .int))) false (eK (sE (i4 dB.body 1)) 0) (.ok (.bool (!([[],[46]]:List b9).contains t))):=
  e9 (by tm_at "e") (c8.list (vs:=[.str [],.str [46]]) (by tm_at "e") rfl (by decide)) (CU (l:=[[],[46]]) (by decide)) rfl
 cases t with
 |nil=>exact o7 (b1:=false) h1 fun h=>by injection h
 |cons a r=>
  have hsz2:(r.map (V.int ∘ u5)).length+1<=g9:=by simp at hl ⊢;exact r44 hl (by decide)
  refine c8.to (o7 h1 fun Z=>o7 (e9 (by tm_at "e") (by tm_at "e") (CW hsz) rfl) fun Z=>H5 (e9 (G6 (by tm_at "v") (by tm_at "e") (HN (v:=.int (u5 a)) (vs:=(r.map u5).map .int) (by simp at hl ⊢;exact r44 hl (by decide))) rfl) (by tm_at "e") (yV _ _) rfl)) ?_;rfl
noncomputable def F3:List V->R V:=fS fun t=>
  if t.length<=5000/\j6 t=true then .ok (.bool (B6 t)) else .stuck
theorem mL (hlen:g.fn "len"=none) (hso:g.fn "_law_sort"=some v5) (vs:List V) (hn:F3 vs≠.stuck):g8 g none rP.sc ["text"] rP.body vs (F3 vs):=by
 have hlim:g9=1048576:=rfl;refine d6 (R9 hn) fun t z1r=> ?_;subst z1r;have hc:=E0 hn;refine l5 (if_pos hc) ?_;refine f8 hc fun hl hasc=> ?_;clear hc;refine g8.ret (σ':=List.zip ["text"] [.str t]) rfl (d5.ret (d8.ret (v:=.bool (B6 t)) ?_));by_cases h1:1<t.length
 ·have hd:t.dropLast.length<=g9:=by simp;exact Nat.le_trans hl (by decide)
  have hdl:j9 t none (some (-1))=t.dropLast:=eT (by omega);have hfl:(((t.dropLast).filter fun c=> !(u5 c==1)).map fun c=>V.str [c]).length<=g9:=by
   rw[List.length_map];exact Nat.le_trans (List.length_filter_le _ _) hd
  refine c8.to (o7 (by tm_at "e") fun Z=>o7 (e9 (by tm_at "e") (c8.list (vs:=[.str [98],.str [102]]) (by tm_at "e") rfl (by decide)) (J2 (l:=[[98],[102]]) (by decide)) rfl) fun Z=>H5 (e9 (J9 (iv:=.str t.dropLast) (hdl▸c8.slice (by tm_at "v") (by tm_at "e") (by tm_at "e") (Nat.le_trans hl (by decide))) (w6 hd) (vH (f:=fun c=>.str [c]) (p:=fun c=> !(u5 c==1)) (fun Z=>rfl) (fun c hc=> ?_) (fun c Z Z=>by tm_at "e")) rfl) (by tm_at "e") (MC hfl) rfl)) ?_
  ·have hF:v5 [.str [c]]=.ok (.int (u5 c)):=if_pos (w8 hasc (List.dropLast_subset _ hc));tm_at "e"
  ·unfold B6;rw[show decide ((1:Int)<(t.length:Int))=true by simp;omega,show decide (1<t.length)=true by simp[h1]];have e1:(([[98],[102]]:List b9).contains [k6 t (t.length-1)])=([98,102]:b9).contains (k6 t (t.length-1)):=by simp
   have e2:(((t.dropLast).filter fun c=> !(u5 c==1)).map fun c=>V.str [c]).isEmpty=t.dropLast.all cI:=by
    rw[Bool.eq_iff_iff,List.isEmpty_iff,List.map_eq_nil_iff,List.filter_eq_nil_iff,List.all_eq_true];constructor
    ·intro h c hc;have:=h c hc;rw[<-vF];simpa using this
    ·intro h c hc;have:=(vF c).mpr (h c hc);simp[this]
   rw[e1,e2,Bool.and_assoc]
 ·refine c8.to (o7 (b1:=false) (b2:=true) (c7 (by tm_at "e") (by simp;omega)) fun h=>by injection h) ?_;simp[B6,h1]
end
theorem eX {us vs:List V} (h:us.length+vs.length<=g9):R1 .Add (.list us) (.list vs)=.ok (.list (us++vs)):=by rw[OY,if_pos h]
noncomputable def SE:Stmt->List Stmt
 | .If _ _ o _=>o
 |_=>[]
noncomputable def UD:Stmt:=i4 (SE (i4 (sB (i4 v3.body 1)) 1)) 0
noncomputable def vI:Stmt:=i4 (sB UD) 1
noncomputable def YU:Stmt:=i4 (sB vI) 0
noncomputable def YV:Stmt:=i4 (SE (i4 (SE vI) 0)) 0
section
variable {g:G} {T:b9}
theorem Q8 {σ:d9} {x y:Str} {v:V} (h:y≠x):(σ.set x v).get y=σ.get y:=by rw[Y8,if_neg h]
theorem HR (hlen:g.fn "len"=none) (hl:T.length<=5000): ∀(m:Nat) (σ:d9) (e:Nat),T.length+2-e<=m->σ.get "text"=some (.str T)->σ.get "end"=some (.int (e:Nat))->
  ∃(σ':d9) (e':Nat),d8 g none v3.sc σ YU (.ok (.next,σ'))/\σ'.get "end"=some (.int (e':Nat))/\(∀y:Str,y≠"end"->σ'.get y=σ.get y)/\
   (match s8 39 (T.drop e) with|some n=>e'+1=e+n/\e'<T.length|none=>T.length<=e'):=by
 intro m;have hlim:g9=1048576:=rfl;induction m with
 |zero=>
  intro σ e hm h1 h2;have hd:T.drop e=[]:=List.drop_eq_nil_of_le (RV hm);refine⟨σ,e,i0 (c7 (j2 (J0.cons (b1:=false) (b2:=true) (c7 (by tm_at "e") (by simp;exact RV hm)) fun h=>by injection h)) rfl),h2,fun Z Z=>rfl,?_⟩;rw[hd];show T.length<=e;exact RV hm
 |succ m ih=>
  intro σ e hm h1 h2;by_cases he:e<T.length
  case neg=>
   have hd:T.drop e=[]:=List.drop_eq_nil_of_le (Nat.le_of_not_lt he);refine⟨σ,e,i0 (c7 (j2 (J0.cons (b1:=false) (b2:=true) (c7 (by tm_at "e") (by simp;exact Nat.le_of_not_lt he)) fun h=>by injection h)) rfl),h2,fun Z Z=>rfl,?_⟩;rw[hd];show T.length<=e;exact Nat.le_of_not_lt he
  have hdr:=C3 he;by_cases hq:k6 T e=39
  ·refine⟨σ,e,i0 (c7 (by tm_at "e") (by simp[hq])),h2,fun Z Z=>rfl,?_⟩;rw[hdr,S0,if_pos hq];exact⟨rfl,he⟩
  have ht:(decide ((e:Int)<(T.length:Int)) && !(k6 T e==39))=true:=by simp[he,hq]
  have step: ∀(d:Nat),(d=if k6 T e=92 then 2 else 1)-> ∀{u:R (Fl×d9)},d8 g none v3.sc (σ.set "end" (.int ((e+d:Nat):Int))) YU u->d8 g none v3.sc σ YU u:=fun d hd u h=>
   i3 (c9 (by tm_at "e") ht) (d5.cons (d7 (v:=.int ((e+d:Nat):Int)) (c8.bin (u:=.int (d:Int)) (by tm_at "e") (c8.to (by tm_at "e") (by rw[hd];by_cases hb:k6 T e=92<;>simp[hb])) (HB _ _)) (by decide) (by decide) rfl) d5.nil) h
  by_cases hb:k6 T e=92
  ·refine cR (ih (σ.set "end" (.int ((e+2:Nat):Int))) (e+2) (oz8 hm) (by tm_at "n") (by tm_at "n")) fun σ' e' hx g1 g2 gq=> ?_;refine⟨σ',e',step 2 (by rw[if_pos hb]) hx,g1,fun y hy=>(g2 y hy).trans (Q8 hy),?_⟩;rw[hdr,S0,if_neg hq,if_pos hb];by_cases he2:e+1<T.length
   ·rw[C3 he2];dsimp only;cases hs:s8 39 (T.drop (e+1+1)) with
    |none=>rw[show e+1+1=e+2 from rfl] at hs;rw[hs] at gq;exact gq
    |some n=>rw[show e+1+1=e+2 from rfl] at hs;rw[hs] at gq;dsimp only[Option.map] at gq ⊢;exact VQ gq
   ·have hd:T.drop (e+1)=[]:=List.drop_eq_nil_of_le (Nat.le_of_not_lt he2);have hd2:T.drop (e+2)=[]:=List.drop_eq_nil_of_le (r30 he2);rw[hd];rw[hd2] at gq;exact gq
  ·refine cR (ih (σ.set "end" (.int ((e+1:Nat):Int))) (e+1) (JV hm) (by tm_at "n") (by tm_at "n")) fun σ' e' hx g1 g2 gq=> ?_;refine⟨σ',e',step 1 (by rw[if_neg hb]) hx,g1,fun y hy=>(g2 y hy).trans (Q8 hy),?_⟩;rw[hdr,S0,if_neg hq,if_neg hb];cases hs:s8 39 (T.drop (e+1)) with
   |none=>rw[hs] at gq;exact gq
   |some n=>rw[hs] at gq;dsimp only[Option.map] at gq ⊢;exact VQ gq
theorem MD (hlen:g.fn "len"=none) (hso:g.fn "_law_sort"=some v5) (hl:T.length<=5000) (hasc:j6 T=true): ∀(m:Nat) (σ:d9) (e:Nat),T.length-e<=m->e<=T.length->σ.get "text"=some (.str T)->σ.get "end"=some (.int (e:Nat))->
  ∃(σ':d9),d8 g none v3.sc σ YV (.ok (.next,σ'))/\σ'.get "end"=some (.int ((e+((T.drop e).takeWhile E1).length:Nat):Int))/\(∀y:Str,y≠"end"->σ'.get y=σ.get y):=by
 intro m;have hlim:g9=1048576:=rfl;have stop: ∀(σ:d9) (e:Nat),e<=T.length-> ¬e<T.length->σ.get "text"=some (.str T)->σ.get "end"=some (.int (e:Nat))-> ∃(σ':d9),d8 g none v3.sc σ YV (.ok (.next,σ'))/\σ'.get "end"=some (.int ((e+((T.drop e).takeWhile E1).length:Nat):Int))/\(∀y:Str,y≠"end"->σ'.get y=σ.get y):=by
  intro σ e he hn h1 h2;refine⟨σ,i0 (c7 (j2 (J0.cons (b1:=false) (b2:=true) (c7 (by tm_at "e") (by simp;exact Nat.le_of_not_lt hn)) fun h=>by injection h)) rfl),?_,fun Z Z=>rfl⟩;rw[h2,List.drop_eq_nil_of_le (Nat.le_of_not_lt hn)];simp
 induction m with
 |zero=>intro σ e hm he h1 h2;exact stop σ e he (by omega) h1 h2
 |succ m ih=>
  intro σ e hm he h1 h2;by_cases hlt:e<T.length
  case neg=>exact stop σ e he hlt h1 h2
  have hF:v5 [.str [k6 T e]]=.ok (.int (u5 (k6 T e))):=if_pos (w8 hasc (zW hlt));have hT:c8 g v3.sc σ true (sE YV) (.ok (.bool (decide ((e:Int)<(T.length:Int)) &&decide (0<u5 (k6 T e))))):=
   j2 (J0.cons (by tm_at "e") fun Z=>J0.one (by tm_at "e"))
  rw[show decide ((e:Int)<(T.length:Int))=true by simp;omega,Bool.true_and] at hT;rw[C3 hlt,List.takeWhile_cons];cases hn:E1 (k6 T e) with
  |false=>
   have:decide (0<u5 (k6 T e))=false:=by rw[decide_eq_false_iff_not,vG,hn];decide
   rw[this] at hT;exact⟨σ,i0 hT,by rw[h2];simp,fun Z Z=>rfl⟩
  |true=>
   have:decide (0<u5 (k6 T e))=true:=by rw[decide_eq_true_iff,vG,hn]
   rw[this] at hT;refine s5 (ih (σ.set "end" (.int ((e+1:Nat):Int))) (e+1) (JV hm) (Nat.succ_le_of_lt hlt) (by tm_at "n") (by tm_at "n")) fun σ' x1 x2 x3=> ?_;refine⟨σ',i3 hT (d5.cons (d7 (v:=.int ((e+1:Nat):Int)) (by tm_at "e") (by decide) (by decide) rfl) d5.nil) x1,?_,fun y hy=>(x3 y hy).trans (Q8 hy)⟩;rw[x2];simp;exact RW
noncomputable def vJ (g:G) (σ:d9) (acc:List (Int×b9)):Option (List (Int×b9))->Prop
 |none=>(∃σ',d8 g none v3.sc σ (i4 v3.body 1) (.ok (.ret .none,σ')))\/ ∃(σ':d9) (n:Nat),d8 g none v3.sc σ (i4 v3.body 1) (.ok (.next,σ'))/\σ'.get "signs"=some (.int ((n+1:Nat):Int))
 |some v=> ∃(σ':d9),d8 g none v3.sc σ (i4 v3.body 1) (.ok (.next,σ'))/\σ'.get "found"=some (.list ((acc++v).map w7))/\σ'.get "signs"=some (.int 0)
theorem sG {σ σ2:d9} {acc:List (Int×b9)} {x:Option (List (Int×b9))} (step: ∀{u:R (Fl×d9)},d8 g none v3.sc σ2 (i4 v3.body 1) u->d8 g none v3.sc σ (i4 v3.body 1) u)
  (h:vJ g σ2 acc x):vJ g σ acc x:=by
 cases x with
 |none=>
  rcases h with⟨σ',h⟩|⟨σ',n,h,r⟩
  ·exact .inl ⟨σ',step h⟩
  ·exact .inr ⟨σ',n,step h,r⟩
 |some w=>refine e8 h fun σ' h r=> ?_;exact⟨σ',step h,r⟩
theorem ME {σ:d9} {acc:List (Int×b9)} {x:Option (List (Int×b9))} {v:Int×b9} (h:vJ g σ (acc++[v]) x):vJ g σ acc (x.map (v:: ·)):=by
 cases x with
 |none=>exact h
 |some w=>refine s5 h fun σ' h h2 r=> ?_;exact⟨σ',h,by rw[h2];simp,r⟩
theorem AC (hlen:g.fn "len"=none) (hso:g.fn "_law_sort"=some v5) (hl:T.length<=5000) (hasc:j6 T=true) {σ:d9} {p:Nat} (hp:p<T.length) (h1:σ.get "text"=some (.str T)) (h2:σ.get "letter"=some (.str [k6 T p])) (h3:σ.get "end"=some (.int ((p+1:Nat):Int))):
  match iC (T.drop p) with
  |none=> ∃σ',d8 g none v3.sc σ vI (.ok (.ret .none,σ'))
  |some n=> ∃σ',d8 g none v3.sc σ vI (.ok (.next,σ'))/\σ'.get "end"=some (.int ((p+n:Nat):Int))/\ ∀y:Str,y≠"end"->σ'.get y=σ.get y:=by
 have hlim:g9=1048576:=rfl;rw[C3 hp,Z0];by_cases hq:k6 T p=39
 ·rw[if_pos hq];refine cR (HR (g:=g) hlen hl (T.length+2) σ (p+1) (Nat.sub_le _ _) h1 h3) fun σ' e' x g1 g2 gq=> ?_;have g3:σ'.get "text"=some (.str T):=(g2 _ (by decide)).trans h1;cases hs:s8 39 (T.drop (p+1)) with
  |none=>
   rw[hs] at gq;exact⟨_,d8.if1 (c9 (by tm_at "e") (by simp[hq])) (d5.cons x (d5.cons (d7 (v:=.int ((e'+1:Nat):Int)) (by tm_at "e") (by decide) (by decide) rfl) (d5.ret (d8.if1 (c9 (by tm_at "e") (by simp;omega)) (d5.ret (d8.ret (v:=.none) (by tm_at "e")))))))⟩
  |some m=>
   rw[hs] at gq;refine f8 gq fun q1 q2=> ?_;clear gq;refine⟨σ'.set "end" (.int ((e'+1:Nat):Int)),d8.if1 (c9 (by tm_at "e") (by simp[hq])) (d5.cons x (d5.cons (d7 (v:=.int ((e'+1:Nat):Int)) (by tm_at "e") (by decide) (by decide) rfl) (d5.cons (d8.if0 (c7 (by tm_at "e") (by simp;omega)) d5.nil) d5.nil))),?_,fun y hy=>(Q8 hy).trans (g2 y hy)⟩;rw[d9.same,show e'+1=p+(m+1) by exact q66 q1]
 rw[if_neg hq];have hF:v5 [.str [k6 T p]]=.ok (.int (u5 (k6 T p))):=if_pos (w8 hasc (zW hp));have hT:c8 g v3.sc σ true (sE (i4 (SE vI) 0)) (.ok (.bool (u5 (k6 T p)==0))):=e9 (by tm_at "e") (by tm_at "e") (yV _ _) rfl;cases hn:E1 (k6 T p) with
 |false=>
  rw[if_neg (by decide)];have:(u5 (k6 T p)==0)=true:=by rw[beq_iff_eq,gG,hn]
  rw[this] at hT;exact⟨_,d8.if0 (c7 (by tm_at "e") (by simp[hq])) (d5.ret (d8.if1 hT (d5.ret (d8.ret (v:=.none) (by tm_at "e")))))⟩
 |true=>
  rw[if_pos rfl];have:(u5 (k6 T p)==0)=false:=by
   rw[beq_eq_false_iff_ne];intro z;rw[gG,hn] at z;injection z
  rw[this] at hT;refine s5 (MD (g:=g) hlen hso hl hasc T.length σ (p+1) (Nat.sub_le _ _) (Nat.succ_le_of_lt hp) h1 h3) fun σ' x1 x2 x3=> ?_;refine⟨σ',d8.if0 (c7 (by tm_at "e") (by simp[hq])) (d5.cons (d8.if0 hT (d5.cons x1 d5.nil)) d5.nil),?_,x3⟩;rw[x2,List.takeWhile_cons,hn];simp;exact RW
set_option maxHeartbeats 4000000 in
theorem MF (hlen:g.fn "len"=none) (hso:g.fn "_law_sort"=some v5) (hl:T.length<=5000) (hasc:j6 T=true) {s:Int} {w:Bool} {t:b9} {x:Option (List (Int×b9))} (A:At s w t x):
  (w=false->s=1)-> ∀(σ:d9) (p n:Nat) (acc:List (Int×b9)),p<=T.length->T.drop p=t->acc.length<=p->n<=p+1->(w=true↔0<n)->σ.get "text"=some (.str T)->σ.get "found"=some (.list (acc.map w7))->σ.get "sign"=some (.int s)->σ.get "signs"=some (.int (n:Nat))->σ.get "k"=some (.int (p:Nat))->
  vJ g σ acc x:=by
 have hlim:g9=1048576:=rfl;induction A with
 |fin=>
  intro _ σ p n acc hp hT ha hn hw h1 h2 h3 h4 h5;have hpe:T.length<=p:=by
   have:=congrArg List.length hT;simp at this;exact Nat.le_of_sub_eq_zero this
  have:n=0:=by
   have: ¬0<n:=fun z=>by have:=hw.mpr z;injection this
   omega
  subst this;exact⟨σ,i0 (c7 (by tm_at "e") (by simp;omega)),by rw[h2];simp,h4⟩
 |open_=>
  intro _ σ p n acc hp hT ha hn hw h1 h2 h3 h4 h5;have hpe:T.length<=p:=by
   have:=congrArg List.length hT;simp at this;exact Nat.le_of_sub_eq_zero this
  have hn0:0<n:=hw.mp rfl;obtain⟨n',rfl⟩: ∃n',n=n'+1:=⟨n-1,by exact q62 hn0⟩;exact .inr ⟨σ,n',i0 (c7 (by tm_at "e") (by simp;omega)),h4⟩
 | @sgn s w c r x hc A ih=>
  intro hws σ p n acc hp hT ha hn hw h1 h2 h3 h4 h5;refine n5 (g7 hT) fun hlt hch hd=> ?_;have hs1:(if w then s else 1)=s:=by cases w<;>simp_all
  rw[hs1] at A ih;have hin:([[43],[45]]:List b9).contains [k6 T p]=true:=by rw[hch];rcases hc with rfl|rfl<;>rfl
  have hsg:c8 g v3.sc ((σ.set "letter" (.str [k6 T p])).set "end" (.int ((p+1:Nat):Int))) false (eK (sE (i4 (sB (i4 (sB (i4 v3.body 1)) 1)) 0)) 0) (.ok (.int (if c=45 then -s else s))):=
   c8.to (rN (by tm_at "e") (fun Z=>by tm_at "e") (fun Z=>by tm_at "e")) (by rw[hch];by_cases h45:c=45<;>simp[h45])
  refine sG (σ2:=((((σ.set "letter" (.str [k6 T p])).set "end" (.int ((p+1:Nat):Int))).set "sign" (.int (if c=45 then -s else s))).set "signs" (.int ((n+1:Nat):Int))).set "k" (.int ((p+1:Nat):Int))) (fun h=>i3 (c9 (by tm_at "e") (by simp;omega)) (d5.cons (i7 (vs:=[.str [k6 T p],.int ((p+1:Nat):Int)]) (by tm_at "e") rfl (by decide) rfl)
   (d5.cons (d8.if1 (c9 (e9 (by tm_at "e") (c8.list (vs:=[.str [43],.str [45]]) (by tm_at "e") rfl (by decide)) (J2 (l:=[[43],[45]]) (by decide)) rfl) hin) (d5.cons (i7 (vs:=[.int (if c=45 then -s else s),.int ((n+1:Nat):Int)]) (v6.cons hsg (by tm_at "e")) rfl (by decide) rfl) d5.nil))
    (d5.cons (d7 (v:=.int ((p+1:Nat):Int)) (by tm_at "e") (by decide) (by decide) rfl) d5.nil))) h) ?_
  exact ih (fun z=>by injection z) (((((σ.set "letter" (.str [k6 T p])).set "end" (.int ((p+1:Nat):Int))).set "sign" (.int (if c=45 then -s else s))).set "signs" (.int ((n+1:Nat):Int))).set "k" (.int ((p+1:Nat):Int))) (p+1) (n+1) acc (Nat.succ_le_of_lt hlt) hd (Nat.le_succ_of_le ha) (Nat.succ_le_succ hn) ⟨fun Z=>by omega,fun Z=>rfl⟩
   (by tm_at "n") (by tm_at "n") (by tm_at "n") (by tm_at "n") (by tm_at "n")
 | @sp s w r x A ih=>
  intro hws σ p n acc hp hT ha hn hw h1 h2 h3 h4 h5;refine n5 (g7 hT) fun hlt hch hd=> ?_;have hin:([[43],[45]]:List b9).contains [k6 T p]=false:=by rw[hch];rfl
  refine sG (σ2:=((σ.set "letter" (.str [k6 T p])).set "end" (.int ((p+1:Nat):Int))).set "k" (.int ((p+1:Nat):Int))) (fun h=>i3 (c9 (by tm_at "e") (by simp;omega)) (d5.cons (i7 (vs:=[.str [k6 T p],.int ((p+1:Nat):Int)]) (by tm_at "e") rfl (by decide) rfl)
   (d5.cons (d8.if0 (c7 (e9 (by tm_at "e") (c8.list (vs:=[.str [43],.str [45]]) (by tm_at "e") rfl (by decide)) (J2 (l:=[[43],[45]]) (by decide)) rfl) hin) (d5.cons (d8.if0 (c7 (by tm_at "e") (by simp[hch])) d5.nil) d5.nil))
    (d5.cons (d7 (v:=.int ((p+1:Nat):Int)) (by tm_at "e") (by decide) (by decide) rfl) d5.nil))) h) ?_
  exact ih hws (((σ.set "letter" (.str [k6 T p])).set "end" (.int ((p+1:Nat):Int))).set "k" (.int ((p+1:Nat):Int))) (p+1) n acc (Nat.succ_le_of_lt hlt) hd (Nat.le_succ_of_le ha) (Nat.le_succ_of_le hn) hw
   (by tm_at "n") (by tm_at "n") (by tm_at "n") (by tm_at "n") (by tm_at "n")
 | @two s c r c1 c2 c3=>
  intro hws σ p n acc hp hT ha hn hw h1 h2 h3 h4 h5;refine n5 (g7 hT) fun hlt hch hd=> ?_;have:n=0:=by
   have: ¬0<n:=fun z=>by have:=hw.mpr z;injection this
   omega
  subst this;have hin:([[43],[45]]:List b9).contains [k6 T p]=false:=by rw[hch];simp[c1,c2]
  exact .inl ⟨_,N6 (c9 (by tm_at "e") (by simp;omega)) (d5.cons (i7 (vs:=[.str [k6 T p],.int ((p+1:Nat):Int)]) (by tm_at "e") rfl (by decide) rfl)
   (d5.ret (d8.if0 (c7 (e9 (by tm_at "e") (c8.list (vs:=[.str [43],.str [45]]) (by tm_at "e") rfl (by decide)) (J2 (l:=[[43],[45]]) (by decide)) rfl) hin) (d5.ret (d8.if1 (c9 (by tm_at "e") (by simp[hch,c3])) (d5.ret (d8.if1 (c9 (by tm_at "e") (by exact rfl)) (d5.ret (d8.ret (v:=.none) (by tm_at "e"))))))))))⟩
 | @bad s c r c1 c2 c3 hbad=>
  intro hws σ p n acc hp hT ha hn hw h1 h2 h3 h4 h5;refine n5 (g7 hT) fun hlt hch hd=> ?_;have hn0:0<n:=hw.mp rfl;have hin:([[43],[45]]:List b9).contains [k6 T p]=false:=by rw[hch];simp[c1,c2]
  have LA:=AC (g:=g) hlen hso hl hasc (σ:=(σ.set "letter" (.str [k6 T p])).set "end" (.int ((p+1:Nat):Int))) hlt (by tm_at "n") (by tm_at "n") (by tm_at "n");rw[hT,hbad] at LA;refine d6 LA fun σ' LA=> ?_;exact .inl ⟨σ',N6 (c9 (by tm_at "e") (by simp;omega)) (d5.cons (i7 (vs:=[.str [k6 T p],.int ((p+1:Nat):Int)]) (by tm_at "e") rfl (by decide) rfl)
   (d5.ret (d8.if0 (c7 (e9 (by tm_at "e") (c8.list (vs:=[.str [43],.str [45]]) (by tm_at "e") rfl (by decide)) (J2 (l:=[[43],[45]]) (by decide)) rfl) hin) (d5.ret (d8.if1 (c9 (by tm_at "e") (by simp[hch,c3])) (d5.cons (d8.if0 (c7 (by tm_at "e") (by simp;omega)) d5.nil) (d5.ret LA)))))))⟩
 | @atom s c m r x c1 c2 c3 hat A ih=>
  intro hws σ p n acc hp hT ha hn hw h1 h2 h3 h4 h5;refine n5 (g7 hT) fun hlt hch hd=> ?_;refine f8 (bJ hat) fun n1 n2=> ?_;have hn0:0<n:=hw.mp rfl;have hin:([[43],[45]]:List b9).contains [k6 T p]=false:=by rw[hch];simp[c1,c2]
  have hpn:p+m<=T.length:=by
   have:=congrArg List.length hT;rw[List.length_drop] at this;exact VO hlt n2 this
  have LA:=AC (g:=g) hlen hso hl hasc (σ:=(σ.set "letter" (.str [k6 T p])).set "end" (.int ((p+1:Nat):Int))) hlt (by tm_at "n") (by tm_at "n") (by tm_at "n");rw[hT,hat] at LA;refine s5 LA fun SG LA k1 k2=> ?_;have f1:SG.get "text"=some (.str T):=(k2 _ (by decide)).trans (by tm_at "n");have f2:SG.get "found"=some (.list (acc.map w7)):=(k2 _ (by decide)).trans (by tm_at "n");have f3:SG.get "sign"=some (.int s):=(k2 _ (by decide)).trans (by tm_at "n");have f5:SG.get "k"=some (.int (p:Nat)):=(k2 _ (by decide)).trans (by tm_at "n");have hsl:j9 T (some (p:Int)) (some ((p+m:Nat):Int))=(c::r).take m:=by
   rw[bF (by omega) hpn,hT,show p+m-p=m by omega]
  have hdn:T.drop (p+m)=(c::r).drop m:=by rw[<-List.drop_drop,hT]
  refine ME (sG (σ2:=(((SG.set "found" (.list (acc.map w7++[.tup [.int s,.str ((c::r).take m)]]))).set "sign" (.int 1)).set "signs" (.int ((0:Nat):Int))).set "k" (.int ((p+m:Nat):Int))) (fun h=>i3 (c9 (by tm_at "e") (by simp;omega)) (d5.cons (i7 (vs:=[.str [k6 T p],.int ((p+1:Nat):Int)]) (by tm_at "e") rfl (by decide) rfl)
   (d5.cons (d8.if0 (c7 (e9 (by tm_at "e") (c8.list (vs:=[.str [43],.str [45]]) (by tm_at "e") rfl (by decide)) (J2 (l:=[[43],[45]]) (by decide)) rfl) hin) (d5.cons (d8.if1 (c9 (by tm_at "e") (by simp[hch,c3])) (d5.cons (d8.if0 (c7 (by tm_at "e") (by simp;omega)) d5.nil) (d5.cons LA (d5.cons (i7 (vs:=[.list (acc.map w7++[.tup [.int s,.str ((c::r).take m)]]),.int 1,.int 0]) (v6.cons (c8.bin (by tm_at "e") (c8.list (v6.cons (c8.tup (v6.cons (by tm_at "e") (v6.cons (hsl▸c8.slice (li:=some (p:Int)) (hj:=some ((p+m:Nat):Int)) (by tm_at "v") (by tm_at "e") (by tm_at "e") (Nat.le_trans hl (by decide))) v6.nil)) rfl (by show 2<=g9;decide)) v6.nil) rfl (by show 1<=g9;decide)) (eX (by simp;exact WH ha hlt hl (by decide)))) (by tm_at "e")) rfl (by decide) rfl) d5.nil)))) d5.nil))
    (d5.cons (d7 (v:=.int ((p+m:Nat):Int)) (by tm_at "e") (by decide) (by decide) rfl) d5.nil))) h) ?_)
  exact ih (fun Z=>rfl) ((((SG.set "found" (.list (acc.map w7++[.tup [.int s,.str ((c::r).take m)]]))).set "sign" (.int 1)).set "signs" (.int ((0:Nat):Int))).set "k" (.int ((p+m:Nat):Int))) (p+m) 0 (acc++[(s,(c::r).take m)]) hpn hdn (by simp;exact Nat.add_le_add ha n1) (by omega) ⟨fun z=>(by injection z),fun z=>(by omega)⟩
   (by tm_at "n") (by rw[List.map_append];tm_at "n") (by tm_at "n") (by tm_at "n") (by tm_at "n")
noncomputable def P0:List V->R V:=fS fun t=>
  if t.length<=5000/\j6 t=true then (match y5 t with|some as=>.ok (.list (as.map w7))|none=>.ok .none) else .stuck
theorem oE (hlen:g.fn "len"=none) (hso:g.fn "_law_sort"=some v5) (vs:List V) (hn:P0 vs≠.stuck):g8 g none v3.sc ["text"] v3.body vs (P0 vs):=by
 have hlim:g9=1048576:=rfl;refine d6 (R9 hn) fun t z1r=> ?_;subst z1r;have hc:=E0 hn;refine l5 (if_pos hc) ?_;refine f8 hc fun hl hasc=> ?_;clear hc;have e0:d8 g none v3.sc (List.zip ["text"] [.str t]) (i4 v3.body 0) (.ok (.next,d9.set (d9.set (d9.set (d9.set (List.zip ["text"] [.str t]) "found" (.list [])) "sign" (.int 1)) "signs" (.int ((1:Nat):Int))) "k" (.int ((0:Nat):Int)))):=
  i7 (vs:=[.list [],.int 1,.int 1,.int 0]) (by tm_at "e") rfl (by decide) rfl
 have L:=MF (g:=g) hlen hso hl hasc (L5 t) (fun z=>by injection z) (d9.set (d9.set (d9.set (d9.set (List.zip ["text"] [.str t]) "found" (.list [])) "sign" (.int 1)) "signs" (.int ((1:Nat):Int))) "k" (.int ((0:Nat):Int))) 0 1 [] (by omega) (by simp) (by simp) (Nat.le_refl _) ⟨fun Z=>by omega,fun Z=>rfl⟩ (by tm_at "n") (by tm_at "n") (by tm_at "n") (by tm_at "n") (by tm_at "n");cases hx:y5 t with
 |none=>
  rw[hx] at L;rcases L with⟨σ',L⟩|⟨σ',n,L,g1⟩
  ·exact g8.ret rfl (d5.cons e0 (d5.ret L))
  ·exact g8.ret rfl (d5.cons e0 (d5.cons L (d5.ret (d8.ret (v:=.none) (c8.if0 (c7 (by tm_at "e") (by simp;omega)) (by tm_at "e"))))))
 |some v=>
  rw[hx] at L;refine s5 L fun σ' L g0 g1=> ?_;exact g8.ret rfl (d5.cons e0 (d5.cons L (d5.ret (d8.ret (v:=.list (v.map w7)) (c8.if1 (c9 (by tm_at "e") (by exact rfl)) (by tm_at "e"))))))
end
theorem oG {σ:d9} {p:Str->Bool} {x:Str} (h:p x=true):(σ.filter fun q=>p q.1).lookup x=σ.lookup x:=by
 induction σ with
 |nil=>rfl
 |cons a r ih=>
  obtain⟨y,v⟩:=a;rw[List.filter_cons];by_cases hxy:x=y
  ·subst hxy;simp[h]
  ·have e:(x==y)=false:=by simpa using hxy
   split
   ·rw[List.lookup_cons,List.lookup_cons,e];exact ih
   ·rw[List.lookup_cons,e];exact ih
theorem M8 {σ:d9} {sc csc:Scope} {x:Str} {v:V} (h:σ.get x=some v) (hc:(csc.names.lookup x==some .free &&(sc.names.lookup x==some .cell||sc.names.lookup x==some .free))=true):(i5 σ sc csc).get x=some v:=by
 unfold i5 d9.get;exact(oG (p:=fun y=>csc.names.lookup y==some .free &&(sc.names.lookup y==some .cell||sc.names.lookup y==some .free)) hc).trans h
theorem HS {a b:Int} (h:0<=b/\b<=1000000) (h':a.natAbs<2 ^64):R1 .Pow (.int a) (.int b)=.ok (.int (a ^b.toNat)):=by
 rw[OZ,if_pos ⟨h.1,h.2,h'⟩]
theorem OA {vs:List V} {k:Nat} {v:V} (hl:vs.length<=g9) (h:vs[k]? =some v):P2 (.olist vs) (.int (k:Int))=.ok v:=by
 show(if vs.length<=g9 then needR (G3 k vs.length) (fun k=>needR vs[k]? R.ok) else R.stuck)=_;have hk:k<vs.length:=by
  rcases Nat.lt_or_ge k vs.length with z|z
  ·exact z
  ·rw[List.getElem?_eq_none z] at h;injection h
 have:G3 (k:Int) vs.length=some k:=by
  unfold G3;rw[if_pos (by omega),if_pos (by omega)];rfl
 rw[if_pos hl,this];show needR vs[k]? R.ok=_;rw[h];rfl
theorem HT {vs:List V} {k:Nat} {v:V} (hl:vs.length<=g9) (h:vs[k]? =some v):P2 (.list vs) (.int (k:Int))=.ok v:=OA hl h
theorem QL {x:Int} {l:List Int}:fJ "max" [.olist ((x::l).map V.int)]=.ok (.int (wV (x::l))):=by
 rw[PZ];show needR (J4 ((x::l).map V.int)) _=_;rw[bE];show(if (x::l)≠[] then R.ok (V.int (wV (x::l))) else R.stuck)=_;exact if_pos (List.cons_ne_nil _ _)
theorem HU {l:List Int}:fJ "sum" [.list (l.map V.int)]=.ok (.int l.sum):=by
 rw[QA];show needR (J4 (l.map V.int)) _=_;rw[bE];rfl
theorem vK {n:Nat} (h:n<=g9):fJ "range" [.int (n:Int)]=.ok (.rng n):=by
 rw[GW];exact if_pos (by rw[Int.natAbs_natCast];exact h)
theorem qD {n:Nat} (h:n<=g9):s9 (.rng n)=.ok ((List.range n).map fun(k:Nat)=>V.int (k:Int)):=by
 show(if (n:Int).natAbs<=g9 then R.ok ((List.range (n:Int).toNat).map fun(k:Nat)=>V.int (k:Int)) else .stuck)=_;rw[if_pos (by rw[Int.natAbs_natCast];exact h)];rfl
theorem QM {a:b9} {d:Int} {kvs:List (b9×Int)}:w4 "get" (.dict kvs) [.str a,.int d]=.ok (.int ((kvs.lookup a).getD d)):=rfl
theorem QN {a:b9} {kvs:List (b9×Int)}:w9 .In (.str a) (.dict kvs)=.ok ((kvs.lookup a).isSome):=XB a kvs
theorem mM {g:G} {csc:Scope} {elt:Expr} {x:Str} {xp:Pos} {σ:d9} {f:Nat->V} (hf: ∀c,(f c).open? =false): ∀{r:List Nat},(∀c∈r,c8 g csc (σ.set x (.int (c:Nat))) false elt (.ok (f c)))->Q6 g csc σ (.Name x xp) elt [] (r.map fun(k:Nat)=>V.int (k:Int)) (r.map f)
 |[],_=>Q6.nil
 |c::r,h=>Q6.take rfl (h c List.mem_cons_self) (hf c) (mM hf fun d hd=>h d (List.mem_cons_of_mem _ hd))
noncomputable def eY (b:Int):Int->List Int->Int
 |v,[]=>v
 |v,c::r=>eY b (v*b+c) r
theorem mN (b:Int): ∀(l:List Int) (v:Int),eY b v l=v*b ^l.length+((List.range l.length).map fun k=>l.getD k 0*b ^(l.length-1-k)).sum
 |[],v=>by show v=v*b ^0+0;rw[Int.pow_zero,Int.mul_one,Int.add_zero]
 |c::r,v=>by
  show eY b (v*b+c) r=_;rw[mN b r,List.length_cons,List.range_succ_eq_map,List.map_cons,List.sum_cons,List.map_map];have e:((fun k=>(c::r).getD k 0*b ^(r.length+1-1-k)) ∘ Nat.succ)=fun k=>r.getD k 0*b ^(r.length-1-k):=by
   funext k
   show(c::r).getD (k+1) 0*b ^(r.length+1-1-(k+1))=_;rw[List.getD_cons_succ,show r.length+1-1-(k+1)=r.length-1-k by exact ohs]
  rw[e,List.getD_cons_zero,show r.length+1-1-0=r.length by omega,Int.pow_succ,Int.add_mul,Int.mul_assoc,Int.mul_comm b];rw[Int.add_assoc]
noncomputable def w2 (b:Nat) (c:Nat):Int:=if 48<=c/\c<58 then (c:Int)-48 else if 97<=c/\c<123 then (c:Int)-87 else if (65<=c/\c<91)/\b≠10 then (c:Int)-55 else 99
theorem bK (b c:Nat):0<=w2 b c:=by
 unfold w2;repeat (split; · omega)
 omega
theorem MG {b c:Nat} (h:c<128):w2 b c<=99:=by
 unfold w2;repeat (split; · omega)
 omega
theorem gH {b:Nat} {cv:Nat->Nat} (h: ∀c,c<128->(match M7 (cv c) with|some d=>if d<b then some d else none|none=>none)=(if w2 b c<b then some (w2 b c).toNat else none)): ∀(fs:b9) (v:Nat),(∀c∈fs,c<128)->
  P8 b v (fs.map cv)=if fs.all (fun c=>decide (w2 b c<b)) then some (eY b v (fs.map (w2 b))).toNat else none
 |[],v,_=>(if_pos rfl).symm
 |c::r,v,hs=>by
  show(match M7 (cv c) with|some d=>if d<b then P8 b (v*b+d) (r.map cv) else none|none=>none)=_;have hc:=h c (hs c List.mem_cons_self);rw[List.all_cons];by_cases hv:w2 b c<b
  ·rw[if_pos hv] at hc;have hn:=bK b c;cases hd:M7 (cv c) with
   |none=>rw[hd] at hc;injection hc
   |some d=>
    rw[hd] at hc;dsimp only at hc;split at hc
    ·rename_i hdb;injection hc with hc;subst hc;dsimp only;rw[if_pos hdb,gH h r _ (fun d hd=>hs d (List.mem_cons_of_mem _ hd)),decide_eq_true hv,Bool.true_and];show _=if _ then some (eY b ((v:Int)*b+w2 b c) (r.map (w2 b))).toNat else none;rw[show((v:Int)*(b:Int)+w2 b c)=((v*b+(w2 b c).toNat:Nat):Int) by
      rw[Int.natCast_add,Int.natCast_mul,Int.toNat_of_nonneg hn]]
    ·injection hc
  ·rw[if_neg hv] at hc;rw[decide_eq_false hv,Bool.false_and,if_neg (by decide)];cases hd:M7 (cv c) with
   |none=>rfl
   |some d=>
    rw[hd] at hc;dsimp only at hc ⊢;split at hc
    ·injection hc
    ·rename_i hdb;rw[if_neg hdb]
noncomputable def QO (b:Nat) (c:Nat):Option Nat:=match M7 c with|some d=>if d<b then some d else none|none=>none
noncomputable def QP (b:Nat) (c:Nat):Option Nat:=if w2 b c<(b:Int) then some (w2 b c).toNat else none
theorem YW: ∀c:Fin 128,QO 2 (cH c.val)=QP 2 c.val:=by decide+kernel
theorem UE: ∀c:Fin 128,QO 16 (cH c.val)=QP 16 c.val:=by decide+kernel
theorem UF: ∀c:Fin 128,QO 10 c.val=QP 10 c.val:=by decide+kernel
noncomputable abbrev I2:List (b9×Int):=[([48,120],16),([48,88],16),([48,98],2),([48,66],2)]
noncomputable def P3 (t:b9):b9:=if ([[48,120],[48,88],[48,98],[48,66]]:List b9).contains (t.take 2) then t.drop 2 else t
theorem yF (t:b9):((I2.lookup (t.take 2)).getD 10=((l4 t).1:Int))/\((I2.lookup (t.take 2)).isSome=([[48,120],[48,88],[48,98],[48,66]]:List b9).contains (t.take 2)):=by
 unfold l4;rcases t with _|⟨a,_|⟨b,r⟩⟩
 ·exact⟨rfl,rfl⟩
 ·have e: ∀k:Nat,(([a]:b9)==[48,k])=false:=fun k=>by simp
  refine⟨?_,?_⟩
  ·show(List.lookup [a] I2).getD 10=(((if ([[48,120],[48,88],[48,98],[48,66]]:List b9).contains [a] then _ else _):Nat×b9).1:Int);simp[List.lookup_cons]
  ·simp[List.lookup_cons]
 ·have hch:k6 (a::b::r) 1=b:=rfl;have htk:(a::b::r).take 2=[a,b]:=rfl;rw[hch,htk];by_cases ha:a=48
  ·subst ha;by_cases h1:b=120; · subst h1;exact⟨rfl,rfl⟩
   by_cases h2:b=88; · subst h2;exact⟨rfl,rfl⟩
   by_cases h3:b=98; · subst h3;exact⟨rfl,rfl⟩
   by_cases h4:b=66; · subst h4;exact⟨rfl,rfl⟩
   have e: ∀k:Nat,b≠k->(([48,b]:b9)==[48,k])=false:=fun k h=>by simp[h]
   have el:I2.lookup [48,b]=none:=by simp only[List.lookup_cons,List.lookup_nil,e _ h1,e _ h2,e _ h3,e _ h4]
   have ec:([[48,120],[48,88],[48,98],[48,66]]:List b9).contains [48,b]=false:=by simp[h1,h2,h3,h4]
   rw[el,ec];exact⟨rfl,rfl⟩
  ·have e: ∀k:Nat,(([a,b]:b9)==[48,k])=false:=fun k=>by simp[ha]
   have el:I2.lookup [a,b]=none:=by simp only[List.lookup_cons,List.lookup_nil,e]
   have ec:([[48,120],[48,88],[48,98],[48,66]]:List b9).contains [a,b]=false:=by simp[ha]
   rw[el,ec];exact⟨rfl,rfl⟩
theorem iE {b:Int} (hb:0<=b): ∀(l:List Int) (v:Int),0<=v->(∀x∈l,0<=x)->0<=eY b v l
 |[],v,hv,_=>hv
 |c::r,v,hv,h=>iE hb r _ (Int.add_nonneg (Int.mul_nonneg hv hb) (h c List.mem_cons_self)) fun x hx=>h x (List.mem_cons_of_mem _ hx)
theorem AD {A C C':Prop} [Decidable A] [Decidable C] [Decidable C'] (h:C'↔C) {u:Nat}:(match (if A then some u else none:Option Nat) with|some v=>if C' then none else some v|none=>none)=if C then none else if A then some u else none:=by
 by_cases a:A<;>by_cases c:C<;>simp[a,c,h]
theorem MH {t:b9} (hasc:j6 t=true):B8 t=if P3 t=[]\/((l4 t).1=10/\1<(P3 t).length/\k6 (P3 t) 0=48) then none
  else if (P3 t).all (fun c=>decide (w2 (l4 t).1 c<(l4 t).1)) then some (eY (l4 t).1 0 ((P3 t).map (w2 (l4 t).1))).toNat else none:=by
 have hmem: ∀c∈P3 t,c<128:=fun c hc=>by
  unfold P3 at hc;split at hc
  ·exact w8 hasc (List.mem_of_mem_drop hc)
  ·exact w8 hasc hc
 unfold B8;by_cases hp:([[48,120],[48,88],[48,98],[48,66]]:List b9).contains (t.take 2)=true
 ·have e1:P3 t=t.drop 2:=if_pos hp;have e2:(l4 t).2=(P3 t).map cH:=by unfold l4;rw[if_pos hp,e1]
  have e3:(l4 t).1=16\/(l4 t).1=2:=by
   unfold l4;rw[if_pos hp];dsimp only;split
   ·exact .inl rfl
   ·exact .inr rfl
  have e4:P8 (l4 t).1 0 (l4 t).2=if (P3 t).all (fun c=>decide (w2 (l4 t).1 c<(l4 t).1)) then some (eY (l4 t).1 ((0:Nat):Int) ((P3 t).map (w2 (l4 t).1))).toNat else none:=by
   rw[e2];refine gH (fun c hc=> ?_) _ 0 hmem;rcases e3 with e|e
   ·rw[e];exact UE ⟨c,hc⟩
   ·rw[e];exact YW ⟨c,hc⟩
  have hne:(l4 t).1≠10:=by rcases e3 with e|e<;>(rw[e];decide)
  rw[e4,e2];refine AD ?_;rw[List.map_eq_nil_iff];constructor
  ·rintro (z|⟨z,_⟩)
   ·exact .inl z
   ·exact absurd z hne
  ·rintro (z|⟨z,_⟩)
   ·exact .inl z
   ·exact absurd z hne
 ·have e1:P3 t=t:=if_neg hp;have e2:l4 t=(10,t):=by unfold l4;rw[if_neg hp]
  rw[e1,e2];rw[e1] at hmem;dsimp only;have e4:P8 10 0 t=if t.all (fun c=>decide (w2 10 c<(10:Nat))) then some (eY (10:Nat) ((0:Nat):Int) (t.map (w2 10))).toNat else none:=by
   have:=gH (b:=10) (cv:=id) (fun c hc=>UF ⟨c,hc⟩) t 0 hmem;rwa[List.map_id] at this
  rw[e4];exact AD Iff.rfl
theorem AE {b:Int}: ∀(l:List Int) (x:Int),l.foldl max x<b↔x<b/\ ∀y∈l,y<b
 |[],x=>by simp
 |c::r,x=>by
  rw[List.foldl_cons,AE r];simp only[List.mem_cons,forall_eq_or_imp,Int.max_lt];constructor
  ·rintro ⟨⟨h1,h2⟩,h3⟩;exact⟨h1,h2,h3⟩
  ·rintro ⟨h1,h2,h3⟩;exact⟨⟨h1,h2⟩,h3⟩
section
variable {g:G} {t:b9}
theorem vL (hord:g.fn "ord"=none) {b:Nat}: ∀(r:b9) (σ:d9) (acc:List Int),acc.length+r.length<=2000->σ.get "base"=some (.int (b:Nat))->σ.get "values"=some (.olist (acc.map .int))->
  ∃σ',P7 g (some "values") j5.sc σ (V1 (i4 j5.body 4)) (sB (i4 j5.body 4)) (r.map fun c=>.str [c]) (.ok (.next,σ'))/\σ'.get "base"=some (.int (b:Nat))/\σ'.get "values"=some (.olist ((acc++r.map (w2 b)).map .int))
 |[],σ,acc,_,h1,h2=>⟨σ,P7.nil,h1,by rw[h2];simp⟩
 |c::r,σ,acc,hl,h1,h2=>by
  have hlim:g9=1048576:=rfl;rw[List.length_cons] at hl;have hb:t7 σ (V1 (i4 j5.body 4)) (.str [c])=.ok (σ.set "figure" (.str [c])):=rfl;refine s5 (vL hord (b:=b) r ((((σ.set "figure" (.str [c])).set "code" (.int (c:Nat))).set "value" (.int (w2 b c))).set "values" (.olist (acc.map .int++[.int (w2 b c)]))) (acc++[w2 b c]) (by simp;exact oc1 hl) (by tm_at "n") (by rw[List.map_append];tm_at "n")) fun σ' x1 x2 x3=> ?_;have hv:d8 g (some "values") j5.sc ((σ.set "figure" (.str [c])).set "code" (.int (c:Nat))) (i4 (sB (i4 j5.body 4)) 1) (.ok (.next,((σ.set "figure" (.str [c])).set "code" (.int (c:Nat))).set "value" (.int (w2 b c)))):=by
   refine d7 (v:=.int (w2 b c)) ?_ (by decide) (by decide) rfl;have g1:((σ.set "figure" (.str [c])).set "code" (.int (c:Nat))).get "base"=some (.int (b:Nat)):=by tm_at "n"
   have g2:((σ.set "figure" (.str [c])).set "code" (.int (c:Nat))).get "code"=some (.int (c:Nat)):=by tm_at "n"
   unfold w2;by_cases h1:48<=c/\c<58
   ·rw[if_pos h1];exact c8.if1 (c9 (by tm_at "e") (by simp;exact r11 h1)) (by tm_at "e")
   rw[if_neg h1];refine c8.if0 (c7 (by tm_at "e") (by simp;omega)) ?_;by_cases h2:97<=c/\c<123
   ·rw[if_pos h2];exact c8.if1 (c9 (by tm_at "e") (by simp;exact r12 h2)) (by tm_at "e")
   rw[if_neg h2];refine c8.if0 (c7 (by tm_at "e") (by simp;omega)) ?_;have hT:c8 g j5.sc ((σ.set "figure" (.str [c])).set "code" (.int (c:Nat))) true (eK (eK (eK (sE (i4 (sB (i4 j5.body 4)) 1)) 2) 2) 0) (.ok (.bool (decide ((65<=c/\c<91)/\b≠10)))):=
    c8.to (j2 (J0.cons (by tm_at "e") fun Z=>J0.one (by tm_at "e"))) (by
     congr 2
     rw[Bool.eq_iff_iff];simp;exact q76)
   by_cases h3:(65<=c/\c<91)/\b≠10
   ·rw[if_pos h3];rw[decide_eq_true h3] at hT;exact c8.if1 hT (by tm_at "e")
   ·rw[if_neg h3];rw[decide_eq_false h3] at hT;exact c8.if0 hT (by tm_at "e")
  refine⟨σ',P7.cons hb (d5.cons (d7 (v:=.int (c:Nat)) (by tm_at "e") (by decide) (by decide) rfl) (d5.cons hv (d5.cons (d8.append (vs:=acc.map .int) (v:=.int (w2 b c)) (by tm_at "e") (by tm_at "v") (by decide) rfl (by simp;exact r34 hl (by decide))) d5.nil))) x1,x2,?_⟩;rw[x3];simp
noncomputable def A5:List V->R V:=fS fun t=>
  if t.length<=1000/\j6 t=true then (match B8 t with|some v=>.ok (.int (v:Nat))|none=>.ok .none) else .stuck
theorem mO (hlen:g.fn "len"=none) (hord:g.fn "ord"=none) (hmax:g.fn "max"=none) (hsum:g.fn "sum"=none) (hrng:g.fn "range"=none) (vs:List V) (hn:A5 vs≠.stuck):g8 g (some "values") j5.sc ["text"] j5.body vs (A5 vs):=by
 have hlim:g9=1048576:=rfl;refine d6 (R9 hn) fun t z2r=> ?_;subst z2r;have hc:=E0 hn;refine l5 (if_pos hc) ?_;refine f8 hc fun hl hasc=> ?_;clear hc;refine f8 (yF t) fun mb1 mb2=> ?_;have hb:(l4 t).1<=16/\2<=(l4 t).1:=by
  unfold l4;split
  ·dsimp only;split<;>omega
  ·dsimp only;omega
 have hs2:j9 t none (some 2)=t.take 2:=jK (b:=2);have e0:d8 g (some "values") j5.sc (List.zip ["text"] [.str t]) (i4 j5.body 0) (.ok (.next,d9.set (List.zip ["text"] [.str t]) "marks" (.dict I2))):=
  d7 (v:=.dict I2) (c8.dict (kvs:=I2) rfl ⟨by decide,by decide,by decide⟩) (by decide) (by decide) rfl
 have hraw:c8 g j5.sc (d9.set (List.zip ["text"] [.str t]) "marks" (.dict I2)) false (eK (sE (i4 j5.body 1)) 1) (.ok (.str (P3 t))):=by
  have hT:c8 g j5.sc (d9.set (List.zip ["text"] [.str t]) "marks" (.dict I2)) true (eK (eK (sE (i4 j5.body 1)) 1) 0) (.ok (.bool (([[48,120],[48,88],[48,98],[48,66]]:List b9).contains (t.take 2)))):=
   mb2▸e9 (hs2▸c8.slice (by tm_at "v") (by tm_at "e") (by tm_at "e") (Nat.le_trans hl (by decide))) (by tm_at "e") QN rfl
  unfold P3;cases hp:([[48,120],[48,88],[48,98],[48,66]]:List b9).contains (t.take 2) with
  |true=>
   rw[hp] at hT;rw[if_pos rfl];have h2:2<=t.length:=by
    rcases t with _|⟨a,_|⟨b,r⟩⟩
    ·exact absurd hp (by decide)
    ·exfalso;simp at hp
    ·simp
   have hd2:j9 t (some 2) none=t.drop 2:=jJ (a:=2) h2;exact c8.if1 hT (hd2▸c8.slice (by tm_at "v") (by tm_at "e") (by tm_at "e") (Nat.le_trans hl (by decide)))
  |false=>
   rw[hp] at hT;rw[if_neg (by decide)];exact c8.if0 hT (by tm_at "e")
 have hbase:c8 g j5.sc (d9.set (List.zip ["text"] [.str t]) "marks" (.dict I2)) false (eK (sE (i4 j5.body 1)) 0) (.ok (.int ((l4 t).1:Nat))):=
  mb1▸CK (c8.name (g6 (v:=.dict I2) (by tm_at "n") rfl (by decide))) (hs2▸c8.slice (by tm_at "v") (by tm_at "e") (by tm_at "e") (Nat.le_trans hl (by decide))) (by tm_at "e") QM ⟨rfl,rfl⟩
 have e1:d8 g (some "values") j5.sc (d9.set (List.zip ["text"] [.str t]) "marks" (.dict I2)) (i4 j5.body 1) (.ok (.next,((d9.set (List.zip ["text"] [.str t]) "marks" (.dict I2)).set "base" (.int ((l4 t).1:Nat))).set "figures" (.str (P3 t)))):=
  i7 (vs:=[.int ((l4 t).1:Nat),.str (P3 t)]) (v6.cons hbase (v6.cons hraw v6.nil)) rfl (by decide) rfl
 have hmem: ∀c∈P3 t,c<128:=fun c hc=>by
  unfold P3 at hc;split at hc
  ·exact w8 hasc (List.mem_of_mem_drop hc)
  ·exact w8 hasc hc
 have hfl:(P3 t).length<=t.length:=by
  unfold P3;split<;>simp
 rw[MH hasc];have g1:(((d9.set (List.zip ["text"] [.str t]) "marks" (.dict I2)).set "base" (.int ((l4 t).1:Nat))).set "figures" (.str (P3 t))).get "base"=some (.int ((l4 t).1:Nat)):=by tm_at "n"
 have g2:(((d9.set (List.zip ["text"] [.str t]) "marks" (.dict I2)).set "base" (.int ((l4 t).1:Nat))).set "figures" (.str (P3 t))).get "figures"=some (.str (P3 t)):=by tm_at "n"
 generalize ((d9.set (List.zip ["text"] [.str t]) "marks" (.dict I2)).set "base" (.int ((l4 t).1:Nat))).set "figures" (.str (P3 t))=wM at*;generalize P3 t=fs at*;generalize (l4 t).1=b at*;have hcond:c8 g j5.sc wM true (sE (i4 j5.body 2)) (.ok (.bool (decide (fs=[]\/(b=10/\1<fs.length/\k6 fs 0=48))))):=by
  by_cases h0:fs=[]
  ·refine c8.to (C2 (aA.cons (b1:=true) (b2:=true) (c9 (by tm_at "e") (by simp[h0])) fun h=>by injection h)) (by simp[h0])
  ·by_cases h1:1<fs.length
   ·refine c8.to (C2 (aA.cons (by tm_at "e") fun Z=>aA.one (j2 (J0.cons (by tm_at "e") fun Z=>J0.cons (by tm_at "e") fun Z=>J0.one (by tm_at "e"))))) ?_;rw[show(fs==[])=false by simp[h0],show decide ((1:Int)<(fs.length:Int))=true by simp;omega];simp[h0,h1];rw[show((b:Int)==10)=decide (b=10) by
     rw[Bool.eq_iff_iff];simp;exact WK]
    by_cases hb10:b=10<;>by_cases hc0:k6 fs 0=48<;>simp[hb10,hc0]
   ·refine c8.to (C2 (aA.cons (by tm_at "e") fun Z=>aA.one (j2 (J0.cons (by tm_at "e") fun Z=>J0.cons (b1:=false) (b2:=true) (c7 (by tm_at "e") (by simp;omega)) fun h=>by injection h)))) ?_;rw[show(fs==[])=false by simp[h0]];simp[h0,h1]
 by_cases hq:fs=[]\/(b=10/\1<fs.length/\k6 fs 0=48)
 ·rw[decide_eq_true hq] at hcond;rw[if_pos hq];exact g8.ret rfl (d5.cons e0 (d5.cons e1 (d5.ret (d8.if1 hcond (d5.ret (d8.ret (v:=.none) (by tm_at "e")))))))
 rw[decide_eq_false hq] at hcond;rw[if_neg hq];have h0:fs≠[]:=fun z=>hq (.inl z);have e3:d8 g (some "values") j5.sc wM (i4 j5.body 3) (.ok (.next,wM.set "values" (.olist []))):=uO (vs:=[]) (by tm_at "e") rfl rfl;refine s5 (vL (g:=g) hord (b:=b) fs (wM.set "values" (.olist [])) [] (by simp;exact VT hfl hl (by decide)) (by tm_at "n") (by tm_at "n")) fun σ' x1 x2 x3=> ?_;rw[List.nil_append] at x3;have e4:d8 g (some "values") j5.sc (wM.set "values" (.olist [])) (i4 j5.body 4) (.ok (.next,σ')):=H4 (by tm_at "e") (w6 (DS hfl hl (by decide))) rfl x1;have hvl:((fs.map (w2 b)).map V.int).length<=g9:=by simp;exact DS hfl hl (by decide)
 have hn:(fs.map (w2 b)).length=fs.length:=by simp
 have hmx: ∃m:Int,fJ "max" [.olist ((fs.map (w2 b)).map V.int)]=.ok (.int m)/\(m<b↔ ∀c∈fs,w2 b c<b):=by
  rcases fs with _|⟨c,r⟩
  ·exact absurd rfl h0
  ·refine⟨_,QL (x:=w2 b c) (l:=r.map (w2 b)),?_⟩;show(r.map (w2 b)).foldl max (w2 b c)<b↔_;rw[AE];simp
 refine e8 hmx fun m hm1 hm2=> ?_;clear hmx;have hT5:c8 g j5.sc σ' true (sE (i4 j5.body 5)) (.ok (.bool (decide ((b:Int)<=m)))):=
  e9 (c8.bcall (by tm_at "e") hmax rfl hm1 rfl rfl) (by tm_at "e") (NP _ _) rfl
 by_cases hall: ∀c∈fs,w2 b c<b
 case neg=>
  have hlt: ¬m<b:=fun z=>hall (hm2.mp z);rw[decide_eq_true (by omega)] at hT5;have:(fs.all fun c=>decide (w2 b c<b))=false:=by
   rw[List.all_eq_false];apply Classical.byContradiction
   intro z;exact hall fun c hc=>by
    apply Classical.byContradiction
    intro y;exact z ⟨c,hc,by simpa using y⟩
  rw[this,if_neg (by decide)];exact g8.ret rfl (d5.cons e0 (d5.cons e1 (d5.cons (d8.if0 hcond d5.nil) (d5.cons e3 (d5.cons e4 (d5.ret (d8.if1 hT5 (d5.ret (d8.ret (v:=.none) (by tm_at "e"))))))))))
 have hlt:m<b:=hm2.mpr hall;rw[decide_eq_false (by omega)] at hT5;have:(fs.all fun c=>decide (w2 b c<b))=true:=by rw[List.all_eq_true];exact fun c hc=>decide_eq_true (hall c hc)
 rw[this,if_pos rfl];have hsm:eY b 0 (fs.map (w2 b))=((List.range fs.length).map fun k=>(fs.map (w2 b)).getD k 0*(b:Int) ^(fs.length-1-k)).sum:=by
  rw[mN,hn];simp
 have hnn:0<=eY b 0 (fs.map (w2 b)):=iE (by omega) _ _ (by omega) fun x hx=>by
  refine e8 (List.mem_map.mp hx) fun c Z z1r=> ?_;subst z1r;exact bK b c
 show g8 g (some "values") j5.sc ["text"] j5.body [.str t] (.ok (.int (((eY b 0 (fs.map (w2 b))).toNat:Nat):Int)));rw[Int.toNat_of_nonneg hnn,hsm];refine g8.ret rfl (d5.cons e0 (d5.cons e1 (d5.cons (d8.if0 hcond d5.nil) (d5.cons e3 (d5.cons e4 (d5.cons (d8.if0 hT5 d5.nil) (d5.ret (σ':=σ') (d8.ret (v:=.int _) (c8.bcall (v6.cons (v:=.list (((List.range fs.length).map fun k=>(fs.map (w2 b)).getD k 0*(b:Int) ^(fs.length-1-k)).map V.int)) (J9 (iv:=.rng fs.length) ?_ (qD (DS hfl hl (by decide))) ?_ rfl) v6.nil) (by assumption) rfl HU rfl rfl)))))))))
 ·refine c8.bcall (v6.cons (v:=.int (fs.length:Nat)) (c8.to (c8.bcall (by tm_at "e") hlen rfl (lL hvl) rfl rfl) (by simp)) v6.nil) hrng rfl (vK (DS hfl hl (by decide))) rfl rfl
 ·rw[List.map_map];refine mM (f:=V.int ∘ fun k=>(fs.map (w2 b)).getD k 0*(b:Int) ^(fs.length-1-k)) (fun Z=>rfl) fun k hk=> ?_;rw[List.mem_range] at hk;have c1:((i5 σ' j5.sc (eS (eK (sE (i4 j5.body 6)) 0))).set "k" (.int (k:Nat))).get "values"=some (.olist ((fs.map (w2 b)).map .int)):=d9.ne (by decide) (M8 x3 rfl);have c2:((i5 σ' j5.sc (eS (eK (sE (i4 j5.body 6)) 0))).set "k" (.int (k:Nat))).get "base"=some (.int (b:Nat)):=d9.ne (by decide) (M8 x2 rfl);have c3:((i5 σ' j5.sc (eS (eK (sE (i4 j5.body 6)) 0))).set "k" (.int (k:Nat))).get "k"=some (.int (k:Nat)):=d9.same;have hget:((fs.map (w2 b)).map V.int)[k]? =some (.int ((fs.map (w2 b)).getD k 0)):=by
   rw[List.getElem?_map,List.getD_eq_getElem?_getD,List.getElem?_eq_getElem (by rw[hn];exact hk)];rfl
  have hv99:((fs.map (w2 b)).getD k 0).natAbs<2 ^64:=by
   rw[List.getD_eq_getElem?_getD,List.getElem?_eq_getElem (by rw[hn];exact hk)];simp only[Option.getD_some,List.getElem_map];have h1:=bK b (fs[k]);have h2:=MG (b:=b) (hmem fs[k] (List.getElem_mem hk));have:(w2 b fs[k]).natAbs<=99:=by exact q26 h1 h2
   exact Nat.lt_of_le_of_lt this (by decide)
  have hpw:((b:Int) ^(fs.length-1-k)).natAbs<2 ^4096:=by
   rw[Int.natAbs_pow,Int.natAbs_natCast];refine Nat.lt_of_le_of_lt (Nat.pow_le_pow_left hb.1 _) ?_;refine Nat.lt_of_le_of_lt (Nat.pow_le_pow_right (by decide) (show fs.length-1-k<=1000 by exact q11 hfl hl (by decide))) ?_;rw[show(16:Nat)=2 ^4 by rfl,<-Nat.pow_mul];exact Nat.pow_lt_pow_right (by decide) (by decide)
  have hbs:(b:Int).natAbs<2 ^64:=by rw[Int.natAbs_natCast];exact Nat.lt_of_le_of_lt hb.1 (by decide)
  have hex:(((((fs.map (w2 b)).map V.int).length:Int)-1-(k:Int))).toNat=fs.length-1-k:=by
   rw[List.length_map,hn];omega
  refine c8.to (c8.bin (G6 (g6 c1 rfl (by decide)) (c8.name (g6 c3 rfl (by decide))) (OA hvl hget) rfl) (c8.bin (c8.name (g6 c2 rfl (by decide))) (c8.bin (c8.bin (c8.bcall (v6.cons (c8.name (g6 c1 rfl (by decide))) v6.nil) hlen rfl (lL hvl) rfl rfl) (by tm_at "e") (fM _ _)) (c8.name (g6 c3 rfl (by decide))) (fM _ _)) (HS ⟨by rw[List.length_map,hn];exact q13 hk,by rw[List.length_map,hn];exact q12 hfl hl (by decide)⟩ hbs)) (eU (jM hv99) (by rw[hex];exact hpw))) ?_;rw[hex];rfl
end
theorem MI {t:b9} (h:t.length<=g9):fJ "list" [.str t]=.ok (.list ((t.map fun c=>[c]).map V.str)):=by
 show(if t.length<=g9 then R.ok (V.list (t.map fun c=>.str [c])) else .stuck)=_;rw[if_pos h,List.map_map];rfl
theorem eZ {c:Nat}: ∀(l:b9),(l.map fun c=>[c]).contains [c]=l.contains c
 |[]=>rfl
 |d::r=>by
  rw[List.map_cons,List.contains_cons,List.contains_cons,eZ r];congr 1
  simp
theorem vM: ∀(l:b9),(l.map fun c=>[c]).contains []=false
 |[]=>rfl
 |d::r=>by rw[List.map_cons,List.contains_cons,vM r];rfl
theorem qE: ∀(w:b9) (v:Nat),w.all k8=true->eY 8 v (w.map fun(c:Nat)=>(c:Int)-48)=(V2 v w:Nat)
 |[],v,_=>rfl
 |c::r,v,h=>by
  rw[List.all_cons,Bool.and_eq_true] at h;show eY 8 ((v:Int)*8+((c:Int)-48)) (r.map _)=(V2 (8*v+(c-48)) r:Nat);have:=(lV c).mp h.1;rw[<-qE r _ h.2];congr 1
  exact q79 this
noncomputable abbrev V4:List (b9×Int):=[([110],10),([116],9),([114],13),([92],92),([39],39),([34],34)]
noncomputable def UG:Stmt:=i4 (sB (i4 l8.body 2)) 0
noncomputable def vN:Stmt:=i4 (SE UG) 0
noncomputable def iF:Stmt:=i4 (SE vN) 0
noncomputable def HV:Stmt:=i4 (sB iF) 1
section
variable {g:G} {I:b9}
theorem HW (hlen:g.fn "len"=none) {w3:b9} (hl:w3.length<=3): ∀(m:Nat) (σ:d9) (k:Nat),w3.length-k<=m->k<=w3.length->σ.get "values"=some (.list ((w3.map fun(c:Nat)=>(c:Int)-48).map .int))->σ.get "count"=some (.int (k:Nat))->
  ∃(σ':d9),d8 g none l8.sc σ HV (.ok (.next,σ'))/\σ'.get "count"=some (.int ((k+((w3.drop k).takeWhile k8).length:Nat):Int))/\(∀y:Str,y≠"count"->σ'.get y=σ.get y):=by
 intro m;have hlim:g9=1048576:=rfl;have hvl:((w3.map fun(c:Nat)=>(c:Int)-48).map V.int).length<=g9:=by simp;exact Nat.le_trans hl (by decide)
 have stop: ∀(σ:d9) (k:Nat),k<=w3.length-> ¬k<w3.length->σ.get "values"=some (.list ((w3.map fun(c:Nat)=>(c:Int)-48).map .int))->σ.get "count"=some (.int (k:Nat))->
   ∃(σ':d9),d8 g none l8.sc σ HV (.ok (.next,σ'))/\σ'.get "count"=some (.int ((k+((w3.drop k).takeWhile k8).length:Nat):Int))/\(∀y:Str,y≠"count"->σ'.get y=σ.get y):=by
  intro σ k hk hn h1 h2;refine⟨σ,i0 (c7 (j2 (J0.cons (b1:=false) (b2:=true) (c7 (e9 (c8.name (g6 h2 rfl (by decide))) (c8.bcall (by tm_at "e") hlen rfl (eP hvl) rfl rfl) (gS _ _) rfl) (by simp;exact Nat.le_of_not_lt hn)) fun h=>by injection h)) rfl),?_,fun Z Z=>rfl⟩;rw[h2,List.drop_eq_nil_of_le (Nat.le_of_not_lt hn)];simp
 induction m with
 |zero=>intro σ k hm hk h1 h2;exact stop σ k hk (by omega) h1 h2
 |succ m ih=>
  intro σ k hm hk h1 h2;by_cases hlt:k<w3.length
  case neg=>exact stop σ k hk hlt h1 h2
  have hget:((w3.map fun(c:Nat)=>(c:Int)-48).map V.int)[k]? =some (.int ((k6 w3 k:Int)-48)):=by
   unfold k6;rw[List.map_map,List.getElem?_map,List.getD_eq_getElem?_getD,List.getElem?_eq_getElem hlt];rfl
  have hT:c8 g l8.sc σ true (sE HV) (.ok (.bool (decide ((k:Int)<(w3.length:Int)) &&(decide ((0:Int)<=(k6 w3 k:Int)-48) &&decide ((k6 w3 k:Int)-48<8))))):=
   j2 (J0.cons (c8.to (e9 (c8.name (g6 h2 rfl (by decide))) (c8.bcall (by tm_at "e") hlen rfl (eP hvl) rfl rfl) (gS _ _) rfl) (by simp)) fun Z=>J0.one (c8.cmp2 (by tm_at "e") (G6 (by tm_at "v") (by tm_at "e") (HT hvl hget) rfl) (fun Z=>by tm_at "e") (NN _ _) (fun Z=>gS _ _) rfl))
  rw[show decide ((k:Int)<(w3.length:Int))=true by simp;omega,Bool.true_and,show(decide ((0:Int)<=(k6 w3 k:Int)-48) &&decide ((k6 w3 k:Int)-48<8))=k8 (k6 w3 k) by
   rw[Bool.eq_iff_iff,lV];simp;exact r58] at hT
  rw[C3 hlt,List.takeWhile_cons];cases hn:k8 (k6 w3 k) with
  |false=>rw[hn] at hT;exact⟨σ,i0 hT,by rw[h2];simp,fun Z Z=>rfl⟩
  |true=>
   rw[hn] at hT;refine s5 (ih (σ.set "count" (.int ((k+1:Nat):Int))) (k+1) (JV hm) (Nat.succ_le_of_lt hlt) (by tm_at "n") (by tm_at "n")) fun σ' x1 x2 x3=> ?_;refine⟨σ',i3 hT (d5.cons (d7 (v:=.int ((k+1:Nat):Int)) (by tm_at "e") (by decide) (by decide) rfl) d5.nil) x1,?_,fun y hy=>(x3 y hy).trans (Q8 hy)⟩;rw[x2];simp;exact RW
noncomputable def HX (g:G) (σ:d9) (acc:List Int):Option (List Nat)->Prop
 |none=> ∃σ',d8 g none l8.sc σ (i4 l8.body 2) (.ok (.ret .none,σ'))
 |some v=> ∃(σ':d9),d8 g none l8.sc σ (i4 l8.body 2) (.ok (.next,σ'))/\σ'.get "found"=some (.list ((acc++v.map fun(n:Nat)=>(n:Int)).map .int))
theorem jP {σ σ2:d9} {acc:List Int} {x:Option (List Nat)} {v:Nat} (step: ∀{u:R (Fl×d9)},d8 g none l8.sc σ2 (i4 l8.body 2) u->d8 g none l8.sc σ (i4 l8.body 2) u)
  (h:HX g σ2 (acc++[(v:Int)]) x):HX g σ acc (x.map (v:: ·)):=by
 cases x with
 |none=>refine d6 h fun σ' h=> ?_;exact⟨σ',step h⟩
 |some w=>refine e8 h fun σ' h h2=> ?_;exact⟨σ',step h,by rw[h2];simp⟩
theorem cC {I:b9} {p d:Nat} {r:b9} (hd:I.drop (p+1)=d::r):(I.drop (p+1)).take 1=[d]:=by rw[hd];rfl
theorem S4 (hl:I.length<=1000) {σ:d9} {p:Nat} {w:b9} (h1:σ.get "inner"=some (.str I)) (h3:σ.get "k"=some (.int (p:Nat))) (hp:p<=I.length) (hw:(I.drop (p+1)).take 1=w) {a b c d e f h i j:Pos}:
  c8 g l8.sc σ false (.Subscript (.Name "inner" a) (.Slice (some (.BinOp (.Name "k" b) .Add (.Constant (.int 1) 0 c) d)) (some (.BinOp (.Name "k" e) .Add (.Constant (.int 2) 0 f) h)) none i) j) (.ok (.str w)):=by
 have hlim:g9=1048576:=rfl;have hs1:j9 I (some ((p+1:Nat):Int)) (some ((p+2:Nat):Int))=w:=by rw[S1,show p+2-(p+1)=1 by omega,hw]
 exact c8.to (c8.slice (li:=some ((p+1:Nat):Int)) (hj:=some ((p+2:Nat):Int)) (by tm_at "v") (by tm_at "e") (by tm_at "e") (Nat.le_trans hl (by decide))) (by rw[hs1])
theorem HY (hlen:g.fn "len"=none) (hnum:g.fn "_law_number"=some A5) (hl:I.length<=1000) (hasc:j6 I=true) {σ:d9} {p:Nat} {r:b9} (h1:σ.get "inner"=some (.str I)) (h3:σ.get "k"=some (.int (p:Nat))) (hp:p<=I.length) (hr:I.drop (p+2)=r):
  ∃(σ':d9) (v:V),(∀{b:List Stmt} {u:R (Fl×d9)},d5 g none l8.sc σ' b u->d5 g none l8.sc σ (i4 (sB vN) 0::i4 (sB vN) 1::b) u)/\σ'=(σ.set "figures" (.str (r.take 2))).set "value" v/\v=(match B8 (48::120::r.take 2) with|some n=>.int (n:Nat)|none=>.none)/\
   c8 g l8.sc σ' true (sE (i4 (sB vN) 2)) (.ok (.bool (decide (r.length<2\/B8 (48::120::r.take 2)=none)))):=by
 have hlim:g9=1048576:=rfl;have hsl:j9 I (some ((p+2:Nat):Int)) (some ((p+4:Nat):Int))=r.take 2:=by rw[S1,show p+4-(p+2)=2 by omega,hr]
 have e1:d8 g none l8.sc σ (i4 (sB vN) 0) (.ok (.next,σ.set "figures" (.str (r.take 2)))):=d7 (hsl▸c8.slice (li:=some ((p+2:Nat):Int)) (hj:=some ((p+4:Nat):Int)) (by tm_at "v") (zU.some (by tm_at "e") (by exact DW hp hl (by decide) (by decide))) (zU.some (by tm_at "e") (by exact DW hp hl (by decide) (by decide))) (Nat.le_trans hl (by decide))) (by decide) (by decide) rfl;have hasc':j6 ([48,120]++r.take 2)=true:=by
  unfold j6 at hasc ⊢;rw[List.all_eq_true] at hasc ⊢;intro x hx;rcases List.mem_append.mp hx with z|z
  ·rcases List.mem_cons.mp z with rfl|z
   ·rfl
   ·rcases List.mem_singleton.mp z with rfl;rfl
  ·exact hasc x (List.mem_of_mem_drop (hr▸List.mem_of_mem_take z))
 have hF:A5 [.str ([48,120]++r.take 2)]=.ok (match B8 (48::120::r.take 2) with|some n=>.int (n:Nat)|none=>.none):=by
  show(if _ then _ else _)=_;rw[if_pos ⟨by simp;exact q4 (by decide),hasc'⟩];show(match B8 (48::120::r.take 2) with|some v=>_|none=>_)=_;cases B8 (48::120::r.take 2)<;>rfl
 refine⟨_,_,fun h=>d5.cons e1 (d5.cons (d7 (c8.call (v6.cons (c8.bin (by tm_at "e") (by tm_at "e") (add_str (by simp;exact q5 (by decide)))) v6.nil) hnum hF rfl rfl rfl) (by decide) (by decide) (by cases B8 (48::120::r.take 2)<;>rfl)) h),rfl,rfl,?_⟩;have hl2:(r.take 2).length<=2:=by simp;exact q4 (by decide)
 by_cases h2:r.length<2
 ·rw[decide_eq_true (.inl h2)];exact c8.to (C2 (aA.cons (b1:=true) (b2:=true) (c9 (by tm_at "e") (by simp;exact r13 h2)) fun z=>(by injection z))) rfl
 ·have e2:decide (((r.take 2).length:Int)<2)=false:=by simp;exact q73 h2
  cases hv:B8 (48::120::r.take 2) with
  |none=>exact c8.to (C2 (aA.cons (b1:=false) (b2:=true) (c7 (by tm_at "e") e2) fun Z=>aA.one (by tm_at "e"))) (by simp)
  |some n=>exact c8.to (C2 (aA.cons (b1:=false) (b2:=false) (c7 (by tm_at "e") e2) fun Z=>aA.one (by tm_at "e"))) (by simp[h2])
theorem HZ (hlen:g.fn "len"=none) (hord:g.fn "ord"=none) (hsum:g.fn "sum"=none) (hrng:g.fn "range"=none) (hl:I.length<=1000) (hasc:j6 I=true) {σ:d9} {p:Nat} {d:Nat} {r:b9} (h1:σ.get "inner"=some (.str I)) (h3:σ.get "k"=some (.int (p:Nat))) (hp:p<=I.length) (hd:I.drop (p+1)=d::r) (ho:k8 d=true):
  ∃(σ':d9),(∀{b:List Stmt} {u:R (Fl×d9)},d5 g none l8.sc σ' b u->d5 g none l8.sc σ (i4 (sB iF) 0::i4 (sB iF) 1::i4 (sB iF) 2::b) u)/\(∀y:Str,y≠"values"->y≠"count"->y≠"value"->σ'.get y=σ.get y)/\
   σ'.get "count"=some (.int ((((d::r).take 3).takeWhile k8).length:Nat))/\σ'.get "value"=some (.int (V2 0 (((d::r).take 3).takeWhile k8):Nat)):=by
 have hlim:g9=1048576:=rfl;have hsl:j9 I (some ((p+1:Nat):Int)) (some ((p+4:Nat):Int))=(d::r).take 3:=by rw[S1,show p+4-(p+1)=3 by omega,hd]
 have hw3:((d::r).take 3).length<=3:=by simp;exact q4 (by decide)
 have hd0:((d::r).take 3).drop 1=r.take 2:=by simp
 have htw:((d::r).take 3).takeWhile k8=d::(r.take 2).takeWhile k8:=by simp[ho]
 have hasc3: ∀c∈(d::r).take 3,c<128:=fun c hc=>w8 hasc (List.mem_of_mem_drop (hd▸List.mem_of_mem_take hc));have hne:1<=((d::r).take 3).length:=by simp
 generalize hw:(d::r).take 3=w3 at*;have e1:d8 g none l8.sc σ (i4 (sB iF) 0) (.ok (.next,(σ.set "values" (.list ((w3.map fun(c:Nat)=>(c:Int)-48).map .int))).set "count" (.int ((1:Nat):Int)))):=by
  refine i7 (vs:=[.list ((w3.map fun(c:Nat)=>(c:Int)-48).map .int),.int 1]) (v6.cons (J9 (iv:=.str w3) (hsl▸c8.slice (li:=some ((p+1:Nat):Int)) (hj:=some ((p+4:Nat):Int)) (by tm_at "v") (zU.some (by tm_at "e") (by exact DW hp hl (by decide) (by decide))) (zU.some (by tm_at "e") (by exact DW hp hl (by decide) (by decide))) (Nat.le_trans hl (by decide))) (w6 (Nat.le_trans hw3 (by decide))) ?_ rfl) (by tm_at "e")) rfl (by decide) rfl;rw[List.map_map];refine Q6.map (f:=V.int ∘ fun(c:Nat)=>(c:Int)-48) (fun Z=>rfl) fun c hc=> ?_;exact c8.bin (c8.bcall (v6.cons (c8.name (g6 d9.same rfl (by decide))) v6.nil) hord rfl HC rfl rfl) (by tm_at "e") (fM _ _)
 refine s5 (HW (g:=g) hlen hw3 w3.length ((σ.set "values" (.list ((w3.map fun(c:Nat)=>(c:Int)-48).map .int))).set "count" (.int ((1:Nat):Int))) 1 (Nat.sub_le _ _) hne (by tm_at "n") (by tm_at "n")) fun σ' x1 x2 x3=> ?_;have hcl:1+((w3.drop 1).takeWhile k8).length=(w3.takeWhile k8).length:=by rw[hd0,htw,List.length_cons];exact Nat.add_comm _ _
 rw[hcl] at x2;have x4:σ'.get "values"=some (.list ((w3.map fun(c:Nat)=>(c:Int)-48).map .int)):=(x3 _ (by decide)).trans (by tm_at "n");have hoc:(w3.takeWhile k8).all k8=true:=by rw[List.all_takeWhile]
 have hml:(w3.takeWhile k8).length<=w3.length:=(List.takeWhile_sublist k8).length_le;have htk:w3.take (w3.takeWhile k8).length=w3.takeWhile k8:=by
  have:=jN (p:=k8) w3.length w3;rwa[List.take_length] at this
 have hvl:((w3.map fun(c:Nat)=>(c:Int)-48).map V.int).length<=g9:=by simp;exact Nat.le_trans hw3 (by decide)
 have hsm:((V2 0 (w3.takeWhile k8):Nat):Int)=((List.range (w3.takeWhile k8).length).map fun k=>(w3.map fun(c:Nat)=>(c:Int)-48).getD k 0*(8:Int) ^((w3.takeWhile k8).length-1-k)).sum:=by
  rw[<-qE _ 0 hoc,mN,List.length_map];simp only[Int.natCast_zero,Int.zero_mul,Int.zero_add];congr 1
  refine List.map_congr_left fun k hk=> ?_;rw[List.mem_range] at hk;congr 1
  rw[<-htk,List.getD_eq_getElem?_getD,List.getD_eq_getElem?_getD,List.getElem?_map,List.getElem?_map,List.getElem?_take,if_pos hk]
 refine⟨σ'.set "value" (.int (V2 0 (w3.takeWhile k8):Nat)),fun h=>d5.cons e1 (d5.cons x1 (d5.cons (d7 ?_ (by decide) (by decide) rfl) h)),fun y hy1 hy2 hy3=>(Q8 hy3).trans ((x3 y hy2).trans ((Q8 hy2).trans (Q8 hy1))),(Q8 (by decide)).trans x2,d9.same⟩;rw[hsm];refine c8.bcall (v6.cons (v:=.list (((List.range (w3.takeWhile k8).length).map fun k=>(w3.map fun(c:Nat)=>(c:Int)-48).getD k 0*(8:Int) ^((w3.takeWhile k8).length-1-k)).map V.int)) (J9 (iv:=.rng (w3.takeWhile k8).length) ?_ (qD (DS hml hw3 (by decide))) ?_ rfl) v6.nil) hsum rfl HU rfl rfl
 ·exact c8.bcall (v6.cons (v:=.int ((w3.takeWhile k8).length:Nat)) (by tm_at "e") v6.nil) hrng rfl (vK (DS hml hw3 (by decide))) rfl rfl
 ·rw[List.map_map];refine mM (f:=V.int ∘ fun k=>(w3.map fun(c:Nat)=>(c:Int)-48).getD k 0*(8:Int) ^((w3.takeWhile k8).length-1-k)) (fun Z=>rfl) fun k hk=> ?_;rw[List.mem_range] at hk;have c1:((i5 σ' l8.sc (eS (eK (sE (i4 (sB iF) 2)) 0))).set "at" (.int (k:Nat))).get "values"=some (.list ((w3.map fun(c:Nat)=>(c:Int)-48).map .int)):=d9.ne (by decide) (M8 x4 rfl);have c2:((i5 σ' l8.sc (eS (eK (sE (i4 (sB iF) 2)) 0))).set "at" (.int (k:Nat))).get "count"=some (.int ((w3.takeWhile k8).length:Nat)):=d9.ne (by decide) (M8 x2 rfl);have c3:((i5 σ' l8.sc (eS (eK (sE (i4 (sB iF) 2)) 0))).set "at" (.int (k:Nat))).get "at"=some (.int (k:Nat)):=d9.same;have hk3:k<w3.length:=by exact Nat.lt_of_lt_of_le hk hml
  have hget:((w3.map fun(c:Nat)=>(c:Int)-48).map V.int)[k]? =some (.int ((w3.map fun(c:Nat)=>(c:Int)-48).getD k 0)):=by
   rw[List.getElem?_map,List.getD_eq_getElem?_getD,List.getElem?_eq_getElem (by simp;exact hk3)];rfl
  have hv99:((w3.map fun(c:Nat)=>(c:Int)-48).getD k 0).natAbs<2 ^64:=by
   rw[List.getD_eq_getElem?_getD,List.getElem?_eq_getElem (by simp;exact hk3)];simp only[Option.getD_some,List.getElem_map];have:=hasc3 w3[k] (List.getElem_mem hk3);have:((w3[k]:Int)-48).natAbs<=128:=by exact q25 this
   exact Nat.lt_of_le_of_lt this (by decide)
  have hpw:((8:Int) ^((w3.takeWhile k8).length-1-k)).natAbs<2 ^4096:=by
   rw[Int.natAbs_pow];refine Nat.lt_of_le_of_lt (Nat.pow_le_pow_right (by decide) (show(w3.takeWhile k8).length-1-k<=3 by exact q11 hml hw3 (by decide))) ?_;exact Nat.lt_of_lt_of_le (show(Int.natAbs 8) ^3<2 ^10 by decide) (Nat.pow_le_pow_right (by decide) (by decide))
  have hex:((((w3.takeWhile k8).length:Int)-1-(k:Int))).toNat=(w3.takeWhile k8).length-1-k:=by omega
  refine c8.to (c8.bin (G6 (g6 c1 rfl (by decide)) (c8.name (g6 c3 rfl (by decide))) (HT hvl hget) rfl) (c8.bin (by tm_at "e") (c8.bin (c8.bin (c8.name (g6 c2 rfl (by decide))) (by tm_at "e") (fM _ _)) (c8.name (g6 c3 rfl (by decide))) (fM _ _)) (HS ⟨by exact q13 hk,by exact q12 hml hw3 (by decide)⟩ (by decide))) (eU (jM hv99) (by rw[hex];exact hpw))) ?_;rw[hex];rfl
set_option maxHeartbeats 4000000 in
theorem MJ (hlen:g.fn "len"=none) (hord:g.fn "ord"=none) (hlist:g.fn "list"=none) (hsum:g.fn "sum"=none) (hrng:g.fn "range"=none) (hnum:g.fn "_law_number"=some A5) (hl:I.length<=1000) (hasc:j6 I=true)
  {s:b9} {x:Option (List Nat)} (O:fK s x): ∀(σ:d9) (p:Nat) (acc:List Int),I.drop p=s->p<=I.length->acc.length<=p->σ.get "inner"=some (.str I)->σ.get "found"=some (.list (acc.map .int))->σ.get "k"=some (.int (p:Nat))->σ.get "plain"=some (.dict V4)->
  HX g σ acc x:=by
 have hlim:g9=1048576:=rfl;have hlst:fJ "list" [.str [48,49,50,51,52,53,54,55]]=.ok (.list ((([48,49,50,51,52,53,54,55]:b9).map fun c=>[c]).map V.str)):=MI (by decide);induction O with
 |nil=>
  intro σ p acc hT hp ha h1 h2 h3 h4;have hpe:I.length<=p:=by
   have:=congrArg List.length hT;simp at this;exact Nat.le_of_sub_eq_zero this
  exact⟨σ,i0 (c7 (by tm_at "e") (by simp;omega)),by rw[h2];simp⟩
 | @plain c r x hc O ih=>
  intro σ p acc hT hp ha h1 h2 h3 h4;refine n5 (g7 hT) fun hlt hch hd=> ?_;refine jP (σ2:=(σ.set "found" (.list (acc.map .int++[.int (c:Nat)]))).set "k" (.int ((p+1:Nat):Int))) (fun h=>i3 (c9 (by tm_at "e") (by simp;omega)) (d5.cons (d8.if1 (c9 (by tm_at "e") (by simp[hch,hc]))
   (d5.cons (i7 (vs:=[.list (acc.map .int++[.int (c:Nat)]),.int ((p+1:Nat):Int)]) (v6.cons (c8.bin (by tm_at "e") (c8.list (vs:=[.int (c:Nat)]) (v6.cons (c8.bcall (vs:=[.str [k6 I p]]) (by tm_at "e") hord rfl (by rw[hch];exact HC) rfl rfl) v6.nil) rfl (by show 1<=g9;decide)) (eX (by simp;exact WH ha hlt hl (by decide)))) (by tm_at "e")) rfl (by decide) rfl) d5.nil)) d5.nil) h) ?_
  exact ih ((σ.set "found" (.list (acc.map .int++[.int (c:Nat)]))).set "k" (.int ((p+1:Nat):Int))) (p+1) (acc++[(c:Int)]) hd (Nat.succ_le_of_lt hlt) (by simp;omega) (by tm_at "n") (by rw[List.map_append];tm_at "n") (by tm_at "n") (by tm_at "n")
 |bsEnd=>
  intro σ p acc hT hp ha h1 h2 h3 h4;refine n5 (g7 hT) fun hlt hch hd=> ?_;have hw:(I.drop (p+1)).take 1=[]:=by rw[hd];rfl
  exact⟨σ,N6 (c9 (by tm_at "e") (by simp;omega)) (d5.ret (d8.if0 (c7 (by tm_at "e") (by simp[hch])) (d5.ret (d8.if0 (c7 (e9 (S4 hl h1 h3 hp hw) (by tm_at "e") (dS _ _) rfl) rfl)
   (d5.ret (d8.if0 (c7 (e9 (S4 hl h1 h3 hp hw) (c8.bcall (by tm_at "e") hlist rfl hlst rfl rfl) (J2 (by decide)) rfl) (vM _)) (d5.ret (d8.if1 (c9 (e9 (S4 hl h1 h3 hp hw) (by tm_at "e") (N8 (kvs:=V4)) rfl) (by exact rfl)) (d5.ret (d8.ret (v:=.none) (by tm_at "e")))))))))))⟩
 | @hexBad r hbad=>
  intro σ p acc hT hp ha h1 h2 h3 h4;refine n5 (g7 hT) fun hlt hch hd=> ?_;refine n5 (g7 hd) fun hlt1 hch1 hd1=> ?_;have hw:=cC hd;refine cR (HY (g:=g) hlen hnum hl hasc h1 h3 hp hd1) fun σ' v hstep z4r z5r hT2=> ?_;subst z4r;subst z5r;rw[decide_eq_true hbad] at hT2;exact⟨_,N6 (c9 (by tm_at "e") (by simp;omega)) (d5.ret (d8.if0 (c7 (by tm_at "e") (by simp[hch])) (d5.ret (d8.if1 (c9 (e9 (S4 hl h1 h3 hp hw) (by tm_at "e") (uT _ _) rfl) (by simp))
   (hstep (d5.ret (d8.if1 hT2 (d5.ret (d8.ret (v:=.none) (by tm_at "e"))))))))))⟩
 | @hex r v x h2l hv O ih=>
  intro σ p acc hT hp ha h1 h2 h3 h4;refine n5 (g7 hT) fun hlt hch hd=> ?_;refine n5 (g7 hd) fun hlt1 hch1 hd1=> ?_;have hw:=cC hd;have hll:p+4<=I.length:=by
   have:=congrArg List.length hd1;rw[List.length_drop] at this;exact q24 hlt1 this h2l
  have hd4:I.drop (p+4)=r.drop 2:=by rw[<-hd1,List.drop_drop]
  refine cR (HY (g:=g) hlen hnum hl hasc h1 h3 hp hd1) fun σ' v' hstep z3r hv' hT2=> ?_;subst z3r;rw[hv] at hv' hT2;subst hv';rw[decide_eq_false (by rintro (z|z)<;>first|omega|injection z)] at hT2;refine jP (σ2:=(((σ.set "figures" (.str (r.take 2))).set "value" (.int (v:Nat))).set "found" (.list (acc.map .int++[.int (v:Nat)]))).set "k" (.int ((p+4:Nat):Int))) (fun h=>i3 (c9 (by tm_at "e") (by simp;omega)) (d5.cons (d8.if0 (c7 (by tm_at "e") (by simp[hch])) (d5.cons (d8.if1 (c9 (e9 (S4 hl h1 h3 hp hw) (by tm_at "e") (uT _ _) rfl) (by simp))
   (hstep (d5.cons (d8.if0 hT2 d5.nil) (d5.cons (i7 (vs:=[.list (acc.map .int++[.int (v:Nat)]),.int ((p+4:Nat):Int)]) (v6.cons (c8.bin (by tm_at "e") (c8.list (vs:=[.int (v:Nat)]) (by tm_at "e") rfl (by show 1<=g9;decide)) (eX (by simp;exact VP ha hlt1 hl (by decide)))) (by tm_at "e")) rfl (by decide) rfl) d5.nil)))) d5.nil)) d5.nil) h) ?_
  exact ih ((((σ.set "figures" (.str (r.take 2))).set "value" (.int (v:Nat))).set "found" (.list (acc.map .int++[.int (v:Nat)]))).set "k" (.int ((p+4:Nat):Int))) (p+4) (acc++[(v:Int)]) hd4 (by omega) (by simp;exact Nat.le_add_right_of_le ha) (by tm_at "n") (by rw[List.map_append];tm_at "n") (by tm_at "n") (by tm_at "n")
 | @octBad d r ho hv=>
  intro σ p acc hT hp ha h1 h2 h3 h4;refine n5 (g7 hT) fun hlt hch hd=> ?_;refine n5 (g7 hd) fun hlt1 hch1 hd1=> ?_;have hw:=cC hd;have hdx:d≠120:=by rintro rfl;exact absurd ho (by decide)
  have hwl:(((d::r).take 3).takeWhile k8).length<=r.length+1:=Nat.le_trans (List.takeWhile_sublist k8).length_le (by simp;exact Nat.min_le_right _ _);have hll:p+1+(((d::r).take 3).takeWhile k8).length<=I.length:=by
   have:=congrArg List.length hd;rw[List.length_drop,List.length_cons] at this;exact VO hlt1 hwl this
  refine iK (HZ (g:=g) hlen hord hsum hrng hl hasc h1 h3 hp hd ho) fun σ' hstep keep hct hval=> ?_;have f1:σ'.get "inner"=some (.str I):=(keep _ (by decide) (by decide) (by decide)).trans h1;have f2:σ'.get "found"=some (.list (acc.map .int)):=(keep _ (by decide) (by decide) (by decide)).trans h2;have f3:σ'.get "k"=some (.int (p:Nat)):=(keep _ (by decide) (by decide) (by decide)).trans h3;have f4:σ'.get "plain"=some (.dict V4):=(keep _ (by decide) (by decide) (by decide)).trans h4;generalize hn:V2 0 (((d::r).take 3).takeWhile k8)=n at*;generalize hm:(((d::r).take 3).takeWhile k8).length=m at*;exact⟨σ',N6 (c9 (by tm_at "e") (by simp;omega)) (d5.ret (d8.if0 (c7 (by tm_at "e") (by simp[hch])) (d5.ret (d8.if0 (c7 (e9 (S4 hl h1 h3 hp hw) (by tm_at "e") (uT _ _) rfl) (by simp[hdx]))
   (d5.ret (d8.if1 (c9 (e9 (S4 hl h1 h3 hp hw) (c8.bcall (by tm_at "e") hlist rfl hlst rfl rfl) (J2 (by decide)) rfl) ((eZ _).trans ho)) (hstep (d5.ret (d8.if1 (c9 (by tm_at "e") (by simp;omega)) (d5.ret (d8.ret (v:=.none) (by tm_at "e"))))))))))))⟩
 | @oct d r x ho hv O ih=>
  intro σ p acc hT hp ha h1 h2 h3 h4;refine n5 (g7 hT) fun hlt hch hd=> ?_;refine n5 (g7 hd) fun hlt1 hch1 hd1=> ?_;have hw:=cC hd;have hdx:d≠120:=by rintro rfl;exact absurd ho (by decide)
  have hwl:(((d::r).take 3).takeWhile k8).length<=r.length+1:=Nat.le_trans (List.takeWhile_sublist k8).length_le (by simp;exact Nat.min_le_right _ _);have hll:p+1+(((d::r).take 3).takeWhile k8).length<=I.length:=by
   have:=congrArg List.length hd;rw[List.length_drop,List.length_cons] at this;exact VO hlt1 hwl this
  refine iK (HZ (g:=g) hlen hord hsum hrng hl hasc h1 h3 hp hd ho) fun σ' hstep keep hct hval=> ?_;have f1:σ'.get "inner"=some (.str I):=(keep _ (by decide) (by decide) (by decide)).trans h1;have f2:σ'.get "found"=some (.list (acc.map .int)):=(keep _ (by decide) (by decide) (by decide)).trans h2;have f3:σ'.get "k"=some (.int (p:Nat)):=(keep _ (by decide) (by decide) (by decide)).trans h3;have f4:σ'.get "plain"=some (.dict V4):=(keep _ (by decide) (by decide) (by decide)).trans h4;generalize hn:V2 0 (((d::r).take 3).takeWhile k8)=n at*;generalize hm:(((d::r).take 3).takeWhile k8).length=m at*;have hdn:I.drop (p+1+m)=(d::r).drop m:=by rw[<-List.drop_drop,hd]
  refine jP (σ2:=(σ'.set "found" (.list (acc.map .int++[.int (n:Nat)]))).set "k" (.int ((p+1+m:Nat):Int))) (fun h=>i3 (c9 (by tm_at "e") (by simp;omega)) (d5.cons (d8.if0 (c7 (by tm_at "e") (by simp[hch])) (d5.cons (d8.if0 (c7 (e9 (S4 hl h1 h3 hp hw) (by tm_at "e") (uT _ _) rfl) (by simp[hdx]))
   (d5.cons (d8.if1 (c9 (e9 (S4 hl h1 h3 hp hw) (c8.bcall (by tm_at "e") hlist rfl hlst rfl rfl) (J2 (by decide)) rfl) ((eZ _).trans ho)) (hstep (d5.cons (d8.if0 (c7 (by tm_at "e") (by simp;exact r52 hv)) d5.nil) (d5.cons (i7 (vs:=[.list (acc.map .int++[.int (n:Nat)]),.int ((p+1+m:Nat):Int)]) (v6.cons (c8.bin (by tm_at "e") (c8.list (vs:=[.int (n:Nat)]) (by tm_at "e") rfl (by show 1<=g9;decide)) (eX (by simp;exact VP ha hlt1 hl (by decide)))) (by tm_at "e")) rfl (by decide) rfl) d5.nil)))) d5.nil)) d5.nil)) d5.nil) h) ?_
  exact ih ((σ'.set "found" (.list (acc.map .int++[.int (n:Nat)]))).set "k" (.int ((p+1+m:Nat):Int))) (p+1+m) (acc++[(n:Int)]) hdn hll (by simp;exact WG ha) (by tm_at "n") (by rw[List.map_append];tm_at "n") (by tm_at "n") (by tm_at "n")
 | @escBad d r hdx ho he=>
  intro σ p acc hT hp ha h1 h2 h3 h4;refine n5 (g7 hT) fun hlt hch hd=> ?_;refine n5 (g7 hd) fun hlt1 hch1 hd1=> ?_;have hw:=cC hd;have hlk:=bI d;rw[he] at hlk;exact⟨σ,N6 (c9 (by tm_at "e") (by simp;omega)) (d5.ret (d8.if0 (c7 (by tm_at "e") (by simp[hch])) (d5.ret (d8.if0 (c7 (e9 (S4 hl h1 h3 hp hw) (by tm_at "e") (uT _ _) rfl) (by simp[hdx]))
   (d5.ret (d8.if0 (c7 (e9 (S4 hl h1 h3 hp hw) (c8.bcall (by tm_at "e") hlist rfl hlst rfl rfl) (J2 (by decide)) rfl) ((eZ _).trans ho)) (d5.ret (d8.if1 (c9 (e9 (S4 hl h1 h3 hp hw) (by tm_at "e") (N8 (kvs:=V4)) rfl) (by rw[hlk];rfl)) (d5.ret (d8.ret (v:=.none) (by tm_at "e")))))))))))⟩
 | @esc d v r x hdx ho he O ih=>
  intro σ p acc hT hp ha h1 h2 h3 h4;refine n5 (g7 hT) fun hlt hch hd=> ?_;refine n5 (g7 hd) fun hlt1 hch1 hd1=> ?_;have hw:=cC hd;have hlk:=bI d;rw[he] at hlk;have hll:p+2<=I.length:=by exact Nat.succ_le_of_lt hlt1
  refine jP (σ2:=(σ.set "found" (.list (acc.map .int++[.int (v:Nat)]))).set "k" (.int ((p+2:Nat):Int))) (fun h=>i3 (c9 (by tm_at "e") (by simp;omega)) (d5.cons (d8.if0 (c7 (by tm_at "e") (by simp[hch])) (d5.cons (d8.if0 (c7 (e9 (S4 hl h1 h3 hp hw) (by tm_at "e") (uT _ _) rfl) (by simp[hdx]))
   (d5.cons (d8.if0 (c7 (e9 (S4 hl h1 h3 hp hw) (c8.bcall (by tm_at "e") hlist rfl hlst rfl rfl) (J2 (by decide)) rfl) ((eZ _).trans ho)) (d5.cons (d8.if0 (c7 (e9 (S4 hl h1 h3 hp hw) (by tm_at "e") (N8 (kvs:=V4)) rfl) (by rw[hlk];rfl)) d5.nil)
    (d5.cons (i7 (vs:=[.list (acc.map .int++[.int (v:Nat)]),.int ((p+2:Nat):Int)]) (v6.cons (c8.bin (by tm_at "e") (c8.list (vs:=[.int (v:Nat)]) (v6.cons (G6 (by tm_at "v") (G6 (by tm_at "v") (by tm_at "e") (NZ (Nat.le_trans hl (by decide)) hlt1) rfl) (lY (by rw[hch1];exact hlk)) rfl) v6.nil) rfl (by show 1<=g9;decide)) (eX (by simp;exact VP ha hlt1 hl (by decide)))) (by tm_at "e")) rfl (by decide) rfl) d5.nil))) d5.nil)) d5.nil)) d5.nil) h) ?_
  exact ih ((σ.set "found" (.list (acc.map .int++[.int (v:Nat)]))).set "k" (.int ((p+2:Nat):Int))) (p+2) (acc++[(v:Int)]) hd1 (by omega) (by simp;exact Nat.le_succ_of_le ha) (by tm_at "n") (by rw[List.map_append];tm_at "n") (by tm_at "n") (by tm_at "n")
noncomputable def F4:List V->R V:=fS fun T=>
  if N9 T=true then (match Q7 (j8 T) with|some v=>.ok (.bytes (v.map fun(n:Nat)=>(n:Int)))|none=>.ok .none) else .stuck
theorem CX {l:List Int} (h:l.length<=g9) (h': ∀n∈l,0<=n/\n<256):fJ "bytes" [.list (l.map V.int)]=.ok (.bytes l):=by
 rw[uS];show needR (J4 (l.map V.int)) _=_;rw[bE];exact if_pos ⟨h,by rw[List.all_eq_true];exact fun n hn=>by simpa using h' n hn⟩
theorem mP (hlen:g.fn "len"=none) (hord:g.fn "ord"=none) (hby:g.fn "bytes"=none) (hlist:g.fn "list"=none) (hsum:g.fn "sum"=none) (hrng:g.fn "range"=none) (hnum:g.fn "_law_number"=some A5) (vs:List V) (hn:F4 vs≠.stuck):g8 g none l8.sc ["text"] l8.body vs (F4 vs):=by
 have hlim:g9=1048576:=rfl;refine d6 (R9 hn) fun T z2r=> ?_;subst z2r;have hc:=E0 hn;refine l5 (if_pos hc) ?_;refine Q1 (S2.mp hc) fun hl2 hl hasc Z=> ?_;have hil:(j8 T).length<=1000:=Nat.le_trans cB hl;have himem: ∀c∈j8 T,c<128:=fun c h=>w8 hasc (List.mem_of_mem_drop (List.dropLast_subset _ h));have hiasc:j6 (j8 T)=true:=by
  unfold j6;rw[List.all_eq_true];exact fun c h=>by simpa using himem c h
 have hsl:j9 T (some 1) (some (-1))=j8 T:=by
  unfold j9 AW P5 j8;dsimp only;rw[if_neg (by omega),if_pos (by omega),show((1:Int)).toNat=1 from rfl,Nat.min_eq_left (Nat.le_of_succ_le hl2)];rw[List.dropLast_eq_take,List.length_drop,List.drop_take];congr 1
  exact oz6
 have e0:d8 g none l8.sc (List.zip ["text"] [.str T]) (i4 l8.body 0) (.ok (.next,d9.set (d9.set (d9.set (List.zip ["text"] [.str T]) "inner" (.str (j8 T))) "found" (.list [])) "k" (.int ((0:Nat):Int)))):=
  i7 (vs:=[.str (j8 T),.list [],.int 0]) (v6.cons (hsl▸c8.slice (by tm_at "v") (by tm_at "e") (zU.some (rM (by tm_at "e")) (by decide)) (Nat.le_trans hl (by decide))) (by tm_at "e")) rfl (by decide) rfl
 have e1:d8 g none l8.sc (d9.set (d9.set (d9.set (List.zip ["text"] [.str T]) "inner" (.str (j8 T))) "found" (.list [])) "k" (.int ((0:Nat):Int))) (i4 l8.body 1) (.ok (.next,d9.set (d9.set (d9.set (d9.set (List.zip ["text"] [.str T]) "inner" (.str (j8 T))) "found" (.list [])) "k" (.int ((0:Nat):Int))) "plain" (.dict V4))):=
  d7 (v:=.dict V4) (c8.dict (kvs:=V4) rfl ⟨by decide,by decide,by decide⟩) (by decide) (by decide) rfl
 have L:=MJ (g:=g) hlen hord hlist hsum hrng hnum hil hiasc (L4 (j8 T)) (d9.set (d9.set (d9.set (d9.set (List.zip ["text"] [.str T]) "inner" (.str (j8 T))) "found" (.list [])) "k" (.int ((0:Nat):Int))) "plain" (.dict V4)) 0 [] (by simp) (by omega) (by simp) (by tm_at "n") (by tm_at "n") (by tm_at "n") (by tm_at "n");have B:=(L4 (j8 T)).lt himem;have C:=(L4 (j8 T)).len;cases hx:Q7 (j8 T) with
 |none=>
  rw[hx] at L;refine d6 L fun σ' L=> ?_;exact g8.ret rfl (d5.cons e0 (d5.cons e1 (d5.ret L)))
 |some v=>
  rw[hx] at L;refine e8 L fun σ' L g0=> ?_;have B:=B v hx;have C:=C v hx;rw[List.nil_append] at g0;refine g8.ret rfl (d5.cons e0 (d5.cons e1 (d5.cons L (d5.ret (d8.ret (v:=.bytes (v.map fun(n:Nat)=>(n:Int))) (c8.bcall (v6.cons (c8.name (g6 g0 rfl (by decide))) v6.nil) hby rfl (CX (by simp;exact DS C hil (by decide)) ?_) rfl rfl))))));intro n hn;refine e8 (List.mem_map.mp hn) fun m hm z1r=> ?_;subst z1r;have:=B m hm;omega
end
noncomputable abbrev mQ:b9:=[108,101,116]
noncomputable abbrev yG:b9:=[114,101,102,117,115,101,100]
noncomputable def I3 (v:V) (l:Int):List V:=match v with| .none=>[.str yG,.int l]|v=>[.str mQ,v]
noncomputable def L7:List V->R V:=fVI fun v l=>if v.open? =true then .stuck else .ok (.tup (I3 v l))
noncomputable def S5:List V->R V:=fBB fun a b=>.ok (.bool (a==b))
section
variable {g:G}
theorem vO (vs:List V) (hn:L7 vs≠.stuck):g8 g none HA.sc ["found","line"] HA.body vs (L7 vs):=by
 have hlim:g9=1048576:=rfl;refine C1 (LX hn) fun v l zr=> ?_;subst zr;have ho: ¬v.open? =true:=fun z=>hn (if_pos z);show g8 g none HA.sc ["found","line"] HA.body [v,.int l] (if v.open? =true then R.stuck else .ok (.tup (I3 v l)));rw[if_neg ho];have ho:v.open? =false:=by cases h:v.open? with|true=>exact absurd h ho|false=>rfl
 by_cases hv:v=.none
 ·subst hv;exact g8.ret rfl (d5.ret (d8.ret (v:=.tup [.str yG,.int l]) (c8.if1 (c9 (e9 (v:=.none) (by tm_at "e") (by tm_at "e") T8 rfl) rfl) (c8.tup (vs:=[.str yG,.int l]) (by tm_at "e") rfl (by show 2<=g9;decide)))))
 ·have h1:w9 .Is v .none=.ok false:=by cases v<;>first|rfl|exact absurd rfl hv
  have h2:I3 v l=[.str mQ,v]:=by cases v<;>first|rfl|exact absurd rfl hv
  rw[h2];exact g8.ret rfl (d5.ret (d8.ret (v:=.tup [.str mQ,v]) (c8.if0 (c7 (e9 (v:=v) (by tm_at "e") (by tm_at "e") h1 rfl) rfl) (c8.tup (vs:=[.str mQ,v]) (by tm_at "e") (by show(false||(v.open? ||false))=false;rw[ho];rfl) (by show 2<=g9;decide)))))
theorem yH (vs:List V) (hn:S5 vs≠.stuck):g8 g none XT.sc ["told","due"] XT.body vs (S5 vs):=by
 refine C1 (LV hn) fun a b zr=> ?_;subst zr;cases b with
 |true=>exact g8.ret rfl (d5.ret (d8.ret (v:=.bool (a==true)) (c8.if1 (c9 (bb:=true) (by tm_at "e") rfl) (by tm_at "e"))))
 |false=>exact g8.ret rfl (d5.ret (d8.ret (v:=.bool (a==false)) (c8.if0 (c7 (bb:=false) (by tm_at "e") rfl) (by tm_at "e"))))
end
section
variable {g:G} {sc:Scope} {σ:d9} {a b:Expr} {p:Pos} {r:R V} {us:List V} {tst:Bool}
theorem O0 (h:c8 g sc σ false a (D0 r)) (h':c8 g sc σ false b (.ok (.tup us))) (hr:D0 r=.ok (.tup us)) (hd:Dats us/\deepVs us<=20) (hm:behindInMarks .NotEq b=false):c8 g sc σ tst (.Compare a [.NotEq] [b] p) (.ok (.bool false)):=
 e9 (hr▸h) h' (NM us hd.1 hd.2) hm
theorem dE (h:c8 g sc σ false a (D0 r)) (h':c8 g sc σ false b (.ok (.tup us))) (hr:D0 r=.ok (.tup us)) (hd:Dats us/\deepVs us<=20) (hm:behindInMarks .Eq b=false):c8 g sc σ tst (.Compare a [.Eq] [b] p) (.ok (.bool true)):=
 e9 (hr▸h) h' (NL us hd.1 hd.2) hm
theorem I6 {f x y:Str} {F:List V->R V} {v u:V} {as:Arguments} {lsc:Scope} {fp qp q1 q2 p' lp:Pos} (hf:g.low f=some F) (hx:σ.get x=some v) (hy:σ.get y=some u)
  (hc:(lsc.names.lookup x==some .free &&(sc.names.lookup x==some .cell||sc.names.lookup x==some .free))=true) (hc':(lsc.names.lookup y==some .free &&(sc.names.lookup y==some .cell||sc.names.lookup y==some .free))=true)
  (hd: ¬(x="__debug__"\/x="__classdict__")/\ ¬(y="__debug__"\/y="__classdict__")) (ho:[v,u].any V.open? =false) (hk:aK lsc f [.Name x q1,.Name y q2]=true) (hl:g.lam=true)
  (hs:sc.names.lookup ("_law_told":Str)=some NameKind.globalImplicit/\aJ as lsc=true/\u6 sc lsc=true):
  c8 g sc σ false (.Call (.Name "_law_told" fp) [.Lambda as (.Call (.Name f qp) [.Name x q1,.Name y q2] [] p') lsc lp] [] p) (D0 (F [v,u])):=by
 have s1: ∀z:Str,(lsc.names.lookup z==some .free &&(sc.names.lookup z==some .cell||sc.names.lookup z==some .free))=true->(lsc.names.lookup z==some .local||lsc.names.lookup z==some .cell||lsc.names.lookup z==some .free)=true:=fun z h=>by
  rw[Bool.and_eq_true] at h;rw[h.1];simp
 exact c8.told (c8.call (F:=F) (v6.cons (c8.name (g6 (M8 hx hc) (s1 x hc) hd.1)) (v6.cons (c8.name (g6 (M8 hy hc') (s1 y hc') hd.2)) v6.nil)) hf rfl hk rfl ho) ⟨rfl,hl,hs.1,hs.2.1,hs.2.2⟩
end
noncomputable def cl:b9->Option Nat->Bool->Prop
 |[],none,_=>True
 |[],some _,_=>False
 |c::r,none,_=>c≠9/\cl r (if nV c then some c else none) false
 |_::r,some q,true=>cl r (some q) false
 |c::r,some q,false=>if c=92 then cl r (some q) true else if c=q then cl r none false else cl r (some q) false
theorem Z1 {s:Nat}: ∀(t:b9) (q:Option Nat) (e:Bool) (w:b9),pm (some s) true t q e=some [w]->cl w q e
 |[],none,_,w,h=>by cases h;trivial
 |[],some _,_,w,h=>by injection h
 |c::r,none,e,w,h=>by
  rw[gC] at h;have one: ∀{d:Nat} {q:Option Nat},(pm (some s) true r q false).map (push d)=some [w]-> ∃w',w=d::w'/\pm (some s) true r q false=some [w']:=fun {d q} h=>by
   cases hx:pm (some s) true r q false with
   |none=>rw[hx] at h;injection h
   |some l=>
    refine d6 (Y9 hx) fun b z12r=> ?_;subst z12r;rw[hx] at h;cases h;exact⟨b,rfl,rfl⟩
  split at h
  ·cases h;trivial
  split at h
  ·rename_i hq;refine e8 (one h) fun w' z11r h'=> ?_;subst z11r;refine⟨?_,?_⟩
   ·rintro rfl;exact absurd hq (by decide)
   ·rw[if_pos hq];exact Z1 r _ _ _ h'
  split at h
  ·rename_i h2;cases h2.2
  ·rename_i hq _;refine e8 (one h) fun w' z10r h'=> ?_;subst z10r;have h9:T7 true c≠9:=by unfold T7;split<;>simp_all
   have hnq:nV (T7 true c)=false:=by
    unfold T7;split
    ·rfl
    ·simpa using hq
   refine⟨h9,?_⟩;rw[hnq];exact Z1 r _ _ _ h'
 |c::r,some q,true,w,h=>by
  rw[uW] at h;cases hx:pm (some s) true r (some q) false with
  |none=>rw[hx] at h;injection h
  |some l=>
   refine d6 (Y9 hx) fun b z9r=> ?_;subst z9r;rw[hx] at h;cases h;show cl b (some q) false;exact Z1 r _ _ _ hx
 |c::r,some q,false,w,h=>by
  rw[lS] at h;have one: ∀{d:Nat} {q:Option Nat} {e:Bool},(pm (some s) true r q e).map (push d)=some [w]-> ∃w',w=d::w'/\pm (some s) true r q e=some [w']:=fun {d q e} h=>by
   cases hx:pm (some s) true r q e with
   |none=>rw[hx] at h;injection h
   |some l=>
    refine d6 (Y9 hx) fun b z8r=> ?_;subst z8r;rw[hx] at h;cases h;exact⟨b,rfl,rfl⟩
  split at h
  ·rename_i hc;refine e8 (one h) fun w' z7r h'=> ?_;subst z7r;show(if c=92 then _ else _);rw[if_pos hc];exact Z1 r _ _ _ h'
  split at h
  ·rename_i hc hq;refine e8 (one h) fun w' z6r h'=> ?_;subst z6r;show(if c=92 then _ else if c=q then _ else _);rw[if_neg hc,if_pos hq];exact Z1 r _ _ _ h'
  ·rename_i hc hq;refine e8 (one h) fun w' z5r h'=> ?_;subst z5r;show(if c=92 then _ else if c=q then _ else _);rw[if_neg hc,if_neg hq];exact Z1 r _ _ _ h'
theorem Z2: ∀(t:b9) (q:Option Nat) (e:Bool),cl t q e->pm none false t q e=pm none true t q e
 |[],none,_,_=>rfl
 |[],some _,_,_=>rfl
 |c::r,none,e,h=>by
  refine f8 h fun h9 h=> ?_;have ht:T7 true c=T7 false c:=by unfold T7;simp[h9]
  rw[gC,gC,ht];cases hq:nV c with
  |true=>rw[hq] at h;have h:cl r (some c) false:=h;rw[Z2 r _ _ h];rfl
  |false=>rw[hq] at h;have h:cl r none false:=h;rw[Z2 r _ _ h];rfl
 |c::r,some q,true,h=>by rw[uW,uW,Z2 r _ _ h]
 |c::r,some q,false,h=>by
  have h:(if c=92 then cl r (some q) true else if c=q then cl r none false else cl r (some q) false):=h;rw[lS,lS];split at h
  ·rename_i hc;rw[if_pos hc,if_pos hc,Z2 r _ _ h]
  split at h
  ·rename_i hc hq;rw[if_neg hc,if_neg hc,if_pos hq,if_pos hq,Z2 r _ _ h]
  ·rename_i hc hq;rw[if_neg hc,if_neg hc,if_neg hq,if_neg hq,Z2 r _ _ h]
theorem vP: ∀(t:b9),cl t none false->cl (t.dropWhile j4) none false
 |[],h=>h
 |c::r,h=>by
  rw[List.dropWhile_cons];split
  ·rename_i hb;have:c=32:=by simpa[j4] using hb
   subst this;exact vP r h.2
  ·exact h
theorem cE: ∀(t:b9) (q:Option Nat) (e:Bool),q≠some 32->cl (t++[32]) q e->cl t q e
 |[],none,_,_,_=>trivial
 |[],some q,true,_,h=>h
 |[],some q,false,hq,h=>by
  have h:(if (32:Nat)=92 then cl [] (some q) true else if 32=q then cl [] none false else cl [] (some q) false):=h;rw[if_neg (by decide)] at h;split at h
  ·rename_i z;exact absurd (congrArg some z.symm) hq
  ·exact h
 |c::r,none,e,_,h=>by
  refine⟨h.1,cE r _ _ ?_ h.2⟩;split
  ·rename_i z;intro y;injection y with y;subst y;exact absurd z (by decide)
  ·intro y;injection y
 |c::r,some q,true,hq,h=>cE r _ _ hq h
 |c::r,some q,false,hq,h=>by
  have h:(if c=92 then cl (r++[32]) (some q) true else if c=q then cl (r++[32]) none false else cl (r++[32]) (some q) false):=h;show(if c=92 then cl r (some q) true else if c=q then cl r none false else cl r (some q) false);split at h
  ·rename_i hc;rw[if_pos hc];exact cE r _ _ hq h
  split at h
  ·rename_i hc hq;rw[if_neg hc,if_pos hq];exact cE r _ _ (fun z=>by injection z) h
  ·rename_i hc hq';rw[if_neg hc,if_neg hq'];exact cE r _ _ hq h
theorem AF: ∀(l:b9),cl l.reverse none false->cl (l.dropWhile j4).reverse none false
 |[],h=>h
 |c::r,h=>by
  rw[List.dropWhile_cons];split
  ·rename_i hb;have:c=32:=by simpa[j4] using hb
   subst this;rw[List.reverse_cons] at h;exact AF r (cE _ _ _ (fun z=>by injection z) h)
  ·exact h
theorem IA {t:b9} (h:cl t none false):cl (i6 t) none false:=by
 have:=AF ((t.dropWhile j4).reverse) (by rw[List.reverse_reverse];exact vP t h);exact this
theorem IE {t b:b9} (h:N1 t=some b):V0 false b=V0 true b:=by
 unfold N1 at h;cases hx:pm (some 35) true t none false with
 |none=>rw[hx] at h;injection h
 |some l=>
  refine d6 (Y9 hx) fun w z4r=> ?_;subst z4r;rw[hx] at h;injection h with h;subst h;have:=IA (Z1 t none false w hx);show V0 false (i6 w)=V0 true (i6 w);unfold V0;rw[Z2 _ _ _ this]
theorem qF {t:b9} {c:Nat} (h:c∈i6 t):c∈t:=by
 unfold i6 at h;rw[List.mem_reverse] at h;have:=(List.dropWhile_sublist j4).mem h;rw[List.mem_reverse] at this;exact(List.dropWhile_sublist j4).mem this
theorem IF {stop:Option Nat}: ∀(t:b9) (q:Option Nat) (e:Bool) (l:List b9),pm stop true t q e=some l-> ∀p∈l,∀c∈p,c∈t\/c=32:=by
 intro t;induction t with
 |nil=>
  intro q e l h p hp c hc;cases q with
  |none=>injection h with h;subst h;rcases List.mem_singleton.mp hp with rfl;cases hc
  |some q=>injection h
 |cons a r ih=>
  intro q e l h;have push1: ∀{d:Nat} {q:Option Nat} {e:Bool},(pm stop true r q e).map (push d)=some l->(d=a\/d=32)-> ∀p∈l,∀c∈p,c∈a::r\/c=32:=fun {d q e} h hd p hp c hc=>by
   cases hx:pm stop true r q e with
   |none=>rw[hx] at h;injection h
   |some m=>
    rw[hx] at h;injection h with h;subst h;have ih:=ih q e m hx;rcases m with _|⟨m1,ms⟩
    ·rcases List.mem_singleton.mp hp with rfl;rcases List.mem_singleton.mp hc with rfl;rcases hd with rfl|rfl
     ·exact .inl List.mem_cons_self
     ·exact .inr rfl
    ·rcases List.mem_cons.mp hp with rfl|hp
     ·rcases List.mem_cons.mp hc with rfl|hc
      ·rcases hd with rfl|rfl
       ·exact .inl List.mem_cons_self
       ·exact .inr rfl
      ·rcases ih _ List.mem_cons_self _ hc with z|z
       ·exact .inl (List.mem_cons_of_mem _ z)
       ·exact .inr z
     ·rcases ih p (List.mem_cons_of_mem _ hp) c hc with z|z
      ·exact .inl (List.mem_cons_of_mem _ z)
      ·exact .inr z
  cases q with
  |none=>
   rw[gC] at h;split at h
   ·injection h with h;subst h;intro p hp c hc;rcases List.mem_singleton.mp hp with rfl;cases hc
   split at h
   ·exact push1 h (.inl rfl)
   split at h
   ·intro p hp c hc;cases hx:pm stop true r none false with
    |none=>rw[hx] at h;injection h
    |some m=>
     rw[hx] at h;injection h with h;subst h;rcases List.mem_cons.mp hp with rfl|hp
     ·cases hc
     ·rcases ih _ _ m hx p hp c hc with z|z
      ·exact .inl (List.mem_cons_of_mem _ z)
      ·exact .inr z
   ·refine push1 h ?_;unfold T7;split
    ·exact .inr rfl
    ·exact .inl rfl
  |some q=>
   cases e with
   |true=>rw[uW] at h;exact push1 h (.inl rfl)
   |false=>
    rw[lS] at h;split at h
    ·exact push1 h (.inl rfl)
    split at h
    ·exact push1 h (.inl rfl)
    ·exact push1 h (.inl rfl)
theorem IG {t b:b9} (h:N1 t=some b):b.length<=t.length:=by
 unfold N1 at h;cases hx:pm (some 35) true t none false with
 |none=>rw[hx] at h;injection h
 |some l=>
  rw[hx] at h;injection h with h;subst h;refine d6 (Y9 hx) fun w z3r=> ?_;subst z3r;exact Nat.le_trans (qA _) ((rZ hx).2 w List.mem_cons_self)
theorem yI {t b:b9} (h:N1 t=some b) (ha:j6 t=true):j6 b=true:=by
 unfold N1 at h;cases hx:pm (some 35) true t none false with
 |none=>rw[hx] at h;injection h
 |some l=>
  rw[hx] at h;injection h with h;subst h;refine d6 (Y9 hx) fun w z2r=> ?_;subst z2r;unfold j6;rw[List.all_eq_true];intro c hc;rcases IF t none false _ hx w List.mem_cons_self c (qF hc) with z|rfl
  ·exact decide_eq_true (w8 ha z)
  ·rfl
theorem CY {t:b9} {l:List b9} (h:V0 true t=some l) (ha:j6 t=true):l.length<=t.length+1/\ ∀p∈l,p≠[]/\p.length<=t.length/\j6 p=true:=by
 unfold V0 at h;split at h
 ·injection h with h;subst h;exact⟨by simp,fun p hp=>by cases hp⟩
 cases hx:pm none true t none false with
 |none=>rw[hx] at h;injection h
 |some ps=>
  rw[hx] at h;have h:(if (ps.map i6).contains []=true then none else some (ps.map i6))=some l:=h;split at h
  ·injection h
  ·rename_i hn;injection h with h;subst h;refine f8 (rZ hx) fun h1 h2=> ?_;refine⟨by rw[List.length_map];exact h1,fun p hp=> ?_⟩;refine e8 (List.mem_map.mp hp) fun p0 hp0 z1r=> ?_;subst z1r;refine⟨?_,Nat.le_trans (qA _) (h2 p0 hp0),?_⟩
   ·intro z;rw[z] at hp;exact hn (List.contains_iff_mem.mpr hp)
   ·unfold j6;rw[List.all_eq_true];intro c hc;rcases IF t none false _ hx p0 hp0 c (qF hc) with z|rfl
    ·exact decide_eq_true (w8 ha z)
    ·rfl
theorem II {stop:Option Nat} {tb:Bool} {z:Nat}: ∀(t:b9) (q:Option Nat) (e:Bool),(∀c,q=some c->nV c=true)->pm stop tb t q e=none->pm stop tb (t++[z]) q e≠none->nV z=true:=by
 intro t;induction t with
 |nil=>
  intro q e hq h h';cases q with
  |none=>injection h
  |some q=>
   cases e with
   |true=>exact absurd rfl h'
   |false=>
    have h':(if z=92 then (none:Option (List b9)) else if z=q then some [[z]] else none)≠none:=h';split at h'
    ·exact absurd rfl h'
    split at h'
    ·rename_i hz;rw[hz];exact hq q rfl
    ·exact absurd rfl h'
 |cons a r ih=>
  intro q e hq h h';have nn: ∀{x:Option (List b9)} {f:List b9->List b9},x.map f=none->x=none:=fun {x f} h=>by cases x with|none=>rfl|some _=>injection h
  have mm: ∀{x:Option (List b9)} {f:List b9->List b9},x.map f≠none->x≠none:=fun {x f} h z=>h (by rw[z];rfl);rw[List.cons_append] at h';cases q with
  |none=>
   rw[gC] at h h';split at h
   ·injection h
   ·rename_i hs;rw[if_neg hs] at h';split at h
    ·rename_i hqa;rw[if_pos hqa] at h';exact ih _ _ (fun c hc=>by injection hc with hc;subst hc;exact hqa) (nn h) (mm h')
    ·rename_i hqa;rw[if_neg hqa] at h';split at h
     ·rename_i hc;rw[if_pos hc] at h';exact ih _ _ (fun c hc=>by injection hc) (nn h) (mm h')
     ·rename_i hc;rw[if_neg hc] at h';exact ih _ _ (fun c hc=>by injection hc) (nn h) (mm h')
  |some q=>
   cases e with
   |true=>rw[uW] at h h';exact ih _ _ hq (nn h) (mm h')
   |false=>
    rw[lS] at h h';split at h
    ·rename_i hc;rw[if_pos hc] at h';exact ih _ _ hq (nn h) (mm h')
    ·rename_i hc;rw[if_neg hc] at h';split at h
     ·rename_i hc;rw[if_pos hc] at h';exact ih _ _ (fun c hc=>by injection hc) (nn h) (mm h')
     ·rename_i hc;rw[if_neg hc] at h';exact ih _ _ hq (nn h) (mm h')
theorem mR {t:b9} (h2:2<=t.length) (hl:t.length<=1000) (ha:j6 t=true) (h:pm none true t.dropLast none false=none) (h':pm none true t none false≠none):N9 t=true:=by
 have hne:t≠[]:=by rintro rfl;simp at h2
 have e:t=t.dropLast++[k6 t (t.length-1)]:=by
  have:=List.dropLast_concat_getLast hne;rw[List.getLast_eq_getElem] at this;unfold k6;rw[List.getD_eq_getElem?_getD,List.getElem?_eq_getElem (q52 h2)];exact this.symm
 refine S2.mpr ⟨h2,hl,ha,?_⟩;have hz:nV (k6 t (t.length-1))=true:=II t.dropLast none false (fun c hc=>by injection hc) h (e▸h');unfold nV at hz;unfold SD;simpa using hz
theorem dF {q:Nat}: ∀(n:Nat) (t:b9) (k:Nat),t.length<=n->s8 q t=some k->k6 t (k-1)=q
 |_,[],k,_,h=>by injection h
 |0,c::r,k,h,_=>by simp at h
 |n+1,c::r,k,hn,h=>by
  rw[S0] at h;rw[List.length_cons] at hn;split at h
  ·rename_i hc;injection h with h;subst h;exact hc
  ·rename_i hc;split at h
   ·rcases r with _|⟨d,r'⟩
    ·injection h
    ·have h:(s8 q r').map (· +2)=some k:=h;cases hx:s8 q r' with
     |none=>rw[hx] at h;injection h
     |some j=>
      rw[hx] at h;injection h with h;subst h;have h1:=(O9 hx).1;have:=dF n r' j (by simp at hn;exact RX hn) hx;rw[show j+2-1=(j-1)+1+1 by exact Nat.sub_add_comm h1];exact this
   ·cases hx:s8 q r with
    |none=>rw[hx] at h;injection h
    |some j=>
     rw[hx] at h;injection h with h;subst h;have h1:=(O9 hx).1;have:=dF n r j (by omega) hx;rw[show j+1-1=(j-1)+1 by exact Nat.sub_add_comm h1];exact this
noncomputable def S6 (n:Nat) (a:b9):Prop:=a≠[]/\a.length<=n/\j6 a=true/\(k6 a 0=39->2<=a.length/\k6 a (a.length-1)=39)
theorem vQ {t:b9} {n k:Nat} (h:k<n):k6 (t.take n) k=k6 t k:=by
 unfold k6;rw[List.getD_eq_getElem?_getD,List.getD_eq_getElem?_getD,List.getElem?_take,if_pos h]
theorem CZ {c n:Nat} {r:b9} (ha:j6 (c::r)=true) (h:iC (c::r)=some n):S6 (r.length+1) ((c::r).take n):=by
 refine f8 (bJ h) fun h1 h2=> ?_;have hl:((c::r).take n).length=n:=by rw[List.length_take];exact Nat.min_eq_left h2
 refine⟨?_,?_,?_,?_⟩
 ·intro z;rw[z] at hl;simp at hl;omega
 ·rw[hl];exact h2
 ·unfold j6;rw[List.all_eq_true];exact fun d hd=>decide_eq_true (w8 ha (List.mem_of_mem_take hd))
 ·intro h39;rw[vQ (by omega)] at h39;have h39:c=39:=h39;subst h39;rw[Z0,if_pos rfl] at h;cases hx:s8 39 r with
  |none=>rw[hx] at h;injection h
  |some j=>
   rw[hx] at h;injection h with h;subst h;have:=(O9 hx).1;have hl:((39::r).take (j+1)).length=j+1:=hl;show 2<=((39::r).take (j+1)).length/\k6 ((39::r).take (j+1)) (((39::r).take (j+1)).length-1)=39;refine⟨by rw[hl];exact Nat.succ_le_succ this,?_⟩;rw[hl,vQ (by omega),show j+1-1=(j-1)+1 by exact Nat.sub_add_comm this];exact dF r.length r j (Nat.le_refl _) hx
theorem At.good {s:Int} {w:Bool} {t:b9} {x:Option (List (Int×b9))} (A:At s w t x):j6 t=true-> ∀v,x=some v-> ∀p∈v,S6 t.length p.2:=by
 have up: ∀{n m:Nat} {a:b9},n<=m->S6 n a->S6 m a:=fun h g=>⟨g.1,Nat.le_trans g.2.1 h,g.2.2⟩;have ac: ∀{c:Nat} {r:b9},j6 (c::r)=true->j6 r=true:=fun h=>by unfold j6 at h ⊢;rw[List.all_cons,Bool.and_eq_true] at h;exact h.2
 induction A with
 |fin=>intro _ v e;injection e with e;subst e;intro p hp;cases hp
 |open_=>intro _ v e;injection e
 |sgn _ _ ih=>intro ha v e p hp;exact up (by simp) (ih (ac ha) v e p hp)
 |sp _ ih=>intro ha v e p hp;exact up (by simp) (ih (ac ha) v e p hp)
 |two _ _ _=>intro _ v e;injection e
 |bad _ _ _ _=>intro _ v e;injection e
 | @atom s c n r x c1 c2 c3 hat A ih=>
  intro ha v e;cases x with
  |none=>injection e
  |some w=>
   injection e with e;subst e;intro p hp;rcases List.mem_cons.mp hp with rfl|hp
   ·exact CZ ha hat
   ·refine up ?_ (ih ?_ w rfl p hp)
    ·simp
    ·unfold j6;rw[List.all_eq_true];exact fun d hd=>decide_eq_true (w8 ha (List.mem_of_mem_drop hd))
theorem mS {t:b9} {v:List (Int×b9)} (ha:j6 t=true) (h:y5 t=some v): ∀p∈v,S6 t.length p.2:=(L5 t).good ha v h
theorem vR {a:b9} {n:Nat} (h:S6 n a) (hn:n<=1000) (hq:k6 a 0=39):N9 a=true:=
 S2.mpr ⟨(h.2.2.2 hq).1,Nat.le_trans h.2.1 hn,h.2.2.1,.inr (h.2.2.2 hq).2⟩
noncomputable def YX (a:b9):Bool:=decide (a≠[]) &&decide (a.length<=1000) &&j6 a &&(decide (k6 a 0≠39)||N9 a)
theorem AG {a:b9}:YX a=true↔a≠[]/\a.length<=1000/\j6 a=true/\(k6 a 0=39->N9 a=true):=by
 unfold YX;simp only[Bool.and_eq_true,Bool.or_eq_true,decide_eq_true_eq,and_assoc];constructor
 ·rintro ⟨h1,h2,h3,h4⟩;exact⟨h1,h2,h3,fun z=>h4.resolve_left fun y=>y z⟩
 ·rintro ⟨h1,h2,h3,h4⟩;exact⟨h1,h2,h3,by by_cases z:k6 a 0=39;exact .inr (h4 z);exact .inl z⟩
noncomputable def B1:List V->R V:=CO fun a l=>
  if YX a=true/\l.natAbs<1000000 then .ok (.bool true) else .stuck
noncomputable def Q9:Option Nat->V
 |some v=>.int (v:Nat)
 |none=>.none
theorem mT (n:Option Nat) (l:Int):Dats (I3 (Q9 n) l)/\deepVs (I3 (Q9 n) l)<=20:=by
 cases n<;>exact⟨⟨trivial,trivial,trivial⟩,by show(0:Nat)<=20;omega⟩
noncomputable def fA (a:b9):Option Nat:=match Q7 (j8 a) with|some [v]=>some v|_=>none
section
variable {g:G}
theorem dG (hlam:g.lam=true) (hlen:g.fn "len"=none) (hin:g.fn "is_name"=some E2) (hil:g.fn "is_local"=some H7) (hnm:g.fn "_law_named"=some I1) (hlk:g.fn "_law_looked"=some F3) (his:g.fn "_law_is"=some S5) (hdu:g.fn "_law_due"=some L7)
  (hoc:g.fn "_law_octets"=some F4) (hnu:g.fn "_law_number"=some A5) (hwh:g.low "whole_of"=some y0) (hpv:g.low "plain_value"=some A7) (vs:List V) (hn:B1 vs≠.stuck):g8 g none n6.sc ["atom","line"] n6.body vs (B1 vs):=by
 have hlim:g9=1048576:=rfl;refine C1 (K1 hn) fun a l z2r=> ?_;subst z2r;have hc:=E0 hn;refine l5 (if_pos hc) ?_;refine f8 hc fun hok hline=> ?_;clear hc;refine Q1 (AG.mp hok) fun hne hl hasc hq=> ?_;have hpos:0<a.length:=List.length_pos_iff.mpr hne;have f1:E2 [.str a]=.ok (.bool (G7 a)):=if_pos (Nat.le_trans hl (by decide));have f2:I1 [.str a]=.ok (.bool (G7 a)):=if_pos ⟨by exact Nat.le_trans hl (by decide),hasc⟩;have f3:H7 [.str a]=.ok (.bool (B6 a)):=if_pos (Nat.le_trans hl (by decide));have f4:F3 [.str a]=.ok (.bool (B6 a)):=if_pos ⟨by exact Nat.le_trans hl (by decide),hasc⟩;have f5: ∀b:Bool,S5 [.bool b,.bool b]=.ok (.bool true):=fun b=>by show R.ok (V.bool (b==b))=_;rw[beq_self_eq_true]
 have f6:=f5 (G7 a);have f7:=f5 (B6 a);have s1:d9.get (List.zip ["atom","line"] [.str a,.int l]) "atom"=some (.str a):=rfl;have s2:d9.get (List.zip ["atom","line"] [.str a,.int l]) "line"=some (.int l):=rfl;have e0:d8 g none n6.sc (List.zip ["atom","line"] [.str a,.int l]) (i4 n6.body 0) (.ok (.next,List.zip ["atom","line"] [.str a,.int l])):=
  d8.if0 (c8.to (C2 (aA.cons (b1:=false) (b2:=false) (bB (bb:=true) (G0 (v:=.bool true) (by tm_at "e") rfl)) fun Z=>aA.one (bB (bb:=true) (G0 (v:=.bool true) (by tm_at "e") rfl)))) rfl) d5.nil
 have hs1:j9 a none (some 1)=[k6 a 0]:=by
  rw[show(some (1:Int))=some ((1:Nat):Int) from rfl,jK];refine C1 (List.exists_cons_of_ne_nil hne) fun c r z1r=> ?_;subst z1r;rfl
 have hcond:c8 g n6.sc (List.zip ["atom","line"] [.str a,.int l]) true (sE (i4 n6.body 1)) (.ok (.bool (k6 a 0==39))):=
  e9 (hs1▸c8.slice (by tm_at "v") (by tm_at "e") (by tm_at "e") (Nat.le_trans hl (by decide))) (by tm_at "e") (uT _ _) rfl
 by_cases h39:k6 a 0=39
 ·have hQ:=hq h39;have hOF:F4 [.str a]=.ok (match Q7 (j8 a) with|some v=>.bytes (v.map fun(n:Nat)=>(n:Int))|none=>.none):=by
   show(if _ then _ else _)=_;rw[if_pos hQ]<;>cases Q7 (j8 a)<;>rfl
  have hPF:A7 [.str a,.int l]=(match fA a with|some v=>.ok (.int (v:Nat))|none=>.err l):=by
   show(if _ then (if _ then (if _ then _ else _) else _) else _)=_;rw[if_pos ⟨hl,hasc,hline,hne⟩,if_pos h39,if_pos hQ];unfold fA;cases Q7 (j8 a) with
   |none=>rfl
   |some v=>rcases v with _|⟨v,_|_⟩<;>rfl
  have hT:D0 (A7 [.str a,.int l])=.ok (.tup (I3 (Q9 (fA a)) l)):=by rw[hPF]<;>cases fA a<;>rfl
  have hd1:c8 g n6.sc (d9.set (List.zip ["atom","line"] [.str a,.int l]) "octets" (match Q7 (j8 a) with|some v=>.bytes (v.map fun(n:Nat)=>(n:Int))|none=>.none)) false (sE (i4 (sB (i4 n6.body 1)) 1)) (.ok (Q9 (fA a))):=by
   unfold fA;cases hx:Q7 (j8 a) with
   |none=>exact c8.if0 (c8.to (j2 (J0.cons (b1:=false) (b2:=false) (e9 (v:=.none) (u:=.none) (by tm_at "e") (by tm_at "e") rfl rfl) fun z=>by injection z)) rfl) (by tm_at "e")
   |some v=>
    have hvl:(v.map fun(n:Nat)=>(n:Int)).length<=g9:=by
     have:=(L4 (j8 a)).len v hx;have:=cB (T:=a);simp;omega
    have hb:c8 g n6.sc (d9.set (List.zip ["atom","line"] [.str a,.int l]) "octets" (.bytes (v.map fun(n:Nat)=>(n:Int)))) true (eK (sE (i4 (sB (i4 n6.body 1)) 1)) 0) (.ok (.bool ((v.length:Int)==1))):=
     c8.to (j2 (J0.cons (b1:=true) (e9 (v:=.bytes (v.map fun(n:Nat)=>(n:Int))) (u:=.none) (by tm_at "e") (by tm_at "e") rfl rfl) fun Z=>J0.one (e9 (c8.bcall (v6.cons (v:=.bytes (v.map fun(n:Nat)=>(n:Int))) (by tm_at "e") v6.nil) hlen rfl (len_bytes hvl) rfl rfl) (by tm_at "e") (yV _ _) rfl))) (by simp)
    rcases v with _|⟨v,_|⟨u,r⟩⟩
    ·exact c8.if0 hb (by tm_at "e")
    ·exact c8.if1 hb (G6 (v:=.bytes [(v:Int)]) (by tm_at "v") (by tm_at "e") (lZ (b:=[(v:Int)]) hvl (by simp)) rfl)
    ·exact c8.if0 (c7 hb (by simp;omega)) (by tm_at "e")
  have ho:(Q9 (fA a)).open? =false:=by cases fA a<;>rfl
  have ho2:(match Q7 (j8 a) with|some v=>V.bytes (v.map fun(n:Nat)=>(n:Int))|none=>V.none).open? =false:=by cases Q7 (j8 a)<;>rfl
  generalize (match Q7 (j8 a) with|some v=>V.bytes (v.map fun(n:Nat)=>(n:Int))|none=>V.none)=ov at*;have e1:d8 g none n6.sc (List.zip ["atom","line"] [.str a,.int l]) (i4 n6.body 1) (.ok (.next,d9.set (d9.set (List.zip ["atom","line"] [.str a,.int l]) "octets" ov) "due" (Q9 (fA a)))):=
   d8.if1 (c9 hcond (by simp[h39])) (d5.cons (d7 (v:=ov) (c8.call (by tm_at "e") hoc hOF rfl rfl rfl) (by decide) (by decide) ho2) (d5.cons (d7 hd1 (by decide) (by decide) ho) d5.nil))
  have hD:L7 [Q9 (fA a),.int l]=.ok (.tup (I3 (Q9 (fA a)) l)):=by
   show(if (Q9 (fA a)).open? =true then _ else _)=_;rw[ho];rfl
  exact g8.ret rfl (d5.cons e0 (d5.cons e1 (d5.ret (d8.ret (v:=.bool true) (dE (I6 hpv (v:=.str a) (u:=.int l) (by tm_at "n") (by tm_at "n") rfl rfl ⟨by decide,by decide⟩ rfl rfl hlam ⟨rfl,rfl,rfl⟩) (c8.call (vs:=[Q9 (fA a),.int l]) (by tm_at "e") hdu hD rfl rfl (by show((Q9 (fA a)).open? ||(false||false))=false;rw[ho];rfl)) hT (mT _ _) rfl)))))
 ·have hNF:A5 [.str a]=.ok (Q9 (B8 a)):=by
   show(if _ then _ else _)=_;rw[if_pos ⟨hl,hasc⟩]<;>cases B8 a<;>rfl
  have hWF:y0 [.str a,.int l]=(match B8 a with|some v=>.ok (.int (v:Nat))|none=>.err l):=by
   show(if _ then _ else _)=_;rw[if_pos ⟨hl,hasc,hline⟩]<;>cases B8 a<;>rfl
  have hPF:A7 [.str a,.int l]=(match B8 a with|some v=>.ok (.int (v:Nat))|none=>.err l):=by
   show(if _ then (if _ then (if _ then _ else _) else _) else _)=_;rw[if_pos ⟨hl,hasc,hline,hne⟩,if_neg h39]<;>cases B8 a<;>rfl
  have hT1:D0 (y0 [.str a,.int l])=.ok (.tup (I3 (Q9 (B8 a)) l)):=by rw[hWF]<;>cases B8 a<;>rfl
  have hT2:D0 (A7 [.str a,.int l])=.ok (.tup (I3 (Q9 (B8 a)) l)):=by rw[hPF]<;>cases B8 a<;>rfl
  have ho:(Q9 (B8 a)).open? =false:=by cases B8 a<;>rfl
  have hD:L7 [Q9 (B8 a),.int l]=.ok (.tup (I3 (Q9 (B8 a)) l)):=by
   show(if (Q9 (B8 a)).open? =true then _ else _)=_;rw[ho];rfl
  have e1:d8 g none n6.sc (List.zip ["atom","line"] [.str a,.int l]) (i4 n6.body 1) (.ok (.next,d9.set (List.zip ["atom","line"] [.str a,.int l]) "due" (Q9 (B8 a)))):=
   d8.if0 (c7 hcond (by simp[h39])) (d5.cons (d7 (v:=Q9 (B8 a)) (c8.call (by tm_at "e") hnu hNF rfl rfl rfl) (by decide) (by decide) ho) (d5.cons (d8.if0 (O0 (I6 hwh (v:=.str a) (u:=.int l) (by tm_at "n") (by tm_at "n") rfl rfl ⟨by decide,by decide⟩ rfl rfl hlam ⟨rfl,rfl,rfl⟩) (c8.call (vs:=[Q9 (B8 a),.int l]) (by tm_at "e") hdu hD rfl rfl (by show((Q9 (B8 a)).open? ||(false||false))=false;rw[ho];rfl)) hT1 (mT _ _) rfl) d5.nil) d5.nil))
  exact g8.ret rfl (d5.cons e0 (d5.cons e1 (d5.ret (d8.ret (v:=.bool true) (dE (I6 hpv (v:=.str a) (u:=.int l) (by tm_at "n") (by tm_at "n") rfl rfl ⟨by decide,by decide⟩ rfl rfl hlam ⟨rfl,rfl,rfl⟩) (c8.call (vs:=[Q9 (B8 a),.int l]) (by tm_at "e") hdu hD rfl rfl (by show((Q9 (B8 a)).open? ||(false||false))=false;rw[ho];rfl)) hT2 (mT _ _) rfl)))))
end
theorem qG (l:List b9):Dats (l.map V.str)/\deepVs (l.map V.str)<=0:=by
 induction l with
 |nil=>exact⟨trivial,Nat.le_refl _⟩
 |cons a r ih=>exact⟨⟨trivial,ih.1⟩,by show max 0 (deepVs (r.map V.str))<=0;exact r17 ih⟩
theorem mU (l:List (Int×b9)):Dats (l.map w7)/\deepVs (l.map w7)<=1:=by
 induction l with
 |nil=>exact⟨trivial,by show 0<=1;omega⟩
 |cons a r ih=>
  refine⟨⟨⟨trivial,trivial,trivial⟩,ih.1⟩,?_⟩;show max (max 0 (max 0 0)+1) (deepVs (r.map w7))<=1;exact q77 ih
theorem S7 {v:V} {l:Int} (h:RZ v) (h':gR v<=19):Dats (I3 v l)/\deepVs (I3 v l)<=20:=by
 cases v<;>first
  |exact⟨⟨trivial,trivial,trivial⟩,by show(0:Nat)<=20;omega⟩
  |exact⟨⟨trivial,h,trivial⟩,by show max 0 (max (gR _) 0)<=20;exact omx h'⟩
  |exact absurd h (fun z=>z)
theorem vS {v:V} {l:Int} (h:v.open? =false):L7 [v,.int l]=.ok (.tup (I3 v l)):=by
 show(if v.open? =true then _ else _)=_;rw[h];rfl
theorem QQ {x y:V}:P2 (.tup [x,y]) (.int 1)=.ok y:=by
 show(if [x,y].length<=g9 then needR (G3 1 [x,y].length) (fun k=>needR [x,y][k]? R.ok) else R.stuck)=_;rw[if_pos (by show 2<=g9;decide)];rfl
theorem gI {vs:List V} (h:vs.length<=g9):s9 (.list vs)=.ok vs:=if_pos h
theorem iG {us:List V} (h:us.length<=g9):B3 (.list us)=.ok (!us.isEmpty):=by rw[xB,if_pos h]
theorem IJ {us:List V} (h:us.length<=g9):w9 .NotEq (.list us) (.list [])=.ok (!us.isEmpty):=by rw[TI,if_pos h]
theorem gJ {g:G} {csc:Scope} {σ:d9} {c:Expr} {x1 x2 x3 xp:Pos} {k:Nat} {q:b9->Bool}: ∀{as:List (Int×b9)},(∀p∈as,c8 g csc ((σ.set "s" (.int p.1)).set "a" (.str p.2)) true c (.ok (.bool (q p.2))))->(csc.names.lookup ("a":Str)==some NameKind.local)=true->
  Q6 g csc σ (.Tuple [.Name "s" x1,.Name "a" x2] k x3) (.Name "a" xp) [c] (as.map w7) ((as.filter fun p=>q p.2).map fun p=>V.str p.2)
 |[],_,_=>Q6.nil
 |p::r,h,hc=>by
  have h1:=h p List.mem_cons_self;have ih:=gJ (fun p hp=>h p (List.mem_cons_of_mem _ hp)) hc (x1:=x1) (x2:=x2) (x3:=x3) (xp:=xp) (k:=k);rw[List.map_cons,List.filter_cons];cases hq:q p.2 with
  |false=>rw[hq] at h1;rw[if_neg (by decide)];exact uR rfl h1 ih
  |true=>rw[hq] at h1;rw[if_pos rfl];exact lI rfl h1 (c8.name (g6 d9.same (by rw[hc];rfl) (by decide))) rfl ih
theorem yJ {as:List (Int×b9)} {q:b9->Bool}:(!((as.filter fun p=>q p.2).map fun p=>V.str p.2).isEmpty)=as.any fun p=>q p.2:=by
 induction as with
 |nil=>rfl
 |cons p r ih=>
  rw[List.filter_cons,List.any_cons];cases q p.2 with
  |true=>rfl
  |false=>rw[if_neg (by decide)];exact ih
structure iH (g:G):Prop where
 lam:g.lam=true
 len:g.fn "len"=none
 bare:g.fn "_law_bare"=some S3
 oper:g.fn "_law_operands"=some I0
 atoms:g.fn "_law_atoms"=some P0
 due:g.fn "_law_due"=some L7
 is:g.fn "_law_is"=some S5
 named:g.fn "_law_named"=some I1
 looked:g.fn "_law_looked"=some F3
 aright:g.fn "_law_atom_right"=some B1
 parts:g.fn "_law_parts"=some A8
 octets:g.fn "_law_octets"=some F4
 l_signs:g.low "check_signs"=some o8
 l_bare:g.low "bare"=some gD
 l_parted:g.low "parted"=some W5
 l_atoms:g.low "atoms_of"=some H9
 l_place:g.low "names_place"=some G1
 l_octets:g.low "octets_in"=some E7
noncomputable abbrev wP:List Stmt:=sB (i4 f9.body 6)
noncomputable def B7 (one:b9):V:=match y5 one with|some as=>.list (as.map w7)|none=>.none
noncomputable def o9 (one:b9):V:=match y5 one with|some as=>.bool (as.any fun p=>K9 p.2)|none=>.none
theorem bL (one:b9):(B7 one).open? =false:=by unfold B7;cases y5 one<;>rfl
theorem bM (one:b9):(o9 one).open? =false:=by unfold o9;cases y5 one<;>rfl
theorem W6 {v:V} {l:Int} (h:v.open? =false):[v,V.int l].any V.open? =false:=by show(v.open? ||(false||false))=false;rw[h];rfl
section
variable {g:G}
theorem UH (L:iH g) {one:b9} {l:Int} (hl:one.length<=1000) (hasc:j6 one=true) (hline:l.natAbs<1000000) {σ:d9} (h1:σ.get "one"=some (.str one)) (h2:σ.get "line"=some (.int l)) {b:List Stmt} {u:R (Fl×d9)}
  (h:d5 g none f9.sc (σ.set "atoms" (B7 one)) b u):d5 g none f9.sc σ (i4 wP 0::i4 wP 1::b) u:=by
 have hlim:g9=1048576:=rfl;have f1:P0 [.str one]=.ok (B7 one):=by
  show(if _ then _ else _)=_;rw[if_pos ⟨by exact Nat.le_trans hl (by decide),hasc⟩];unfold B7;cases y5 one<;>rfl
 have f2:D0 (H9 [.str one,.int l])=.ok (.tup (I3 (B7 one) l)):=by
  have:H9 [.str one,.int l]=(match y5 one with|some as=>.ok (.list (as.map w7))|none=>.err l):=by
   show(if _ then _ else _)=_;rw[if_pos ⟨by exact Nat.le_trans hl (by decide),hline⟩]<;>cases y5 one<;>rfl
  rw[this];unfold B7;cases y5 one<;>rfl
 have hd:Dats (I3 (B7 one) l)/\deepVs (I3 (B7 one) l)<=20:=by
  unfold B7;cases y5 one with
  |none=>exact S7 trivial (by show 0<=19;omega)
  |some as=>exact S7 (mU as).1 (by show deepVs _+1<=19;have:=(mU as).2;omega)
 exact d5.cons (d7 (v:=B7 one) (c8.call (by tm_at "e") L.atoms f1 rfl rfl rfl) (by decide) (by decide) (bL one))
  (d5.cons (d8.if0 (O0 (I6 L.l_atoms (v:=.str one) (u:=.int l) (by tm_at "n") (by tm_at "n") rfl rfl ⟨by decide,by decide⟩ rfl rfl L.lam ⟨rfl,rfl,rfl⟩)
   (c8.call (vs:=[B7 one,.int l]) (by tm_at "e") L.due (vS (bL one)) rfl rfl (W6 (bL one))) f2 hd rfl) d5.nil) h)
theorem UI (L:iH g) {one:b9} {l:Int} (hl:one.length<=1000) (hasc:j6 one=true) (hline:l.natAbs<1000000) {σ:d9} (h1:σ.get "one"=some (.str one)) (h2:σ.get "line"=some (.int l)) (h3:σ.get "atoms"=some (B7 one)) {b:List Stmt} {u:R (Fl×d9)}
  (h:d5 g none f9.sc ((σ.set "due" (o9 one)).set "told" (.tup (I3 (o9 one) l))) b u):d5 g none f9.sc σ (i4 wP 2::i4 wP 3::i4 wP 4::b) u:=by
 have hlim:g9=1048576:=rfl;have f2:D0 (G1 [.str one,.int l])=.ok (.tup (I3 (o9 one) l)):=by
  have:G1 [.str one,.int l]=(match y5 one with|some as=>.ok (.bool (as.any fun p=>K9 p.2))|none=>.err l):=by
   show(if _ then _ else _)=_;rw[if_pos ⟨by exact Nat.le_trans hl (by decide),hline⟩]<;>cases y5 one<;>rfl
  rw[this];unfold o9;cases y5 one<;>rfl
 have hd:Dats (I3 (o9 one) l)/\deepVs (I3 (o9 one) l)<=20:=by
  unfold o9;cases y5 one<;>exact S7 trivial (by show 0<=19;omega)
 have e2:d8 g none f9.sc σ (i4 wP 2) (.ok (.next,σ.set "due" (o9 one))):=by
  refine d7 (v:=o9 one) ?_ (by decide) (by decide) (bM one);cases hx:y5 one with
  |none=>
   have a1:B7 one=.none:=by unfold B7;rw[hx]
   have a2:o9 one=.none:=by unfold o9;rw[hx]
   rw[a1] at h3;rw[a2];exact c8.if1 (c9 (e9 (v:=.none) (u:=.none) (by tm_at "e") (by tm_at "e") T8 rfl) rfl) (by tm_at "e")
  |some as=>
   have a1:B7 one=.list (as.map w7):=by unfold B7;rw[hx]
   have a2:o9 one=.bool (as.any fun p=>K9 p.2):=by unfold o9;rw[hx]
   rw[a1] at h3;rw[a2];have hgood:=mS hasc hx;have hlen:=((L5 one).le as hx).1;have hcomp:((as.filter fun p=>K9 p.2).map fun p=>V.str p.2).length<=g9:=by
    rw[List.length_map];have:=(List.filter_sublist (p:=fun p=>K9 p.2) (l:=as)).length_le;exact VR this hlen hl (by decide)
   refine c8.if0 (c7 (e9 (v:=.list (as.map w7)) (u:=.none) (by tm_at "e") (by tm_at "e") (gT _) rfl) rfl) ?_;refine c8.to (e9 (J9 (iv:=.list (as.map w7)) (by tm_at "e") (gI (by simp;exact DS hlen hl (by decide))) (gJ (q:=K9) (fun p hp=> ?_) rfl) rfl) (c8.list v6.nil rfl (by show 0<=g9;omega)) (IJ hcomp) rfl) (by rw[yJ]);have hg:=hgood p hp;have k1:I1 [.str p.2]=.ok (.bool (G7 p.2)):=if_pos ⟨by have:=hg.2.1;exact VT this hl (by decide),hg.2.2.1⟩;have k2:F3 [.str p.2]=.ok (.bool (B6 p.2)):=if_pos ⟨by have:=hg.2.1;exact VT this hl (by decide),hg.2.2.1⟩;have m: ∀{xp:Pos} {csc:Scope} {τ:d9},(csc.names.lookup ("a":Str)==some NameKind.local)=true->c8 g csc ((τ.set "s" (.int p.1)).set "a" (.str p.2)) false (.Name "a" xp) (.ok (.str p.2)):=fun hc=>c8.name (g6 d9.same (by rw[hc];rfl) (by decide));exact C2 (aA.cons (e9 (m rfl) (by tm_at "e") (dS _ _) rfl) fun Z=>aA.cons (G0 (v:=.bool (G7 p.2)) (c8.call (v6.cons (m rfl) v6.nil) L.named k1 rfl rfl rfl) rfl) fun Z=>aA.one (G0 (v:=.bool (B6 p.2)) (c8.call (v6.cons (m rfl) v6.nil) L.looked k2 rfl rfl rfl) rfl))
 have e3:d8 g none f9.sc (σ.set "due" (o9 one)) (i4 wP 3) (.ok (.next,(σ.set "due" (o9 one)).set "told" (.tup (I3 (o9 one) l)))):=
  d7 (v:=.tup (I3 (o9 one) l)) (c8.to (I6 L.l_place (v:=.str one) (u:=.int l) (by tm_at "n") (by tm_at "n") rfl rfl ⟨by decide,by decide⟩ rfl rfl L.lam ⟨rfl,rfl,rfl⟩) f2) (by decide) (by decide) rfl
 have hne:c8 g f9.sc ((σ.set "due" (o9 one)).set "told" (.tup (I3 (o9 one) l))) true (eK (sE (i4 wP 4)) 0) (.ok (.bool false)):=
  e9 (c8.name (g6 d9.same rfl (by decide))) (c8.call (vs:=[o9 one,.int l]) (by tm_at "e") L.due (vS (bM one)) rfl rfl (W6 (bM one))) (NM _ hd.1 hd.2) rfl
 have e4:d8 g none f9.sc ((σ.set "due" (o9 one)).set "told" (.tup (I3 (o9 one) l))) (i4 wP 4) (.ok (.next,(σ.set "due" (o9 one)).set "told" (.tup (I3 (o9 one) l)))):=by
  refine d8.if0 (c8.to (C2 (aA.cons (b2:=false) hne fun Z=>aA.one ?_)) rfl) d5.nil;cases hx:y5 one with
  |none=>
   have a2:o9 one=.none:=by unfold o9;rw[hx]
   rw[a2];exact c8.to (j2 (J0.cons (b1:=false) (b2:=false) (e9 (v:=.none) (u:=.none) (by tm_at "e") (by tm_at "e") rfl rfl) fun z=>by injection z)) rfl
  |some as=>
   have a2:o9 one=.bool (as.any fun p=>K9 p.2):=by unfold o9;rw[hx]
   rw[a2];generalize (as.any fun p=>K9 p.2)=bb;have f5:S5 [.bool bb,.bool bb]=.ok (.bool true):=by show R.ok (V.bool (bb==bb))=_;rw[beq_self_eq_true]
   exact c8.to (j2 (J0.cons (b1:=true) (b2:=false) (e9 (v:=.bool bb) (u:=.none) (by tm_at "e") (by tm_at "e") rfl rfl) fun Z=>J0.one (bB (bb:=true) (G0 (v:=.bool true) (c8.call (v6.cons (G6 (v:=.tup [.str mQ,.bool bb]) (by tm_at "v") (by tm_at "e") QQ rfl) (v6.cons (by tm_at "e") v6.nil)) L.is f5 rfl rfl rfl) rfl)))) rfl
 exact d5.cons e2 (d5.cons e3 (d5.cons e4 h))
end
noncomputable def mV (one:b9):Bool:=decide (1<one.length) &&(k6 one 0==34 &&((pm none true one.dropLast none false).isNone &&(pm none true one none false).isSome))
noncomputable def cP (one:b9):V:=match Q7 (j8 one) with|some v=>.bytes (v.map fun(n:Nat)=>(n:Int))|none=>.none
theorem mW (one:b9):(cP one).open? =false:=by unfold cP;cases Q7 (j8 one)<;>rfl
section
variable {g:G}
theorem UJ (L:iH g) {one:b9} {l:Int} (hl:one.length<=1000) (hasc:j6 one=true) (hline:l.natAbs<1000000) {σ:d9} (h2:σ.get "line"=some (.int l)) (h3:σ.get "atoms"=some (B7 one)) {b:List Stmt} {u:R (Fl×d9)}
  (h:d5 g none f9.sc σ b u):d5 g none f9.sc σ (i4 wP 5::b) u:=by
 have hlim:g9=1048576:=rfl;have key: ∀(as:List (Int×b9)),as.length<=1000->(∀p∈as,S6 1000 p.2)->
   c8 g f9.sc σ false (eI (eK (sE (i4 wP 5)) 0)) (.ok (.list (as.map w7)))->d5 g none f9.sc σ (i4 wP 5::b) u:=by
  intro as hn hg hi;refine d5.cons (d8.if0 (c8.to (e9 (J9 hi (gI (by simp;exact Nat.le_trans hn (by decide))) (gJ (q:=fun Z=>false) (fun p hp=> ?_) rfl) rfl) (c8.list v6.nil rfl (by show 0<=g9;omega)) (IJ (by rw[List.length_map];exact Nat.le_trans List.filter_sublist.length_le (Nat.le_trans hn (by decide)))) rfl) (by simp)) d5.nil) h;have hgp:=hg p hp;have k1:B1 [.str p.2,.int l]=.ok (.bool true):=if_pos ⟨AG.mpr ⟨hgp.1,hgp.2.1,hgp.2.2.1,fun z=>vR hgp (Nat.le_refl _) z⟩,hline⟩;exact bB (bb:=true) (G0 (v:=.bool true) (c8.call (v6.cons (c8.name (g6 d9.same rfl (by decide))) (v6.cons (c8.name (g6 (d9.ne (by decide) (d9.ne (by decide) (M8 h2 rfl))) rfl (by decide))) v6.nil)) L.aright k1 rfl rfl rfl) rfl)
 cases hx:y5 one with
 |none=>
  have a1:B7 one=.none:=by unfold B7;rw[hx]
  rw[a1] at h3;exact key [] (by simp) (fun p hp=>by cases hp) (eO (bb:=false) (by tm_at "e") cU fun Z=>H5 (c8.list v6.nil rfl (by show 0<=g9;omega)))
 |some as=>
  have a1:B7 one=.list (as.map w7):=by unfold B7;rw[hx]
  rw[a1] at h3;have hlen:=((L5 one).le as hx).1;have hgood:=mS hasc hx;have hll:(as.map w7).length<=g9:=by simp;exact DS hlen hl (by decide)
  refine key as (Nat.le_trans hlen hl) (fun p hp=>⟨(hgood p hp).1,Nat.le_trans (hgood p hp).2.1 hl,(hgood p hp).2.2⟩) ?_;refine c8.to (eO (bb:= !(as.map w7).isEmpty) (by tm_at "e") (iG hll) fun Z=>H5 (c8.list v6.nil rfl (by show 0<=g9;omega))) ?_;cases as<;>rfl
theorem UK (L:iH g) {one:b9} {l:Int} (hne:one≠[]) (hl:one.length<=1000) (hasc:j6 one=true) (hline:l.natAbs<1000000) {σ:d9} (h1:σ.get "one"=some (.str one)) (h2:σ.get "line"=some (.int l)) {b:List Stmt} {u:R (Fl×d9)}
  (h:d5 g none f9.sc (σ.set "is_quoted" (.bool (mV one))) b u):d5 g none f9.sc σ (i4 wP 6::i4 wP 7::b) u:=by
 have hlim:g9=1048576:=rfl;have hlen:=L.len;have hpos:0<one.length:=List.length_pos_iff.mpr hne;have e6:d8 g none f9.sc σ (i4 wP 6) (.ok (.next,σ.set "is_quoted" (.bool (mV one)))):=by
  refine d7 (v:=.bool (mV one)) ?_ (by decide) (by decide) rfl;have p1:A8 [.str one.dropLast,.str []]=.ok (match pm none true one.dropLast none false with|some ps=>.list (ps.map .str)|none=>.none):=by
   show(if _ then _ else _)=_;rw[if_pos (by simp;exact Nat.le_trans hl (by decide))]<;>cases pm none true one.dropLast none false<;>rfl
  have p2:A8 [.str one,.str []]=.ok (match pm none true one none false with|some ps=>.list (ps.map .str)|none=>.none):=by
   show(if _ then _ else _)=_;rw[if_pos (Nat.le_trans hl (by decide))]<;>cases pm none true one none false<;>rfl
  have hsl:j9 one none (some (-1))=one.dropLast:=eT hpos;unfold mV;refine o7 (c8.to (e9 (by tm_at "e") (by tm_at "e") (NO _ _) rfl) (by congr 2;rw[Bool.eq_iff_iff];simp;omega)) fun Z=>o7 (by tm_at "e") fun Z=>o7 (b1:=(pm none true one.dropLast none false).isNone) ?_ fun Z=>H5 ?_
  ·refine e9 (c8.call (v6.cons (hsl▸c8.slice (by tm_at "v") (by tm_at "e") (zU.some (rM (by tm_at "e")) (by decide)) (Nat.le_trans hl (by decide))) (by tm_at "e")) L.parts p1 rfl rfl rfl) (by tm_at "e") ?_ rfl;cases pm none true one.dropLast none false<;>rfl
  ·refine e9 (c8.call (by tm_at "e") L.parts p2 rfl rfl rfl) (by tm_at "e") ?_ rfl;cases pm none true one none false<;>rfl
 refine d5.cons e6 (d5.cons (d8.if0 (c8.to (j2 (J0.cons (b1:=mV one) (b2:=false) (pZ (c8.name (g6 d9.same rfl (by decide))) (N4 _)) fun hq=>J0.one ?_)) (by simp)) d5.nil) h);have hQ:N9 one=true:=by
  unfold mV at hq;simp only[Bool.and_eq_true,decide_eq_true_eq] at hq;refine Q1 hq fun q1 q2 q3 q4=> ?_;clear hq;exact mR (Nat.succ_le_of_lt q1) hl hasc (Option.isNone_iff_eq_none.mp q3) (by intro z;rw[z] at q4;injection q4)
 have f1:F4 [.str one]=.ok (cP one):=by
  show(if _ then _ else _)=_;rw[if_pos hQ];unfold cP;cases Q7 (j8 one)<;>rfl
 have f2:D0 (E7 [.str one,.int l])=.ok (.tup (I3 (cP one) l)):=by
  have:E7 [.str one,.int l]=(match Q7 (j8 one) with|some v=>.ok (.bytes (v.map fun(n:Nat)=>(n:Int)))|none=>.err l):=by
   show(if _ then _ else _)=_;rw[if_pos ⟨hQ,hline⟩]<;>cases Q7 (j8 one)<;>rfl
  rw[this];unfold cP;cases Q7 (j8 one)<;>rfl
 have hd:Dats (I3 (cP one) l)/\deepVs (I3 (cP one) l)<=20:=by
  unfold cP;cases Q7 (j8 one)<;>exact S7 trivial (by show 0<=19;omega)
 exact O0 (I6 L.l_octets (v:=.str one) (u:=.int l) (by tm_at "n") (by tm_at "n") rfl rfl ⟨by decide,by decide⟩ rfl rfl L.lam ⟨rfl,rfl,rfl⟩)
   (c8.call (vs:=[cP one,.int l]) (v6.cons (c8.call (by tm_at "e") L.octets f1 rfl rfl rfl) (by tm_at "e")) L.due (vS (mW one)) rfl rfl (W6 (mW one))) f2 hd rfl
theorem AH (L:iH g) {l:Int} (hline:l.natAbs<1000000): ∀(ops:List b9) (σ:d9),(∀p∈ops,p≠[]/\p.length<=1000/\j6 p=true)->σ.get "line"=some (.int l)->
  ∃σ',P7 g none f9.sc σ (V1 (i4 f9.body 6)) wP (ops.map V.str) (.ok (.next,σ'))
 |[],σ,_,_=>⟨σ,P7.nil⟩
 |one::r,σ,ho,h2=>by
  refine n5 (ho one List.mem_cons_self) fun p1 p2 p3=> ?_;have hb:t7 σ (V1 (i4 f9.body 6)) (.str one)=.ok (σ.set "one" (.str one)):=rfl;refine d6 (AH L hline r (((((σ.set "one" (.str one)).set "atoms" (B7 one)).set "due" (o9 one)).set "told" (.tup (I3 (o9 one) l))).set "is_quoted" (.bool (mV one))) (fun p hp=>ho p (List.mem_cons_of_mem _ hp)) (by tm_at "n")) fun σ' hr=> ?_;exact⟨σ',P7.cons hb (UH L p2 p3 hline (by tm_at "n") (by tm_at "n") (UI L p2 p3 hline (by tm_at "n") (by tm_at "n") (by tm_at "n") (UJ L p2 p3 hline (by tm_at "n") (by tm_at "n") (UK L p1 p2 p3 hline (by tm_at "n") (by tm_at "n") d5.nil)))) hr⟩
noncomputable def E3:List V->R V:=CO fun t l=>
  if t.length<=500/\t.all A4=true/\l.natAbs<1000000 then .ok (.bool true) else .stuck
theorem yK {t:b9} (h:t.all A4=true):j6 t=true:=by
 unfold j6;rw[List.all_eq_true] at h ⊢;intro c hc;have:=h c hc;unfold A4 at this;simp at this ⊢;omega
noncomputable def Z3 (t:b9):V:=match N1 t with|some b=>.str b|none=>.none
noncomputable def W7 (b:b9):V:=match V0 true b with|some l=>.list (l.map .str)|none=>.none
theorem gK (t:b9):(Z3 t).open? =false:=by unfold Z3;cases N1 t<;>rfl
theorem gM (t:b9):(W7 t).open? =false:=by unfold W7;cases V0 true t<;>rfl
theorem IK (L:iH g) {t:b9} {l:Int} (hl:t.length<=500) (hs:t.all A4=true) (hline:l.natAbs<1000000) {σ:d9} (g1:σ.get "text"=some (.str t)) (g2:σ.get "line"=some (.int l)) {b:List Stmt} {u:R (Fl×d9)}
  (h:d5 g none f9.sc (σ.set "cut_line" (Z3 t)) b u):d5 g none f9.sc σ (i4 f9.body 0::i4 f9.body 1::i4 f9.body 2::b) u:=by
 have hlim:g9=1048576:=rfl;have f1:D0 (o8 [.str t,.int l])=.ok (.tup [.str mQ,.none]):=by
  have:o8 [.str t,.int l]=.ok .none:=by
   show(if _ then (if _ then _ else _) else _)=_;rw[if_pos ⟨by exact Nat.le_trans hl (by decide),hline⟩,if_pos hs]
  rw[this];rfl
 have f0:S3 [.str t]=.ok (Z3 t):=by
  show(if _ then _ else _)=_;rw[if_pos (Nat.le_trans hl (by decide))];unfold Z3;cases N1 t<;>rfl
 have f2:D0 (gD [.str t,.int l])=.ok (.tup (I3 (Z3 t) l)):=by
  have:gD [.str t,.int l]=(match N1 t with|some b=>.ok (.str b)|none=>.err l):=by
   show(if _ then _ else _)=_;rw[if_pos ⟨by exact Nat.le_trans hl (by decide),hline⟩]<;>cases N1 t<;>rfl
  rw[this];unfold Z3;cases N1 t<;>rfl
 have cutD:Dats (I3 (Z3 t) l)/\deepVs (I3 (Z3 t) l)<=20:=by
  unfold Z3;cases N1 t<;>exact S7 trivial (by show 0<=19;omega)
 refine d5.cons (d7 (v:=Z3 t) (c8.call (by tm_at "e") L.bare f0 rfl rfl rfl) (by decide) (by decide) (gK t)) (d5.cons (σ':=d9.set σ "cut_line" (Z3 t)) ?_ (d5.cons (σ':=d9.set σ "cut_line" (Z3 t)) ?_ h))
 ·exact d8.if0 (O0 (I6 L.l_signs (v:=.str t) (u:=.int l) (by tm_at "n") (by tm_at "n") rfl rfl ⟨by decide,by decide⟩ rfl rfl L.lam ⟨rfl,rfl,rfl⟩)
   (c8.tup (vs:=[.str mQ,.none]) (by tm_at "e") rfl (by show 2<=g9;decide)) f1 ⟨⟨trivial,trivial,trivial⟩,by show(0:Nat)<=20;omega⟩ rfl) d5.nil
 ·exact d8.if0 (O0 (I6 L.l_bare (v:=.str t) (u:=.int l) (by tm_at "n") (by tm_at "n") rfl rfl ⟨by decide,by decide⟩ rfl rfl L.lam ⟨rfl,rfl,rfl⟩)
   (c8.call (vs:=[Z3 t,.int l]) (by tm_at "e") L.due (vS (gK t)) rfl rfl (W6 (gK t))) f2 cutD rfl) d5.nil
theorem MK (L:iH g) {b:b9} {l:Int} (hl:b.length<=500) (hasc:j6 b=true) (hcut:V0 false b=V0 true b) (hline:l.natAbs<1000000) {σ:d9} (g1:σ.get "cut_line"=some (.str b)) (g2:σ.get "line"=some (.int l)):
  ∃σ',d5 g none f9.sc σ (f9.body.drop 3) (.ok (.ret (.bool true),σ')):=by
 have hlim:g9=1048576:=rfl;have f0:I0 [.str b]=.ok (W7 b):=by
  show(if _ then _ else _)=_;rw[if_pos (Nat.le_trans hl (by decide))];unfold W7;cases V0 true b<;>rfl
 have f2:D0 (W5 [.str b,.int l])=.ok (.tup (I3 (W7 b) l)):=by
  have:W5 [.str b,.int l]=(match V0 true b with|some b=>.ok (.list (b.map .str))|none=>.err l):=by
   show(if _ then _ else _)=_;rw[if_pos ⟨by exact Nat.le_trans hl (by decide),hline⟩,hcut]<;>cases V0 true b<;>rfl
  rw[this];unfold W7;cases V0 true b<;>rfl
 have hd:Dats (I3 (W7 b) l)/\deepVs (I3 (W7 b) l)<=20:=by
  unfold W7;cases V0 true b with
  |none=>exact S7 trivial (by show 0<=19;omega)
  |some ps=>exact S7 (qG ps).1 (by show deepVs _+1<=19;have:=(qG ps).2;omega)
 have e3:d8 g none f9.sc σ (i4 f9.body 3) (.ok (.next,σ)):=
  d8.if0 (c7 (e9 (v:=.str b) (u:=.none) (by tm_at "e") (by tm_at "e") (jW _) rfl) rfl) d5.nil
 have e4:d8 g none f9.sc σ (i4 f9.body 4) (.ok (.next,σ.set "operands" (W7 b))):=
  d7 (v:=W7 b) (c8.call (by tm_at "e") L.oper f0 rfl rfl rfl) (by decide) (by decide) (gM b)
 have e5:d8 g none f9.sc (σ.set "operands" (W7 b)) (i4 f9.body 5) (.ok (.next,σ.set "operands" (W7 b))):=
  d8.if0 (O0 (I6 L.l_parted (v:=.str b) (u:=.int l) (by tm_at "n") (by tm_at "n") rfl rfl ⟨by decide,by decide⟩ rfl rfl L.lam ⟨rfl,rfl,rfl⟩)
   (c8.call (vs:=[W7 b,.int l]) (by tm_at "e") L.due (vS (gM b)) rfl rfl (W6 (gM b))) f2 hd rfl) d5.nil
 have key: ∀(ops:List b9),ops.length<=1000->(∀p∈ops,p≠[]/\p.length<=1000/\j6 p=true)->c8 g f9.sc (σ.set "operands" (W7 b)) false (sE (i4 f9.body 6)) (.ok (.list (ops.map V.str)))->
   ∃σ',d5 g none f9.sc σ (f9.body.drop 3) (.ok (.ret (.bool true),σ')):=fun ops hn hops hi=>by
  refine d6 (AH L hline ops (σ.set "operands" (W7 b)) hops (by tm_at "n")) fun σ' hf=> ?_;exact⟨σ',d5.cons e3 (d5.cons e4 (d5.cons e5 (d5.cons (H4 hi (gI (by simp;exact Nat.le_trans hn (by decide))) rfl hf) (d5.ret (d8.ret (v:=.bool true) (by tm_at "e"))))))⟩
 cases hx:V0 true b with
 |none=>
  have a1:W7 b=.none:=by unfold W7;rw[hx]
  refine key [] (by simp) (fun p hp=>by cases hp) ?_;rw[a1];exact eO (bb:=false) (v:=.none) (by tm_at "e") cU fun Z=>H5 (c8.list v6.nil rfl (by show 0<=g9;omega))
 |some ps=>
  have a1:W7 b=.list (ps.map .str):=by unfold W7;rw[hx]
  refine f8 (CY hx hasc) fun c1 c2=> ?_;refine key ps (r38 c1 hl (by decide)) (fun p hp=>⟨(c2 p hp).1,by have:=(c2 p hp).2.1;exact VT this hl (by decide),(c2 p hp).2.2⟩) ?_;rw[a1];have hll:(ps.map V.str).length<=g9:=by simp;exact OK c1 hl (by decide)
  refine c8.to (eO (bb:= !(ps.map V.str).isEmpty) (v:=.list (ps.map V.str)) (by tm_at "e") (iG hll) fun Z=>H5 (c8.list v6.nil rfl (by show 0<=g9;omega))) ?_;cases ps<;>rfl
theorem dH (L:iH g) (vs:List V) (hn:E3 vs≠.stuck):g8 g none f9.sc ["text","line"] f9.body vs (E3 vs):=by
 have hlim:g9=1048576:=rfl;refine C1 (K1 hn) fun t l z1r=> ?_;subst z1r;have hc:=E0 hn;refine l5 (if_pos hc) ?_;refine n5 hc fun hl hs hline=> ?_;clear hc;have hasc:=yK hs
 suffices h: ∃σ',d5 g none f9.sc (d9.set (List.zip ["text","line"] [.str t,.int l]) "cut_line" (Z3 t)) (f9.body.drop 3) (.ok (.ret (.bool true),σ')) by
  refine d6 h fun σ' h=> ?_;exact g8.ret rfl (IK L hl hs hline rfl rfl h)
 cases hb:N1 t with
 |none=>
  have hcv:Z3 t=.none:=by unfold Z3;rw[hb]
  rw[hcv];exact⟨_,d5.ret (d8.if1 (c9 (e9 (v:=.none) (u:=.none) (by tm_at "e") (by tm_at "e") T8 rfl) rfl) (d5.ret (d8.ret (v:=.bool true) (by tm_at "e"))))⟩
 |some b=>
  have hcv:Z3 t=.str b:=by unfold Z3;rw[hb]
  rw[hcv];exact MK L (Nat.le_trans (IG hb) hl) (yI hb hasc) (IE hb) hline d9.same (by tm_at "n")
end
end
section
open PySem PySem.W PyProof.Rows
noncomputable abbrev vT (b0 b1:Int) (t0 t1 n:Nat):Obj:=listOf #[.int b0 t0,.int b1 t1] n
noncomputable def D1 (h:Heap) (a:Addr) (c:Nat):Prop:= ∃b0 b1 t0 t1 n,h.get? a=some (vT b0 b1 t0 t1 n)/\(0<=b0/\b0.natAbs<2 ^4096)/\0<=b1/\b1<=c
noncomputable def fC (s:Shared) (a:Addr):Shared:={s with heap:=hideAll s.heap [a]}
section
variable {W:Wd} {C C₀:Cx} {X:Xs} {k:Nat} {env:Env} {sc:Scope} {oa:Option Addr} {σ σ':d9} {s₀ s s₁ s':Shared} {g:G} {n:Nat} {opn:Option Str} {h h' h'':Heap} {a b:Addr} {c:Nat} {o:Obj}
theorem v8 (e:s.heap.get? b=some o) (n:b≠a):(fC s a).heap.get? b=some o:=hideAll_get _ e fun q=>n (List.mem_singleton.mp q)
theorem M9 (e:(fC s a).heap.get? b=some o):s.heap.get? b=some o:=of_hideAll _ e
theorem mX:(fC s a).heap.get? a=none:=hideAll_none _ (.head _)
theorem N0 {xs:Array Value} (hb:s.heap.get? a=some (listOf xs n)) (t:o3 s.heap):o3 (fC s a).heap:=hZ t fun b o vs e d=>v8 e fun q=>by rw[q,hb] at e;injection e with e;subst e;injection d
structure qH (W:Wd) (C:Cx) (a:Addr):Prop where
 G:W.G.get? a=none
 base:C.base.get? a=none
 X: ¬C.X a
theorem fD {xs:Array Value} (ok:C.Ok k) (cl:qH W C a) (hb:s.heap.get? a=some (listOf xs n)) (i:aN W C s.heap):aN W C (fC s a).heap:=
 ⟨fun b o e=>v8 (i.G b o e) (fun q=>by rw[q,cl.G] at e;injection e),fun b o e=>v8 (i.base b o e) (fun q=>by rw[q,cl.base] at e;injection e),
  U1 (fun b o n e=>v8 e n) (fun q=>cl.X (ok.locs a q)) i.frames,N0 hb i.tabs,i.Gl⟩
theorem IL {xs:Array Value} (hb:s.heap.get? a=some (listOf xs n)) (hn:h.get? a=none) (gr:Gr C h s.heap):Gr C h (fC s a).heap:=by
 have ne: ∀{b o},h.get? b=some o->b≠a:=fun e q=>by rw[q,hn] at e;injection e
 exact⟨fun b o e n m=>v8 (gr.keep b o e n m) (ne e),fun b o e n=>d6 (gr.slots b o e n) fun sl e'=>⟨sl,v8 e' (ne e)⟩,fun t=>N0 hb (gr.tabs t),
  fun t b o e n nc x hx ps e'=>gr.codes t b o e n nc x hx ps (M9 e')⟩
theorem bN {e:Expr} {v:V} (hE: ∀n,I9 W n) (hg:C6 W k C.tb g) (t:J3 W C X k env sc oa σ s.heap) (x:c8 g sc σ false e (.ok v)):wpAny (model prog w) C.A (eval e env) (g5 C X oa s v) (fun Z Z=>False) s:=by
 refine d6 x fun N hN=> ?_;clear x;have:=(hE (0+N) g C X k env sc oa σ e s hg t).1;rw[hN 0] at this;exact this
theorem ML {e:Expr} {b:Bool} (hE: ∀n,I9 W n) (hg:C6 W k C.tb g) (t:J3 W C X k env sc oa σ s.heap) (x:c8 g sc σ true e (.ok (.bool b))):wpAny (model prog w) C.A (isTrue e env (eval e env)) (P6 C s b) (fun Z Z=>False) s:=by
 refine d6 x fun N hN=> ?_;clear x;have:=(hE (0+N) g C X k env sc oa σ e s hg t).2;rw[hN 0] at this;exact this
theorem j7.nota (f:j7 W C k env sc s₀ opn (some a) σ s):a∉C.locs:=fun m=>(f.newo a rfl).2 (f.sit.ok.locs a m)
theorem j7.same (f:j7 W C k env sc s₀ opn (some a) σ s) (st:k9 C s s') (e:s.heap.get? a=some o):s'.heap.get? a=some o:=
 st.gr.keep a o e (fun z=>(f.sit.live a (.inr rfl)).1 z.2) f.nota
theorem j7.clear (F:M0 W C C₀ env sc s₀) (f:j7 W C k env sc s₀ opn (some a) σ s):qH W C a:=⟨F.notG (f.newo a rfl).1,F.notB (f.newo a rfl).1,(f.newo a rfl).2⟩
theorem MM {s:Shared} {b0 b1 i v:Int} {t0 t1 t m:Nat} (hb:s.heap.get? a=some (vT b0 b1 t0 t1 n)) {Q:Unit->Shared->Prop} {E:Value->Shared->Prop} {A:Around} (hi:i=0\/i=1)
  (hQ: ∀h' m',(∀b,b≠a->h'.get? b=s.heap.get? b)->h'.get? a=some (listOf (#[Value.int b0 t0,.int b1 t1].setIfInBounds i.toNat (.int v m)) m')->Q () {s with heap:=h'}):
  wpAny (model prog w) A (setItem (.ref a) (.int i t) (.int v m)) Q E s:=by
 refine ki_setAt (items:= #[.int b0 t0,.int b1 t1]) hb (by omega) (by omega) (by show i<2;omega) ?_;have d:(vT b0 b1 t0 t1 n).data=.seq #[.int b0 t0,.int b1 t1] n:=rfl;refine d6 (Obj.data_mapSeq d (·.setIfInBounds i.toNat (.int v m))) fun m' hd'=> ?_;refine hQ _ m' (Heap.SameBut.update ..).2 ((Heap.get?_update_self _ hb (Obj.isFreed_of_seq hd')).trans ?_);have e: ∀o:Obj,∀f,o.data=.seq #[.int b0 t0,.int b1 t1] n->Obj.mapSeq f o={o with data:=(Obj.mapSeq f o).data}:=fun o f h=>by
  obtain⟨c,dd,dt,sl⟩:=o;cases dt<;>first|rfl|cases h
 rw[e _ _ d,hd']
theorem IM (hE: ∀n,I9 W n) (hg:C6 W k C.tb g) (F:M0 W C C₀ env sc s₀) {b0 b1 i v:Int} {t0 t1:Nat} (f:j7 W C k env sc s₀ (some "box") (some a) σ s) (hv:σ.get "box"=some (.olist [.int b0,.int b1]))
  (hb:s.heap.get? a=some (vT b0 b1 t0 t1 n)) {xp p1 p3 p:Pos} {kk:Nat} {e:Expr} (x:c8 g sc σ false e (.ok (.int v))) (hn:s0 g sc σ "box"=.ok (.olist [.int b0,.int b1])) (hsw:aU e=false) (c0 c1:Int) (hi:(i=0/\c0=v/\c1=b1)\/(i=1/\c0=b0/\c1=v)) {Q:Flow->Shared->Prop} {E:Value->Shared->Prop}
  (hQ: ∀s' t0 t1 n,j7 W C k env sc s₀ (some "box") (some a) (σ.set "box" (.olist [.int c0,.int c1])) s'->s'.heap.get? a=some (vT c0 c1 t0 t1 n)->Q .next s'):
  wpAny (model prog w) C.A (exec (.Assign [.Subscript (.Name "box" xp) (.Constant (.int i) kk p1) p3] e p) env) Q E s:=by
 refine wpAny_Assign_Subscript ?_ (H3 hsw);refine wpAny_mono (bN hE hg f.sit x) (fun u s₁ q=> ?_) fun Z Z z=>z.elim;have f₁:=f.step' q.1;have hname:=O6 hg f₁.sit "box" xp;rw[hn] at hname;refine wpAny_mono hname (fun ov e7 L9=> ?_) fun Z Z x=>x.elim;have n8:=f₁.step' L9.1;have X0:=f₁.same L9.1 (f.same q.1 hb);refine X2 L9.2 fun A o ys mm e1 z2r e3 e4 e5 e6=> ?_;subst z2r;obtain rfl:=Option.some.inj e1;refine d6 (A2 (q.2.plain rfl)) fun tv z1r=> ?_;subst z1r;refine wpAny_Constant_int ?_;have G9:k9 C e7 {e7 with toks:=e7.toks+1}:=.of_keep fun Z Z e=>e;have E4:=n8.step' G9;refine MM (s:={e7 with toks:=e7.toks+1}) X0 (hi.imp (·.1) (·.1)) fun h' m' kp q1=> ?_;rcases hi with⟨rfl,rfl,rfl⟩|⟨rfl,rfl,rfl⟩
 ·exact hQ _ tv t1 m' (eF (s:={e7 with toks:=e7.toks+1}) (tk:=e7.toks+1) (ys:=[.int c0 tv,.int c1 t1]) F E4 rfl hv rfl X0 (fun Z z=>by injection z) kp q1 rfl rfl rfl (.cons (.int _ _) (.cons (.int _ _) .nil)) ⟨_,_,rfl⟩).1 q1
 ·exact hQ _ t0 tv m' (eF (s:={e7 with toks:=e7.toks+1}) (tk:=e7.toks+1) (ys:=[.int c0 t0,.int c1 tv]) F E4 rfl hv rfl X0 (fun Z z=>by injection z) kp q1 rfl rfl rfl (.cons (.int _ _) (.cons (.int _ _) .nil)) ⟨_,_,rfl⟩).1 q1
theorem sH {a b:Int} (h:0<b):R1 .Mod (.int a) (.int b)=.ok (.int (a%b)):=if_pos h
theorem QR {a b:Int} (h:0<b) (h':b.natAbs<2 ^4096):R1 .FloorDiv (.int a) (.int b)=.ok (.int (a/b)):=if_pos ⟨h,decide_eq_true h'⟩
end
section
variable {W:Wd} {C C₀:Cx} {X:Xs} {k:Nat} {env:Env} {sc:Scope} {oa:Option Addr} {σ σ':d9} {s₀ s s₁ s':Shared} {g:G} {n:Nat} {opn:Option Str} {h h' h'':Heap} {a b:Addr} {c:Nat} {o:Obj}
theorem IN {b c:Int} (h0:0<=b) (h1:b<=c) (hc:c<10000000):(7*b).natAbs<2 ^4096/\b.natAbs<2 ^4096:=by
 have k: ∀{x:Int},0<=x->x<2 ^30->x.natAbs<2 ^4096:=fun a b=>Nat.lt_of_lt_of_le (Int.ofNat_lt.mp ((Int.natAbs_of_nonneg a).symm▸b):_<2 ^30) (Nat.pow_le_pow_right (by decide) (by decide));have h2:=Int.lt_of_le_of_lt h1 hc;exact⟨k (Int.mul_nonneg (by decide) h0) (Int.lt_trans (Int.mul_lt_mul_of_pos_left h2 (by decide)) (by decide)),k h0 (Int.lt_trans h2 (by decide))⟩
theorem jQ {x:Str} {u v d:V} {p q:Str} (e:d9.get [(p,u),(q,v)] x=some d):(x=p/\d=u)\/(x=q/\d=v):=by
 unfold d9.get at e;rcases List.mem_cons.mp (mem_of_lookup e) with e|e
 ·injection e with e e2;subst e;subst e2;exact .inl ⟨rfl,rfl⟩
 ·rcases List.mem_singleton.mp e with e;injection e with e e2;subst e;subst e2;exact .inr ⟨rfl,rfl⟩
theorem MN {aT:Addr} {oT:Obj} {fd:FuncData} {m:Int} {tm:Nat} {Q E:Value->Shared->Prop} (hE: ∀n,I9 W n) (hg:C6 W k C.tb g) (wok:W.Ok) (D:Z9 W "_law_take" ["box","many"] U4.body aT oT fd) (hsc:fd.scope=U4.sc)
  (ok:C.Ok (k+1)) (wf:W.Fits C) (hxg: ∀a,C.X a->W.G.get? a=none) (hlive: ∀a,C.X a-> ¬o4 a/\ ∃o,s.heap.get? a=some o) (inv:aN W C s.heap) (cl:qH W C a) (hb:D1 s.heap a c) (hm:0<m/\m<1000000) (hc:c<1000000)
  (hQ: ∀d t s',0<=d->d<m->k9 C (fC s a) s'->D1 s'.heap a (c+1)->Q (.int d t) s'):wpAny (model prog w) C.A (call (.ref aT) [.ref a,.int m tm] []) Q E s:=by
 refine AT hb fun b0 b1 t0 t1 n hb z4n p1 q1=> ?_;refine f8 z4n fun p0 q0=> ?_;clear z4n;refine f8 hm fun m0 m1=> ?_;clear hm;refine wpAny_call (uG (s₀:=fC s a) (X:=C.X) (σ:=[("box",.olist [.int b0,.int b1]),("many",.int m)]) (opn:=some "box") (oa:=some a) wok D ok wf (fun Z x=>x) hxg hlive inv ⟨_,_,rfl⟩ (fun Z Z e=>M9 e)
  (fun b o e=>v8 (inv.base b o e) (fun q=>by rw[q,cl.base] at e;injection e)) (fun b o e=>v8 (inv.G b o e) (fun q=>by rw[q,cl.G] at e;injection e)) (N0 hb inv.tabs) (fun b e=>by injection e with e;subst e;exact⟨mX,cl.X,_,hb⟩) rfl
  (fun x v e=> ?_) (fun x v e z=> ?_) fun env C' s₁ hX htb Z keep F f=> ?_)
 ·rcases jQ e with⟨rfl,rfl⟩|⟨rfl,rfl⟩
  ·exact⟨_,rfl,.head _,a,_,[.int b0 t0,.int b1 t1],n,rfl,rfl,hb,⟨rfl,rfl⟩,rfl,.cons (.int _ _) (.cons (.int _ _) .nil)⟩
  ·exact⟨_,rfl,.tail _ (.head _),.int _ _⟩
 ·rcases jQ e with⟨rfl,rfl⟩|⟨rfl,rfl⟩
  ·rfl
  ·injection z
 rw[hsc] at F f;have hg':C6 W k C'.tb g:=htb▸hg;have P9:=keep _ _ hb;have i1:P2 (.olist [.int b0,.int b1]) (.int 1)=.ok (.int b1):=rfl;rw[show U4.body=[i4 U4.body 0,i4 U4.body 1,i4 U4.body 2,i4 U4.body 3,i4 U4.body 4] from rfl];refine wpAny_execs_cons (IM hE hg' F f rfl P9 (v:=b1+1) (by tm_at "e") (by tm_at "v") rfl b0 (b1+1) (.inr ⟨rfl,rfl,rfl⟩) fun e7 t0 t1 n n8 X0=> ?_);have j0:P2 (.olist [.int b0,.int (b1+1)]) (.int 0)=.ok (.int b0):=rfl;have j1:P2 (.olist [.int b0,.int (b1+1)]) (.int 1)=.ok (.int (b1+1)):=rfl;have bx: ∀s':Shared,s'.heap.get? a=some (vT b0 (b1+1) t0 t1 n)->D1 s'.heap a (c+1):=fun s' e=>⟨_,_,_,_,_,e,⟨p0,q0⟩,by omega,by omega⟩;refine wpAny_execs_cons (wpAny_If (wpAny_mono (ML (b:=b0==0) hE hg' n8.sit (by tm_at "e")) (fun b l6 q=> ?_) fun Z Z z=>z.elim));refine f8 q fun G9 z3r=> ?_;clear q;subst z3r;have E4:=n8.step' G9;have Q0:=n8.same G9 X0;by_cases h0:b0=0
 ·rw[show(b0==0)=true by simpa using h0,if_pos rfl];refine f8 (IN (b:=b1+1) (c:=c+1) (by omega) (by omega) (by omega)) fun s1 s2=> ?_;have s3:(5:Int).natAbs<2 ^4096:=Nat.lt_of_lt_of_le (by decide:5<2 ^3) (Nat.pow_le_pow_right (by decide) (by decide));have s4:(7:Int).natAbs<2 ^4096:=Nat.lt_of_lt_of_le (by decide:7<2 ^3) (Nat.pow_le_pow_right (by decide) (by decide));have k1:=eU s4 s2;have k2:=eU s1 s2;have k3:=eU s3 s2;have k4:=sH (a:=7*(b1+1)*(b1+1)+5*(b1+1)+3) (b:=101) (by decide);have k5:=sH (a:=(7*(b1+1)*(b1+1)+5*(b1+1)+3)%101) m0;refine wpAny_execs_cons (wpAny_Return_some (wpAny_mono (bN hE hg' E4.sit (v:=.int ((7*(b1+1)*(b1+1)+5*(b1+1)+3)%101%m)) (by tm_at "e")) (fun u C5 q=> ?_) fun Z Z z=>z.elim));refine d6 (A2 (q.2.plain rfl)) fun t z2r=> ?_;subst z2r;exact hQ _ t C5 (Int.emod_nonneg _ (by omega)) (Int.emod_lt_of_pos _ m0) (F.back htb (E4.step' q.1).step) (bx _ (E4.same q.1 Q0))
 ·rw[show(b0==0)=false by simpa using h0,if_neg (by decide)];refine wpAny_execs_nil ?_;have k1:=sH (a:=b0) m0;have k2:=QR (a:=b0) m0 (Nat.lt_of_lt_of_le (show m.natAbs<2 ^30 by have e:(2:Nat) ^30=1073741824:=rfl;exact q59 m0 m1) (Nat.pow_le_pow_right (by decide) (by decide)));refine wpAny_execs_cons (wpAny_Assign_Name (wpAny_mono (bN hE hg' E4.sit (v:=.int (b0%m)) (by tm_at "e")) (fun u C5 q=> ?_) fun Z Z z=>z.elim) (H3 rfl));have T6:=E4.step' q.1;have JQ:=E4.same q.1 Q0;refine wpAny_mono (B5 F T6 (x:="digit") (.inl rfl) q.2 (fun z=>by injection z)) (fun Z C9 q=> ?_) fun Z Z z=>z.elim;refine n5 q fun bS Z kq=> ?_;clear q;have wN:=kq _ _ _ _ JQ rfl;refine wpAny_execs_cons (IM hE hg' F bS (b0:=b0) (b1:=b1+1) rfl wN (v:=b0/m) (by tm_at "e") (by tm_at "v") rfl (b0/m) (b1+1) (.inl ⟨rfl,rfl,rfl⟩) fun JR t0 t1 n RQ VC=> ?_);refine wpAny_execs_cons (wpAny_Return_some (wpAny_mono (bN hE hg' RQ.sit (v:=.int (b0%m)) (by tm_at "e")) (fun u ZT q=> ?_) fun Z Z z=>z.elim));refine d6 (A2 (q.2.plain rfl)) fun t z1r=> ?_;subst z1r;have hd:0<=b0/m:=Int.ediv_nonneg p0 (Int.le_of_lt m0);have hle:b0/m<=b0:=Int.ediv_le_self _ p0;exact hQ _ t ZT (Int.emod_nonneg _ (by omega)) (Int.emod_lt_of_pos _ m0) (F.back htb (RQ.step' q.1).step) ⟨_,_,_,_,_,RQ.same q.1 VC,⟨hd,Nat.lt_of_le_of_lt (q9 hd hle) q0⟩,by omega,by omega⟩
end
section
variable {W:Wd} {C C₀:Cx} {X:Xs} {k:Nat} {env:Env} {sc:Scope} {oa:Option Addr} {σ σ':d9} {s₀ s s₁ s':Shared} {g:G} {n:Nat} {opn:Option Str} {h h' h'':Heap} {a b:Addr} {c:Nat} {o:Obj}
theorem yL (st:k9 C s s₁):k9 C (fC s a) s₁:=by
 refine r0 st fun h t z7r gr=> ?_;clear st;subst z7r;exact⟨_,t,rfl,Gr.trans (.of_keep fun Z Z e=>M9 e) gr⟩
theorem yM {xs:Array Value} (hb:s₁.heap.get? a=some (listOf xs n)) (st:k9 C (fC s a) s₁) (st':k9 C (fC s₁ a) s'):k9 C (fC s a) s':=by
 refine r0 st fun h t z6r gr=> ?_;clear st;subst z6r;refine r0 st' fun h' t' z5r gr'=> ?_;clear st';subst z5r;exact⟨h',t',rfl,(IL (s:={s with heap:=h,toks:=t}) hb mX gr).trans gr'⟩
theorem IP {x:Str} {xs:Array Value} {ds:List V} {b0 b1:Int} {t0 t1 n':Nat} (ok:C.Ok k) (cl:qH W C a) (i:aN W C s.heap) (hX: ∀b,C.X b->X b) (hXa:X a) (t:St env (some a) X s.heap σ) (only: ∀y v,σ.get y=some v->v.open? =true->y=x) (hv:σ.get x=some (.olist ds))
  (hb:s.heap.get? a=some (listOf xs n)) (st:k9 C (fC s a) s') (hb':s'.heap.get? a=some (vT b0 b1 t0 t1 n')):St env (some a) X s'.heap (σ.set x (.olist [.int b0,.int b1])):=by
 have g:=st.gr;have iR:=fD ok cl hb i;refine e8 t.vals fun m hm hvl=> ?_;have cell: ∀c v,s.heap.IsCell c v->s'.heap.IsCell c v:=fun c v ⟨o,ho,hd⟩=>by
  refine d6 (iR.slot g (v8 ho fun q=>by rw[q,hb] at ho;injection ho with ho;subst ho;injection hd) fun vs z=>by rw[hd] at z;injection z) fun sl hs=> ?_;exact⟨_,hs,hd⟩
 have bind: ∀{x:Str} {u:Value},((env.kindOf x=some .local/\m x=some u)\/((env.kindOf x=some .cell\/env.kindOf x=some .free)/\ ∃c,env.cells.lookup x=some c/\s.heap.IsCell c (some u)))->
   (env.kindOf x=some .local/\m x=some u)\/((env.kindOf x=some .cell\/env.kindOf x=some .free)/\ ∃c,env.cells.lookup x=some c/\s'.heap.IsCell c (some u)):=fun hk=>by
  rcases hk with q|⟨q,c,hc,hi⟩
  ·exact .inl q
  ·exact .inr ⟨q,c,hc,cell c _ hi⟩
 refine⟨fun y hy=> ?_,m,(g.upTo (.inr iR.tabs)).ns ?_,fun y v e=> ?_⟩
 ·refine r0 (t.cells y hy) fun c v hc hi=> ?_;exact⟨c,v,hc,cell c v hi⟩
 ·refine nK hm fun o es ep e hd r=> ?_;clear hm;exact⟨o,es,ep,v8 e fun q=>(by rw[q,hb] at e;injection e with e;subst e;injection hd),hd,r⟩
 rw[k7] at e;by_cases q:y=x
 ·rw[if_pos q] at e;injection e with e;subst e;refine e8 (hvl x _ hv) fun u hu hk=> ?_;refine sX hu fun a' L1 UX ZO q1 z4r Z=> ?_;clear hu;subst z4r;injection q1 with q1;subst q1;rw[q];exact⟨.ref a,⟨a,_,[.int b0 t0,.int b1 t1],n',rfl,rfl,hb',⟨rfl,rfl⟩,rfl,.cons (.int _ _) (.cons (.int _ _) .nil)⟩,bind hk⟩
 ·rw[if_neg q] at e;refine e8 (hvl y v e) fun u hu hk=> ?_;have hno:v.open? =false:=by
   cases hz:v.open? with
   |false=>rfl
   |true=>exact absurd (only y v e hz) q
  have r:Rp (fC s a).heap X u v:=(hu.plain hno).carry fun b o e nx Z=>v8 e fun q=>nx (q▸hXa);exact⟨u,(B2.of r).gr ok iR g hX,bind hk⟩
theorem IQ {x:Str} {xs:Array Value} {ds:List V} {b0 b1:Int} {t0 t1 n':Nat} (F:M0 W C C₀ env sc s₀) (f:j7 W C k env sc s₀ (some x) (some a) σ s) (hv:σ.get x=some (.olist ds))
  (hb:s.heap.get? a=some (listOf xs n)) (st:k9 C (fC s a) s') (hb':s'.heap.get? a=some (vT b0 b1 t0 t1 n')):j7 W C k env sc s₀ (some x) (some a) (σ.set x (.olist [.int b0,.int b1])) s':=by
 have cl:=f.clear F;have iR:=fD f.sit.ok cl hb f.sit.inv;refine⟨?_,⟨f.sit.wok,f.sit.ok,f.sit.wf,f.sit.sub,f.sit.xg,fun b z=> ?_,iR.gr f.sit.ok f.sit.wf st.gr,f.sit.envOk,IP f.sit.ok cl f.sit.inv f.sit.sub (.inr rfl) f.sit.st (fun y v e z=>(Option.some.inj (f.only y v e z)).symm) hv hb st hb',f.sit.oaX⟩,f.newo,eE f.only fun Z=>rfl⟩
 ·refine r0 f.step fun y6 n7 I5 gr=> ?_;refine r0 st fun i8 dK oP VD=> ?_;clear st;refine⟨i8,dK,by rw[oP,I5];rfl,?_⟩;have g1:Gr C s₀.heap s.heap:=by rw[I5];exact gr
  exact(IL hb (f.newo a rfl).1 g1).trans VD
 ·rcases z with z|z
  ·refine f8 (f.sit.live b (.inl z)) fun nt z3t=> ?_;refine d6 z3t fun o e=> ?_;clear z3t;refine d6 (st.gr.slots b o (v8 e fun q=>cl.X (q▸z)) fun⟨_,t⟩=>nt t) fun sl e'=> ?_;exact⟨nt,_,e'⟩
  ·injection z with z;subst z;exact⟨(f.sit.live a (.inr rfl)).1,_,hb'⟩
theorem sJ {es:List Expr} {vs:List V} (p:Pos) (hE: ∀n,I9 W n) (hg:C6 W k C.tb g) (t:J3 W C X k env sc oa σ s.heap) (x:v6 g sc σ es (.ok vs)):
  wpAny (model prog w) C.A (spliced (backTo p (starEach es env))) (xG C X oa s vs) (fun Z Z=>False) s:=by
 refine d6 x fun N hN=> ?_;clear x;have:=Q4 (hE (0+N)) hg p es t;rw[hN 0] at this;exact this
theorem Z4 {f:Str} {aF:Addr} {oF:Obj} {fd:FuncData} {es:List Expr} {fp p:Pos} {Q E:Value->Shared->Prop} (t:J3 W C X k env sc oa σ s.heap) (hk:sc.names.lookup f=some .globalImplicit) (hd:(f==("__debug__":Str))=false) (hn:W.mg f=some (.ref aF)) (ho:W.G.get? aF=some oF) (hfd:oF.data=.func fd)
  (hp:es.any Q2=false) (h:wpAny (model prog w) C.A (spliced (backTo p (starEach es env))) (fun us s₁=>s₁.heap.get? aF=some oF/\wpAny (model prog w) C.A (call (.ref aF) us []) Q E s₁) E s):wpAny (model prog w) C.A (eval (.Call (.Name f fp) es [] p) env) Q E s:=by
 have hk':env.kindOf f=some .globalImplicit:=by
  rcases t.envOk.kinds f _ hk with q|⟨q,_⟩
  ·exact q
  ·injection q
 refine wpAny_Call_NameR (Calls.Name_function_global t.envOk.kind hk' (Calls.loadGlobal_global (mg:=W.mg) ?_ hn ?_) hd)
 ·rw[t.envOk.globals];exact A0 t.wok.g t.inv.G
 ·exact Calls.callWith_function (o:=oF) (fd:=fd) (U0 p hp (wpAny_mono h (fun us s₁ q=>⟨⟨q.1,hfd⟩,q.2⟩) fun Z Z z=>z))
noncomputable def QS (W:Wd) (f:Str) (ps:List Str) (D:Fd):Prop:= ∃a o fd,Z9 W f ps D.body a o fd/\fd.scope=D.sc
theorem qI {m:Int} {b0 b1:Int} {es:List Expr} {fp p:Pos} {Q E:Value->Shared->Prop} {g':G} (hE: ∀n,I9 W n) (hg:C6 W (k+1) C.tb g) (hg':C6 W k C.tb g') (D:QS W "_law_take" ["box","many"] U4) (t:J3 W C X (k+1) env sc (some a) σ s.heap) (cl:qH W C a)
  (hk:sc.names.lookup ("_law_take":Str)=some .globalImplicit) (hp:es.any Q2=false) (x:v6 g sc σ es (.ok [.olist [.int b0,.int b1],.int m])) (hb:D1 s.heap a c) (hm:0<m/\m<1000000) (hc:c<1000000)
  (hQ: ∀d t s',0<=d->d<m->k9 C (fC s a) s'->D1 s'.heap a (c+1)->Q (.int d t) s'):wpAny (model prog w) C.A (eval (.Call (.Name "_law_take" fp) es [] p) env) Q E s:=by
 refine F6 D fun aT oT fd D hsc=> ?_;refine Z4 t hk (by decide) D.name D.obj D.data hp (wpAny_mono (sJ p hE hg t x) (fun us s₁ q=>⟨(t.step q.1).inv.G _ _ D.obj,?_⟩) fun Z Z z=>z.elim);have n7:=t.step q.1;have hnt: ¬o4 a:=fun z=>(t.live a (t.oaX a rfl)).1 z;refine V7 hb fun c0 c1 t0 t1 n e r=> ?_;clear hb;have I5:=q.1.gr.keep a _ e (fun z=>hnt z.2) fun m=>cl.X (t.ok.locs a m);have q2:=q.2;rcases us with _|⟨u,_|⟨v,_|_⟩⟩<;>first|exact q2.elim|skip
 ·exact q2.2.elim
 ·refine n5 q2 fun q3 q4 Z=> ?_;clear q2;refine sX q3 fun a' Z Z Z z1 z2r Z=> ?_;clear q3;subst z2r;injection z1 with z1;subst z1;refine d6 (A2 (B2.plain q4 rfl)) fun tv z1r=> ?_;subst z1r;refine MN hE hg' t.wok D hsc t.ok t.wf (fun b z=>t.xg b (t.sub b z)) (fun b z=>n7.live b (t.sub b z)) n7.inv cl ⟨_,_,_,_,_,I5,r⟩ hm hc fun d t s' h0 h1 st hb'=>hQ d t s' h0 h1 ?_ hb';refine V7 hb' fun Z Z Z Z Z e' Z=> ?_;clear hb';exact yM I5 (yL q.1) st
 ·exact q2.2.2.elim
end
section
variable {W:Wd} {C C₀:Cx} {X:Xs} {k:Nat} {env:Env} {sc:Scope} {oa:Option Addr} {σ σ':d9} {s₀ s s₁ e7 s' s'':Shared} {g:G} {n:Nat} {opn:Option Str} {h h' h'' i8:Heap} {a b:Addr} {c:Nat} {o:Obj}
noncomputable abbrev XA (C:Cx) (a Cc D I:Addr):Xs:=XC (Xo C (some a)) Cc D I
structure fE (W:Wd) (C C₀:Cx) (k:Nat) (env:Env) (sc:Scope) (s₀:Shared) (a:Addr) (σ:d9) (s e7:Shared) (I D Cc:Addr) (fp:List Addr) (items:List V) (P:Nat->Value->Prop) (St:Nat->Heap->Prop):Prop where
 F:M0 W C C₀ env sc s₀
 f:j7 W C k env sc s₀ (some "box") (some a) σ s
 hb: ∃xs n,s.heap.get? a=some (listOf xs n)
 itn:DU (Xo C (some a)) I fp items P St e7.heap
 st₂:k9 C s e7
 DC:D≠Cc
 ID:I≠D
 IC:I≠Cc
 sI:s.heap.get? I=none
 sD:s.heap.get? D=none
 sC:s.heap.get? Cc=none
 s₂D:e7.heap.get? D=none
 s₂C:e7.heap.get? Cc=none
noncomputable def MO (h:Heap) (D:Addr) (ts:List b9) (j:Nat):Prop:=
 ∃(o:Obj) (ys:List Value) (m:Nat) (pcs:List b9),h.get? D=some o/\o.cls=.type "list"/\o.data=.seq (Array.mk ys) m/\(∀(h:Heap) (X:Xs),Rps h X ys (pcs.map V.str))/\pcs.length=j/\ ∀t∈pcs,t∈ts
structure TJ (C:Cx) (a:Addr) (c:Nat) (ts:List b9) (s:Shared) (I D Cc:Addr) (St:Nat->Heap->Prop) (i j m:Nat) (s':Shared):Prop where
 step:k9 C (fC s a) s'
 box:D1 s'.heap a (c+m)
 st:St i s'.heap
 ns: ∃m,s'.heap.Ns Cc m
 acc:MO s'.heap D ts j
 nc:v0 s'.heap I
section
variable {I D Cc:Addr} {fp:List Addr} {items:List V} {P:Nat->Value->Prop} {St:Nat->Heap->Prop} {ts:List b9} (Z:fE W C C₀ k env sc s₀ a σ s e7 I D Cc fp items P St) {i j m i' j' m' tk:Nat}
include Z
theorem fE.ne (e:s.heap.get? b=none):b≠a:=fun q=>by refine C1 Z.hb fun xs n z=> ?_;rw[q,z] at e;injection e
theorem fE.nt (e:s.heap.get? b=none): ¬o4 b:=o6 Z.f.sit.inv.tabs e
theorem fE.nl (e:s.heap.get? b=none):b∉C.locs:=fun m=>by refine f8 (Z.f.sit.inv.locSome m) fun Y z2t=> ?_;refine e8 z2t fun o e' Y=> ?_;clear z2t;rw[e] at e';injection e'
theorem fE.inv (J:TJ C a c ts s I D Cc St i j m s'):aN W C s'.heap:=by
 refine C1 Z.hb fun xs n z=> ?_;exact(fD Z.f.sit.ok (Z.f.clear Z.F) z Z.f.sit.inv).gr Z.f.sit.ok Z.f.sit.wf J.step.gr
theorem fE.fpk (hb:b∈fp):b=I\/(b≠Cc/\b≠D/\b∉C.locs/\ ¬o4 b/\b≠a):=(Z.itn.fps b hb).imp id fun⟨o,e,c,_,nx⟩=>
 ⟨fun q=>no (Z.s₂C.symm.trans (q▸e)),fun q=>no (Z.s₂D.symm.trans (q▸e)),fun m=>nx (.inl (Z.f.sit.ok.locs b m)),(fun z=>by
  refine d6 ((Z.f.sit.step Z.st₂).inv.tabNone z) fun ps z'=> ?_;rw[e] at z';rw[Option.some.inj z'] at c;injection c),fun q=>nx (.inr (by rw[q]))⟩
theorem fE.but (J:TJ C a c ts s I D Cc St i j m s') (ha:b=Cc\/b=D\/b=I) (hk: ∀x o,x≠b->s'.heap.get? x=some o->i8.get? x=some o) (mu:nN s'.heap b) (hst:St i' i8) (hns: ∃m,i8.Ns Cc m)
  (hacc:MO i8 D ts j'):TJ C a c ts s I D Cc St i' j' m {s' with heap:=i8,toks:=tk}:=by
 refine C1 Z.hb fun xs n z=> ?_;have sb:s.heap.get? b=none:=ha.elim (fun e=>e▸Z.sC) fun h=>h.elim (fun e=>e▸Z.sD) fun e=>e▸Z.sI;have rb:(fC s a).heap.get? b=none:=by
  cases q:(fC s a).heap.get? b with
  |none=>rfl
  |some o=>have:=M9 q;rw[sb] at this;injection this
 refine⟨?_,?_,hst,hns,hacc,J.nc.but (Z.inv J).tabs mu hk⟩
 ·refine r0 J.step fun h' tk' e gr=> ?_;exact⟨i8,tk,by rw[e],gr.but rb (N0 z Z.f.sit.inv.tabs) (by rw[e] at mu;exact mu) (by rw[e] at hk;exact hk)⟩
 ·refine V7 J.box fun b0 b1 t0 t1 n e r=> ?_;exact⟨b0,b1,t0,t1,n,hk _ _ (Z.ne sb).symm e,r⟩
omit Z in
theorem TJ.ns' (J:TJ C a c ts s I D Cc St i j m s') {h:Heap} (k: ∀o,s'.heap.get? Cc=some o->h.get? Cc=some o): ∃m,h.Ns Cc m:=nL (J.ns) fun m o es ep e r=>⟨m,o,es,ep,k _ e,r⟩
omit Z in
theorem TJ.acc' (J:TJ C a c ts s I D Cc St i j m s') {h:Heap} (k: ∀o,s'.heap.get? D=some o->h.get? D=some o):MO h D ts j:=
 nL (J.acc) fun o ys m pcs e r=>⟨o,ys,m,pcs,k _ e,r⟩
theorem fE.mutI {h:Heap} (st:St i h) (nc:v0 h I):nN h I:=iK (Z.itn.live _ _ st) fun o e c1 c2 Y=>⟨o,e,.inr ⟨c1,c2,nc⟩⟩
theorem fE.frame (st:St i s'.heap) (ha:b=Cc\/b=D) (hk: ∀x o,x≠b->s'.heap.get? x=some o->i8.get? x=some o):St i i8:=
 (Z.itn.walks _ Z.f.sit.ok.handled).frame _ _ _ st fun x hx o e=>hk x o (fun q=>by
  rcases Z.fpk hx with z|⟨z1,z2,_⟩
  ·rcases ha with y|y
   ·exact Z.IC (z.symm.trans (q.trans y))
   ·exact Z.ID (z.symm.trans (q.trans y))
  ·rcases ha with y|y
   ·exact z1 (q.trans y)
   ·exact z2 (q.trans y)) e
theorem fE.goes (J:TJ C a c ts s I D Cc St i j m s') (st:k9 C (fC s' a) s'') (hb:D1 s''.heap a (c+m')):TJ C a c ts s I D Cc St i j m' s'':=by
 refine V7 J.box fun b0 b1 t0 t1 n e Y=> ?_;have kp: ∀{b o},b∉C.locs-> ¬o4 b->b≠a->s'.heap.get? b=some o->s''.heap.get? b=some o:=fun l t na e=>st.gr.keep _ _ (v8 e na) (fun z=>t z.2) l;have kn: ∀{b o},s.heap.get? b=none->s'.heap.get? b=some o->s''.heap.get? b=some o:=fun sb=>kp (Z.nl sb) (Z.nt sb) (Z.ne sb);refine⟨yM e J.step st,hb,(Z.itn.walks _ Z.f.sit.ok.handled).frame _ _ _ J.st fun x hx o e=> ?_,J.ns' fun o=>kn Z.sC,J.acc' fun o=>kn Z.sD,?_⟩
 ·rcases Z.fpk hx with q|⟨_,_,q1,q2,q3⟩
  ·exact kn (q▸Z.sI) e
  ·exact kp q1 q2 q3 e
 ·refine e8 (Z.itn.live _ _ J.st) fun o e' Y=> ?_;exact st.gr.codes (N0 e (Z.inv J).tabs) I o (v8 e' (Z.ne Z.sI)) (Z.nt Z.sI) fun x hx ps q=>J.nc x hx ps (M9 q)
theorem fE.kx (x:XA C a Cc D I b):Xo C (some a) b\/ ∀o,s.heap.get? b=some o-> ¬I8 o:=x.imp id fun x o e=>by
 rcases x with x|x|x
 ·exact no ((x▸Z.sC).symm.trans e)
 ·exact no ((x▸Z.sD).symm.trans e)
 ·exact no ((x▸Z.sI).symm.trans e)
theorem fE.sit {csc:Scope} {cenv:Env} {σ':d9} (J:TJ C a c ts s I D Cc St i j m s') (ek:W0 cenv csc) (st:Mine.St cenv (some a) (XA C a Cc D I) s'.heap σ'):J3 W C (XA C a Cc D I) k cenv csc (some a) σ' s'.heap:=by
 have hxn: ∀b,s.heap.get? b=none->W.G.get? b=none:=fun b e=>by
  cases q:W.G.get? b with
  |none=>rfl
  |some o=>exact no (e.symm.trans (Z.f.sit.inv.G _ _ q))
 refine⟨Z.f.sit.wok,Z.f.sit.ok,Z.f.sit.wf,fun b x=>.inl (.inl x),fun b x=> ?_,fun b x=> ?_,Z.inv J,ek,st,fun b e=>.inl (.inr e)⟩
 ·rcases x with x|x|x|x
  ·exact Z.f.sit.xg b x
  ·exact x▸hxn _ Z.sC
  ·exact x▸hxn _ Z.sD
  ·exact x▸hxn _ Z.sI
 ·rcases x with(x|x)|x|x|x
  ·refine f8 (Z.f.sit.live b (.inl x)) fun nt z1t=> ?_;refine d6 z1t fun o e=> ?_;clear z1t;refine d6 (J.step.gr.slots b o (v8 e fun q=>(Z.f.newo a rfl).2 (q▸x)) fun⟨_,t⟩=>nt t) fun sl e'=> ?_;exact⟨nt,_,e'⟩
  ·injection x with x;subst x;refine V7 J.box fun b0 b1 t0 t1 n e Y=> ?_;exact⟨(Z.f.sit.live a (.inr rfl)).1,_,e⟩
  ·refine nL J.ns fun m o es ep e Y=> ?_;exact⟨x▸Z.nt Z.sC,x▸⟨o,e⟩⟩
  ·refine nL J.acc fun o ys m Y e Y=> ?_;exact⟨x▸Z.nt Z.sD,x▸⟨o,e⟩⟩
  ·refine e8 (Z.itn.live _ _ J.st) fun o e Y=> ?_;exact⟨x▸Z.nt Z.sI,x▸⟨o,e⟩⟩
end
end
noncomputable def dI:Scope:=eS (eK (sE (i4 M6.body 1)) 0)
section
variable {W:Wd} {C C₀:Cx} {X:Xs} {k:Nat} {env:Env} {oa:Option Addr} {σ σ':d9} {s₀ s s₁ e7 s' s'':Shared} {g g':G} {n:Nat} {opn:Option Str} {h h' h'' i8:Heap} {a b:Addr} {c:Nat} {o:Obj}
variable {I D Cc:Addr} {fp:List Addr} {items:List V} {P:Nat->Value->Prop} {St:Nat->Heap->Prop} {ts:List b9} {i tk:Nat}
theorem K0 (nt: ¬o4 a) (nl:a∉C.locs) (hb:D1 s.heap a c) (st:k9 C s s'):D1 s'.heap a c:=by
 refine V7 hb fun b0 b1 t0 t1 n e r=> ?_;clear hb;exact⟨b0,b1,t0,t1,n,st.gr.keep a _ e (fun z=>nt z.2) nl,r⟩
theorem DA (hE: ∀n,I9 W n) (hg:C6 W (k+1) C.tb g) (hlen:g.fn "len"=none) (hg':C6 W k C.tb g') (DT:QS W "_law_take" ["box","many"] U4) (Z:fE W C C₀ (k+1) env M6.sc s₀ a σ s e7 I D Cc fp items P St)
  {ds:List V} (hbx:σ.get "box"=some (.olist ds)) (hps:σ.get "pieces"=some (.list (ts.map V.str))) (hts:0<ts.length/\ts.length<1000) (hc:c+i<1000000) (hi:i<1000) (J:TJ C a c ts s I D Cc St i i i s') (hlt:i<items.length) (hint: ∀d,items[i]? =some d-> ∃z,d=.int z)
  {v:Value} (hv:P i v) (hst:St (i+1) i8) (hk: ∀b o,b≠I->s'.heap.get? b=some o->i8.get? b=some o) {kp p1 p2 p3 p4 p5 p6 p7 p8:Pos} (Q:Shared->Prop) (hQ: ∀l6,TJ C a c ts s I D Cc St (i+1) (i+1) (i+1) l6->Q l6):
  wpAny (model prog w) C.A (letOwnedTupleGo (.Name "k" kp) (.ref I) v) (fun Y s₀=>wpAny (model prog w) C.A (assign (.Name "k" kp) (compEnvC dI (F8 env dI.names []) Cc env) v) (fun Y e7=>
     wpAny (model prog w) C.A (forIn ([]:List Expr) true fun c r=>if r=true then do let ok <-isTrue c (compEnvC dI (F8 env dI.names []) Cc env) (eval c (compEnvC dI (F8 env dI.names []) Cc env));pure (ForInStep.yield ok) else pure (ForInStep.yield r)) (fun ok l6=>if ok=true then
      wpAny (model prog w) C.A (eval (.Subscript (.Name "pieces" p1) (.Call (.Name "_law_take" p2) [.Name "box" p3,.Call (.Name "len" p4) [.Name "pieces" p5] [] p6] [] p7) p8) (compEnvC dI (F8 env dI.names []) Cc env)) (fun x C5=>
      wpAny (model prog w) C.A (call (.builtin "list.append") [.ref D,x]) (fun Y C9=>Q C9) (fun Y Y=>False) C5) (fun Y Y=>False) l6
      else Q l6) (fun Y Y=>False) e7)
     (fun Y Y=>False) s₀) (fun Y Y=>False) {s' with heap:=i8,toks:=tk}:=by
 have hlim:g9=1048576:=rfl;have hco:u6 M6.sc dI=true:=by decide+kernel
 refine f8 (J7 hco) fun hn1 Y=> ?_;have ek:W0 (compEnvC dI (F8 env dI.names []) Cc env) dI:=kQ hco Z.f.sit.envOk Cc;have cl:=Z.f.clear Z.F;have ok:=Z.f.sit.ok;have nta:=(Z.f.sit.live a (.inr rfl)).1;have cJ:TJ C a c ts s I D Cc St (i+1) i i {s' with heap:=i8,toks:=tk}:=Z.but J (.inr (.inr rfl)) hk (Z.mutI J.st J.nc) hst (J.ns' fun o=>hk _ o Z.IC.symm) (J.acc' fun o=>hk _ o Z.ID.symm);refine V7 cJ.box fun b0 b1 t0 t1 n e Y=> ?_;refine C1 Z.hb fun xs nn hb=> ?_;have stX:Mine.St env (some a) (XA C a Cc D I) i8 (σ.set "box" (.olist [.int b0,.int b1])):=
  IP (s':={s' with heap:=i8,toks:=tk}) ok cl Z.f.sit.inv (fun b x=>.inl (.inl x)) (.inl (.inr rfl)) (Z.f.sit.st.more fun b=>Z.kx) (fun y v e z=>(Option.some.inj (Z.f.only y v e z)).symm) hbx hb cJ.step e
 refine d6 cJ.ns fun mC nsC=> ?_;have cst:=aR (s:=({s' with heap:=i8,toks:=tk}:Shared)) hco Z.f.sit.envOk stX (cenv:=compEnvC dI (F8 env dI.names []) Cc env) rfl (fun x kd e q=>Y5 e q hn1) ek nsC;refine e8 (Z.itn.vals i v hlt hv) fun d hd rd=> ?_;refine d6 (hint d hd) fun z z6r=> ?_;subst z6r;refine d6 (A2 rd) fun tz z5r=> ?_;subst z5r;refine Z.itn.go _ _ (i+1) _ _ _ _ (.inl ⟨_,_,rfl⟩) hst ?_;refine wpAny_mono (pO (C:=C) (h0:=ok.handled) (t:=.Name "k" kp) (σ':=(i5 (σ.set "box" (.olist [.int b0,.int b1])) M6.sc dI).set "k" (.int z)) cst ek (show(dI.names.lookup ("k":Str)==some .local)=true by decide+kernel) (.inr (.inl rfl)) (.int z tz) rfl) (fun Y l6 q=> ?_) fun Y Y x=>x;refine cR q fun dM cQ z4r bQ yQ G9=> ?_;clear q;subst z4r;have bQ: ∀b o,b≠Cc->i8.get? b=some o->dM.get? b=some o:=bQ;have W8:TJ C a c ts s I D Cc St (i+1) i i {s' with heap:=dM,toks:=cQ}:=Z.but (s':={s' with heap:=i8,toks:=tk}) (tk:=cQ) cJ (.inl rfl) bQ (FV cJ.ns) (Z.frame (s':={s' with heap:=i8,toks:=tk}) cJ.st (.inl rfl) bQ) yQ (cJ.acc' fun o=>bQ _ o Z.DC);have dN:=Z.sit W8 ek G9;generalize ({s' with heap:=dM,toks:=cQ}:Shared)=l6 at W8 dN ⊢;refine wpAny_pure ?_;rw[if_pos rfl];have g1:((i5 (σ.set "box" (.olist [.int b0,.int b1])) M6.sc dI).set "k" (.int z)).get "box"=some (.olist [.int b0,.int b1]):=d9.ne (by decide) (M8 d9.same (by decide+kernel));have g2:((i5 (σ.set "box" (.olist [.int b0,.int b1])) M6.sc dI).set "k" (.int z)).get "pieces"=some (.list (ts.map V.str)):=d9.ne (by decide) (M8 (d9.ne (by decide) hps) (by decide+kernel));have n1:=g6 (sc:=dI) (g:=g) g1 (by decide+kernel) (by decide);have n2:=g6 (sc:=dI) (g:=g) g2 (by decide+kernel) (by decide);have hname:=O6 hg dN "pieces" p1;rw[n2] at hname;refine Subscript_ (wpAny_mono hname (fun ov C5 O1=> ?_) fun Y Y x=>x.elim);have nF:=Z.goes W8 (yL O1.1) (K0 nta Z.f.nota W8.box O1.1);have nG:=dN.step O1.1;have hl:(ts.map V.str).length<=g9:=by rw[List.length_map];exact r35 hts (by decide)
 have ex:v6 g dI ((i5 (σ.set "box" (.olist [.int b0,.int b1])) M6.sc dI).set "k" (.int z)) [.Name "box" p3,.Call (.Name "len" p4) [.Name "pieces" p5] [] p6] (.ok [.olist [.int b0,.int b1],.int ((ts.map V.str).length:Nat)]):=
  .cons (.name n1) (.cons (.bcall (.cons (.name n2) .nil) hlen (by decide) (eP hl) (Bool.and_eq_true_iff.mpr ⟨Bool.and_eq_true_iff.mpr ⟨by decide+kernel,by decide⟩,rfl⟩) rfl) .nil)
 rw[List.length_map] at ex;refine qI hE hg hg' DT nG cl (by decide+kernel) rfl ex nF.box ⟨by omega,by omega⟩ hc fun d t C9 h0 h1 wO wN=> ?_;have Z6:=Z.goes (m':=i+1) nF wO wN;refine V7 nF.box fun Y Y Y Y Y ZU Y=> ?_;have yS:Rp (fC C5 a).heap (XA C a Cc D I) ov (.list (ts.map V.str)):=(O1.2.plain rfl).carry fun b o e nx Y=>v8 e fun q=>nx (.inl (.inr (by rw[q])));have VE:B2 C9.heap (XA C a Cc D I) (some a) ov (.list (ts.map V.str)):=.of (yS.carry ((fD ok cl ZU nG.inv).carry ok wO.gr fun b x=>.inl (.inl x)));refine d6 (Int.eq_ofNat_of_zero_le h0) fun j z3r=> ?_;subst z3r;have hj:j<ts.length:=by omega
 have hix:P2 (.list (ts.map V.str)) (.int (j:Int))=.ok (.str ts[j]):=HT hl (by rw[List.getElem?_map,List.getElem?_eq_getElem hj];rfl);have key:=zB (C:=C) VE (u:=ov) (v:=.int (j:Int) t) (i:=.int (j:Int)) (.int _ _);rw[hix] at key;refine r0 (NW VE hix) fun T id hT hlk=> ?_;refine subscriptTail_builtin hT hlk (wpAny_mono key (fun x JR RS=> ?_) fun Y Y z=>z.elim) (T9 rfl _ _) (fun Y=>rfl);have NC:=Z.goes Z6 (yL RS.1) (K0 nta Z.f.nota Z6.box RS.1);refine d6 (t8 (RS.2.plain rfl)) fun tx z2r=> ?_;subst z2r;refine X2 NC.acc fun oD ys mD pcs eD cD dD rD lD mm=> ?_;have hyl:ys.length=i:=((rD JR.heap (fun Y=>False)).length.trans (List.length_map _)).trans lD;refine wpAny_list_append ⟨oD,eD,cD,mD,dD⟩ (fun NA wG JK=>hQ _ ?_) (by show ys.length<=_;rw[hyl];have:=D6;exact r57 hi this);refine s5 wG fun RE RF RG z1t=> ?_;clear wG;refine d6 z1t fun RH RI=> ?_;clear z1t;have wH: ∀b o,b≠D->JR.heap.get? b=some o->NA.get? b=some o:=fun b o nb e=>(JK.2 b nb).trans e;exact Z.but (tk:=JR.toks) NC (.inr (.inl rfl)) wH ⟨oD,eD,.inl fun vs z=>nomatch dD.symm.trans z⟩ (Z.frame NC.st (.inr rfl) wH) (NC.ns' fun o=>wH _ o Z.DC.symm)
  ⟨RE,ys++[.str ⟨ts[j].toArray⟩ tx],RH,pcs++[ts[j]],RF,RG,by rw[RI];simp,fun h X=>by rw[List.map_append];exact(rD h X).append (.cons (.str _ _) .nil),by rw[List.length_append,lD];rfl,fun t ht=>by
   rcases List.mem_append.mp ht with z|z
   ·exact mm t z
   ·rw[List.mem_singleton.mp z];exact List.getElem_mem hj⟩
end
section
variable {W:Wd} {C C₀:Cx} {X:Xs} {k:Nat} {env:Env} {oa:Option Addr} {σ σ':d9} {s₀ s s₁ e7 s' s'':Shared} {g g':G} {n:Nat} {opn:Option Str} {h h' h'' i8:Heap} {a b:Addr} {c:Nat} {o:Obj} {ts:List b9}
theorem DE (hE: ∀n,I9 W n) (hg:C6 W (k+1) C.tb g) (hlen:g.fn "len"=none) (hg':C6 W k C.tb g') (DT:QS W "_law_take" ["box","many"] U4) (Fr:M0 W C C₀ env M6.sc s₀) (f:j7 W C (k+1) env M6.sc s₀ (some "box") (some a) σ s)
  {ds:List V} (hbx:σ.get "box"=some (.olist ds)) (hps:σ.get "pieces"=some (.list (ts.map V.str))) (hts:0<ts.length/\ts.length<1000) {m:Nat} (hm:m<1000) (hc:c+m<1000000) (hb:D1 s.heap a c) {xv:Value} (r:B2 s.heap (Xo C (some a)) (some a) xv (.rng (m:Int)))
  {kp p1 p2 p3 p4 p5 p6 p7 p8 pos:Pos} {iter:Expr} (RR:Value->Addr->Result->Shared->Prop)
  (hRR: ∀D Cc s',D≠Cc->a≠Cc->(fC s a).heap.get? Cc=none->k9 C (fC s a) s'->D1 s'.heap a (c+m)->(∃m,s'.heap.Ns Cc m)->MO s'.heap D ts m->RR (.ref D) Cc (.ok .next) s'):
  wpAny (model prog w) C.A (pyIter xv) (fun it e7=>wpAny (model prog w) C.A (newList []) (fun acc l6=>wpAny (model prog w) C.A (newFunctionEnv dI env.globals (F8 env dI.names []) [] env.qual none .none (some env)) (fun cenv C5=>
   codeAny (model prog w) C.A (.compStart (.ListComp (.Subscript (.Name "pieces" p1) (.Call (.Name "_law_take" p2) [.Name "box" p3,.Call (.Name "len" p4) [.Name "pieces" p5] [] p6] [] p7) p8) [⟨.Name "k" kp,iter,[],0⟩] dI pos) 0 it acc {cenv with scope:=relabel dI env}) (RR acc cenv.locals) C5) (fun Y Y=>False) l6) (fun Y Y=>False) e7) (fun Y Y=>False) s:=by
 have hlim:g9=1048576:=rfl;have hco:u6 M6.sc dI=true:=by decide+kernel
 refine Q1 (J7 hco) fun hn1 hn2 hn3 hn4=> ?_;have hi:s9 (.rng (m:Int))=.ok ((List.range m).map fun(k:Nat)=>V.int (k:Int)):=if_pos (show(m:Int).natAbs<=g9 by exact oz3 hm (by decide));refine wpAny_mono (jG f.sit.ok f.sit.xn r hi) (fun it e7 q=> ?_) fun Y Y x=>x;refine X1 q fun fp P St z3r st₂ V5 itn=> ?_;clear q;subst z3r;generalize hitems:((List.range m).map fun(k:Nat)=>V.int (k:Int))=items at itn;have hil:items.length=m:=by rw[<-hitems,List.length_map,List.length_range]
 have hint: ∀i d,items[i]? =some d-> ∃z,d=V.int z:=fun i d e=>by
  rw[<-hitems,List.getElem?_map] at e;refine e8 (Option.map_eq_some_iff.mp e) fun x Y z2r=> ?_;subst z2r;exact⟨_,rfl⟩
 generalize hI:s.heap.objs.size=I at itn ⊢;refine wpAny_newObj_type (wpAny_newFunctionEnv hn1 (by intro y hy;simp at hy) (fun y6 P4 T0=> ?_) hn4);dsimp only at P4 T0 ⊢;generalize hH2:e7.heap.push {cls:=.type "list",dict:=none,data:=.seq ([]:List Value).toArray}=H2 at P4 T0 ⊢;generalize hD:e7.heap.objs.size=D;have hC:H2.objs.size=D+1:=by rw[<-hH2,Heap.size_push,hD]
 generalize hCc:H2.objs.size=Cc at P4 T0 hC ⊢;have hID:I<D:=by
  refine e8 (itn.live 0 _ itn.st) fun oI eI Y=> ?_;rw[<-hD];exact Heap.lt_size eI
 refine V7 (id hb) fun b0 b1 t0 t1 nb eb rb=> ?_;have Z:fE W C C₀ (k+1) env M6.sc s₀ a σ s e7 I D Cc fp items P St:=
  have h1:D≠Cc:=by omega
  have h2:I≠D:=by exact Nat.ne_of_lt hID
  have h3:I≠Cc:=by exact r22 hC hID
  ⟨Fr,f,⟨_,_,eb⟩,itn,st₂,h1,h2,h3,A3 (Nat.le_of_eq hI),A3 (WL hI hID),A3 (q71 hI hC hID),A3 (Nat.le_of_eq hD),A3 (r29 hD hC)⟩
 have sT: ∀b o,e7.heap.get? b=some o->y6.get? b=some o:=fun b o e=>
  T0.extBut b o (fun q=>no (Z.s₂C.symm.trans (q▸e))) (Heap.get?_push_of_some _ (hH2▸Heap.get?_push_of_some _ e))
 have hacc:y6.get? D=some {cls:=.type "list",dict:=none,data:=.seq ([]:List Value).toArray}:=
  T0.extBut _ _ Z.DC (Heap.get?_push_of_some _ (hH2▸hD▸Heap.get?_push_size _ rfl))
 have nH:St 0 y6:=(itn.walks _ f.sit.ok.handled).frame _ _ _ itn.st fun b Y o e=>sT b o e;have rn: ∀{b},s.heap.get? b=none->(fC s a).heap.get? b=none:=fun {b} e=>by
  cases q:(fC s a).heap.get? b with
  |none=>rfl
  |some o=>have:=M9 q;rw[e] at this;injection this
 have loop: ∀l6:Shared,l6={e7 with heap:=y6,toks:=e7.toks+([]:List (Str×Value)).length}->
   codeAny (model prog w) C.A (.compLoop (.ListComp (.Subscript (.Name "pieces" p1) (.Call (.Name "_law_take" p2) [.Name "box" p3,.Call (.Name "len" p4) [.Name "pieces" p5] [] p6] [] p7) p8) [⟨.Name "k" kp,iter,[],0⟩] dI pos) 0 (.ref I) (.ref D) (compEnvC dI (F8 env dI.names []) Cc env)) (RR (.ref D) Cc) l6:=by
  intro l6 JL;refine tY (fun m' s'=> ∃i,m'=items.length+1-i/\i<=items.length/\TJ C a c ts s I D Cc St i i i s') (fun m' s' hJ=> ?_) (items.length+1) ⟨0,by omega,by omega,?_⟩
  ·refine s5 hJ fun i z1r hile J=> ?_;clear hJ;subst z1r;by_cases hlt:i<items.length
   ·refine(itn.walks _ f.sit.ok.handled).item i s' _ _ hlt J.st fun v i8 tk hv bR T5=> ?_;exact DA hE hg hlen hg' DT Z hbx hps hts (r4 hlt hil hc) (q72 hlt hil hm) J hlt (hint i) hv bR (fun b o nb e=>T5 b o (fun q=>nb (List.mem_singleton.mp q)) e) _ fun l6 W8=>⟨items.length+1-(i+1),by exact VM hlt,i+1,rfl,hlt,W8⟩
   ·have him:i=m:=by exact q56 hil hile hlt
    refine(itn.walks _ f.sit.ok.handled).done s' _ _ (by rw[show items.length=i by exact SI hile hlt];exact J.st) fun i8 tk T5=> ?_;have V6: ∀b o,b≠I->s'.heap.get? b=some o->i8.get? b=some o:=fun b o nb e=>T5 b o (fun q=>nb (List.mem_singleton.mp q)) e;have mI:=Z.mutI J.st J.nc;subst him;refine hRR D Cc _ Z.DC (Z.ne Z.sC).symm (rn Z.sC) ?_ ?_ (J.ns' fun o=>V6 _ o Z.IC.symm) (J.acc' fun o=>V6 _ o Z.ID.symm)
    ·refine r0 J.step fun h' tk' e gr=> ?_;exact⟨i8,tk,by rw[e],gr.but (rn Z.sI) (N0 eb f.sit.inv.tabs) (by rw[e] at mI;exact mI) (by rw[e] at V6;exact V6)⟩
    ·refine V7 J.box fun c0 c1 u0 u1 nn e r=> ?_;exact⟨c0,c1,u0,u1,nn,V6 _ _ (Z.ne Z.sI).symm e,r⟩
  ·rw[JL];refine⟨?_,⟨b0,b1,t0,t1,nb,sT _ _ (V5 _ _ eb),rb⟩,nH,⟨_,P4⟩,⟨_,[],0,[],hacc,rfl,rfl,fun Y Y=>.nil,rfl,fun Y h=>nomatch h⟩,((v0.new f.sit.inv.tabs Z.sI).keeps f.sit.inv.tabs V5).keeps (f.sit.step st₂).inv.tabs sT⟩;refine r0 st₂ fun h' tk' e gr=> ?_;clear st₂;exact⟨y6,_,by rw[e];rfl,.of_keep fun b o e=>sT b o (V5 b o (M9 e))⟩
 exact codeAny_compStart_list (loop _ rfl) ((itn.walks _ f.sit.ok.handled).self 0 _ _ _ nH (loop _ rfl))
end
section
variable {W:Wd} {C C₀:Cx} {X:Xs} {k:Nat} {env:Env} {oa:Option Addr} {σ σ':d9} {s₀ s s₁ e7 s' s'':Shared} {g g':G} {n:Nat} {opn:Option Str} {h h' h'' i8:Heap} {a b:Addr} {c:Nat} {o:Obj} {ts:List b9}
theorem yN: ∀{l ts:List b9} (_: ∀t∈ts,t.length<=10) (_: ∀t∈l,t∈ts),X5 l<=10*l.length
 |[],_,_,_=>Nat.le_refl _
 |x::r,ts,h,m=>by
  have h1:=h x (m x (.head _));have h2:=yN h fun t ht=>m t (.tail _ ht);show x.length+X5 r<=10*(r.length+1);exact q67 h1 h2
theorem MP {aT:Addr} {oT:Obj} {fd:FuncData} {m tm:Nat} {Fp:List V->R V} {Q E:Value->Shared->Prop} (hE: ∀n,I9 W n) (hg:C6 W (k+1) C.tb g) (hlen:g.fn "len"=none) (hrng:g.fn "range"=none) (hpc:g.fn "_law_pieces"=some Fp) (hF:Fp []=.ok (.list (ts.map V.str)))
  (hg':C6 W k C.tb g') (DT:QS W "_law_take" ["box","many"] U4) (wok:W.Ok) (D:Z9 W "_law_text" ["box","many"] M6.body aT oT fd) (hsc:fd.scope=M6.sc)
  (ok:C.Ok (k+2)) (wf:W.Fits C) (hxg: ∀a,C.X a->W.G.get? a=none) (hlive: ∀a,C.X a-> ¬o4 a/\ ∃o,s.heap.get? a=some o) (inv:aN W C s.heap) (cl:qH W C a) (hb:D1 s.heap a c) (hm:m<1000) (hc:c+m<1000000) (hts:0<ts.length/\ts.length<1000) (h9: ∀t∈ts,t.length<=10)
  (hQ: ∀pcs t s',pcs.length=m->(∀x∈pcs,x∈ts)->k9 C (fC s a) s'->D1 s'.heap a (c+m)->Q (.str ⟨(List.flatten pcs).toArray⟩ t) s'):wpAny (model prog w) C.A (call (.ref aT) [.ref a,.int (m:Int) tm] []) Q E s:=by
 have hlim:g9=1048576:=rfl;refine V7 hb fun b0 b1 t0 t1 n hb rb=> ?_;refine wpAny_call (uG (s₀:=fC s a) (X:=C.X) (σ:=[("box",.olist [.int b0,.int b1]),("many",.int (m:Int))]) (opn:=some "box") (oa:=some a) wok D ok wf (fun Z x=>x) hxg hlive inv ⟨_,_,rfl⟩ (fun Z Z e=>M9 e)
  (fun b o e=>v8 (inv.base b o e) (fun q=>by rw[q,cl.base] at e;injection e)) (fun b o e=>v8 (inv.G b o e) (fun q=>by rw[q,cl.G] at e;injection e)) (N0 hb inv.tabs) (fun b e=>by injection e with e;subst e;exact⟨mX,cl.X,_,hb⟩) rfl
  (fun x v e=> ?_) (fun x v e z=> ?_) fun env C' s₁ hX htb Z keep F f=> ?_)
 ·rcases jQ e with⟨rfl,rfl⟩|⟨rfl,rfl⟩
  ·exact⟨_,rfl,.head _,a,_,[.int b0 t0,.int b1 t1],n,rfl,rfl,hb,⟨rfl,rfl⟩,rfl,.cons (.int _ _) (.cons (.int _ _) .nil)⟩
  ·exact⟨_,rfl,.tail _ (.head _),.int _ _⟩
 ·rcases jQ e with⟨rfl,rfl⟩|⟨rfl,rfl⟩
  ·rfl
  ·injection z
 rw[hsc] at F f;have AQ:C6 W (k+1) C'.tb g:=htb▸hg;have VF:C6 W k C'.tb g':=htb▸hg';have P9:=keep _ _ hb;have nta:=(f.sit.live a (.inr rfl)).1;rw[show M6.body=[i4 M6.body 0,i4 M6.body 1] from rfl];have hl:(ts.map V.str).length<=g9:=by rw[List.length_map];exact r35 hts (by decide)
 refine wpAny_execs_cons (wpAny_Assign_Name (wpAny_mono (bN hE AQ f.sit (v:=.list (ts.map V.str)) (.call .nil hpc hF (by decide+kernel) rfl rfl)) (fun u e7 q=> ?_) fun Z Z z=>z.elim) (H3 rfl));refine wpAny_mono (B5 F (f.step' q.1) (x:="pieces") (.inr rfl) q.2 (fun z=>by injection z)) (fun Z l6 P1=> ?_) fun Z Z z=>z.elim;refine n5 P1 fun E4 Z kq=> ?_;clear P1;have Q0:=kq _ _ _ _ (f.same q.1 P9) rfl;have ZV:D1 l6.heap a c:=⟨_,_,_,_,_,Q0,rb⟩;refine wpAny_execs_cons (wpAny_Return_some (Call_method1 (jF (Str.ofString "join") rfl) rfl rfl (wpAny_mono (bN hE AQ E4.sit (v:=.str []) (.str rfl)) (fun u C5 O1=> ?_) fun Z Z z=>z.elim)));refine d6 (t8 (O1.2.plain rfl)) fun tj z2r=> ?_;subst z2r;have T6:=E4.step' O1.1;have ZW:=K0 nta E4.nota ZV O1.1;refine SB.join (wpAny_mono (E:=fun Z Z=>False) ?_ (fun Z Z z=>z) fun Z Z z=>z.elim);have hco:u6 M6.sc dI=true:=by decide+kernel
 refine Q1 (J7 hco) fun hn1 hn2 hn3 hn4=> ?_;have hrg:jU [.int (m:Int)]=.ok (.rng (m:Int)):=if_pos (show(m:Int).natAbs<=g9 by exact oz3 hm (by decide));show wpAny _ _ (eval (.ListComp _ _ _ _) env) _ _ _;rw[eval_ListComp];refine wpAny_comprehension_free (use:=none) rfl (fun Z=>rfl) (Y4 (R6 hco T6.sit.envOk T6.sit.st)) hn4 hn2
  (wpAny_mono (bN hE AQ T6.sit (v:=.rng (m:Int)) (.bcall (.cons (.name (g6 (v:=.int (m:Int)) (d9.ne (by decide) rfl) (by decide+kernel) (by decide))) .nil) hrng (by decide) hrg (by decide+kernel) rfl)) (fun xv C9 fH=> ?_) fun Z Z x=>x.elim)
 have bS:=T6.step' fH.1;have VG:=K0 nta T6.nota ZW fH.1;refine V7 (id VG) fun Z Z Z Z Z VH Z=> ?_;refine DE hE AQ hlen VF DT F bS (ds:=[.int b0,.int b1]) (d9.ne (by decide) rfl) d9.same hts hm hc VG fH.2 (fun acc Cc=>compPost (model prog w) C'.A (fun Z Z=>False) none _ acc Cc) fun DD Cc JR hDC haC rC OJ VI hns hacc=> ?_;refine d6 hns fun mm hm'=> ?_;clear hns;refine⟨mm,hm',fun h' hs=> ?_⟩;refine X2 hacc fun oD ys mD pcs eD cD dD rD lD hmem=> ?_;clear hacc;refine e8 (pK (rD h' C'.X) (l:=pcs) (bD pcs)) fun ps z1r h3=> ?_;subst z1r;refine F6 (D4 hm') fun oc es ep ec dc=> ?_;refine⟨DD,ps,rfl,⟨oD,(hs.2 DD hDC).trans eD,cD,mD,dD⟩,_,h3,pM (Nat.le_trans (yN h9 hmem) (q53 lD hm)),fun t' kk=> ?_⟩;have e:Txt.join (S []) (pcs.map S)=S pcs.flatten:=pL pcs;show TW Q (.ret (.str (Txt.join (S []) (pcs.map S)) t')) _;rw[e];refine hQ pcs t' _ lD hmem (F.back htb (yM VH bS.step ?_)) ?_
 ·refine r0 OJ fun y6 tk z gr=> ?_;clear OJ;exact⟨h',kk,by rw[z],gr.but rC (N0 VH bS.sit.inv.tabs) (by rw[z] at ec;exact⟨oc,ec,.inl fun vs z=>by rw[dc] at z;injection z⟩) fun b o nb e=>(hs.2 b nb).trans (by rw[z];exact e)⟩
 ·refine V7 VI fun c0 c1 u0 u1 nn e r=> ?_;clear VI;exact⟨c0,c1,u0,u1,nn,(hs.2 a haC).trans e,r⟩
end
section
variable {W:Wd} {C C₀:Cx} {X:Xs} {k:Nat} {env:Env} {oa:Option Addr} {σ σ':d9} {s₀ s s₁ e7 s' s'':Shared} {g g':G} {n:Nat} {opn:Option Str} {h h' h'' i8:Heap} {a b:Addr} {c:Nat} {o:Obj}
noncomputable def qJ (v x:Int):Int:=v*1000003+(if x<0 then -x else x)%10 ^30*2+(if decide (x<0)=true then 1 else 0)
theorem IR {v x:Int} {e:Nat} (h0:0<=v) (h1:v.toNat<2 ^(102+20*e)):0<=qJ v x/\(qJ v x).toNat<2 ^(102+20*(e+1)):=by
 have m0:=Int.emod_nonneg (if x<0 then -x else x) (show(10:Int) ^30≠0 by decide);have m1:=Int.emod_lt_of_pos (if x<0 then -x else x) (show(0:Int)<10 ^30 by decide);have p:2 ^(102+20*(e+1))=2 ^(102+20*e)*1048576:=Nat.pow_add 2 (102+20*e) 20;have q:(2:Nat) ^102<=2 ^(102+20*e):=Nat.pow_le_pow_right (by decide) (Nat.le_add_right _ _);unfold qJ;generalize (if x<0 then -x else x)%10 ^30=y at*;have hr:0<=(if decide (x<0)=true then 1 else 0:Int)/\(if decide (x<0)=true then 1 else 0:Int)<=1:=by split<;>decide
 generalize (if decide (x<0)=true then 1 else 0:Int)=r at*;generalize 2 ^(102+20*e)=B at*;rw[p];have z:0<=v*1000003+y*2+r:=Int.add_nonneg (Int.add_nonneg (Int.mul_nonneg h0 (by decide)) (Int.mul_nonneg m0 (by decide))) hr.1;exact⟨z,(Int.toNat_lt z).mpr (q88 ((Int.toNat_lt h0).mp h1) (Int.le_trans (Int.add_le_add (Int.mul_le_mul_of_nonneg_right (Int.le_of_lt m1) (by decide)) hr.2) (Int.le_trans (by decide) (Int.ofNat_le.mpr q))) h0)⟩
theorem vU {v:Int} {e:Nat} (h0:0<=v) (h1:v.toNat<2 ^(102+20*e)) (he:e<=30):v.natAbs<2 ^4096:=by
 have:(2:Nat) ^(102+20*e)<=2 ^4096:=Nat.pow_le_pow_right (by decide) (r14 he);have z:v.natAbs=v.toNat:=by exact ozn h0
 rw[z];exact Nat.lt_of_lt_of_le h1 this
theorem sK {v:Int} (h:v.natAbs<2 ^200):v.natAbs<2 ^4096:=Nat.lt_of_lt_of_le h (Nat.pow_le_pow_right (by decide) (by decide))
theorem UL {y:Int} (h0:0<=y) (h1:y<10 ^30):y.natAbs<2 ^200:=by
 have r:(2:Nat) ^200=1606938044258990275541962092341162602522202993782792835301376:=by decide
 have r':(10:Int) ^30=1000000000000000000000000000000:=by decide
 rw[r];rw[r'] at h1;omega
theorem UM {x:Int}:fJ "abs" [.int x]=.ok (.int (if x<0 then -x else x)):=rfl
theorem UN {b:Bool}:fJ "int" [.bool b]=.ok (.int (if b then 1 else 0)):=rfl
theorem vV (habs:g.fn "abs"=none) (hint:g.fn "int"=none): ∀(l:List Int) (σ:d9) (v:Int) (e:Nat),0<=v->v.toNat<2 ^(102+20*e)->e+l.length<=30->σ.get "whole_one"=some (.int v)->
  ∃σ' w,P7 g none bC.sc σ (V1 (i4 bC.body 1)) (sB (i4 bC.body 1)) (l.map V.int) (.ok (.next,σ'))/\σ'.get "whole_one"=some (.int w)/\0<=w/\w.natAbs<2 ^4096
 |[],σ,v,e,h0,h1,he,h2=>⟨σ,v,P7.nil,h2,h0,vU h0 h1 (by simpa using he)⟩
 |x::r,σ,v,e,h0,h1,he,h2=>by
  rw[List.length_cons] at he;have hb:t7 σ (V1 (i4 bC.body 1)) (.int x)=.ok (σ.set "cell" (.int x)):=rfl;refine f8 (IR (x:=x) h0 h1) fun z0 z1=> ?_;refine r0 (vV habs hint r ((σ.set "cell" (.int x)).set "whole_one" (.int (qJ v x))) (qJ v x) (e+1) z0 z1 (oc1 he) (by tm_at "n")) fun σ' w x1 x2=> ?_;have s1:=eU (vU h0 h1 (RX he)) (sK (v:=1000003) (by decide));have m0:=Int.emod_nonneg (if x<0 then -x else x) (show(10:Int) ^30≠0 by decide);have m1:=Int.emod_lt_of_pos (if x<0 then -x else x) (show(0:Int)<10 ^30 by decide);have s2:R1 .Mult (.int ((if x<0 then -x else x)%10 ^30)) (.int 2)=.ok (.int ((if x<0 then -x else x)%10 ^30*2)):=eU (sK (UL m0 m1)) (sK (v:=2) (by decide));have s3:R1 .Pow (.int 10) (.int 30)=.ok (.int (10 ^30)):=HS (a:=10) (b:=30) ⟨by decide,by decide⟩ (by decide);have s4:R1 .Mod (.int (if x<0 then -x else x)) (.int (10 ^30))=.ok (.int ((if x<0 then -x else x)%10 ^30)):=sH (by decide);exact⟨σ',w,P7.cons hb (d5.cons (d7 (v:=.int (qJ v x)) (c8.bin (c8.bin (c8.bin (by tm_at "e") (by tm_at "e") s1) (c8.bin (c8.bin (c8.bcall (by tm_at "e") habs (by decide) UM (by decide+kernel) rfl) (c8.bin (by tm_at "e") (by tm_at "e") s3) s4) (by tm_at "e") s2) (cT _ _))
   (c8.bcall (v6.cons (e9 (by tm_at "e") (by tm_at "e") (gS _ _) rfl) v6.nil) hint (by decide) UN rfl rfl) (cT _ _)) (by decide) (by decide) rfl) d5.nil) x1,x2⟩
theorem AI {h:Heap} {X:Xs}: ∀{vs:List Value} {l:List Int},Rps h X vs (l.map V.int)->IntsAre vs l
 |_,[],r=>by rw[K3 r];exact .nil
 |_,x::l,r=>by
  refine v9 (D3 r) fun u us z9r ru rs=> ?_;subst z9r;refine d6 (A2 ru) fun t z8r=> ?_;subst z8r;exact .cons _ _ (AI rs)
theorem AJ {h:Heap} {X:Xs} {vs:List Value} {l:List Int} (r:IntsAre vs l):Rps h X vs (l.map V.int):=by
 induction r with
 |nil=>exact .nil
 |cons n t _ ih=>exact .cons (.int _ _) ih
theorem QT {aB:Addr} {oB:Obj} {fd:FuncData} {u:Value} {is:List Int} {Q E:Value->Shared->Prop} (hE: ∀n,I9 W n) (hS: ∀n,xR W n) (hg:C6 W k C.tb g) (habs:g.fn "abs"=none) (hint:g.fn "int"=none)
  (wok:W.Ok) (D:Z9 W "_law_box" ["script"] bC.body aB oB fd) (hsc:fd.scope=bC.sc) (ok:C.Ok (k+1)) (wf:W.Fits C) (hxg: ∀a,C.X a->W.G.get? a=none) (hlive: ∀a,C.X a-> ¬o4 a/\ ∃o,s.heap.get? a=some o) (inv:aN W C s.heap)
  (r:Rp s.heap C.X u (.list (is.map V.int))) (hlen:is.length<=1000) (hQ: ∀a s',k9 C s s'->s.heap.get? a=none-> ¬C.X a->D1 s'.heap a 0->Q (.ref a) s'):wpAny (model prog w) C.A (call (.ref aB) [u] []) Q E s:=by
 have hlim:g9=1048576:=rfl;refine wpAny_call (uG (s₀:=s) (X:=C.X) (σ:=[("script",.list (is.map V.int))]) (opn:=none) (oa:=none) wok D ok wf (fun Z x=>x) hxg hlive inv ⟨_,_,rfl⟩ (fun Z Z e=>e) inv.base inv.G inv.tabs (fun b e=>by injection e) rfl
  (fun x v e=> ?_) (fun x v e z=> ?_) fun env C' s₁ hX htb Z keep F f=> ?_)
 ·unfold d9.get at e;rcases List.mem_singleton.mp (mem_of_lookup e) with e;injection e with e e2;subst e;subst e2;exact⟨_,rfl,.head _,.of (r.less fun b z=>z.elim id fun z=>by injection z)⟩
 ·unfold d9.get at e;rcases List.mem_singleton.mp (mem_of_lookup e) with e;injection e with e e2;subst e;subst e2;injection z
 rw[hsc] at F f;have hg':C6 W k C'.tb g:=htb▸hg;rw[show bC.body=[i4 bC.body 0,i4 bC.body 1,i4 bC.body 2] from rfl];refine wpAny_execs_cons (wpAny_Assign_Name (wpAny_mono (bN hE hg' f.sit (v:=.int 0) (.const rfl)) (fun v e7 q=> ?_) fun Z Z z=>z.elim) (H3 rfl));refine wpAny_mono (B5 F (f.step' q.1) (x:="whole_one") (.inl rfl) q.2 (fun z=>by injection z)) (fun Z l6 P1=> ?_) fun Z Z z=>z.elim;refine n5 P1 fun E4 Z Z=> ?_;clear P1;refine cR (vV (g:=g) habs hint (is.take 24) (d9.set [("script",.list (is.map V.int))] "whole_one" (.int 0)) 0 0 (Int.le_refl _) (by decide) (by rw[List.length_take];exact q5 (by decide)) d9.same) fun σ' w' z7n hw w0 w1=> ?_;refine d6 z7n fun N hN=> ?_;clear z7n;have hfor:wpAny (model prog w) C'.A (exec (i4 bC.body 1) env) (A6 W C' k env bC.sc s none none l6 (.next,σ')) (fun Z Z=>False) l6:=by
  refine wpAny_For ?_ (fun Z=>rfl);refine wpAny_Subscript_list_slice (wpAny_mono (bN hE hg' E4.sit (v:=.list (is.map V.int)) (.name (g6 (d9.ne (by decide) rfl) (by decide+kernel) (by decide)))) (fun ov C5 O1=> ?_) fun Z Z z=>z.elim);have T6:=E4.step' O1.1;refine wpAny_evalPart_none (wpAny_evalPart_some (wpAny_Constant_int ?_));refine v9 (u8 (.inl rfl) O1.2) fun l vs z6r hl hr=> ?_;subst z6r;have hsz:vs.length<=1000:=by rw[hr.length,List.length_map];exact hlen
  refine⟨l,vs.toArray,none,some 24,rfl,hl,by rw[List.size_toArray];have:=D6;exact Nat.le_trans hsz (by decide),.none,.int _ _,?_⟩;have hI:IntsAre (slicePick vs.toArray none (some 24) none).toList (is.take 24):=slice_ints_uptoW (AI hr) (by decide);generalize slicePick vs.toArray none (some 24) none=sl at hI;let o1:Obj:={cls:=.type "slice",data:=.fields #[.none,.int 24 C5.toks,.none]};have wO:k9 C' C5 {C5 with toks:=C5.toks+1,heap:=(C5.heap.push o1).push {cls:=.type "list",data:=.seq sl}}:=.of_keep fun b o e=>Heap.get?_push_of_some _ (Heap.get?_push_of_some _ e);have bS:=T6.step' wO;have nn:C5.heap.get? (C5.heap.objs.size+1)=none:=A3 (Nat.le_succ _);have ge:((C5.heap.push o1).push {cls:=.type "list",data:=.seq sl}).get? (C5.heap.objs.size+1)=some {cls:=.type "list",data:=.seq sl}:=by
   have:=Heap.get?_push_size (C5.heap.push o1) (o:={cls:=.type "list",data:=.seq sl}) rfl;rw[Heap.size_push] at this;exact this
  have rl:B2 ((C5.heap.push o1).push {cls:=.type "list",data:=.seq sl}) (Xo C' none) none (.ref (C5.heap.objs.size+1)) (.list ((is.take 24).map V.int)):=
   .of (.list (vs:=sl.toList) ge rfl rfl (fun z=>by refine f8 (T6.sit.live _ z) fun Z z5t=> ?_;refine d6 z5t fun o e=> ?_;clear z5t;rw[nn] at e;injection e) (AJ hI))
  have:=uF (b:=sB (i4 bC.body 1)) (t:=V1 (i4 bC.body 1)) (n:=0+N) (hS _) hg' F bS rfl rl (if_pos (by rw[List.length_map,List.length_take];exact q4 (by decide))) (E4.keeps (O1.1.trans wO));rw[show rG g none bC.sc (0+N) _ _ _ _=_ from hN 0] at this;exact this
 refine wpAny_execs_cons (wpAny_mono hfor (fun fl C5 q=> ?_) fun Z Z z=>z.elim);refine s5 q fun oa' T6 Z z4r=> ?_;clear q;subst z4r;refine wpAny_execs_cons (wpAny_Return_some (wpAny_List (wpAny_mono (sJ (vs:=[.int w',.int 0]) _ hE hg' T6.sit (.cons (.name (g6 hw (by decide+kernel) (by decide))) (.cons (.const rfl) .nil))) (fun us C9 q=> ?_) fun Z Z z=>z.elim)));have bS:=T6.step' q.1;have q2:=q.2;rcases us with _|⟨u,_|⟨v,_|_⟩⟩<;>first|exact q2.elim|skip
 ·exact q2.2.elim
 ·refine n5 q2 fun q3 q4 Z=> ?_;clear q2;refine d6 (A2 (B2.plain q3 rfl)) fun tu z3r=> ?_;subst z3r;refine d6 (A2 (B2.plain q4 rfl)) fun tv z2r=> ?_;subst z2r;have nn:C9.heap.get? C9.heap.objs.size=none:=A3 (Nat.le_refl _);refine⟨by show 2<=sizeLine;decide,hQ _ _ (F.back htb (bS.step.trans (.of_keep fun Z Z e=>Heap.get?_push_of_some _ e))) (E5 bS nn) (fun z=> ?_) ⟨w',0,tu,tv,0,Heap.get?_push_size _ rfl,⟨w0,w1⟩,Int.le_refl _,Int.le_refl _⟩⟩;refine f8 (hlive _ z) fun Z z1t=> ?_;refine d6 z1t fun o e=> ?_;clear z1t;have:=E5 bS nn;rw[e] at this;injection this
 ·exact q2.2.2.elim
end
structure DF (W:Wd) (tb:Prop) (g0 gp gL:G) (Fp:List V->R V) (ts:List b9):Prop where
 hE: ∀n,I9 W n
 hS: ∀n,xR W n
 wok:W.Ok
 FB:QS W "_law_box" ["script"] bC
 FT:QS W "_law_take" ["box","many"] U4
 FX:QS W "_law_text" ["box","many"] M6
 og0: ∀k,C6 W k tb g0
 f0: ∀f,g0.fn f=none
 ogp:C6 W 7 tb gp
 len:gp.fn "len"=none
 rng:gp.fn "range"=none
 pc:gp.fn "_law_pieces"=some Fp
 hF:Fp []=.ok (.list (ts.map V.str))
 line:dZ W 8 tb "_law_line_right" E3
 ogL:C6 W 8 tb gL
 hts:0<ts.length/\ts.length<1000
 h9: ∀t∈ts,t.length<=10
 hsig: ∀t∈ts,t.all A4=true
section
variable {W:Wd} {C C₀:Cx} {X:Xs} {k:Nat} {env:Env} {sc:Scope} {oa:Option Addr} {σ σ':d9} {s₀ s s₁ e7 s' s'':Shared} {g g':G} {n:Nat} {opn:Option Str} {h h' h'' i8:Heap} {a b:Addr} {c:Nat} {o:Obj} {g0 gp gL:G} {Fp:List V->R V} {ts:List b9}
theorem DG {xs:Array Value} (F:M0 W C C₀ env sc s₀) (f:j7 W C k env sc s₀ opn (some a) σ s) (hb:s.heap.get? a=some (listOf xs n)) (st:k9 C (fC s a) s') {ys:Array Value} {m:Nat} (hb':s'.heap.get? a=some (listOf ys m)):u9 C env (some a) s.heap (some a) s'.heap:=by
 have iR:=fD f.sit.ok (f.clear F) hb f.sit.inv;have i':=iR.gr f.sit.ok f.sit.wf st.gr;refine⟨fun b o e n m Z q=>st.gr.keep b o (v8 e fun z=>q (by rw[z])) (fun z=>m z.2) n,fun b o e=> ?_,fun b o e nt nc=> ?_,.inl rfl⟩
 ·by_cases q:b=a
  ·exact⟨_,q▸hb'⟩
  ·by_cases z:C.tb/\o4 b
   ·refine d6 (i'.tabNone z.2) fun ps e=> ?_;exact⟨_,e⟩
   ·refine d6 (st.gr.slots b o (v8 e q) z) fun sl e'=> ?_;exact⟨_,e'⟩
 ·by_cases q:b=a
  ·subst q;intro x hx ps e pos z;refine f8 (i'.tabs x hx) fun Z z3t=> ?_;refine s5 z3t fun ps' e' Z p3=> ?_;clear z3t;rw[e] at e';cases e';refine sY (p3 pos _ z) fun c o vs tq e1 e2 e3 Z=> ?_;injection e1 with e1;subst e1;rw[hb'] at e2;injection e2 with e2;subst e2;injection e3
  ·exact st.gr.codes (N0 hb f.sit.inv.tabs) b o (v8 e q) nt fun x hx ps z=>nc x hx ps (M9 z)
variable {tb:Prop} (T:DF W tb g0 gp gL Fp ts) (htb:C.tb=tb) (F:M0 W C C₀ env v4.sc s₀) {b0 b1 m:Int} (f:j7 W C 8 env v4.sc s₀ (some "box") (some a) σ s) (hv:σ.get "box"=some (.olist [.int b0,.int b1])) (hb:D1 s.heap a c) (hc:c<1000)
structure LW (W:Wd) (C:Cx) (env:Env) (s₀:Shared) (a:Addr) (σ:d9) (s:Shared) (c:Nat) (s':Shared):Prop where
 f: ∃b0 b1,j7 W C 8 env v4.sc s₀ (some "box") (some a) (σ.set "box" (.olist [.int b0,.int b1])) s'
 box:D1 s'.heap a c
 K:u9 C env (some a) s.heap (some a) s'.heap
include F f hv hb in
theorem LW.of {c':Nat} (st:k9 C (fC s a) s') (hb':D1 s'.heap a c'):LW W C env s₀ a σ s c' s':=by
 refine V7 hb fun Z Z Z Z Z e Z=> ?_;clear hb;refine V7 (id hb') fun Z Z Z Z Z e' Z=> ?_;exact⟨⟨_,_,IQ F f hv e st e'⟩,hb',DG F f e st e'⟩
include T htb F f hv hb hc in
theorem AK {es:List Expr} {fp p:Pos} {Q E:Value->Shared->Prop} (hp:es.any Q2=false) (x:v6 g0 v4.sc σ es (.ok [.olist [.int b0,.int b1],.int m])) (hm:0<m/\m<1000000)
  (hQ: ∀d t s',0<=d->d<m->LW W C env s₀ a σ s (c+1) s'->Q (.int d t) s'):wpAny (model prog w) C.A (eval (.Call (.Name "_law_take" fp) es [] p) env) Q E s:=
 qI (k:=7) T.hE (htb▸T.og0 _) (htb▸T.og0 _) T.FT f.sit (f.clear F) (by decide+kernel) hp x hb hm (by omega) fun d t s' h0 h1 st hb'=>hQ d t s' h0 h1 (.of F f hv hb st hb')
include T htb F f hv hb hc in
theorem gN {es:List Expr} {fp p p1 p2:Pos} {kk:Nat} {z:Int} {Q E:Value->Shared->Prop} (hp:es.any Q2=false) (x:v6 g0 v4.sc σ es (.ok [.olist [.int b0,.int b1],.int m])) (hm:0<m/\m<1000000)
  (hQ: ∀d t s',0<=d->d<m->LW W C env s₀ a σ s (c+1) s'->Q (.int (z+d) t) s'):wpAny (model prog w) C.A (eval (.BinOp (.Constant (.int z) kk p1) .Add (.Call (.Name "_law_take" fp) es [] p) p2) env) Q E s:=by
 refine wpAny_BinOp (wpAny_Constant_int ?_);have st:k9 C s {s with toks:=s.toks+1}:=.of_keep fun Z Z e=>e;refine AK (s:={s with toks:=s.toks+1}) T htb F (f.step' st) hv hb hc hp x hm fun d t s' h0 h1 L=>add_int ?_;obtain⟨⟨c0,c1,f'⟩,hb',K⟩:=L;exact hQ d _ _ h0 h1 ⟨⟨c0,c1,f'.step' (.of_keep fun Z Z e=>e)⟩,hb',K⟩
include T htb F f hv hb hc in
theorem MQ {mu:Int} (hmu:σ.get "much"=some (.int mu)) (hm:0<=mu/\mu<=5) {p1 p2 p3 p4 p5 p6 p7 p8 p9 p10 p11:Pos} {k1 k2:Nat} {Q E:Value->Shared->Prop}
  (hQ: ∀t tk s',t.length<=500->t.all A4=true->LW W C env s₀ a σ s (c+10) s'->Q (.str ⟨List.toArray t⟩ tk) s'):
  wpAny (model prog w) C.A (eval (.Call (.Name "_law_text" p1) [.Name "box" p2,.BinOp (.Constant (.int 3) k1 p3) .Add (.Call (.Name "_law_take" p4) [.Name "box" p5,.BinOp (.Constant (.int 2) k2 p6) .Add (.Name "much" p7) p8] [] p9) p10] [] p11) env) Q E s:=by
 refine F6 T.FX fun aX oX fdX DX hsc=> ?_;refine Z4 f.sit (by decide+kernel) (by decide) DX.name DX.obj DX.data rfl ?_;show wpAny _ _ (spliced [(false,eval (.Name "box" _) env),(false,eval (.BinOp _ _ _ _) env)]) _ _ _;have n1:=g6 (sc:=v4.sc) (g:=g0) hv (by decide+kernel) (by decide);have n2:=g6 (sc:=v4.sc) (g:=g0) hmu (by decide+kernel) (by decide);have hname:=O6 (htb▸T.og0 8) f.sit "box" p2;rw[n1] at hname;refine Calls.spliced_cons (wpAny_mono hname (fun ov s₁ q=> ?_) fun Z Z z=>z.elim);refine sX q.2 fun Z Z Z Z e1 z2r Z=> ?_;subst z2r;injection e1 with e1;subst e1;have f₁:=f.step' q.1;have P9:=K0 (f.sit.live a (.inr rfl)).1 f.nota hb q.1;refine Calls.spliced_cons (gN T htb F f₁ hv P9 hc (m:=2+mu) rfl (.cons (.name n1) (.cons (.bin (.const rfl) (.name n2) (cT _ _)) .nil)) ⟨by omega,by omega⟩ fun d t e7 h0 h1 L=> ?_);obtain⟨⟨c0,c1,n8⟩,X0,cK⟩:=L;refine Calls.spliced_nil ⟨n8.sit.inv.G _ _ DX.obj,?_⟩;have he:(3+d:Int)=((3+d).toNat:Int):=by exact q20 (by decide) h0
 rw[he];refine MP (k:=6) T.hE (htb▸T.ogp) T.len T.rng T.pc T.hF (htb▸T.og0 _) T.FT T.wok DX hsc n8.sit.ok n8.sit.wf (fun b z=>n8.sit.xg b (.inl z)) (fun b z=>n8.sit.live b (.inl z)) n8.sit.inv (n8.clear F) X0 (q16 he h1 hm) (q17 he h1 hm hc) T.hts T.h9 fun pcs t l6 hl hmem st Q0=> ?_;obtain⟨⟨d0,d1,E4⟩,_,wI⟩:=LW.of F n8 d9.same X0 st Q0;refine hQ _ t l6 ?_ ?_ ⟨⟨d0,d1,E4.congr fun y=> ?_⟩,?_,(f.keeps q.1).trans (cK.trans wI)⟩
 ·have:=yN T.h9 hmem;rw[eQ,hl] at this;exact q18 this he h1 hm
 ·rw[List.all_flatten,List.all_eq_true];exact fun t ht=>T.hsig t (hmem t ht)
 ·rw[k7,k7,k7];split<;>rfl
 ·refine AT Q0 fun x0 x1 u0 u1 nn e r1 r2 r3=> ?_;clear Q0;exact⟨x0,x1,u0,u1,nn,e,r1,r2,by exact q19 r3 he h1 hm⟩
include T htb F f hv hb hc in
theorem MR {t:b9} (ht:σ.get "text"=some (.str t)) (hl:t.length<=500) (hs:t.all A4=true) {p1 p2 p3 p4 p5 p6 p7 p8 p9:Pos} {k1 k2:Nat} {Q E:Value->Shared->Prop}
  (hQ: ∀s',LW W C env s₀ a σ s (c+1) s'->Q (.bool true) s'):
  wpAny (model prog w) C.A (eval (.Call (.Name "_law_line_right" p1) [.Name "text" p2,.BinOp (.Constant (.int 1) k1 p3) .Add (.Call (.Name "_law_take" p4) [.Name "box" p5,.Constant (.int 300) k2 p6] [] p7) p8] [] p9) env) Q E s:=by
 refine X1 T.line fun aX oX fdX h1 h2 h3 h4=> ?_;refine Z4 f.sit (by decide+kernel) (by decide) h1 h2 h3 rfl ?_;show wpAny _ _ (spliced [(false,eval (.Name "text" _) env),(false,eval (.BinOp _ _ _ _) env)]) _ _ _;have n1:=g6 (sc:=v4.sc) (g:=g0) hv (by decide+kernel) (by decide);have n2:=g6 (sc:=v4.sc) (g:=g0) ht (by decide+kernel) (by decide);have hname:=O6 (htb▸T.og0 8) f.sit "text" p2;rw[n2] at hname;refine Calls.spliced_cons (wpAny_mono hname (fun ov s₁ q=> ?_) fun Z Z z=>z.elim);refine d6 (t8 (q.2.plain rfl)) fun tt z1r=> ?_;subst z1r;have f₁:=f.step' q.1;have P9:=K0 (f.sit.live a (.inr rfl)).1 f.nota hb q.1;refine Calls.spliced_cons (gN T htb F f₁ hv P9 hc (m:=300) rfl (.cons (.name n1) (.cons (.const rfl) .nil)) ⟨by omega,by omega⟩ fun d t' e7 h0 h1 L=> ?_);obtain⟨⟨c0,c1,n8⟩,X0,cK⟩:=L;refine Calls.spliced_nil ⟨n8.sit.inv.G _ _ h2,?_⟩;have key:=h4 C (Xo C (some a)) e7 [.str ⟨t.toArray⟩ tt,.int (1+d) t'] [.str t,.int (1+d)] n8.sit.ok n8.sit.wf (by rw[htb]) n8.sit.sub n8.sit.xg n8.sit.live n8.sit.inv (.cons (.str _ _) (.cons (.int _ _) .nil));rw[show E3 [.str t,.int (1+d)]=.ok (.bool true) from if_pos ⟨hl,hs,by exact q58 h0 h1⟩] at key;refine wpAny_mono key (fun v l6 P1=> ?_) fun Z Z z=>z.elim;obtain rfl:=M2 (P1.2.plain rfl);exact hQ l6 ⟨⟨c0,c1,n8.step' P1.1⟩,K0 (f.sit.live a (.inr rfl)).1 f.nota X0 P1.1,(f.keeps q.1).trans (cK.trans (n8.keeps P1.1))⟩
end
section
variable {W:Wd} {C C₀:Cx} {X:Xs} {k:Nat} {env:Env} {sc:Scope} {oa:Option Addr} {σ σ':d9} {s₀ s s₁ e7 s' s'':Shared} {g g':G} {n:Nat} {opn:Option Str} {h h' h'' i8:Heap} {a b:Addr} {c:Nat} {o:Obj} {g0 gp gL:G} {Fp:List V->R V} {ts:List b9}
theorem DH (F:M0 W C C₀ env sc s₀) (f:j7 W C k env sc s₀ opn none σ s) (st:k9 C s e7) (an:s.heap.get? a=none) (nX: ¬C.X a) (hb:e7.heap.get? a=some o):
  j7 W C k env sc s₀ opn (some a) σ e7/\u9 C env none s.heap (some a) e7.heap:=by
 have kx: ∀b,Xo C (some a) b->Xo C none b\/ ∀o,s.heap.get? b=some o-> ¬I8 o:=fun b q=>by
  rcases q with q|q
  ·exact .inl (.inl q)
  ·injection q with q;subst q;exact .inr fun o e=>by rw[an] at e;injection e
 have n8:=f.step' st;have s0n:=E5 f an;have kp:=f.keeps st;refine⟨⟨n8.step,⟨n8.sit.wok,n8.sit.ok,n8.sit.wf,fun b q=>.inl q,fun b q=> ?_,fun b q=> ?_,n8.sit.inv,n8.sit.envOk,?_,fun b q=>.inr q⟩,fun b q=>by injection q with q;subst q;exact⟨s0n,nX⟩,f.only⟩,kp.keep,kp.live,kp.codes,.inr fun b q=>by injection q with q;subst q;exact an⟩
 ·rcases q with q|q
  ·exact f.sit.xg b (.inl q)
  ·injection q with q;subst q;exact F.notG s0n
 ·rcases q with q|q
  ·exact n8.sit.live b (.inl q)
  ·injection q with q;subst q;exact⟨o6 f.sit.inv.tabs an,_,hb⟩
 ·have t:=(f.sit.st.more kx).gr f.sit.ok f.sit.inv st.gr fun b z=>.inl z;exact⟨t.cells,e8 (t.vals) fun m hm hv=>⟨m,hm,fun x v e=>e8 (hv x v e) fun u hu hk=>⟨u,hu.any,hk⟩⟩⟩
variable {tb:Prop} (T:DF W tb g0 gp gL Fp ts) (htb:C.tb=tb) (F:M0 W C C₀ env v4.sc s₀)
include T htb F
theorem YY {is:List Int} (f:j7 W C 8 env v4.sc s₀ (some "box") none σ s) (hsc:σ.get "script"=some (.list (is.map V.int))) (hlen:is.length<=63) {Q:Flow->Shared->Prop} {E:Value->Shared->Prop}
  (hQ: ∀a σ' mu b0 b1 s',j7 W C 8 env v4.sc s₀ (some "box") (some a) σ' s'->σ'.get "box"=some (.olist [.int b0,.int b1])->σ'.get "much"=some (.int mu)->0<=mu/\mu<=5->D1 s'.heap a 0->Q .next s'):
  wpAny (model prog w) C.A (exec (i4 v4.body 0) env) Q E s:=by
 have hlim:g9=1048576:=rfl;refine Y7 (k:=8) (opn:=some "box") (xs:=["box","much"]) F rfl rfl Q E ?_;show wpAny _ _ (spliced [(false,eval (.Call (.Name "_law_box" _) [.Name "script" _] [] _) env),(false,eval (.Call (.Name "min" _) _ [] _) env)]) _ _ _;refine F6 T.FB fun aB oB fdB DB hscB=> ?_;have n1:=g6 (sc:=v4.sc) (g:=g0) hsc (by decide+kernel) (by decide);refine Calls.spliced_cons (Z4 f.sit (by decide+kernel) (by decide) DB.name DB.obj DB.data rfl (wpAny_mono (sJ (vs:=[.list (is.map V.int)]) _ T.hE (htb▸T.og0 8) f.sit (.cons (.name n1) .nil)) (fun us s₁ q=>⟨(f.step' q.1).sit.inv.G _ _ DB.obj,?_⟩) fun Z Z z=>z.elim));have f₁:=f.step' q.1;have q2:=q.2;rcases us with _|⟨u,_|_⟩<;>first|exact q2.elim|skip
 case cons.cons=>exact q2.2.elim
 refine QT (k:=7) T.hE T.hS (htb▸T.og0 7) (T.f0 _) (T.f0 _) T.wok DB hscB f₁.sit.ok f₁.sit.wf (fun b z=>f₁.sit.xg b (.inl z)) (fun b z=>f₁.sit.live b (.inl z)) f₁.sit.inv ((B2.plain q2.1 rfl).less fun b z=>.inl z) (Nat.le_trans hlen (by decide)) fun a e7 st an nX hb=> ?_;refine V7 hb fun b0 b1 t0 t1 nb eb rb=> ?_;clear hb;refine f8 (DH F f₁ st an nX eb) fun n8 cK=> ?_;have hln:(is.map V.int).length<=g9:=by rw[List.length_map];exact Nat.le_trans hlen (by decide)
 refine Calls.spliced_cons (wpAny_mono (bN T.hE (htb▸T.og0 8) n8.sit (v:=.int (min ((is.map V.int).length:Nat) 5)) (.bcall (.cons (.bcall (.cons (.name n1) .nil) (T.f0 _) (by decide) (eP hln) (by decide+kernel) rfl) (.cons (.const rfl) .nil)) (T.f0 _) (by decide) (rS _ _) (by decide+kernel) rfl)) (fun v l6 P1=> ?_) fun Z Z z=>z.elim);have E4:=n8.step' P1.1;have VJ:=n8.same P1.1 eb;refine d6 (A2 (P1.2.plain rfl)) fun tm z1r=> ?_;subst z1r;refine Calls.spliced_nil ⟨by show 2<=sizeLine;decide,rfl,⟨_,_,E4⟩,fun i8 rts kp=> ?_⟩;have AR:k9 C l6 ({l6 with heap:=i8}:Shared):=⟨i8,l6.toks,rfl,.of_keep fun b o e=>kp b o (Heap.get?_push_of_some _ e)⟩;have T6:=E4.step' AR;have JS:=E4.same AR VJ;have yS:v7 i8 (Xo C (some a)) (some a) [.ref a,.int (min ((is.map V.int).length:Nat) 5) tm] [.olist [.int b0,.int b1],.int (min ((is.map V.int).length:Nat) 5)]:=
  ⟨⟨a,_,[.int b0 t0,.int b1 t1],nb,rfl,rfl,JS,⟨rfl,rfl⟩,rfl,.cons (.int _ _) (.cons (.int _ _) .nil)⟩,.int _ _,trivial⟩
 have hq:F1 (some "box") σ ["box","much"] [.olist [.int b0,.int b1],.int (min ((is.map V.int).length:Nat) 5)]=.ok ((σ.set "box" (.olist [.int b0,.int b1])).set "much" (.int (min ((is.map V.int).length:Nat) 5))):=rfl;have g1:((σ.set "box" (.olist [.int b0,.int b1])).set "much" (.int (min ((is.map V.int).length:Nat) 5))).get "box"=some (.olist [.int b0,.int b1]):=d9.ne (by decide) d9.same;have hmu:0<=(min ((is.map V.int).length:Nat) 5:Int)/\(min ((is.map V.int).length:Nat) 5:Int)<=5:=by exact q29
 refine⟨fun ht=>wpAny_mono (N5 F ht T6 (by decide+kernel) yS hq) (fun Z C9 q=> ?_) fun Z Z z=>z.elim,fun ht hl=> ?_⟩
 ·exact hQ a _ _ b0 b1 C9 q.1 g1 d9.same hmu ⟨b0,b1,t0,t1,nb,q.2.2 _ _ _ _ JS rfl,rb⟩
 ·refine e8 (cZ hq (by decide) hl) fun W9 hq' he'=> ?_;refine wpAny_mono (N5 F ht T6 (by decide+kernel) yS.rev hq') (fun Z C9 q=> ?_) fun Z Z z=>z.elim;exact hQ a _ _ b0 b1 C9 (q.1.congr he') g1 d9.same hmu ⟨b0,b1,t0,t1,nb,q.2.2 _ _ _ _ JS rfl,rb⟩
end
section
variable {W:Wd} {C C₀:Cx} {X:Xs} {k:Nat} {env:Env} {sc:Scope} {oa:Option Addr} {σ σ':d9} {s₀ s s₁ e7 s' s'':Shared} {g g':G} {n:Nat} {opn:Option Str} {h h' h'' i8:Heap} {a b:Addr} {c:Nat} {o:Obj} {g0 gp gL:G} {Fp:List V->R V} {ts:List b9}
variable {tb:Prop} (T:DF W tb g0 gp gL Fp ts) (htb:C.tb=tb) (F:M0 W C C₀ env v4.sc s₀)
include T htb F
theorem YZ {b0 b1:Int} (f:j7 W C 8 env v4.sc s₀ (some "box") (some a) σ s) (hv:σ.get "box"=some (.olist [.int b0,.int b1])) (hb:D1 s.heap a c) (hc:c<900) {Q:Flow->Shared->Prop} {E:Value->Shared->Prop}
  (hQ: ∀σ' d l s',j7 W C 8 env v4.sc s₀ (some "box") (some a) σ' s'->σ'.get "code"=some (.int d)->σ'.get "line"=some (.int l)->0<=d/\d<300->1<=l/\l<=300->Q .next s'):
  wpAny (model prog w) C.A (exec (i4 v4.body 2) env) Q E s:=by
 refine Y7 (k:=8) (opn:=some "box") (xs:=["code","line"]) F rfl rfl Q E ?_;show wpAny _ _ (spliced [(false,eval (.Call (.Name "_law_take" _) _ [] _) env),(false,eval (.BinOp _ _ _ _) env)]) _ _ _;have n1:=g6 (sc:=v4.sc) (g:=g0) hv (by decide+kernel) (by decide);refine Calls.spliced_cons (AK T htb F f hv hb (by omega) (m:=300) rfl (.cons (.name n1) (.cons (.const rfl) .nil)) ⟨by omega,by omega⟩ fun d td s₁ d0 d1 L=> ?_);obtain⟨⟨c0,c1,f₁⟩,P9,_⟩:=L;have n2:=g6 (sc:=v4.sc) (g:=g0) (d9.same (σ:=σ) (x:="box") (v:=.olist [.int c0,.int c1])) (by decide+kernel) (by decide);refine Calls.spliced_cons (gN T htb F f₁ d9.same P9 (by omega) (m:=300) rfl (.cons (.name n2) (.cons (.const rfl) .nil)) ⟨by omega,by omega⟩ fun l tl e7 l0 l1 L=> ?_);obtain⟨⟨e0,e1,n8⟩,X0,_⟩:=L;refine Calls.spliced_nil ⟨by show 2<=sizeLine;decide,rfl,⟨_,_,n8⟩,fun i8 rts kp=> ?_⟩;have AR:k9 C e7 ({e7 with heap:=i8}:Shared):=⟨i8,e7.toks,rfl,.of_keep fun b o e=>kp b o (Heap.get?_push_of_some _ e)⟩;have T6:=n8.step' AR;have yS:v7 i8 (Xo C (some a)) (some a) [.int d td,.int (1+l) tl] [.int d,.int (1+l)]:=⟨.int _ _,.int _ _,trivial⟩;have hq:F1 (some "box") ((σ.set "box" (.olist [.int c0,.int c1])).set "box" (.olist [.int e0,.int e1])) ["code","line"] [.int d,.int (1+l)]=.ok ((((σ.set "box" (.olist [.int c0,.int c1])).set "box" (.olist [.int e0,.int e1])).set "code" (.int d)).set "line" (.int (1+l))):=rfl;refine⟨fun ht=>wpAny_mono (N5 F ht T6 (by decide+kernel) yS hq) (fun Z C9 q=> ?_) fun Z Z z=>z.elim,fun ht hl=> ?_⟩
 ·exact hQ _ d (1+l) C9 q.1 (d9.ne (by decide) d9.same) d9.same ⟨d0,d1⟩ ⟨by omega,by omega⟩
 ·refine e8 (cZ hq (by decide) hl) fun W9 hq' he'=> ?_;refine wpAny_mono (N5 F ht T6 (by decide+kernel) yS.rev hq') (fun Z C9 q=> ?_) fun Z Z z=>z.elim;exact hQ _ d (1+l) C9 (q.1.congr he') (d9.ne (by decide) d9.same) d9.same ⟨d0,d1⟩ ⟨by omega,by omega⟩
end
section
variable {gL:G} {σ:d9} {d l:Int}
noncomputable def S8 (d:Int):Bool:=d==9||(decide (32<=d) &&decide (d<127))
theorem DI (h:0<=d):[97,d.toNat].all A4=S8 d:=by
 refine d6 (Int.eq_ofNat_of_zero_le h) fun n z1r=> ?_;subst z1r;rcases Nat.lt_or_ge n 127 with h|h
 ·exact of_decide_eq_true (U5 127 (fun n=>decide ([97,(n:Int).toNat].all A4=S8 n)) (by decide+kernel) h)
 ·have e:A4 n=false:=by
   unfold A4;rw[decide_eq_false (p:=n<=126) (Nat.not_le.mpr h),Bool.and_false,Bool.false_or];exact beq_eq_false_iff_ne.mpr (fun z=>absurd h (by rw[z];decide))
  have e':S8 n=false:=by
   unfold S8;rw[decide_eq_false (p:=(n:Int)<127) (Int.not_lt.mpr (Int.ofNat_le.mpr h)),Bool.and_false,Bool.or_false];exact beq_eq_false_iff_ne.mpr (fun z=>absurd h (by rw[Int.ofNat.inj z];decide))
  show(A4 97 &&(A4 n &&true))=_;rw[e,e',Bool.false_and,Bool.and_false]
theorem IS (hlam:gL.lam=true) (hcs:gL.low "check_signs"=some o8) (hchr:gL.low "chr"=none) (hin:gL.fn "is_name"=some E2) (h1:σ.get "code"=some (.int d)) (h2:σ.get "line"=some (.int l)) (hd:0<=d/\d<300) (hl:1<=l/\l<=300):
  ∃σ',d5 gL (some "box") v4.sc σ [i4 v4.body 3,i4 v4.body 4] (.ok (.ret (.bool true),σ')):=by
 have hlim:g9=1048576:=rfl;have e3:d8 gL (some "box") v4.sc σ (i4 v4.body 3) (.ok (.next,σ.set "due" (if S8 d then .tup [.str mQ,.none] else .tup [.str yG,.int l]))):=
  d7 (rN (bb:=S8 d) (by unfold S8;tm_at "e") (fun Z=>c8.tup (vs:=[.str mQ,.none]) (by tm_at "e") rfl (by show 2<=g9;decide)) (fun Z=>c8.tup (vs:=[.str yG,.int l]) (by tm_at "e") rfl (by show 2<=g9;decide))) (by decide) (by decide) (by cases S8 d<;>rfl)
 have r:D0 (o8 [.str [97,d.toNat],.int l])=.ok (if S8 d then .tup [.str mQ,.none] else .tup [.str yG,.int l]):=by
  rw[show o8 [.str [97,d.toNat],.int l]=(if [97,d.toNat].all A4 then .ok .none else .err l) from if_pos ⟨by show 2<=5000;decide,by exact r27 hl⟩,DI hd.1];cases S8 d<;>rfl
 have hus: ∀b:Bool,∃us,(if b then V.tup [.str mQ,.none] else .tup [.str yG,.int l])=.tup us/\Dats us/\deepVs us<=20:=fun b=>by
  cases b
  ·exact⟨_,rfl,⟨trivial,trivial,trivial⟩,Nat.le_of_ble_eq_true rfl⟩
  ·exact⟨_,rfl,⟨trivial,trivial,trivial⟩,Nat.le_of_ble_eq_true rfl⟩
 refine s5 (hus (S8 d)) fun us hu h5 h6=> ?_;rw[hu] at e3 r;have hch:fJ "chr" [.int d]=.ok (.str [d.toNat]):=by
  show(if 0<=d/\d<=1114111 then R.ok (V.str [d.toNat]) else .stuck)=_;exact if_pos ⟨by omega,by omega⟩
 have c1:(i5 (σ.set "due" (.tup us)) v4.sc (eS (eK (eK (eK (sE (i4 v4.body 4)) 0) 0) 0))).get "code"=some (.int d):=M8 (d9.ne (by decide) h1) (by decide+kernel);have c2:(i5 (σ.set "due" (.tup us)) v4.sc (eS (eK (eK (eK (sE (i4 v4.body 4)) 0) 0) 0))).get "line"=some (.int l):=M8 (d9.ne (by decide) h2) (by decide+kernel);have hn:E2 [.str []]=.ok (.bool false):=rfl;refine⟨_,d5.cons e3 (d5.ret (d8.ret (v:=.bool true) (c8.to (o7 (b1:=true) (b2:=true) (dE (r:=o8 [.str [97,d.toNat],.int l]) (us:=us) (c8.told (c8.call (v6.cons (c8.bin (c8.str rfl) (c8.bcall (v6.cons (c8.name (g6 c1 (by decide+kernel) (by decide))) v6.nil) hchr (by decide) hch (by decide+kernel) rfl) (add_str (by show 1+1<=g9;decide))) (v6.cons (c8.name (g6 c2 (by decide+kernel) (by decide))) v6.nil)) hcs rfl (by decide+kernel) rfl rfl) ⟨rfl,hlam,by decide+kernel,by decide+kernel,by decide+kernel⟩)
  (by tm_at "e") r ⟨h5,h6⟩ rfl) fun Z=>H5 (e9 (c8.call (v6.cons (c8.str rfl) v6.nil) hin hn (by decide+kernel) rfl rfl) (by tm_at "e") (yX _ _) rfl)) rfl)))⟩
end
section
variable {W:Wd} {C C₀:Cx} {X:Xs} {k:Nat} {env:Env} {sc:Scope} {oa:Option Addr} {σ σ':d9} {s₀ s s₁ e7 s' s'':Shared} {g g':G} {n:Nat} {opn:Option Str} {h h' h'' i8:Heap} {a b:Addr} {c:Nat} {o:Obj} {g0 gp gL:G} {Fp:List V->R V} {ts:List b9}
variable {tb:Prop} (T:DF W tb g0 gp gL Fp ts) (htb:C.tb=tb) (F:M0 W C C₀ env v4.sc s₀)
noncomputable def bO (mu:Int) (σ:d9):Prop:=(∃b0 b1,σ.get "box"=some (.olist [.int b0,.int b1]))/\σ.get "much"=some (.int mu)
theorem bO.box {mu b0 b1:Int} (p:bO mu σ):bO mu (σ.set "box" (.olist [.int b0,.int b1])):=⟨⟨_,_,d9.same⟩,d9.ne (by decide) p.2⟩
theorem bO.other {mu:Int} {x:Str} {v:V} (p:bO mu σ) (h1:x≠"box") (h2:x≠"much"):bO mu (σ.set x v):=let ⟨⟨b0,b1,e⟩,e'⟩:=p;⟨⟨b0,b1,d9.ne (Ne.symm h1) e⟩,d9.ne (Ne.symm h2) e'⟩
include T htb F
theorem IT {mu:Int} (hm:0<=mu/\mu<=5) (f:j7 W C 8 env v4.sc s₀ (some "box") (some a) σ s) (p:bO mu σ) (hb:D1 s.heap a c) (hc:c<900) {Q:Flow->Shared->Prop} {E:Value->Shared->Prop}
  (hQ: ∀σ' s',j7 W C 8 env v4.sc s₀ (some "box") (some a) σ' s'->bO mu σ'->u9 C env (some a) s.heap (some a) s'.heap->D1 s'.heap a (c+11)->Q .next s'):
  wpAny (model prog w) C.A (execs (sB (i4 v4.body 1)) env) Q E s:=by
 refine f8 (id p) fun z4n hmu=> ?_;refine C1 z4n fun b0 b1 hv=> ?_;clear z4n;rw[show sB (i4 v4.body 1)=[i4 (sB (i4 v4.body 1)) 0,i4 (sB (i4 v4.body 1)) 1] from rfl];refine wpAny_execs_cons (wpAny_Assign_Name (MQ T htb F f hv hb (by omega) hmu hm fun t tk s₁ hl hs L=> ?_) (H3 rfl));obtain⟨⟨c0,c1,f₁⟩,P9,ZX⟩:=L;refine wpAny_mono (B5 F f₁ (x:="text") (.inl (by decide+kernel)) (v:=.str t) (.str _ _) (fun z=>by injection z)) (fun Y e7 q=> ?_) fun Y Y z=>z.elim;refine n5 q fun n8 cK kq=> ?_;clear q;refine V7 P9 fun d0 d1 u0 u1 nn e r=> ?_;clear P9;have X0:D1 e7.heap a (c+10):=⟨d0,d1,u0,u1,nn,kq _ _ _ _ e rfl,r⟩;refine wpAny_execs_cons (wpAny_If (wpAny_isTrue_Not (wpAny_isTrue_value (MR T htb F n8 (d9.ne (by decide) d9.same) X0 (r55 hc) d9.same hl hs fun l6 L=> ?_) rfl)));obtain⟨⟨e0,e1,E4⟩,Q0,wI⟩:=L;have key:=V9 (C:=C) (X:=Xo C (some a)) (oa:=some a) (s:=l6) (x:=.bool true) (u:=.bool true) (.of (.bool true));rw[N4] at key;refine wpAny_mono key (fun b C5 q=> ?_) fun Y Y z=>z.elim;refine f8 q fun st z3r=> ?_;clear q;subst z3r;rw[if_neg (by decide)];refine wpAny_execs_nil (wpAny_execs_nil (hQ _ C5 (E4.step' st) ((p.box.other (by decide) (by decide)).box) (ZX.trans (cK.trans (wI.trans (E4.keeps st)))) (K0 (E4.sit.live a (.inr rfl)).1 E4.nota Q0 st)))
theorem ZA {mu:Int} (hm:0<=mu/\mu<=5) (f:j7 W C 8 env v4.sc s₀ (some "box") (some a) σ s) (p:bO mu σ) (hb:D1 s.heap a 0) {Q:Flow->Shared->Prop} {E:Value->Shared->Prop}
  (hQ: ∀σ' s',j7 W C 8 env v4.sc s₀ (some "box") (some a) σ' s'->bO mu σ'->D1 s'.heap a 100->Q .next s'):wpAny (model prog w) C.A (exec (i4 v4.body 1) env) Q E s:=by
 have hlim:g9=1048576:=rfl;have nta:=(f.sit.live a (.inr rfl)).1;have n2:=g6 (sc:=v4.sc) (g:=g0) p.2 (by decide+kernel) (by decide);have hrg:jU [.int (1+mu)]=.ok (.rng (1+mu)):=if_pos (show(1+mu).natAbs<=g9 by exact q61 hm);refine wpAny_For (wpAny_mono (bN T.hE (htb▸T.og0 8) f.sit (v:=.rng (1+mu)) (.bcall (.cons (.bin (.const rfl) (.name n2) (cT _ _)) .nil) (T.f0 _) (by decide) hrg (by decide+kernel) rfl)) (fun xv s₁ q=> ?_) fun Y Y z=>z.elim) (fun Y=>rfl);have f₁:=f.step' q.1;have P9:=K0 nta f.nota hb q.1;have hi:s9 (.rng (1+mu))=.ok ((List.range (1+mu).toNat).map fun(k:Nat)=>V.int (k:Int)):=if_pos (show(1+mu).natAbs<=g9 by exact q61 hm);generalize hitems:((List.range (1+mu).toNat).map fun(k:Nat)=>V.int (k:Int))=items at hi;have hil:items.length=(1+mu).toNat:=by rw[<-hitems,List.length_map,List.length_range]
 refine wpAny_mono (jG f₁.sit.ok f₁.sit.xn q.2 hi) (fun it' e7 B9=> ?_) fun Y Y x=>x.elim;refine X1 B9 fun fp P St z2r st₂ V5 itn=> ?_;clear B9;subst z2r;generalize hI:s₁.heap.objs.size=I at itn ⊢;have Z:iT W C C₀ 8 env v4.sc s₀ (some "box") (some a) σ s₁ e7 I fp items P St:=⟨F,f₁,st₂,itn,A3 (Nat.le_of_eq hI)⟩;have aI:a≠I:=fun z=>by
  refine V7 P9 fun Y Y Y Y Y e Y=> ?_;clear P9;have:=Z.sI;rw[<-z,e] at this;injection this
 refine codeAny_forLoop_any (fun m s'=> ∃i σ',m=items.length+1-i/\i<=items.length/\FJ W C 8 env v4.sc s₀ (some "box") (some a) s₁ e7 I St i σ' (some a) s'/\bO mu σ'/\D1 s'.heap a (11*i)) (fun m s' hJ=> ?_) (items.length+1)
  ⟨0,σ,rfl,Nat.zero_le _,⟨f₁.step' st₂,f₁.keeps st₂,itn.st,(v0.new f₁.sit.inv.tabs Z.sI).keeps f₁.sit.inv.tabs V5,fun Y Y e Y Y=>e,(fun Y o e=>⟨o,e⟩),.inl rfl⟩,p,K0 nta f₁.nota P9 st₂⟩
 refine iL hJ fun i σ' z1r hile J pi hbi=> ?_;clear hJ;subst z1r;have boxk: ∀i8 tk,(∀b o,b≠I->s'.heap.get? b=some o->i8.get? b=some o)->D1 (Shared.heap {s' with heap:=i8,toks:=tk}) a (11*i):=fun i8 tk kp=>by
  refine V7 hbi fun d0 d1 u0 u1 nn e r=> ?_;clear hbi;exact⟨d0,d1,u0,u1,nn,kp _ _ aI e,r⟩
 by_cases hlt:i<items.length
 ·refine(itn.walks _ f.sit.ok.handled).item i s' _ _ hlt J.st fun v i8 tk hv bR T5=> ?_;have kp: ∀b o,b≠I->s'.heap.get? b=some o->i8.get? b=some o:=fun b o nb e=>T5 b o (fun q=>nb (List.mem_singleton.mp q)) e;have W8:=Z.but (tk:=tk) J bR kp;have Q0:=boxk i8 tk kp;refine e8 (itn.vals i v hlt hv) fun d hd rd=> ?_;refine itn.go _ _ (i+1) _ v _ _ (.inl ⟨_,_,rfl⟩) bR ?_;have rd':=Z.item W8 rd;generalize ({s' with heap:=i8,toks:=tk}:Shared)=l6 at W8 Q0 rd' ⊢;refine wpAny_assign_Name (wpAny_mono (B5 F W8.f (x:="lap") (.inl (by decide+kernel)) (.of rd') (fun z=>absurd (rd'.not_open.symm.trans z) Bool.false_ne_true)) (fun Y C5 O1=> ?_) fun Y Y x=>x.elim);refine n5 O1 fun T6 JP kq=> ?_;clear O1;have nF:=Z.goes W8 T6 JP;refine V7 Q0 fun d0 d1 u0 u1 nn e r=> ?_;clear Q0;have JQ:D1 C5.heap a (11*i):=⟨d0,d1,u0,u1,nn,kq _ _ _ _ e rfl,r⟩;refine IT T htb F hm nF.f (pi.other (by decide) (by decide)) JQ (q83 hlt hil hm) fun VK C9 bS ZY RM wN=> ?_;exact⟨items.length+1-(i+1),by exact VM hlt,i+1,VK,rfl,hlt,Z.goes nF bS RM,ZY,wN⟩
 ·refine(itn.walks _ f.sit.ok.handled).done s' _ _ (by rw[show items.length=i by exact SI hile hlt];exact J.st) fun i8 tk T5=>wpAny_execs_nil ?_;have mI:=Z.mut J.st J.nc;have kp: ∀b o,b≠I->s'.heap.get? b=some o->i8.get? b=some o:=fun b o nb e=>T5 b o (fun q=>nb (List.mem_singleton.mp q)) e;refine hQ σ' _ (J.f.other (tk:=tk) F (E5 f₁ Z.sI) mI (Z.at_ J.st) (Z.nX' J.oaf) kp) pi ?_;refine AT (boxk i8 tk kp) fun d0 d1 u0 u1 nn e r1 r2 r3=> ?_;exact⟨d0,d1,u0,u1,nn,e,r1,r2,by exact q86 r3 hile hil hm⟩
end
section
variable {W:Wd} {C:Cx} {s:Shared} {g0 gp gL:G} {Fp:List V->R V} {ts:List b9} {tb:Prop}
theorem QU (T:DF W tb g0 gp gL Fp ts) (htb:C.tb=tb) (hlam:gL.lam=true) (hcs:gL.low "check_signs"=some o8) (hchr:gL.low "chr"=none) (hin:gL.fn "is_name"=some E2)
  {aL:Addr} {oL:Obj} {fd:FuncData} (D:Z9 W "law" ["script"] v4.body aL oL fd) (hsc:fd.scope=v4.sc) (ok:C.Ok 9) (wf:W.Fits C) (hxg: ∀a,C.X a->W.G.get? a=none) (hlive: ∀a,C.X a-> ¬o4 a/\ ∃o,s.heap.get? a=some o) (inv:aN W C s.heap)
  {u:Value} {is:List Int} (r:Rp s.heap C.X u (.list (is.map V.int))) (hlen:is.length<=63):codeAny (model prog w) C.A (.call (.ref aL) ⟨[u],[]⟩) (PW (fun v s'=>v=.bool true/\k9 C s s'/\aN W C s'.heap) fun Z Z=>False) s:=by
 refine uG (k:=8) (s₀:=s) (X:=C.X) (σ:=[("script",.list (is.map V.int))]) (opn:=some "box") (oa:=none) T.wok D ok wf (fun Z x=>x) hxg hlive inv ⟨_,_,rfl⟩ (fun Z Z e=>e) inv.base inv.G inv.tabs (fun b e=>by injection e) rfl
  (fun x v e=> ?_) (fun x v e z=> ?_) fun env C' s₁ hX htb' Z keep F f=> ?_
 ·unfold d9.get at e;rcases List.mem_singleton.mp (mem_of_lookup e) with e;injection e with e e2;subst e;subst e2;exact⟨_,rfl,.head _,.of (r.less fun b z=>z.elim id fun z=>by injection z)⟩
 ·unfold d9.get at e;rcases List.mem_singleton.mp (mem_of_lookup e) with e;injection e with e e2;subst e;subst e2;injection z
 rw[hsc] at F f;have ht:C'.tb=tb:=htb'.trans htb;rw[show v4.body=[i4 v4.body 0,i4 v4.body 1,i4 v4.body 2,i4 v4.body 3,i4 v4.body 4] from rfl];refine wpAny_execs_cons (YY T ht F f rfl hlen fun a nJ mu b0 b1 e7 n8 hv hmu hm hb=> ?_);refine wpAny_execs_cons (ZA T ht F hm n8 ⟨⟨_,_,hv⟩,hmu⟩ hb fun σ₂ l6 E4 p Q0=> ?_);refine f8 p fun z3n Z=> ?_;clear p;refine C1 z3n fun c0 c1 VL=> ?_;clear z3n;refine wpAny_execs_cons (YZ T ht F E4 VL Q0 (by decide) fun AP d l C5 T6 hd hl h1 h2=> ?_);refine C1 (IS hlam hcs hchr hin hd hl h1 h2) fun σ' N hN=> ?_;have key:=R7 (T.hS (0+N)) (ht▸T.ogL) F [i4 v4.body 3,i4 v4.body 4] T6;rw[hN 0] at key;refine wpAny_mono key (fun fl C9 q=> ?_) fun Z Z z=>z.elim;refine s5 q fun oa' bS Z z2t=> ?_;clear q;refine e8 z2t fun v z1r hr=> ?_;clear z2t;subst z1r;obtain rfl:=M2 hr;have st:=F.back htb' bS.step;exact⟨rfl,st,inv.gr ok wf st.gr⟩
end
end
end
section
open PySem PySem.W PyProof.Rows
theorem cF {v:Option Value} {s:String} (h:jS v s=true): ∃t,v=some (.str (Str.ofString s) t):=by
 cases v with
 |none=>injection h
 |some v=>cases v with
  |str x t=>exact⟨t,by rw[eq_of_beq (show(x==Str.ofString s)=true from h)]⟩
  |_=>injection h
theorem IU {c:Option CFound} {v:Value} (h:ND c v=true):c=some (.val v):=by
 cases c with
 |none=>injection h
 |some c=>cases c with
  |val u=>rw[eq_of_beq (show(u==v)=true from h)]
  |get _ _ _ _=>injection h
theorem gO (h:Heap): ∀(as:List Addr) (a:Addr) (o:Obj),(as.filterMap fun a=>(h.get? a).map fun o=>(a,o)).lookup a=some o->h.get? a=some o
 |[],_,_,e=>nomatch e
 |b::r,a,o,e=>by
  rw[List.filterMap_cons] at e;cases hb:h.get? b with
  |none=>rw[hb] at e;exact gO h r a o e
  |some ob=>
   rw[hb] at e;have e:((b,ob)::r.filterMap fun a=>(h.get? a).map fun o=>(a,o)).lookup a=some o:=e;rw[List.lookup_cons] at e;cases hab:a==b with
   |true=>rw[hab] at e;rw[eq_of_beq hab,hb];exact e
   |false=>rw[hab] at e;exact gO h r a o e
theorem dJ (h:Heap): ∀(as:List Addr) (a:Addr) (o:Obj),(as.filterMap fun a=>(h.get? a).map fun o=>(a,o)).lookup a=some o->a∈as
 |[],_,_,e=>nomatch e
 |b::r,a,o,e=>by
  rw[List.filterMap_cons] at e;cases hb:h.get? b with
  |none=>rw[hb] at e;exact .tail _ (dJ h r a o e)
  |some ob=>
   rw[hb] at e;have e:((b,ob)::r.filterMap fun a=>(h.get? a).map fun o=>(a,o)).lookup a=some o:=e;rw[List.lookup_cons] at e;cases hab:a==b with
   |true=>rw[eq_of_beq hab];exact .head _
   |false=>rw[hab] at e;exact .tail _ (dJ h r a o e)
theorem IV: ∀a∈([2,52,32,31,51,29,49]:List Addr),¬o4 a:=by unfold o4;decide
theorem y3 {p0 p1 p2 G:Prop} (h:(p0/\p1)/\p2) (k:p0->p1->p2->G):G:=k h.1.1 h.1.2 h.2
theorem y4 {p0 p1 p2 p3 G:Prop} (h:((p0/\p1)/\p2)/\p3) (k:p0->p1->p2->p3->G):G:=k h.1.1.1 h.1.1.2 h.1.2 h.2
theorem y7 {p0 p1 p2 p3 p4 p5 p6 G:Prop} (h:(((((p0/\p1)/\p2)/\p3)/\p4)/\p5)/\p6) (k:p0->p1->p2->p3->p4->p5->p6->G):G:=k h.1.1.1.1.1.1 h.1.1.1.1.1.2 h.1.1.1.1.2 h.1.1.1.2 h.1.1.2 h.1.2 h.2
theorem y8 {p0 p1 p2 p3 p4 p5 p6 p7 G:Prop} (h:((((((p0/\p1)/\p2)/\p3)/\p4)/\p5)/\p6)/\p7) (k:p0->p1->p2->p3->p4->p5->p6->p7->G):G:=k h.1.1.1.1.1.1.1 h.1.1.1.1.1.1.2 h.1.1.1.1.1.2 h.1.1.1.1.2 h.1.1.1.2 h.1.1.2 h.1.2 h.2
theorem y11 {p0 p1 p2 p3 p4 p5 p6 p7 p8 p9 p10 G:Prop} (h:(((((((((p0/\p1)/\p2)/\p3)/\p4)/\p5)/\p6)/\p7)/\p8)/\p9)/\p10) (k:p0->p1->p2->p3->p4->p5->p6->p7->p8->p9->p10->G):G:=k h.1.1.1.1.1.1.1.1.1.1 h.1.1.1.1.1.1.1.1.1.2 h.1.1.1.1.1.1.1.1.2 h.1.1.1.1.1.1.1.2 h.1.1.1.1.1.1.2 h.1.1.1.1.1.2 h.1.1.1.1.2 h.1.1.1.2 h.1.1.2 h.1.2 h.2
theorem QV (s:Shared) (h:WT s=true):RY (s.heap.nsMap mainGlobals) s.heap:=by
 unfold WT at h;simp only[Bool.and_eq_true,Option.isNone_iff_eq_none,beq_iff_eq,List.all_eq_true] at h;refine y7 h fun h1 h2 hc hm ht h9 hk=> ?_;refine y11 hc fun c1 c2 c3 c4 c5 b4 b5 b1 b2 b3 ci=> ?_;refine y8 hm fun m1 m2 m3 m4 m5 m6 m7 m8=> ?_;refine y4 ht fun t1 t2 t3 t4=> ?_;refine y3 hk fun k1 k2 k3=> ?_;exact⟨_,_,_,.of_isNs h1,.of_isNs h2,gO s.heap _,fun a o e=>IV a (dJ _ _ _ _ e),⟨c1,c2,c3,c4,c5,ci⟩,⟨b1,b2,b3,b4,b5⟩,⟨m1,m2,m3,m4,m5,m6,m7,m8⟩,⟨cF t1,cF t2,cF t3,cF t4⟩,
  fun f hf=>h9 f (List.contains_iff_mem.mp hf),k1,IU k2,k3⟩
theorem RY.keeps (mg:Str->Option Value) (h h':Heap) (x:RY mg h) (k: ∀b o,h.get? b=some o->h'.get? b=some o):RY mg h':=by
 refine wR x fun mC mB K x=> ?_;exact⟨mC,mB,K,x.nC.keeps k,x.nB.keeps k,x.kin.keeps k,x.kt,x.c,x.b,x.m,x.t,x.nine,x.k⟩
theorem IW {h:Heap} {a:Addr} {fd:FuncData} (e:(h.get? a).map OP=some (some (.type "function",fd))):EC h a fd:=by
 refine e8 (Option.map_eq_some_iff.mp e) fun o h1 h2=> ?_;refine⟨o,h1,?_⟩;unfold OP at h2;cases hd:o.data with
 |func f=>rw[hd] at h2;refine f8 (Prod.mk.inj (Option.some.inj h2)) fun e1 e2=> ?_;exact⟨by rw[e2],e1⟩
 |_=>rw[hd] at h2;injection h2
theorem fF {h:Heap} {a:Addr} {c:Value} (e:(h.get? a).map wS=some (some (.type "function",c))):X3 h a c:=by
 refine e8 (Option.map_eq_some_iff.mp e) fun o h1 h2=> ?_;unfold wS at h2;cases hd:o.data with
 |func f=>rw[hd] at h2;refine f8 (Prod.mk.inj (Option.some.inj h2)) fun e1 e2=> ?_;exact⟨o,f,h1,hd,e2,e1⟩
 |_=>rw[hd] at h2;injection h2
theorem AL {h:Heap} {a:Addr} {c:Value} (e:(h.get? a).map qN=some (some (some c))):AU h a c:=by
 refine e8 (Option.map_eq_some_iff.mp e) fun o h1 h2=> ?_;unfold qN at h2;cases hd:o.data with
 |fields f=>rw[hd] at h2;exact⟨o,f,h1,hd,Option.some.inj h2⟩
 |_=>rw[hd] at h2;injection h2
theorem UO (w:World) (s:Shared) (e:Yf s=Ya w):GY w s.heap:=by
 unfold Yf Ya at e;simp only[List.map_cons,List.map_nil,Prod.mk.injEq,List.cons.injEq,and_true] at e;refine WO e fun z1n z2n z3n d0 d1 d2 d3=> ?_;clear e;refine SK z1n fun a1 a2 a3 a4 a5 a6 a7 a8 a9 a10=> ?_;clear z1n;refine f8 z2n fun b1 b2=> ?_;clear z2n;refine f8 z3n fun c1 c2=> ?_;clear z3n;exact⟨a1,a2,a3,⟨a4,a5,a6,a7,a8,a9⟩,a10,IW b1,IW b2,AL c1,AL c2,fF d0,fF d1,fF d2,fF d3⟩
theorem GY.keeps (w:World) (h h':Heap) (x:GY w h) (k: ∀b o,h.get? b=some o->h'.get? b=some o):GY w h':=by
 have kf: ∀{a fd},EC h a fd->EC h' a fd:=fun⟨o,e,r⟩=>⟨o,k _ _ e,r⟩;have kc: ∀{a c},X3 h a c->X3 h' a c:=fun⟨o,fd,e,r⟩=>⟨o,fd,k _ _ e,r⟩;have kl: ∀{a c},AU h a c->AU h' a c:=fun⟨o,fd,e,r⟩=>⟨o,fd,k _ _ e,r⟩;refine JW x.t fun t1 t2 t3 t4 t5 t6=> ?_;exact⟨k _ _ x.o52,k _ _ x.o32,k _ _ x.o22,⟨k _ _ t1,k _ _ t2,k _ _ t3,k _ _ t4,k _ _ t5,k _ _ t6⟩,k _ _ x.o55,kf x.f29,kf x.f49,kl x.c28,kl x.c48,kc x.c242,kc x.c263,kc x.c268,kc x.c275⟩
noncomputable def bP:List (Addr×Addr):=[(262,258),(267,265),(274,270)]
theorem R0 {h:Heap} {nm:String} {t l n ref P c:Nat} {x1 x2 x3:Value} {tt:Nat} (e:h.get? c=some (wT nm t l n ref P x1 x2 x3 tt)) (hne:c≠P):CodeHd h c P:=
 ⟨_,_,_,_,_,_,_,_,_,e,rfl,rfl,rfl,rfl,rfl,rfl,rfl,rfl,hne⟩
section
variable {h:Heap} {mg mb:Str->Option Value} (Y:GY w h)
include Y
theorem jR:TabsAt bP h:=fun q hq=>by
 refine JW Y.t fun t1 t2 t3 t4 t5 t6=> ?_;rcases hq with _|⟨_,_|⟨_,_|⟨_,hq⟩⟩⟩
 ·exact⟨R0 t1 (by decide),t2⟩
 ·exact⟨R0 t3 (by decide),t4⟩
 ·exact⟨R0 t5 (by decide),t6⟩
 ·cases hq
theorem MS:o3 h:=fun q hq=>by
 refine JW Y.t fun t1 t2 t3 t4 t5 t6=> ?_;have em: ∀(c P:Addr) (q:Str),CodeHd h c P->h.get? P=some (tabObj #[])->NS h c P q:=fun c P q a b=>⟨a,#[],b,by unfold TriplesOk;trivial,fun pos cv e=>nomatch e⟩;rcases hq with _|⟨_,_|⟨_,_|⟨_,hq⟩⟩⟩
 ·exact em _ _ _ (R0 t1 (by decide)) t2
 ·exact em _ _ _ (R0 t3 (by decide)) t4
 ·exact em _ _ _ (R0 t5 (by decide)) t6
 ·cases hq
omit Y
noncomputable abbrev dP (h:Heap) (mg mb:Str->Option Value):Wd:=⟨ghostOf h bP,mg,mb⟩
theorem gk {b:Addr} {o:Obj} (e:h.get? b=some o) (hb: ¬o4 b):(ghostOf h bP).get? b=some o:=ghost_ne e fun q=>hb (by
 rcases q with _|⟨_,_|⟨_,_|⟨_,q⟩⟩⟩
 ·exact .inl rfl
 ·exact .inr (.inl rfl)
 ·exact .inr (.inr rfl)
 ·cases q)
theorem AM {b:Addr} {o:Obj} (e:(ghostOf h bP).get? b=some o):h.get? b=some o:=of_hideAll _ e
theorem QW {a:Addr} (t:o4 a):(ghostOf h bP).get? a=none:=hideAll_none _ (by
 rcases t with rfl|rfl|rfl
 ·exact .head _
 ·exact .tail _ (.head _)
 ·exact .tail _ (.tail _ (.head _)))
variable {q:Program} {loose:List Str} {mean:ExcName->Option Value} (T:Top q loose mean mg mb h)
include Y T
theorem iI:(dP h mg mb).Ok:=by
 have hT:=jR Y;refine⟨ghost_ns hT T.g,ghost_ns hT T.b,e8 (T.nolimit) fun mc a r=>⟨mc,ghost_ns hT a,r⟩,T.builtins,fun P hP=> ?_⟩;refine OM T.bmain fun bm ob b1 b2 b3 b4 b5 b6=> ?_;have e:=ghost_get hT b3 fun q=>by rw[q] at b4;injection b4
 refine⟨bm,ob,b1,b2,fun z=> ?_,fun z=> ?_,e,b4,b5,b6⟩
 ·refine nK T.g fun o es ep g1 g2 Z=> ?_;rw[<-z,b3] at g1;rw[Option.some.inj g1,g2] at b6;injection b6
 ·rw[z,QW hP] at e;injection e
end
section
theorem iB1:iB 1=zR:=by kernel_rfl
theorem iB2:iB 2=zS:=by kernel_rfl
theorem iP1: ∃p p',iP 1=⟨[],[⟨"self",none,p⟩,⟨"reason",none,p'⟩],none,[],[],none,[.Constant (.str "") 0 ⟨4,30,4,32⟩]⟩:=by
 refine⟨⟨4,17,4,21⟩,⟨4,23,4,29⟩,?_⟩;kernel_rfl
theorem iP2: ∃p p' p'',iP 2=⟨[],[⟨"self",none,p⟩,⟨"line",none,p'⟩,⟨"reason",none,p''⟩],none,[],[],none,[]⟩:=⟨⟨9,17,9,21⟩,⟨9,23,9,27⟩,⟨9,29,9,35⟩,by kernel_rfl⟩
end
section
variable {h:Heap} {mg mb:Str->Option Value} {mC mB:Str->Option Value} {K:Frag} (Y:GY w h) (X:GX mg h mC mB K)
theorem notab {a:Addr} (h1:a≠258) (h2:a≠265) (h3:a≠270): ¬o4 a:=fun t=>by
 rcases t with e|e|e
 ·exact h1 e
 ·exact h2 e
 ·exact h3 e
include Y in
theorem IX {c:Addr} {v:Value} {q:Str} {t:Tok} (x:AU h c v) (hv:v=.str q t) (hn: ¬o4 c):(ghostOf h bP).CodeRec (.ref c) q:=
 v9 (x) fun o vs e d z=>⟨c,o,vs,t,rfl,gk e hn,d,hv▸z⟩
theorem ZB:(["self","line","reason"]:List Str).all (fun x=>(iS 2).names.lookup x==some .local)=true:=by kernel_rfl
theorem ZC:(["self","reason"]:List Str).all (fun x=>(iS 1).names.lookup x==some .local)=true:=by kernel_rfl
theorem ZD:((iS 2).names.lookup ("BoardError":Str)==some .globalImplicit &&(iS 2).names.all (fun x=>x.2 !=.cell) && !(iS 2).isCoroutine && !(iS 2).isGenerator &&(iS 2).kind==.function)=true:=by kernel_rfl
theorem ZE:((iS 1).names.lookup ("ValueError":Str)==some .globalImplicit &&(iS 1).names.all (fun x=>x.2 !=.cell) && !(iS 1).isCoroutine && !(iS 1).isGenerator &&(iS 1).kind==.function)=true:=by kernel_rfl
include Y in
theorem IY:lG (ghostOf h bP) 3 49 ["self","line","reason"] "BoardError" zS (JT "BadText.__init__" 2 .none 48):=by
 refine s5 Y.f49 fun o e d c=> ?_;have b:=ZD;simp only[Bool.and_eq_true,beq_iff_eq,List.all_eq_true,bne_iff_ne,Bool.not_eq_true'] at b;refine f8 b fun z2n b5=> ?_;clear b;obtain⟨⟨⟨b1,b2⟩,b3⟩,b4⟩:=z2n;refine⟨⟨o,gk e (notab (by decide) (by decide) (by decide)),d,c⟩,IX Y Y.c48 rfl (notab (by decide) (by decide) (by decide)),congrArg _ iB2,fun s us Z hl=>.of_eq ?_,rfl,rfl,fun x hx=>beq_iff_eq.mp (List.all_eq_true.mp ZB x hx),b1,b2,b3,b4,b5⟩;refine wR iP2 fun p p' p'' hp=> ?_;rcases us with _|⟨u1,_|⟨u2,_|⟨u3,_|_⟩⟩⟩<;>try cases hl
 unfold JT;rw[hp];rfl
include Y in
theorem IZ:lG (ghostOf h bP) 3 29 ["self","reason"] "ValueError" zR (JT "BoardError.__init__" 1 (.ref 22) 28):=by
 refine s5 Y.f29 fun o e d c=> ?_;have b:=ZE;simp only[Bool.and_eq_true,beq_iff_eq,List.all_eq_true,bne_iff_ne,Bool.not_eq_true'] at b;refine f8 b fun z1n b5=> ?_;clear b;obtain⟨⟨⟨b1,b2⟩,b3⟩,b4⟩:=z1n;refine⟨⟨o,gk e (notab (by decide) (by decide) (by decide)),d,c⟩,IX Y Y.c28 rfl (notab (by decide) (by decide) (by decide)),congrArg _ iB1,fun s us k hl=> ?_,rfl,rfl,fun x hx=>beq_iff_eq.mp (List.all_eq_true.mp ZC x hx),b1,b2,b3,b4,b5⟩;refine C1 iP1 fun p p' hp=> ?_;rcases us with _|⟨u1,_|⟨u2,_|_⟩⟩<;>try cases hl
 have e22:=k _ _ (gk Y.o22 (notab (by decide) (by decide) (by decide)));unfold JT;rw[hp];exact .of_defaults (T:=22) rfl e22 rfl rfl rfl
end
end
section
open PySem PySem.W PyProof.Rows PySem.Calls
theorem JA:recsOf qv=oQ.map K2:=by kernel_rfl
noncomputable def gP (P:Arguments):Option (List Arg):=
 if (P.posonlyargs.isEmpty &&P.vararg.isNone &&P.kwonlyargs.isEmpty &&P.kw_defaults.isEmpty &&P.kwarg.isNone &&P.defaults.isEmpty)=true then some P.args else none
theorem qK {P:Arguments} {as:List Arg} (h:gP P=some as):P=⟨[],as,none,[],[],none,[]⟩:=by
 unfold gP at h;by_cases c:(P.posonlyargs.isEmpty &&P.vararg.isNone &&P.kwonlyargs.isEmpty &&P.kw_defaults.isEmpty &&P.kwarg.isNone &&P.defaults.isEmpty)=true
 ·rw[if_pos c] at h;simp only[Bool.and_eq_true,List.isEmpty_iff,Option.isNone_iff_eq_none] at c;obtain⟨a,b,d,e,f,k,m⟩:=P;refine f8 c fun c c6=> ?_;refine f8 c fun c c5=> ?_;refine f8 c fun c c4=> ?_;refine f8 c fun c c3=> ?_;refine f8 c fun c1 c2=> ?_;clear c;rw[show a=[] from c1,show d=none from c2,show e=[] from c3,show f=[] from c4,show k=none from c5,show m=[] from c6,show b=as from Option.some.inj h]
 ·rw[if_neg c] at h;exact no h
theorem y9 {p0 p1 p2 p3 p4 p5 p6 p7 p8 G:Prop} (h:(((((((p0/\p1)/\p2)/\p3)/\p4)/\p5)/\p6)/\p7)/\p8) (k:p0->p1->p2->p3->p4->p5->p6->p7->p8->G):G:=k h.1.1.1.1.1.1.1.1 h.1.1.1.1.1.1.1.2 h.1.1.1.1.1.1.2 h.1.1.1.1.1.2 h.1.1.1.1.2 h.1.1.1.2 h.1.1.2 h.1.2 h.2
noncomputable def MT (i:Nat) (f:Str) (ps:List Str):Bool:=
 let d:=K2 i;let ns:=d.scope.names
 d.name==f &&(match gP d.params with|some as=>as.map (·.arg)==ps|none=>false) &&decide ps.Nodup &&ps.all (fun x=>ns.lookup x==some .local||ns.lookup x==some .cell) &&
 ns.all (fun p=>p.2 !=.cell||ns.lookup p.1==some .cell) &&ns.all (fun p=>p.2 !=.free) && !d.scope.isCoroutine && !d.scope.isGenerator &&d.scope.kind==.function
noncomputable def L8 (ps:List Str):Prop:= ∀(as:List Arg) (us:List Value) (n:Str) (b:List Stmt) (sc:Scope) (pm cd doc:Value),as.map (·.arg)=ps->us.length=ps.length->
 bindArgs (docDef n ⟨[],as,none,[],[],none,[]⟩ b sc pm cd doc) ⟨us,[]⟩=pure (ps.zip us)
theorem bp0:L8 []:=by
 intro as us n b sc pm cd doc h hl;cases as with
 |cons _ _=>injection h
 |nil=>cases us with
  |cons _ _=>cases hl
  |nil=>rfl
theorem DJ {as:List Arg} {a:Str} {r:List Str} (h:as.map (·.arg)=a::r): ∃n q t,as=⟨a,n,q⟩::t/\t.map (·.arg)=r:=by
 cases as with
 |nil=>injection h
 |cons x t=>obtain⟨x1,x2,x3⟩:=x;injection h with h1 h2;exact⟨x2,x3,t,by rw[<-h1],h2⟩
theorem DL {us:List Value} {n:Nat} (h:us.length=n+1): ∃u t,us=u::t/\t.length=n:=by
 cases us with
 |nil=>injection h
 |cons x t=>injection h with h;exact⟨x,t,rfl,h⟩
theorem VW {a:Str} (H: ∀(n:Str) (b:List Stmt) (sc:Scope) (pm cd doc:Value) (n0:Option Expr) (q0:Pos) (u0:Value),bindArgs (docDef n ⟨[],[⟨a,n0,q0⟩],none,[],[],none,[]⟩ b sc pm cd doc) ⟨[u0],[]⟩=pure [(a,u0)]):L8 [a]:=by
 intro as us n b sc pm cd doc h0 l0;refine F6 (DJ h0) fun n0 q0 as0 e0 h1=> ?_;refine r0 (DL l0) fun u0 us0 d0 l1=> ?_;rw[e0,List.map_eq_nil_iff.mp h1,d0,List.length_eq_zero_iff.mp l1];exact H _ _ _ _ _ _ _ _ _
theorem OB {a a2:Str} (H: ∀(n:Str) (b:List Stmt) (sc:Scope) (pm cd doc:Value) (n0:Option Expr) (q0:Pos) (u0:Value) (n1:Option Expr) (q1:Pos) (u1:Value),bindArgs (docDef n ⟨[],[⟨a,n0,q0⟩,⟨a2,n1,q1⟩],none,[],[],none,[]⟩ b sc pm cd doc) ⟨[u0,u1],[]⟩=pure [(a,u0),(a2,u1)]):L8 [a,a2]:=by
 intro as us n b sc pm cd doc h0 l0;refine F6 (DJ h0) fun n0 q0 as0 e0 h1=> ?_;refine F6 (DJ h1) fun n1 q1 as1 e1 h2=> ?_;refine r0 (DL l0) fun u0 us0 d0 l1=> ?_;refine r0 (DL l1) fun u1 us1 d1 l2=> ?_;rw[e0,e1,List.map_eq_nil_iff.mp h2,d0,d1,List.length_eq_zero_iff.mp l2];exact H _ _ _ _ _ _ _ _ _ _ _ _
theorem bp3 {a a2 a3:Str} (H: ∀(n:Str) (b:List Stmt) (sc:Scope) (pm cd doc:Value) (n0:Option Expr) (q0:Pos) (u0:Value) (n1:Option Expr) (q1:Pos) (u1:Value) (n2:Option Expr) (q2:Pos) (u2:Value),bindArgs (docDef n ⟨[],[⟨a,n0,q0⟩,⟨a2,n1,q1⟩,⟨a3,n2,q2⟩],none,[],[],none,[]⟩ b sc pm cd doc) ⟨[u0,u1,u2],[]⟩=pure [(a,u0),(a2,u1),(a3,u2)]):L8 [a,a2,a3]:=by
 intro as us n b sc pm cd doc h0 l0;refine F6 (DJ h0) fun n0 q0 as0 e0 h1=> ?_;refine F6 (DJ h1) fun n1 q1 as1 e1 h2=> ?_;refine F6 (DJ h2) fun n2 q2 as2 e2 h3=> ?_;refine r0 (DL l0) fun u0 us0 d0 l1=> ?_;refine r0 (DL l1) fun u1 us1 d1 l2=> ?_;refine r0 (DL l2) fun u2 us2 d2 l3=> ?_;rw[e0,e1,e2,List.map_eq_nil_iff.mp h3,d0,d1,d2,List.length_eq_zero_iff.mp l3];exact H _ _ _ _ _ _ _ _ _ _ _ _ _ _ _
theorem O4:L8 ["text"]:=VW fun Z Z Z Z Z Z Z Z Z=>rfl
theorem qL:L8 ["script"]:=VW fun Z Z Z Z Z Z Z Z Z=>rfl
theorem DM:L8 ["letter"]:=VW fun Z Z Z Z Z Z Z Z Z=>rfl
theorem MU:L8 ["call"]:=VW fun Z Z Z Z Z Z Z Z Z=>rfl
theorem C4:L8 ["text","line"]:=OB fun Z Z Z Z Z Z Z Z Z Z Z Z=>rfl
theorem oH:L8 ["text","place"]:=OB fun Z Z Z Z Z Z Z Z Z Z Z Z=>rfl
theorem iZ:L8 ["figures","line"]:=OB fun Z Z Z Z Z Z Z Z Z Z Z Z=>rfl
theorem fG:L8 ["atom","line"]:=OB fun Z Z Z Z Z Z Z Z Z Z Z Z=>rfl
theorem iJ:L8 ["box","many"]:=OB fun Z Z Z Z Z Z Z Z Z Z Z Z=>rfl
theorem sL:L8 ["text","stop"]:=OB fun Z Z Z Z Z Z Z Z Z Z Z Z=>rfl
theorem oJ:L8 ["found","line"]:=OB fun Z Z Z Z Z Z Z Z Z Z Z Z=>rfl
theorem vW:L8 ["told","due"]:=OB fun Z Z Z Z Z Z Z Z Z Z Z Z=>rfl
theorem JB:L8 ["text","place","line"]:=bp3 fun Z Z Z Z Z Z Z Z Z Z Z Z Z Z Z=>rfl
section
variable {h:Heap} {mg mb:Str->Option Value} {mC mB:Str->Option Value} {K:Frag} (Y:GY w h) (X:GX mg h mC mB K) {loose:List Str} {mean:ExcName->Option Value} (T:Top qv loose mean mg mb h)
include Y X T
theorem UP:CE (dP h mg mb) K mC mB mg (JT "BadText.__init__" 2 .none 48) (JT "BoardError.__init__" 1 (.ref 22) 28):=by
 have hT:=jR Y;refine JW X.c fun c1 c2 c3 Z Z ci=> ?_;refine OL X.b fun b1 b2 b3 Z Z=> ?_;refine OL X.m fun m1 m2 Z m4 Z=> ?_;exact⟨⟨⟨⟨"BadText","BadText",[.ref 32],[],[],none,none,some (.ref 36),none,some (.str "BadText" 217),some (.str "BadText" 225),some (.bool true)⟩,gk Y.o52 (notab (by decide) (by decide) (by decide))⟩,
   ⟨_,_,gk Y.o32 (notab (by decide) (by decide) (by decide)),rfl,rfl⟩,ghost_ns hT X.nC,ghost_ns hT X.nB⟩,
  fun a o e=>gk (X.kin a o e) (X.kt a o e),ghost_ns hT T.g,m1,m4,m2,c1,c2,c3,b1,b2,b3,ci,X.k.1,X.k.2.1,X.k.2.2,IY Y,IZ Y⟩
omit X in
theorem JC {i:Nat} (hi:i∈oQ): ∃a o pm code doc,mg (K2 i).name=some (.ref a)/\(ghostOf h bP).get? a=some o/\o.data=.func (docDef (K2 i).name (K2 i).params (K2 i).body (K2 i).scope pm code doc)/\(ghostOf h bP).CodeRec code (K2 i).name:=by
 have hT:=jR Y;refine AT (T.fn (K2 i) (JA▸List.mem_map_of_mem hi)) fun a o pm code doc h1 h2 h3 z5t=> ?_;refine sX z5t fun c oc vs t e1 e2 z4n=> ?_;clear z5t;refine f8 z4n fun e3 e4=> ?_;clear z4n;refine⟨a,o,pm,code,doc,h1,ghost_get hT h2 (fun q=>by rw[q] at h3;injection h3),h3,c,oc,vs,t,e1,ghost_get hT e2 (fun q=> ?_),e3,e4⟩;rw[q] at e3;injection e3 with e3;subst e3;injection e4
omit X in
theorem JD {i:Nat} {f:Str} {ps:List Str} {body:List Stmt} {sc:Scope} (hi:i∈oQ) (hbp:L8 ps) (hc:MT i f ps=true) (hb:(K2 i).body=body) (hs:(K2 i).scope=sc)
  (told:sc.names.lookup ("_law_told":Str)=some .globalImplicit-> ∃a c,mg f=some (.ref a)/\X3 h a (.ref c)/\ ∃P,(c,P,f++(".<locals>.":Str)++("<lambda>":Str))∈E9):
  ∃a o fd,Z9 (dP h mg mb) f ps body a o fd/\fd.scope=sc:=by
 refine AT (JC Y T hi) fun a o pm code doc h1 h2 h3 h4=> ?_;unfold MT at hc;simp only[Bool.and_eq_true] at hc;refine y9 hc fun hn hp hnd hpar hcell hfree hco hgen hkind=> ?_;clear hc;rw[eq_of_beq hn] at h1 h3 h4;cases hP:gP (K2 i).params with
 |none=>rw[hP] at hp;injection hp
 |some as=>
  rw[hP] at hp;have hps:=eq_of_beq hp;rw[qK hP] at h3;refine⟨a,o,_,⟨h1,h2,h3,h4,congrArg _ hb,fun us hl=> ?_,rfl,rfl,rfl,of_decide_eq_true hnd,fun x hx=> ?_,fun x hx=> ?_,fun x hx=> ?_,Bool.not_eq_true' _ |>.mp hco,Bool.not_eq_true' _ |>.mp hgen,eq_of_beq hkind,fun ht=> ?_⟩,hs⟩
  ·exact hbp as us _ _ _ _ _ _ hps hl
  ·exact(Bool.or_eq_true_iff.mp (List.all_eq_true.mp hpar x hx)).imp eq_of_beq eq_of_beq
  ·rcases Bool.or_eq_true_iff.mp (List.all_eq_true.mp hcell _ hx) with z|z
   ·injection z
   ·exact eq_of_beq z
  ·obtain⟨p,hm,e⟩: ∃p∈(K2 i).scope.names,p.2=.free:=⟨_,mem_of_lookup hx,rfl⟩;have:=List.all_eq_true.mp hfree _ hm;rw[e] at this;injection this
  ·refine v9 (told (hs▸ht)) fun a' c e1 z1n z2t=> ?_;refine d6 z2t fun P hm=> ?_;clear z2t;refine cR z1n fun o' fd' e2 e3 e4 Z=> ?_;clear z1n;obtain rfl:=Value.ref.inj (Option.some.inj (h1.symm.trans e1));obtain rfl:=Option.some.inj (e2.symm.trans (AM h2));rw[h3] at e3;injection e3 with e3;subst e3;exact⟨_,hm,e4,rfl⟩
end
end
section
open PySem PySem.W PyProof.Rows
section
variable {W:Wd} {k k':Nat} {tb:Prop} {g:G} {f:Str} {F:List V->R V}
theorem dZ.more (h:k<=k') (x:dZ W k tb f F):dZ W k' tb f F:=
 X1 (x) fun a o fd h1 h2 h3 q=>⟨a,o,fd,h1,h2,h3,fun C X s us vs ok=>q C X s us vs (ok.less h)⟩
theorem dZ.of (wok:W.Ok) {ps:List Str} {body:List Stmt} {sc:Scope} (D: ∃a o fd,Z9 W f ps body a o fd/\fd.scope=sc) (hS: ∀n,xR W n) (hg:C6 W k tb g) (opn:Option Str)
  (run: ∀vs,F vs≠.stuck->g8 g opn sc ps body vs (F vs)):dZ W (k+1) tb f F:=by
 obtain⟨a,o,fd,D,rfl⟩:=D;refine⟨a,o,fd,D.name,D.obj,D.data,fun C X s us vs ok wf ht hs hx hl i r=> ?_⟩;by_cases hn:F vs=.stuck
 ·rw[hn];trivial
 refine d6 (run vs hn) fun N hN=> ?_;have e:=hN 0;rw[Nat.zero_add] at e;obtain⟨a',o',fd',h1,_,_,q⟩:=GM wok D hS hg opn N;obtain rfl:=Value.ref.inj (Option.some.inj (D.name.symm.trans h1));rw[<-e];exact q C X s us vs ok wf ht hs hx hl i r
noncomputable abbrev Tb:=List (Str×(List V->R V))
noncomputable def DV (fs low:Tb) (lam:Bool):G:=⟨fun x=>rQ.lookup x,fun f=>fs.lookup f,fun f=>low.lookup f,lam⟩
variable (W k tb) in
noncomputable def S9 (fs:Tb):Prop:= ∀p∈fs,dZ W k tb p.1 p.2
noncomputable def noB (fs:Tb):Bool:=m9.all fun f=>(fs.map (·.1)).all (f != ·)
theorem QX {fs:Tb} (h:noB fs=true) (f:Str) (hf:m9.contains f=true):fs.lookup f=none:=by
 have:=List.all_eq_true.mp h f (List.contains_iff_mem.mp hf);rw[List.lookup_eq_none_iff];intro p hp;have:=List.all_eq_true.mp this p.1 (List.mem_map_of_mem hp);exact this
theorem AN {fs low:Tb} {lam:Bool} (h:noB fs=true):N7 (DV fs low lam):=⟨rfl,QX h⟩
variable (W) in
noncomputable def sM:Prop:=(∀x v,rQ.lookup x=some v->v.open? =false/\ ∃u,W.mg x=some u/\ ∀(h:Heap) (X:Xs),(∀b o,W.G.get? b=some o->h.get? b=some o)->(∀a,X a->W.G.get? a=none)->Rp h X u v)/\ ∀f,m9.contains f=true->W.mg f=none
theorem QY {fs:Tb} (c:sM W) (t:S9 W k tb fs):C6 W k tb (DV fs [] false):=
 ⟨c.1,fun f F e=>t _ (mem_of_lookup e),fun f hf Z=>c.2 f hf,fun z=>nomatch z⟩
theorem QZ {fs low:Tb} (c:sM W) (t:S9 W k tb fs) (ht:tb) (hk:k'+2<=k) (l:S9 W k' False low):C6 W k tb (DV fs low true):=
 ⟨c.1,fun f F e=>t _ (mem_of_lookup e),fun f hf Z=>c.2 f hf,fun Z=>⟨ht,⟨k',hk,fun f F e=>l _ (mem_of_lookup e)⟩,fun f hf Z=>c.2 f hf⟩⟩
theorem S9.more {fs:Tb} (h:k<=k') (t:S9 W k tb fs):S9 W k' tb fs:=fun p hp=>(t p hp).more h
theorem S9.nil:S9 W k tb []:=fun Z h=>nomatch h
theorem S9.cons {fs:Tb} (a:dZ W k tb f F) (t:S9 W k tb fs):S9 W k tb ((f,F)::fs):=fun p hp=>by
 rcases List.mem_cons.mp hp with rfl|hp
 ·exact a
 ·exact t p hp
theorem S9.app {fs fs':Tb} (a:S9 W k tb fs) (t:S9 W k tb fs'):S9 W k tb (fs++fs'):=fun p hp=>(List.mem_append.mp hp).elim (a p) (t p)
theorem sN {h:Heap} {X:Xs} {S:Str} {t:b9} {tk:Tok} (e:S.cps.toList=t):Rp h X (.str S tk) (.str t):=by subst e;exact .str _ _
theorem vX (w:World) (x:b9): ∀L:List (String×Nat×Int),match (L.map fun e=>((Str.ofString e.1).cps.toList,e.2.2)).lookup x with
   |some i=> ∃t,((L.map fun e=>jT w e.1 e.2.1 e.2.2).find? fun e=>Value.isStrOf ⟨x.toArray⟩ e.key).map (·.val)=some (.int i t)
   |none=>((L.map fun e=>jT w e.1 e.2.1 e.2.2).find? fun e=>Value.isStrOf ⟨x.toArray⟩ e.key).map (·.val)=none
 |[]=>rfl
 |(k,t,v)::L=>by
  have ih:=vX w x L;rw[List.map_cons,List.map_cons,List.lookup_cons,List.find?_cons];have:Value.isStrOf ⟨x.toArray⟩ (jT w k t v).key=(x==(Str.ofString k).cps.toList):=by
   show(Str.ofString k==⟨x.toArray⟩)=_;rw[Bool.eq_iff_iff,beq_iff_eq,beq_iff_eq];exact⟨fun e=>by rw[e],fun e=>by rw[e]⟩
  rw[this];cases x==(Str.ofString k).cps.toList with
  |true=>exact⟨_,rfl⟩
  |false=>exact ih
end
section
variable {h:Heap} {mg mb:Str->Option Value} {mC mB:Str->Option Value} {K:Frag} (Y:GY w h) (X:GX mg h mC mB K) {loose:List Str} {mean:ExcName->Option Value} (T:Top qv loose mean mg mb h)
noncomputable def RA:List (String×Nat×Int):=[("n",245,10),("t",247,9),("r",249,13),("\\",251,92),("'",253,39),("\"",255,34)]
include Y X
theorem G2:sM (dP h mg mb):=by
 refine Q1 X.t fun z3n z4n z5n z6n=> ?_;obtain⟨t1,h1⟩:=z3n;obtain⟨t2,h2⟩:=z4n;obtain⟨t3,h3⟩:=z5n;obtain⟨t4,h4⟩:=z6n;refine⟨fun x v e=> ?_,X.nine⟩;have e:=mem_of_lookup e;rcases List.mem_cons.mp e with e|e
 ·injection e with e e2;subst e;subst e2;refine⟨rfl,_,X.m.2.2.1,fun h' X' k hx=> ?_⟩;have e55:=k _ _ (gk Y.o55 (notab (by decide) (by decide) (by decide)));refine .dict (f:=fun k=>findBy Value.isStrOf ((RA.map fun e=>jT w e.1 e.2.1 e.2.2).toArray) k) ⟨_,_,6,e55,⟨rfl,rfl,rfl⟩,rfl,?_,fun Z=>rfl⟩ (by decide) (fun z=> ?_) fun x=> ?_
  ·have: ∀L:List (String×Nat×Int),KeysOf (strKind prog w) (L.map fun e=>jT w e.1 e.2.1 e.2.2).toArray:=fun L e he=>by
    refine e8 (List.mem_map.mp (List.mem_toArray.mp he)) fun z1n Z z2r=> ?_;obtain⟨k,t,v⟩:=z1n;subst z2r;exact⟨Str.ofString k,beq_self_eq_true _,rfl⟩
   exact this RA
  ·have:=hx _ z;rw[gk Y.o55 (notab (by decide) (by decide) (by decide))] at this;injection this
  ·have:=vX w x RA;unfold findBy;rw[List.find?_toArray];exact this
 rcases List.mem_cons.mp e with e|e
 ·injection e with e e2;subst e;subst e2;exact⟨rfl,_,h1,fun Z Z Z Z=>sN rfl⟩
 rcases List.mem_cons.mp e with e|e
 ·injection e with e e2;subst e;subst e2;exact⟨rfl,_,h2,fun Z Z Z Z=>sN rfl⟩
 rcases List.mem_cons.mp e with e|e
 ·injection e with e e2;subst e;subst e2;exact⟨rfl,_,h3,fun Z Z Z Z=>sN (by decide)⟩
 rcases List.mem_cons.mp e with e|e
 ·injection e with e e2;subst e;subst e2;exact⟨rfl,_,h4,fun Z Z Z Z=>sN rfl⟩
 ·cases e
end
end
section
open PySem PySem.W PyProof.Rows PySem.Calls
noncomputable def T1:Tb:=[("check_signs",o8),("quoted_end",t9),("octal_end",H8),("octal_of",K7),("whole_of",y0),("is_name",E2),("is_local",H7),("_law_parts",A8),("_law_trimmed",C8),("_law_number",A5),("_law_sort",v5),("_law_due",L7),("_law_is",S5)]
noncomputable def T2:Tb:=[("bare",gD),("parted",W5),("octets_in",E7),("atom_end",K8),("_law_bare",S3),("_law_operands",I0),("_law_octets",F4),("_law_named",I1),("_law_looked",F3),("_law_atoms",P0)]
noncomputable def T3:Tb:=[("atoms_of",H9),("plain_value",A7)]
noncomputable def T4:Tb:=[("names_place",G1)]
noncomputable def JE:Tb:=T4++(T3++(T2++T1))
section
variable {h:Heap} {mg mb:Str->Option Value} {mC mB:Str->Option Value} {K:Frag} (Y:GY w h) (X:GX mg h mC mB K) {loose:List Str} {mean:ExcName->Option Value} (T:Top qv loose mean mg mb h)
noncomputable def s7 (i:Nat) (f:Str) (ps:List Str) (D:Fd):Prop:=i∈oQ/\MT i f ps=true/\(K2 i).body=D.body/\(K2 i).scope=D.sc/\D.sc.names.lookup ("_law_told":Str)=none
include Y T in
theorem i9 {i:Nat} {f:Str} {ps:List Str} {D:Fd} (p:s7 i f ps D) (b:L8 ps): ∃a o fd,Z9 (dP h mg mb) f ps D.body a o fd/\fd.scope=D.sc:=
 JD Y T p.1 b p.2.1 p.2.2.1 p.2.2.2.1 fun e=>by rw[p.2.2.2.2] at e;injection e
theorem mY:s7 10 "check_signs" ["text","line"] r6:=⟨by decide,by kernel_rfl,by kernel_rfl,by kernel_rfl,by kernel_rfl⟩
theorem oK:s7 11 "quoted_end" ["text","place","line"] E6:=⟨by decide,by kernel_rfl,by kernel_rfl,by kernel_rfl,by kernel_rfl⟩
theorem sO:s7 15 "octal_end" ["text","place"] F2:=⟨by decide,by kernel_rfl,by kernel_rfl,by kernel_rfl,by kernel_rfl⟩
theorem vY:s7 16 "octal_of" ["figures","line"] D8:=⟨by decide,by kernel_rfl,by kernel_rfl,by kernel_rfl,by kernel_rfl⟩
theorem vZ:s7 17 "whole_of" ["text","line"] j3:=⟨by decide,by kernel_rfl,by kernel_rfl,by kernel_rfl,by kernel_rfl⟩
theorem yO:s7 18 "is_name" ["text"] lJ:=⟨by decide,by kernel_rfl,by kernel_rfl,by kernel_rfl,by kernel_rfl⟩
theorem wA:s7 19 "is_local" ["text"] fZ:=⟨by decide,by kernel_rfl,by kernel_rfl,by kernel_rfl,by kernel_rfl⟩
theorem sP:s7 29 "_law_parts" ["text","stop"] o0:=⟨by decide,by kernel_rfl,by kernel_rfl,by kernel_rfl,by kernel_rfl⟩
theorem mZ:s7 30 "_law_trimmed" ["text"] H6:=⟨by decide,by kernel_rfl,by kernel_rfl,by kernel_rfl,by kernel_rfl⟩
theorem oM:s7 33 "_law_number" ["text"] j5:=⟨by decide,by kernel_rfl,by kernel_rfl,by kernel_rfl,by kernel_rfl⟩
theorem wB:s7 35 "_law_sort" ["letter"] lK:=⟨by decide,by kernel_rfl,by kernel_rfl,by kernel_rfl,by kernel_rfl⟩
theorem yP:s7 40 "_law_due" ["found","line"] HA:=⟨by decide,by kernel_rfl,by kernel_rfl,by kernel_rfl,by kernel_rfl⟩
theorem DN:s7 41 "_law_is" ["told","due"] XT:=⟨by decide,by kernel_rfl,by kernel_rfl,by kernel_rfl,by kernel_rfl⟩
theorem MV:s7 12 "bare" ["text","line"] O8:=⟨by decide,by kernel_rfl,by kernel_rfl,by kernel_rfl,by kernel_rfl⟩
theorem DO:s7 13 "parted" ["text","line"] n9:=⟨by decide,by kernel_rfl,by kernel_rfl,by kernel_rfl,by kernel_rfl⟩
theorem sQ:s7 14 "octets_in" ["text","line"] s6:=⟨by decide,by kernel_rfl,by kernel_rfl,by kernel_rfl,by kernel_rfl⟩
theorem wC:s7 20 "atom_end" ["text","place","line"] D9:=⟨by decide,by kernel_rfl,by kernel_rfl,by kernel_rfl,by kernel_rfl⟩
theorem wD:s7 31 "_law_bare" ["text"] GZ:=⟨by decide,by kernel_rfl,by kernel_rfl,by kernel_rfl,by kernel_rfl⟩
theorem jA:s7 32 "_law_operands" ["text"] B0:=⟨by decide,by kernel_rfl,by kernel_rfl,by kernel_rfl,by kernel_rfl⟩
theorem oN:s7 34 "_law_octets" ["text"] l8:=⟨by decide,by kernel_rfl,by kernel_rfl,by kernel_rfl,by kernel_rfl⟩
theorem sR:s7 36 "_law_named" ["text"] dB:=⟨by decide,by kernel_rfl,by kernel_rfl,by kernel_rfl,by kernel_rfl⟩
theorem oO:s7 37 "_law_looked" ["text"] rP:=⟨by decide,by kernel_rfl,by kernel_rfl,by kernel_rfl,by kernel_rfl⟩
theorem sS:s7 38 "_law_atoms" ["text"] v3:=⟨by decide,by kernel_rfl,by kernel_rfl,by kernel_rfl,by kernel_rfl⟩
theorem wE:s7 21 "atoms_of" ["text","line"] v2:=⟨by decide,by kernel_rfl,by kernel_rfl,by kernel_rfl,by kernel_rfl⟩
theorem nA:s7 23 "plain_value" ["atom","line"] M5:=⟨by decide,by kernel_rfl,by kernel_rfl,by kernel_rfl,by kernel_rfl⟩
theorem nD:s7 22 "names_place" ["text","line"] l9:=⟨by decide,by kernel_rfl,by kernel_rfl,by kernel_rfl,by kernel_rfl⟩
variable {tb:Prop} (hS: ∀n,xR (dP h mg mb) n)
include Y X T hS
theorem VX:S9 (dP h mg mb) 1 tb T1:=by
 have wok:=iI Y T;have hg:=QY (W:=dP h mg mb) (tb:=tb) (k:=0) (G2 Y X) (S9.nil);have hb:N7 (DV ([]) [] false):=AN (by kernel_rfl);unfold T1;refine .cons (.of wok (i9 Y T mY C4) hS hg none fun vs hn=>iV (by kernel_rfl) vs hn) ?_;refine .cons (.of wok (i9 Y T oK JB) hS hg none fun vs hn=>lQ (by kernel_rfl) vs hn) ?_;refine .cons (.of wok (i9 Y T sO oH) hS hg none fun vs hn=>nW hb (by kernel_rfl) (by kernel_rfl) vs hn) ?_;refine .cons (.of wok (i9 Y T vY iZ) hS hg none fun vs hn=>rT hb vs hn) ?_;refine .cons (.of wok (i9 Y T vZ C4) hS hg none fun vs hn=>rU hb (by kernel_rfl) vs hn) ?_;refine .cons (.of wok (i9 Y T yO O4) hS hg none fun vs hn=>uY hb (by kernel_rfl) vs hn) ?_;refine .cons (.of wok (i9 Y T wA O4) hS hg none fun vs hn=>rR hb (by kernel_rfl) (by kernel_rfl) vs hn) ?_;refine .cons (.of wok (i9 Y T sP sL) hS hg (some "found") fun vs hn=>nZ vs hn) ?_;refine .cons (.of wok (i9 Y T mZ O4) hS hg none fun vs hn=>iY vs hn) ?_;refine .cons (.of wok (i9 Y T oM O4) hS hg (some "values") fun vs hn=>mO (by kernel_rfl) (by kernel_rfl) (by kernel_rfl) (by kernel_rfl) (by kernel_rfl) vs hn) ?_;refine .cons (.of wok (i9 Y T wB DM) hS hg none fun vs hn=>sF (by kernel_rfl) vs hn) ?_;refine .cons (.of wok (i9 Y T yP oJ) hS hg none fun vs hn=>vO vs hn) ?_;refine .cons (.of wok (i9 Y T DN vW) hS hg none fun vs hn=>yH vs hn) ?_;exact .nil
theorem st2:S9 (dP h mg mb) 2 tb T2:=by
 have wok:=iI Y T;have hg:=QY (W:=dP h mg mb) (tb:=tb) (G2 Y X) (VX Y X T hS);have hb:N7 (DV (T1) [] false):=AN (by kernel_rfl);unfold T2;refine .cons (.of wok (i9 Y T MV C4) hS hg (some "found") fun vs hn=>HJ hb (by kernel_rfl) (by kernel_rfl) vs hn) ?_;refine .cons (.of wok (i9 Y T DO C4) hS hg (some "found") fun vs hn=>xZ hb (by kernel_rfl) (by kernel_rfl) vs hn) ?_;refine .cons (.of wok (i9 Y T sQ C4) hS hg (some "found") fun vs hn=>nY hb (by kernel_rfl) (by kernel_rfl) (by kernel_rfl) (by kernel_rfl) (by kernel_rfl) (by kernel_rfl) vs hn) ?_;refine .cons (.of wok (i9 Y T wC JB) hS hg none fun vs hn=>rW hb (by kernel_rfl) (by kernel_rfl) vs hn) ?_;refine .cons (.of wok (i9 Y T wD O4) hS hg none fun vs hn=>sA (by kernel_rfl) (by kernel_rfl) vs hn) ?_;refine .cons (.of wok (i9 Y T jA O4) hS hg none fun vs hn=>gF (by kernel_rfl) (by kernel_rfl) vs hn) ?_;refine .cons (.of wok (i9 Y T oN O4) hS hg none fun vs hn=>mP (by kernel_rfl) (by kernel_rfl) (by kernel_rfl) (by kernel_rfl) (by kernel_rfl) (by kernel_rfl) (by kernel_rfl) vs hn) ?_;refine .cons (.of wok (i9 Y T sR O4) hS hg none fun vs hn=>oA (by kernel_rfl) vs hn) ?_;refine .cons (.of wok (i9 Y T oO O4) hS hg none fun vs hn=>mL (by kernel_rfl) (by kernel_rfl) vs hn) ?_;refine .cons (.of wok (i9 Y T sS O4) hS hg none fun vs hn=>oE (by kernel_rfl) (by kernel_rfl) vs hn) ?_;exact .nil
theorem st3:S9 (dP h mg mb) 3 tb T3:=by
 have wok:=iI Y T;have hg:=QY (W:=dP h mg mb) (tb:=tb) (G2 Y X) ((st2 Y X T hS).app ((VX Y X T hS).more (by decide)));have hb:N7 (DV (T2++T1) [] false):=AN (by kernel_rfl);unfold T3;refine .cons (.of wok (i9 Y T wE C4) hS hg (some "found") fun vs hn=>rX hb (by kernel_rfl) (by kernel_rfl) vs hn) ?_;refine .cons (.of wok (i9 Y T nA fG) hS hg none fun vs hn=>iW hb (by kernel_rfl) (by kernel_rfl) (by kernel_rfl) vs hn) ?_;exact .nil
theorem st4:S9 (dP h mg mb) 4 tb T4:=by
 have wok:=iI Y T;have hg:=QY (W:=dP h mg mb) (tb:=tb) (G2 Y X) ((st3 Y X T hS).app (((st2 Y X T hS).more (by decide)).app ((VX Y X T hS).more (by decide))));have hb:N7 (DV (T3++(T2++T1)) [] false):=AN (by kernel_rfl);unfold T4;refine .cons (.of wok (i9 Y T nD C4) hS hg none fun vs hn=>iX hb (by kernel_rfl) (by kernel_rfl) (by kernel_rfl) vs hn) ?_;exact .nil
end
section
variable {h:Heap} {mg mb:Str->Option Value} {mC mB:Str->Option Value} {K:Frag} (Y:GY w h) (X:GX mg h mC mB K) {loose:List Str} {mean:ExcName->Option Value} (T:Top qv loose mean mg mb h)
theorem ZF:(K2 39).body=GR:=by kernel_rfl
theorem ZG:((K2 39).name=="_law_told" &&(K2 39).scope.names.lookup ("call":Str)==some .local &&(K2 39).scope.names.lookup ("BadText":Str)==some .globalImplicit &&(K2 39).scope.names.all (fun x=>x.2 !=.cell) && !(K2 39).scope.isCoroutine && !(K2 39).scope.isGenerator &&(K2 39).scope.kind==.function &&
 (K2 39).scope.names.lookup ("e":Str)==some .local &&(match gP (K2 39).params with|some as=>as.map (·.arg)==(["call"]:List Str)|none=>false))=true:=by kernel_rfl
include Y X T
theorem UQ: ∃fd,uN (dP h mg mb) mC mB 242 fd:=by
 refine AT (JC Y T (i:=39) (by decide)) fun a o pm code doc h1 h2 h3 h4=> ?_;have b:=ZG;simp only[Bool.and_eq_true,beq_iff_eq,List.all_eq_true,bne_iff_ne,Bool.not_eq_true'] at b;refine f8 b fun z1n b8=> ?_;clear b;refine f8 z1n fun z1n b7=> ?_;obtain⟨⟨⟨⟨⟨⟨bn,b1⟩,b2⟩,b3⟩,b4⟩,b5⟩,b6⟩:=z1n;rw[bn] at h1 h3 h4;obtain rfl:=Value.ref.inj (Option.some.inj (h1.symm.trans X.m.2.2.2.2.1));refine cR Y.c242 fun o' fd' e2 e3 e4 ec=> ?_;obtain rfl:=Option.some.inj (e2.symm.trans (AM h2));cases hP:gP (K2 39).params with
 |none=>rw[hP] at b8;injection b8
 |some as=>
 rw[hP] at b8;have hps:=eq_of_beq b8;rw[qK hP] at h3;refine⟨_,h1,⟨⟨o',h2,h3,ec⟩,h4,congrArg _ ZF,fun s us Z hl=>.of_eq (MU as us _ _ _ _ _ _ hps hl),rfl,rfl,fun x hx=> ?_,b2,b3,b4,b5,b6⟩,b7,X.c.2.2.2.1,X.b.2.2.2.1,X.c.2.2.2.2.1,X.b.2.2.2.2,X.c.2.1,X.b.2.1⟩;rcases List.mem_singleton.mp hx with rfl;exact b1
theorem UR:G5 (dP h mg mb).G mC mB:=(UP Y X T).at_
theorem OC: ∀n,I9 (dP h mg mb) n:=by
 refine d6 (UQ Y X T) fun fd t=> ?_;exact zL (XQ t (UR Y X T) X.m.2.1)
theorem wF (n:Nat):xR (dP h mg mb) n:=LN (OC Y X T) (PY (UP Y X T)) n n (Nat.le_refl _)
theorem cG {tb:Prop}:S9 (dP h mg mb) 4 tb JE:=by
 have hS:=wF Y X T;exact(st4 Y X T hS).app (((st3 Y X T hS).more (by decide)).app (((st2 Y X T hS).more (by decide)).app ((VX Y X T hS).more (by decide))))
noncomputable def gA:G:=DV JE JE true
theorem US:C6 (dP h mg mb) 6 True gA:=QZ (G2 Y X) ((cG Y X T).more (by decide)) trivial (Nat.le_refl 6) (cG Y X T)
omit X in
theorem nE {i:Nat} {f:Str} {ps:List Str} {D:Fd} (hi:i∈oQ) (hc:MT i f ps=true) (hb:(K2 i).body=D.body) (hs:(K2 i).scope=D.sc) (b:L8 ps)
  (told: ∃a c,mg f=some (.ref a)/\X3 h a (.ref c)/\ ∃P,(c,P,f++(".<locals>.":Str)++("<lambda>":Str))∈E9): ∃a o fd,Z9 (dP h mg mb) f ps D.body a o fd/\fd.scope=D.sc:=
 JD Y T hi b hc hb hs fun Z=>told
theorem DP:dZ (dP h mg mb) 7 True "_law_atom_right" B1:=
 .of (iI Y T) (nE Y T (i:=42) (D:=n6) (by decide) (by kernel_rfl) (by kernel_rfl) (by kernel_rfl) fG ⟨263,262,X.m.2.2.2.2.2.1,Y.c263,258,.head _⟩) (wF Y X T) (US Y X T) none
  fun vs hn=>dG rfl (by kernel_rfl) (by kernel_rfl) (by kernel_rfl) (by kernel_rfl) (by kernel_rfl) (by kernel_rfl) (by kernel_rfl) (by kernel_rfl) (by kernel_rfl) (by kernel_rfl) (by kernel_rfl) vs hn
noncomputable def gB:G:=DV (("_law_atom_right",B1)::JE) JE true
theorem UT:C6 (dP h mg mb) 7 True gB:=QZ (G2 Y X) (.cons (DP Y X T) ((cG Y X T).more (by decide))) trivial (k':=4) (by decide) (cG Y X T)
theorem MW:dZ (dP h mg mb) 8 True "_law_line_right" E3:=
 .of (iI Y T) (nE Y T (i:=43) (D:=f9) (by decide) (by kernel_rfl) (by kernel_rfl) (by kernel_rfl) C4 ⟨268,267,X.m.2.2.2.2.2.2.1,Y.c268,265,.tail _ (.head _)⟩) (wF Y X T) (UT Y X T) none
  fun vs hn=>dH ⟨rfl,by kernel_rfl,by kernel_rfl,by kernel_rfl,by kernel_rfl,by kernel_rfl,by kernel_rfl,by kernel_rfl,by kernel_rfl,by kernel_rfl,by kernel_rfl,by kernel_rfl,by kernel_rfl,by kernel_rfl,by kernel_rfl,by kernel_rfl,by kernel_rfl,by kernel_rfl⟩ vs hn
end
theorem qM: ∀{vs:List V} {ts:List b9},M1 vs=some ts->vs=ts.map V.str
 |[],ts,h=>by injection h with h;subst h;rfl
 |d::r,ts,h=>by
  refine v9 (fP h) fun c l z2r q z3r=> ?_;subst z2r;subst z3r;rw[qM q];rfl
noncomputable def OD:List V->R V:=wZ (DV [] [] false) none rO.sc [] rO.body 12
noncomputable def OE:R V->Option (List b9)
 | .ok (.list vs)=>M1 vs
 |_=>none
noncomputable def JF (o:Option (List b9)):Bool:=match o with
 |some ts=>decide (0<ts.length) &&decide (ts.length<1000) &&ts.all fun t=>decide (t.length<=10) &&t.all A4
 |none=>false
theorem RB:JF (OE (OD []))=true:=by kernel_rfl
theorem pcs: ∃ts:List b9,OD []=.ok (.list (ts.map V.str))/\(0<ts.length/\ts.length<1000)/\(∀t∈ts,t.length<=10)/\ ∀t∈ts,t.all A4=true:=by
 have h:=RB;cases hp:OE (OD []) with
 |none=>rw[hp] at h;injection h
 |some ts=>
  rw[hp] at h;have hf:OD []=.ok (.list (ts.map V.str)):=by
   cases hF:OD [] with
   |ok v=>
    rw[hF] at hp;cases v with
    |list vs=>rw[qM (show M1 vs=some ts from hp)]
    |_=>injection hp
   |_=>rw[hF] at hp;injection hp
  simp only[JF,Bool.and_eq_true,decide_eq_true_eq,List.all_eq_true] at h;refine f8 h fun z1n h3=> ?_;clear h;obtain⟨h1,h2⟩:=z1n;exact⟨ts,hf,⟨h1,h2⟩,fun t ht=>(h3 t ht).1,fun t ht=>List.all_eq_true.mpr (h3 t ht).2⟩
section
variable {h:Heap} {mg mb:Str->Option Value} {mC mB:Str->Option Value} {K:Frag} (Y:GY w h) (X:GX mg h mC mB K) {loose:List Str} {mean:ExcName->Option Value} (T:Top qv loose mean mg mb h)
theorem RC:s7 25 "_law_box" ["script"] bC:=⟨by decide,by kernel_rfl,by kernel_rfl,by kernel_rfl,by kernel_rfl⟩
theorem MX:s7 26 "_law_take" ["box","many"] U4:=⟨by decide,by kernel_rfl,by kernel_rfl,by kernel_rfl,by kernel_rfl⟩
theorem DQ:s7 27 "_law_pieces" [] rO:=⟨by decide,by kernel_rfl,by kernel_rfl,by kernel_rfl,by kernel_rfl⟩
theorem MY:s7 28 "_law_text" ["box","many"] M6:=⟨by decide,by kernel_rfl,by kernel_rfl,by kernel_rfl,by kernel_rfl⟩
include Y X T
theorem DR {tb:Prop}:dZ (dP h mg mb) 7 tb "_law_pieces" OD:=by
 refine F6 (i9 Y T DQ bp0) fun a o fd D hs=> ?_;have:=GM (tb:=tb) (k:=6) (iI Y T) D (wF Y X T) (QY (W:=dP h mg mb) (tb:=tb) (G2 Y X) S9.nil) none 12;rw[hs] at this;exact this
theorem ZH: ∃ts,DF (dP h mg mb) True (DV [] [] false) (DV [("_law_pieces",OD)] [] false) gA OD ts:=by
 refine iK pcs fun ts h1 h2 h3 h4=> ?_;exact⟨ts,OC Y X T,wF Y X T,iI Y T,i9 Y T RC qL,i9 Y T MX iJ,i9 Y T MY iJ,fun k=>QY (G2 Y X) S9.nil,fun Z=>rfl,
  QY (G2 Y X) (.cons (DR Y X T) .nil),rfl,rfl,rfl,h1,MW Y X T,QZ (k':=4) (G2 Y X) ((cG Y X T).more (by decide)) trivial (by decide) (cG Y X T),h2,h3,h4⟩
omit X in
theorem MZ (X:GX mg h mC mB K): ∃a o fd,Z9 (dP h mg mb) "law" ["script"] v4.body a o fd/\fd.scope=v4.sc:=
 nE Y T (i:=44) (D:=v4) (by decide) (by kernel_rfl) (by kernel_rfl) (by kernel_rfl) qL ⟨275,274,X.m.2.2.2.2.2.2.2,Y.c275,270,.tail _ (.tail _ (.head _))⟩
end
section
theorem JG:(K2 44).name="law":=by kernel_rfl
noncomputable def c0 (h:Heap):Cx:={A:=callerA,fr:=[],base:=ghostOf h bP,X:=fun Z=>False,tb:=True}
set_option tactic.hygienic true in
theorem JH:Wk w:=by
 intro v s₀ s₁ mg mb G ⟨Y,ev⟩ a o pm cd doc dV kV ho hd hcd hD hmg hgens args vals as hpre hlay hrd hwl hlo;subst ev;rw[<-JY];refine wR G.X fun mC mB K X=> ?_;have T:=G.T;refine d6 (ZH Y X T) fun ts L=> ?_;refine F6 (MZ Y T X) fun aL oL fd D hsc=> ?_;obtain rfl:aL=a:=Value.ref.inj (Option.some.inj (D.name.symm.trans (JG▸hmg)))
 wrow_args hpre hlay hrd hwl hlo
 rename_i is _ _ _ _ _ _ _ l vs _ hl _ _ _ hI _ hc _;refine s5 hl fun ol e1 e2 z6t=> ?_;clear hl;refine d6 z6t fun n e3=> ?_;clear z6t;have hlen:is.length<=63:=by omega
 have r:Rp s₁.heap (c0 s₁.heap).X (.ref l) (.list (is.map V.int)):=.list e1 e2 e3 (fun z=>z) (AJ hI);have ok:(c0 s₁.heap).Ok 9:=⟨rfl,rfl,(by show callerA.depth+9+10<recursionLimit;decide),(by show callerA.units+8*9+40<cLine;decide),fun a z=>(nomatch (show a∈([]:List Addr) from z)),fun Z a z=>QW z,fun a z=>(nomatch (show a∈([]:List Addr) from z))⟩;have wf:(dP s₁.heap mg mb).Fits (c0 s₁.heap):=⟨fun Z a z=>QW z⟩;have inv:aN (dP s₁.heap mg mb) (c0 s₁.heap) s₁.heap:=⟨fun b o e=>AM e,fun b o e=>AM e,trivial,MS Y,fun a z=>(nomatch (show a∈([]:List Addr) from z))⟩;refine enter_call (kn_post (jR Y) (fun Z Z=>rfl) (codeAny_mono (QU (C:=c0 s₁.heap) L rfl rfl (by kernel_rfl) (by kernel_rfl) (by kernel_rfl) D hsc ok wf (fun Z z=>z.elim) (fun Z z=>z.elim) inv r hlen) fun rr s' q=> ?_));cases rr with
 |error e=>exact q.elim
 |ok fl=>
  cases fl with
  |ret v=>
   refine n5 q fun z5r st i'=> ?_;clear q;subst z5r;refine r0 st fun h' tk z4r gr=> ?_;clear st;subst z4r;refine⟨⟨.inl ⟨.bool true,.bool true,[],rfl,fun Z=>rfl,.bool true,by wrow_post,fun Z=>⟨List.nodup_nil,fun a z=>(nomatch z)⟩⟩,fun b o e=>i'.base b o e,rfl,hgens⟩,?_⟩;have t:=i'.tabs;refine f8 (t (262,258,_) (.head _)) fun Z z3t=> ?_;refine e8 z3t fun p1 q1 Z=> ?_;clear z3t;refine f8 (t (267,265,_) (.tail _ (.head _))) fun Z z2t=> ?_;refine e8 z2t fun p2 q2 Z=> ?_;clear z2t;refine f8 (t (274,270,_) (.tail _ (.tail _ (.head _)))) fun Z z1t=> ?_;refine e8 z1t fun p3 q3 Z=> ?_;clear z1t;exact⟨⟨p1,q1⟩,⟨p2,q2⟩,⟨p3,q3⟩,trivial⟩
  |_=>exact q.elim
theorem law_holds:PySem.Challenge.rw_tk0066_01.Holds:=
 PySem.W.holds_law SO fun k1=>holds_open SP UO GY.keeps QV RY.keeps (d:=K2 44) (kwd:=[]) (by kernel_rfl) (by kernel_rfl) (by kernel_rfl) (fun Z Z=>recFacts_nil rfl) (by kernel_rfl) k1 (by decide+kernel) ⟨rfl,rfl,rfl,rfl,rfl,by decide+kernel⟩
  ⟨[.list []],by decide+kernel,by decide+kernel⟩ fun v s₀ s₁ mg mb G Y=>OQ JH v v s₀ s₁ mg mb G ⟨Y,rfl⟩
end
end
end
end Mine
theorem PySem.Challenge.cw_tk0066_01_holds : PySem.Challenge.rw_tk0066_01.Holds :=
 Mine.law_holds
