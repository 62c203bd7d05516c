import PyProof.Rows.All
import Wide.All
import OpenK.AllK
import Wide.FinOn
import Lean
import PySem.Challenge.RW_tk0066_01
set_option Elab.async false
set_option autoImplicit false
set_option genInjectivity false
set_option genSizeOf false
set_option genSizeOfSpec false
set_option tactic.hygienic false
set_option maxRecDepth 100000
set_option linter.all false
set_option backward.match.sparseCases false
set_option bootstrap.genMatcherCode false
set_option compiler.extract_closed false
set_option maxHeartbeats 8000000
namespace Mine
section
open PySem
noncomputable def m9:List Str:=["len","ord","chr","bytes","list","min","max","sum","all","range","abs","int"]
noncomputable def ZB:List Stmt->Nat->Option Stmt
 |[],_=>none
 |s::_,0=>some s
 |_::r,n+1=>ZB r n
noncomputable def i4 (b:List Stmt) (i:Nat):Stmt:=(ZB b i).getD (.Pass ⟨0,0,0,0⟩)
noncomputable def i0:Nat:=2 ^20
theorem VF {a k m j:Nat} (h:a-k<=m+1) (hj:k<j):a-j<=m:=Nat.le_of_lt_succ (Nat.lt_of_lt_of_le (m:=m+1) (Nat.lt_succ_of_le (Nat.le_trans (Nat.sub_le_sub_left hj a) (Nat.sub_succ a k▸Nat.pred_le_pred h))) (Nat.le_refl _))
theorem ZW {n i:Nat} (h:i<n):n+1-(i+1)<n+1-i:=Nat.sub_lt_sub_left (Nat.lt_succ_of_lt h) (Nat.lt_succ_self i)
theorem VG {a r:Nat} (h:r+1<=a):a-r=a-(r+1)+1:=(Nat.succ_pred_eq_of_pos (Nat.sub_pos_of_lt h)).symm
theorem ZX {k n b:Nat}:k+1+n-b=k+(n+1)-b:=by rw[Nat.add_assoc,Nat.add_comm 1 n]
theorem VH {n:Nat}:(-1+(n:Int)).toNat=n-1:=(congrArg Int.toNat (Int.add_comm (-1) n)).trans (Int.toNat_sub n 1)
theorem ZC {k n t:Nat} (h:k<t) (h2:n<=t-(k+1)):k+1+n<=t:=Nat.add_comm n (k+1)▸Nat.add_le_of_le_sub h h2
theorem ZY {p m T L:Nat} (h:p<T) (hm:m<=L) (e:T-p=L):p+m<=T:=Nat.add_comm m p▸Nat.add_le_of_le_sub (Nat.le_of_lt h) (e▸hm)
theorem ZZ {p T r:Nat} (h:p+1<T) (e:T-p=r+1+1+1):p+r+3=T:=(congrArg (p+ ·) e).symm.trans (Nat.add_sub_cancel' (Nat.le_of_lt (Nat.lt_of_succ_lt h)))
theorem oT {p r T:Nat} (e:p+r+3=T):(p:Int)<(T:Int)-1:=Int.lt_sub_right_of_add_lt (Int.ofNat_lt.mpr (e▸Nat.succ_le_succ (Nat.succ_le_succ (Nat.le_trans (Nat.le_add_right p r) (Nat.le_succ _)))))
theorem ole {a b N:Nat} (h:a<=b) (h2:b<=N) (hN:N<=i0):a<=i0:=Nat.le_trans (Nat.le_trans h h2) hN
theorem VI {a b N:Nat} (h:a<=b+1) (h2:b<=N) (hN:N+1<=i0):a<=i0:=Nat.le_trans (Nat.le_trans h (Nat.succ_le_succ h2)) hN
theorem oac {a p T N:Nat} (h:a<=p) (h1:p<T) (h2:T<=N) (hN:N<=i0):a<i0:=Nat.lt_of_lt_of_le (Nat.lt_of_le_of_lt h h1) (Nat.le_trans h2 hN)
theorem wP {n N:Nat} (h:n<=N) (hN:N<=1000000):(n:Int).natAbs<2 ^40:=Nat.lt_of_le_of_lt (Nat.le_trans h hN) (by decide)
theorem RT {k T N:Nat} (h:k<T) (hT:T<=N) (hN:N<=1000000):(k:Int).natAbs<2 ^40:=wP (Nat.le_of_lt (Nat.lt_of_lt_of_le h hT)) hN
theorem VJ {k T N:Nat} (h:k<T) (hT:T<=N) (hN:N<=1000000):((k+1:Nat):Int).natAbs<2 ^40:=wP (Nat.le_trans h hT) hN
theorem VK {p n T N:Nat} (h:p+n<=T) (hT:T<=N) (hN:N<=1000000):((p+n:Nat):Int).natAbs<2 ^40:=wP (Nat.le_trans h hT) hN
theorem ZD {p r T N:Nat} (e:p+r+3=T) (hT:T<=N) (hN:N<=900000):p<=900000:=Nat.le_trans (Nat.le_trans (Nat.le_add_right p (r+3)) (Nat.le_of_eq e)) (Nat.le_trans hT hN)
theorem VL {p r c T N:Nat} (e:p+r+3=T) (hT:T<=N) (hN:N<=900000) (hc:c<=9):((p+c:Nat):Int).natAbs<2 ^40:=wP (N:=1000000) (Nat.le_trans (Nat.add_le_add (ZD e hT hN) hc) (by decide)) (Nat.le_refl _)
theorem VM {p r w T N:Nat} (e:p+r+3=T) (hT:T<=N) (hw:w<=3) (hN:N<=900000):((p+1+w:Nat):Int).natAbs<2 ^40:=wP (N:=1000000) (Nat.le_trans (Nat.add_le_add (Nat.succ_le_succ (ZD e hT hN)) hw) (by decide)) (Nat.le_refl _)
theorem VN {p c T N:Nat} (h:p<=T) (hT:T<=N) (hN:N<=900000) (hc:c<=9):((p+c:Nat):Int).natAbs<2 ^40:=wP (N:=1000000) (Nat.le_trans (Nat.add_le_add (Nat.le_trans h (Nat.le_trans hT hN)) hc) (by decide)) (Nat.le_refl _)
theorem ZE {u k L:Nat} (h:u+8*(k+1)+40<L):u+3+8*k+40<L:=Nat.lt_of_le_of_lt (Nat.add_le_add_right (Nat.add_right_comm u 3 (8*k)▸Nat.add_le_add_left (show 3<=8 by decide) (u+8*k)) 40) h
theorem ou2 {d k L:Nat} (h:d+(k+1)+10<L):d+1+k+10<L:=Nat.add_right_comm d 1 k▸h
theorem ZF {u k k' L a b:Nat} (h':k'<=k) (h:u+a*k+b<L):u+a*k'+b<L:=Nat.lt_of_le_of_lt (Nat.add_le_add_right (Nat.add_le_add_left (Nat.mul_le_mul_left a h') u) b) h
theorem oc1 {c l r:Nat} (h:c+(r+1)<=l):c+1+r<=l:=Nat.add_right_comm c 1 r▸h
theorem oad {a p w:Nat} (h:a<=p):a+1<=p+1+w:=Nat.le_trans (Nat.succ_le_succ h) (Nat.le_add_right _ _)
theorem omx {a:Nat} (h:a<=19):max 0 (max a 0)<=20:=by rw[Nat.zero_max,Nat.max_zero];exact Nat.le_succ_of_le h
theorem oj2 {T:Nat} (h:2<=T):T-1-1+1=T-1:=Nat.sub_add_cancel (Nat.le_sub_of_add_le h)
theorem ohs {r k:Nat}:r+1-1-(k+1)=r-1-k:=by rw[Nat.add_sub_cancel,Nat.sub_sub,Nat.add_comm 1 k]
theorem ZG {n:Nat} (h:1<=n):n=n-1+1:=(Nat.sub_add_cancel h).symm
theorem ZH {n i:Nat} (h:i<=n) (h': ¬i<n):n=i:=Nat.le_antisymm (Nat.le_of_not_lt h') h
theorem oa2 {a p T N:Nat} (h:a<=p) (h1:p+1<T) (h2:T<=N) (hN:N<=i0):a+1<=i0:=Nat.le_trans (Nat.le_trans (Nat.succ_le_succ h) (Nat.le_of_lt h1)) (Nat.le_trans h2 hN)
theorem oa3 {a p T N:Nat} (h:a<=p) (h1:p<T) (h2:T<=N) (hN:N<=i0):a+1<=i0:=Nat.le_trans (Nat.le_trans (Nat.succ_le_succ h) h1) (Nat.le_trans h2 hN)
theorem okk {k n:Nat}:k+1+n-k=n+1:=by rw[Nat.add_assoc,Nat.add_sub_cancel_left,Nat.add_comm]
theorem oe2 {e' e n c:Nat} {P:Prop} (h:e'+1=e+c+n/\P):e'+1=e+(n+c)/\P:=⟨h.1.trans (by rw[Nat.add_assoc,Nat.add_comm c n]),h.2⟩
theorem VO {n N:Nat} (h:n<=N) (hN:N<=i0):(n:Int).natAbs<=i0:=Nat.le_trans h hN
theorem ols {a b c N:Nat} (h1:a<=b) (h2:b<=c) (h:c<=N) (hN:N<=i0):a<=i0:=Nat.le_trans (Nat.le_trans h1 (Nat.le_trans h2 h)) hN
theorem ZI {a b d c N:Nat} (h:a+(b+d)+c<=N):a+d<=N:=Nat.le_trans (Nat.add_le_add_left (Nat.le_add_left d b) a) (Nat.le_trans (Nat.le_add_right _ c) h)
theorem obb {b k T N:Nat} (hb:b<=k) (h:k<T) (hT:T<=N) (hN:N<=1000000):(b:Int).natAbs<2 ^40:=RT (Nat.lt_of_le_of_lt hb h) hT hN
theorem ozn {v:Int} (h:0<=v):v.natAbs=v.toNat:=Int.ofNat.inj ((Int.natAbs_of_nonneg h).trans (Int.toNat_of_nonneg h).symm)
theorem ozt {j:Int} {k:Nat} (h:(k:Int)=j):j.toNat=k:=by rw[<-h];rfl
theorem oz1 {k n t N:Nat} (h:k<t) (h2:n<=t-(k+1)) (h3:t<=N) (hN:N<=1000000):((k+1+n:Nat):Int).natAbs<2 ^40:=wP (Nat.le_trans (ZC h h2) h3) hN
theorem oz3 {n N:Nat} (h:n<N) (hN:N<=i0):(n:Int).natAbs<=i0:=VO (Nat.le_of_lt h) hN
theorem VP {a b c:Nat} (h:a+b<c):a<c:=Nat.lt_of_le_of_lt (Nat.le_add_right _ _) h
theorem oz5 {a r m:Nat} (h:r+1<=m) (d:m<=a):a-r=a-(r+1)+1:=VG (Nat.le_trans h d)
theorem oz6 {n:Nat}:(-1+(n:Int)).toNat-1=n-1-1:=congrArg (· -1) VH
theorem oz7 {a k m:Nat} (h:a-k<=m+1):a-(k+1)<=m:=VF h (Nat.lt_succ_self _)
theorem oz8 {a k m n:Nat} (h:a-k<=m+1):a-(k+(n+1))<=m:=VF h (Nat.lt_add_of_pos_right (Nat.succ_pos _))
theorem oz9 {a k m n:Nat} (h:a-k<=m+1):a-(k+1+n)<=m:=VF h (Nat.lt_of_lt_of_le (Nat.lt_succ_self _) (Nat.le_add_right _ _))
def RU (A:Array Lean.Term) (s:String):Array Lean.Term:=(s.splitOn " ").toArray.map fun p=>let l:=p.splitOn "/";Lean.Syntax.mkApp (Lean.mkIdent l.head!.toName) ((l.getD 1 "").toList.toArray.map fun c=>A[c.toNat-48]!)
theorem q1 {p T:Nat} (h:p+1<T) (e:T-p=2):p+2=T:=(congrArg (p+ ·) e).symm.trans (Nat.add_sub_cancel' (Nat.le_of_lt (Nat.lt_of_succ_lt h)))
theorem q2 {a r:Nat} (h:r<a):a-r=a-(r+1)+1:=VG h
theorem q3 {k b t N:Nat} (h:k<t) (h2:t<=N) (hN:N<=i0):min (k-b) (t-b)<=i0:=Nat.le_trans (Nat.min_le_left _ _) (Nat.le_trans (Nat.sub_le k b) (Nat.le_trans (Nat.le_of_lt h) (Nat.le_trans h2 hN)))
theorem q4 {c n L:Nat} (h:c<=L):min c n<=L:=Nat.le_trans (Nat.min_le_left _ _) h
theorem q5 {a c n L:Nat} (h:a+c<=L):a+min c n<=L:=Nat.le_trans (Nat.add_le_add_left (Nat.min_le_left _ _) a) h
theorem q6 {k e t:Nat} (h:k+3-e<=0):min ((k:Int)+3) (t:Int)<=e:=Int.le_trans (Int.min_le_left _ _) (Int.ofNat_le.mpr (Nat.le_of_sub_eq_zero (Nat.le_zero.mp h)))
theorem q7 {k e t:Nat} (h: ¬(e<k+3/\e<t)):min ((k:Int)+3) (t:Int)<=e:=(Nat.lt_or_ge e (k+3)).elim (fun z=>Int.le_trans (Int.min_le_right _ _) (Int.ofNat_le.mpr (Nat.le_of_not_lt fun y=>h ⟨z,y⟩))) fun z=>Int.le_trans (Int.min_le_left _ _) (Int.ofNat_le.mpr z)
theorem q8 {a e t:Nat} (h: ¬(e<a/\e<t)) (z:e<a):t<=e:=Nat.le_of_not_lt fun y=>h ⟨z,y⟩
theorem q9 {x b:Int} (h0:0<=x) (h:x<=b):x.natAbs<=b.natAbs:=Int.ofNat_le.mp (by rw[Int.natAbs_of_nonneg h0,Int.natAbs_of_nonneg (Int.le_trans h0 h)];exact h)
theorem q10 {s k n x:Nat} (h:s<=k):s+(min n x+1)<=k+1+n:=Nat.le_trans (Nat.add_le_add h (Nat.succ_le_succ (Nat.min_le_left n x))) (Nat.le_of_eq (Nat.add_right_comm k n 1))
theorem q11 {a w N M k:Nat} (h:a<=w) (h2:w<=N) (hN:N<=M):a-1-k<=M:=Nat.le_trans (Nat.sub_le _ _) (Nat.le_trans (Nat.sub_le _ _) (Nat.le_trans h (Nat.le_trans h2 hN)))
theorem q12 {a w N k:Nat} (h:a<=w) (h2:w<=N) (hN:N<=1000000):(a:Int)-1-(k:Int)<=1000000:=Int.le_trans (Int.sub_le_self _ (Int.natCast_nonneg k)) (Int.le_trans (Int.sub_le_self _ (by decide)) (Int.ofNat_le.mpr (Nat.le_trans h (Nat.le_trans h2 hN))))
theorem q13 {a k:Nat} (h:k<a):0<=(a:Int)-1-(k:Int):=Int.sub_nonneg_of_le (Int.le_sub_one_of_lt (Int.ofNat_lt.mpr h))
theorem q14 {v c M:Nat} (h2:c<=55) (h:v<M):8*v+(c-48)<8*M:=Nat.lt_of_lt_of_le (Nat.lt_of_le_of_lt (Nat.add_le_add_left (Nat.sub_le_sub_right h2 48) (8*v)) (Nat.lt_succ_self (8*v+7))) (Nat.mul_le_mul_left 8 h)
theorem UZ {mu d:Int} {q:Nat} (e:3+d=(q:Int)) (hd:d<2+mu) (hm:0<=mu/\mu<=5):q<=9:=by omega
theorem q16 {mu d:Int} {q:Nat} (e:3+d=(q:Int)) (hd:d<2+mu) (hm:0<=mu/\mu<=5):q<1000:=Nat.lt_of_le_of_lt (UZ e hd hm) (by decide)
theorem q17 {mu d:Int} {q c:Nat} (e:3+d=(q:Int)) (hd:d<2+mu) (hm:0<=mu/\mu<=5) (h:c<1000):c+1+q<1000000:=Nat.lt_of_le_of_lt (Nat.add_le_add h (UZ e hd hm)) (by decide)
theorem q18 {mu d:Int} {q l:Nat} (h:l<=10*q) (e:3+d=(q:Int)) (hd:d<2+mu) (hm:0<=mu/\mu<=5):l<=500:=Nat.le_trans h (Nat.le_trans (Nat.mul_le_mul_left 10 (UZ e hd hm)) (by decide))
theorem q19 {mu d x:Int} {q c:Nat} (h:x<=((c+1+q:Nat):Int)) (e:3+d=(q:Int)) (hd:d<2+mu) (hm:0<=mu/\mu<=5):x<=((c+10:Nat):Int):=Int.le_trans h (Int.ofNat_le.mpr (Nat.add_le_add_left (UZ e hd hm) (c+1)))
theorem q20 {a d:Int} (ha:0<=a) (h:0<=d):a+d=((a+d).toNat:Int):=(Int.toNat_of_nonneg (Int.add_nonneg ha h)).symm
theorem q22 {p T:Nat} (h:p<T) (e:T-p=1):(p:Int)=(T:Int)-1:=((congrArg (p+ ·) e).symm.trans (Nat.add_sub_cancel' (Nat.le_of_lt h)):p+1=T)▸(Int.add_sub_cancel (p:Int) 1).symm
theorem q23 {p T r:Nat} (h:p<T) (e:T-p=r+1+1):(p:Int)+1<(T:Int):=Int.ofNat_lt.mpr (((congrArg (p+ ·) e).symm.trans (Nat.add_sub_cancel' (Nat.le_of_lt h)):p+(r+1+1)=T)▸Nat.succ_lt_succ (Nat.lt_succ_of_le (Nat.le_add_right p r)))
theorem q24 {p I r:Nat} (h:p+1<I) (e:I-(p+1+1)=r) (h2:2<=r):p+4<=I:=Nat.le_trans (Nat.add_le_add_left h2 (p+2)) (Nat.le_of_eq ((congrArg (p+2+ ·) e).symm.trans (Nat.add_sub_cancel' h)))
theorem q25 {x:Nat} (h:x<128):((x:Int)-48).natAbs<=128:=by omega
theorem q26 {v:Int} (h0:0<=v) (h:v<=99):v.natAbs<=99:=Int.ofNat_le.mp ((Int.natAbs_of_nonneg h0).symm▸h)
theorem q27 {i n S:Nat} (h:i<n) (h2:i0<=S) (d:n<=i0):i<=S:=Nat.le_trans (Nat.le_of_lt h) (Nat.le_trans d h2)
theorem q28 {a i n S:Nat} (h:a<=i) (h1:i<n) (h2:n<=i0) (h3:i0<=S):a<=S:=Nat.le_trans h (Nat.le_trans (Nat.le_of_lt h1) (Nat.le_trans h2 h3))
theorem q29 {n:Nat}:0<=min (n:Int) 5/\min (n:Int) 5<=5:=⟨Int.le_min.mpr ⟨Int.natCast_nonneg n,by decide⟩,Int.min_le_right _ _⟩
theorem q30 {v b d M:Nat} (h2:v*b<=v*16) (h:v<M) (hd:d<16):v*b+d<16*M:=Nat.lt_of_lt_of_le (Nat.add_lt_add_of_le_of_lt h2 hd) (Nat.le_trans (Nat.le_of_eq (congrArg (· +16) (Nat.mul_comm v 16))) (Nat.mul_le_mul_left 16 h))
theorem q31 {a b k:Nat} (d:a<=b):a-k<=b:=Nat.le_trans (Nat.sub_le _ _) d
theorem q32 {a b c r:Nat} (h1:a=5) (h2:b<=21) (h3:c=2) (h4:r<=1000):a+b+c+r<=16777216:=Nat.le_trans (Nat.add_le_add (Nat.add_le_add (Nat.add_le_add (Nat.le_of_eq h1) h2) (Nat.le_of_eq h3)) h4) (by decide)
theorem q33 {a b c:Nat} (h1:a=5) (h2:b<=21) (h3:c=2):a+b+c<=16777216:=Nat.le_trans (Nat.add_le_add (Nat.add_le_add (Nat.le_of_eq h1) h2) (Nat.le_of_eq h3)) (by decide)
theorem q34 {d k R:Nat} (h:d+k+10<R):d+1+1<R:=Nat.lt_of_le_of_lt (Nat.add_le_add (Nat.le_add_right d k) (by decide:2<=10):d+2<=d+k+10) h
theorem q35 {a b c R:Nat} (h:a+b+c<R):a<R:=VP (VP h)
theorem q36 {u x n c:Nat} (h:u+x+n<c):u+n<c:=Nat.lt_of_le_of_lt (Nat.add_le_add_right (Nat.le_add_right u x) n) h
theorem q37 {d k k' b R:Nat} (h':k'<=k) (h:d+k+b<R):d+k'+b<R:=Nat.lt_of_le_of_lt (Nat.add_le_add_right (Nat.add_le_add_left h' d) b) h
theorem q38 {u k k' L:Nat} (h':k'+2<=k) (h:u+8*k+40<L):u+3+8*(k'+1)+40<L:=ZE (ZF h' h)
theorem q39 {u n c:Nat} (h:u+(n+1)<c):u+1+n<c:=Nat.add_right_comm u 1 n▸h
theorem q40 {i i' r c N:Nat} (h':i'<=i+1) (h:i+(r+1)+c<=N):i'+r+c<=N:=Nat.le_trans (Nat.add_le_add_right (Nat.add_le_add_right h' r) c) ((Nat.add_right_comm i 1 r).symm▸(h:i+r+1+c<=N))
theorem q41 {a b d:Nat} (h:a<=b):a<=max d b:=Nat.le_trans h (Nat.le_max_right _ _)
theorem q42 {x y F:Int} (h:max x y<=F):x<=F:=Int.le_trans (Int.le_max_left _ _) h
theorem q43 {x y F:Int} (h:max x y<=F):y<=F:=Int.le_trans (Int.le_max_right _ _) h
theorem q44 {x y:Int} (h: ¬x<=y):max x y=x:=Int.max_eq_left (Int.le_of_lt (Int.not_le.mp h))
theorem q45 {c d:Int} (h: ¬d<c):min c d=c:=Int.min_eq_left (Int.not_lt.mp h)
theorem q46 {b k t:Nat} (h:b<=k) (h2: ¬k<t):t<=k-b+b:=(Nat.sub_add_cancel h).symm▸Nat.le_of_not_lt h2
theorem q47 {t a b:Nat} (h:t<=b):t<=b-a+a:=Nat.le_trans h (Nat.sub_le_iff_le_add.mp (Nat.le_refl _))
theorem q48 {a b n:Nat} (h:a+b=n):a+1+b=n+1:=(Nat.add_right_comm a 1 b).trans (congrArg (· +1) h)
theorem q49: ∀{x:Int},x.toNat<=x.natAbs
 | .ofNat n=>Nat.le_refl n
 | .negSucc _=>Nat.zero_le _
theorem q50 {c a b k m:Nat} (h:a<=c/\c<=b) (d:b-k<m):c-k<m:=Nat.lt_of_le_of_lt (Nat.sub_le_sub_right h.2 k) d
theorem q51 {x n:Nat} (h0:0<n) (h:x<=n-1):x<n:=Nat.lt_of_le_of_lt h (Nat.sub_lt h0 (by decide))
theorem q52 {T:Nat} (h:2<=T):T-1<T:=Nat.sub_lt (Nat.lt_of_lt_of_le (by decide) h) (by decide)
theorem q53 {a m:Nat} (e:a=m) (h:m<1000):10*a<=i0:=e▸Nat.le_trans (Nat.mul_le_mul_left 10 (Nat.le_of_lt h)) (by decide)
theorem q54 {t e:Nat} (h:t+2-e<=0):t<=e:=Nat.le_trans (Nat.le_add_right t 2) (Nat.le_of_sub_eq_zero (Nat.le_zero.mp h))
theorem q55 {P:Prop} {a k:Nat} (h:a+1-k<=0) (h':k<=a):P:=absurd (Nat.le_of_sub_eq_zero (Nat.le_zero.mp h)) (Nat.not_le.mpr (Nat.lt_succ_of_le h'))
theorem q56 {n m i:Nat} (e:n=m) (h:i<=n) (h': ¬i<n):i=m:=(ZH h h').symm.trans e
theorem q57 {n:Nat}:(-1+((n+1:Nat):Int)).toNat=n:=VH (n:=n+1)
theorem q58 {d:Int} (h0:0<=d) (h:d<300):(1+d).natAbs<1000000:=Int.ofNat_lt.mp ((Int.natAbs_of_nonneg (Int.add_nonneg (a:=1) (by decide) h0)).symm▸Int.lt_trans (Int.add_lt_add_left h 1) (by decide))
theorem q59 {m:Int} (h0:0<m) (h:m<1000000):m.natAbs<2 ^30:=Int.ofNat_lt.mp ((Int.natAbs_of_nonneg (Int.le_of_lt h0)).symm▸Int.lt_trans h (by decide))
theorem q60 {b t N:Nat} (h:b<=t) (h2:t<=N) (hN:N<=1000000):(b:Int).natAbs<2 ^40:=wP (Nat.le_trans h h2) hN
theorem q61 {mu:Int} (h:0<=mu/\mu<=5):(1+mu).natAbs<=i0:=Int.ofNat_le.mp ((Int.natAbs_of_nonneg (Int.add_nonneg (a:=1) (by decide) h.1)).symm▸Int.le_trans (Int.add_le_add_left h.2 1) (by decide))
theorem q62 {n:Nat} (h:0<n):n=n-1+1:=ZG h
theorem q63 {p L n:Nat} (h:p<=L-n):p<=L:=Nat.le_trans h (Nat.sub_le _ _)
theorem q64 {w r n:Nat} (h:w<=r+1-n) (h1:1<=n):w<=r:=Nat.le_trans h (Nat.sub_le_sub_left h1 (r+1))
theorem q66 {e p m:Nat} (h:e+1=p+1+m):e+1=p+(m+1):=h.trans (Nat.add_right_comm p 1 m)
theorem q67 {x s r:Nat} (h:x<=10) (h2:s<=10*r):x+s<=10*(r+1):=Nat.le_trans (Nat.add_le_add h h2) (Nat.le_of_eq (Nat.add_comm 10 (10*r)))
theorem ZJ {b:Nat}:(b:Int)=10↔b=10:=Int.ofNat_inj (n:=10)
theorem q69 {v b d:Nat} (h:d<b):v*b+d+1<=v*b+1*b:=Nat.add_le_add_left ((Nat.one_mul b).symm▸h) (v*b)
theorem ZK {a I D:Nat} (e:a=I) (h:I<D):a<=D:=e▸Nat.le_of_lt h
theorem q71 {a I D c:Nat} (e:a=I) (e2:c=D+1) (h:I<D):a<=c:=e2▸Nat.le_succ_of_le (ZK e h)
theorem q72 {i n m K:Nat} (h:i<n) (e:n=m) (h2:m<K):i<K:=Nat.lt_trans h (e▸h2)
theorem q73 {r:Nat} (h: ¬r<2):2<=((min 2 r:Nat):Int):=Int.ofNat_le.mpr (Nat.le_min.mpr ⟨Nat.le_refl _,Nat.le_of_not_lt h⟩)
theorem q74 {a b:Int}:a+1+b=a+(b+1):=(Int.add_assoc _ _ _).trans (congrArg _ (Int.add_comm _ _))
theorem q75 {a k b c:Nat} (h:a<=k):a<=k+b+c:=Nat.le_trans h (Nat.le_trans (Nat.le_add_right k b) (Nat.le_add_right _ c))
theorem q76 {c b:Nat}:(65<=(c:Int)/\(c:Int)<91)/\ ¬(b:Int)=10↔(65<=c/\c<91)/\ ¬b=10:=and_congr (and_congr (Int.ofNat_le (m:=65)) (Int.ofNat_lt (m:=91))) (not_congr ZJ)
theorem q77 {P:Prop} {D:Nat} (h:P/\D<=1):max (max 0 (max 0 0)+1) D<=1:=Nat.max_le.mpr ⟨by decide,h.2⟩
theorem q78 {a:Nat} (h: ¬a=2->a=3):a=2\/a=3:=if z:a=2 then .inl z else .inr (h z)
theorem q79 {v c:Nat} (h:48<=c/\c<=55):(v:Int)*8+((c:Int)-48)=((8*v+(c-48):Nat):Int):=(congr (congrArg (· + ·) (Int.mul_comm (v:Int) 8)) (Int.ofNat_sub h.1).symm)
theorem q80 {j n:Nat} (h:j<n):j<=n-1:=Nat.le_sub_one_of_lt h
theorem q82 {z:Int} (h:0<=z/\z<256):((z.toNat%2 ^8:Nat):Int)=z:=(congrArg Int.ofNat (Nat.mod_eq_of_lt ((Int.toNat_lt (n:=256) h.1).mpr h.2))).trans (Int.toNat_of_nonneg h.1)
theorem ZL {mu:Int} {n:Nat} (e:n=(1+mu).toNat) (h:0<=mu/\mu<=5):n<=6:=e▸(Int.toNat_le (n:=6)).mpr (Int.add_le_add_left h.2 1)
theorem q83 {mu:Int} {n i:Nat} (hi:i<n) (e:n=(1+mu).toNat) (h:0<=mu/\mu<=5):11*i<900:=Nat.lt_of_le_of_lt (Nat.mul_le_mul_left 11 (Nat.le_of_lt (Nat.lt_of_lt_of_le hi (ZL e h)))) (by decide)
theorem q86 {mu d:Int} {n i:Nat} (h1:d<=((11*i:Nat):Int)) (hi:i<=n) (e:n=(1+mu).toNat) (h:0<=mu/\mu<=5):d<=((100:Nat):Int):=Int.le_trans h1 (Int.ofNat_le.mpr (Nat.le_trans (Nat.mul_le_mul_left 11 (Nat.le_trans hi (ZL e h))) (by decide)))
theorem q85 {c:Nat} (h: ¬(32<=c/\c<=126\/c=9)):((c:Int)<32\/126<(c:Int))/\ ¬c=9:=⟨(Nat.lt_or_ge c 32).elim (fun z=>.inl (Int.ofNat_lt.mpr z)) fun z=>.inr (Int.ofNat_lt.mpr (Nat.lt_of_not_le fun y=>h (.inl ⟨z,y⟩))),fun z=>h (.inr z)⟩
theorem q88 {v y r B:Int} (h:v<B) (hy:y*2+r<=B) (h0:0<=v):v*1000003+y*2+r<B*1048576:=by omega
theorem f8 {p0 p1:Prop} {G:Prop} (h:p0/\p1) (k:p0->p1->G):G:=k h.1 h.2
theorem n5 {p0 p1 p2:Prop} {G:Prop} (h:p0/\p1/\p2) (k:p0->p1->p2->G):G:=k h.1 h.2.1 h.2.2
theorem Q0 {p0 p1 p2 p3:Prop} {G:Prop} (h:p0/\p1/\p2/\p3) (k:p0->p1->p2->p3->G):G:=k h.1 h.2.1 h.2.2.1 h.2.2.2
theorem OE {p0 p1 p2 p3 p4:Prop} {G:Prop} (h:p0/\p1/\p2/\p3/\p4) (k:p0->p1->p2->p3->p4->G):G:=k h.1 h.2.1 h.2.2.1 h.2.2.2.1 h.2.2.2.2
theorem JQ {p0 p1 p2 p3 p4 p5:Prop} {G:Prop} (h:p0/\p1/\p2/\p3/\p4/\p5) (k:p0->p1->p2->p3->p4->p5->G):G:=k h.1 h.2.1 h.2.2.1 h.2.2.2.1 h.2.2.2.2.1 h.2.2.2.2.2
theorem VQ {p0 p1 p2 p3 p4 p5 p6:Prop} {G:Prop} (h:p0/\p1/\p2/\p3/\p4/\p5/\p6) (k:p0->p1->p2->p3->p4->p5->p6->G):G:=k h.1 h.2.1 h.2.2.1 h.2.2.2.1 h.2.2.2.2.1 h.2.2.2.2.2.1 h.2.2.2.2.2.2
theorem RV {p0 p1 p2 p3 p4 p5 p6 p7 p8 p9:Prop} {G:Prop} (h:p0/\p1/\p2/\p3/\p4/\p5/\p6/\p7/\p8/\p9) (k:p0->p1->p2->p3->p4->p5->p6->p7->p8->p9->G):G:=k h.1 h.2.1 h.2.2.1 h.2.2.2.1 h.2.2.2.2.1 h.2.2.2.2.2.1 h.2.2.2.2.2.2.1 h.2.2.2.2.2.2.2.1 h.2.2.2.2.2.2.2.2.1 h.2.2.2.2.2.2.2.2.2
theorem d6.{u0} {α:Sort u0} {p0:α->Prop} {G:Prop} (h: ∃a,p0 a) (k: ∀a,p0 a->G):G:=h.elim fun a h=>k a h
theorem e8.{u0} {α:Sort u0} {p0 p1:α->Prop} {G:Prop} (h: ∃a,p0 a/\p1 a) (k: ∀a,p0 a->p1 a->G):G:=h.elim fun a h=>k a h.1 h.2
theorem r6.{u0} {α:Sort u0} {p0 p1 p2:α->Prop} {G:Prop} (h: ∃a,p0 a/\p1 a/\p2 a) (k: ∀a,p0 a->p1 a->p2 a->G):G:=h.elim fun a h=>k a h.1 h.2.1 h.2.2
theorem iJ.{u0} {α:Sort u0} {p0 p1 p2 p3:α->Prop} {G:Prop} (h: ∃a,p0 a/\p1 a/\p2 a/\p3 a) (k: ∀a,p0 a->p1 a->p2 a->p3 a->G):G:=h.elim fun a h=>k a h.1 h.2.1 h.2.2.1 h.2.2.2
theorem DU.{u0} {α:Sort u0} {p0 p1 p2 p3 p4:α->Prop} {G:Prop} (h: ∃a,p0 a/\p1 a/\p2 a/\p3 a/\p4 a) (k: ∀a,p0 a->p1 a->p2 a->p3 a->p4 a->G):G:=h.elim fun a h=>k a h.1 h.2.1 h.2.2.1 h.2.2.2.1 h.2.2.2.2
theorem C0.{u0,u1} {α:Sort u0} {β:Sort u1} {p0:α->β->Prop} {G:Prop} (h: ∃a b,p0 a b) (k: ∀a b,p0 a b->G):G:=h.elim fun a h=>h.elim fun b h=>k a b h
theorem r0.{u0,u1} {α:Sort u0} {β:Sort u1} {p0 p1:α->β->Prop} {G:Prop} (h: ∃a b,p0 a b/\p1 a b) (k: ∀a b,p0 a b->p1 a b->G):G:=h.elim fun a h=>h.elim fun b h=>k a b h.1 h.2
theorem v8.{u0,u1} {α:Sort u0} {β:Sort u1} {p0 p1 p2:α->β->Prop} {G:Prop} (h: ∃a b,p0 a b/\p1 a b/\p2 a b) (k: ∀a b,p0 a b->p1 a b->p2 a b->G):G:=h.elim fun a h=>h.elim fun b h=>k a b h.1 h.2.1 h.2.2
theorem cQ.{u0,u1} {α:Sort u0} {β:Sort u1} {p0 p1 p2 p3:α->β->Prop} {G:Prop} (h: ∃a b,p0 a b/\p1 a b/\p2 a b/\p3 a b) (k: ∀a b,p0 a b->p1 a b->p2 a b->p3 a b->G):G:=h.elim fun a h=>h.elim fun b h=>k a b h.1 h.2.1 h.2.2.1 h.2.2.2
theorem iK.{u0,u1} {α:Sort u0} {β:Sort u1} {p0 p1 p2 p3 p4:α->β->Prop} {G:Prop} (h: ∃a b,p0 a b/\p1 a b/\p2 a b/\p3 a b/\p4 a b) (k: ∀a b,p0 a b->p1 a b->p2 a b->p3 a b->p4 a b->G):G:=h.elim fun a h=>h.elim fun b h=>k a b h.1 h.2.1 h.2.2.1 h.2.2.2.1 h.2.2.2.2
theorem OF.{u0,u1} {α:Sort u0} {β:Sort u1} {p0 p1 p2 p3 p4 p5:α->β->Prop} {G:Prop} (h: ∃a b,p0 a b/\p1 a b/\p2 a b/\p3 a b/\p4 a b/\p5 a b) (k: ∀a b,p0 a b->p1 a b->p2 a b->p3 a b->p4 a b->p5 a b->G):G:=h.elim fun a h=>h.elim fun b h=>k a b h.1 h.2.1 h.2.2.1 h.2.2.2.1 h.2.2.2.2.1 h.2.2.2.2.2
theorem wQ.{u0,u1,u2} {α:Sort u0} {β:Sort u1} {γ:Sort u2} {p0:α->β->γ->Prop} {G:Prop} (h: ∃a b c,p0 a b c) (k: ∀a b c,p0 a b c->G):G:=h.elim fun a h=>h.elim fun b h=>h.elim fun c h=>k a b c h
theorem F5.{u0,u1,u2} {α:Sort u0} {β:Sort u1} {γ:Sort u2} {p0 p1:α->β->γ->Prop} {G:Prop} (h: ∃a b c,p0 a b c/\p1 a b c) (k: ∀a b c,p0 a b c->p1 a b c->G):G:=h.elim fun a h=>h.elim fun b h=>h.elim fun c h=>k a b c h.1 h.2
theorem nJ.{u0,u1,u2} {α:Sort u0} {β:Sort u1} {γ:Sort u2} {p0 p1 p2:α->β->γ->Prop} {G:Prop} (h: ∃a b c,p0 a b c/\p1 a b c/\p2 a b c) (k: ∀a b c,p0 a b c->p1 a b c->p2 a b c->G):G:=h.elim fun a h=>h.elim fun b h=>h.elim fun c h=>k a b c h.1 h.2.1 h.2.2
theorem X0.{u0,u1,u2} {α:Sort u0} {β:Sort u1} {γ:Sort u2} {p0 p1 p2 p3:α->β->γ->Prop} {G:Prop} (h: ∃a b c,p0 a b c/\p1 a b c/\p2 a b c/\p3 a b c) (k: ∀a b c,p0 a b c->p1 a b c->p2 a b c->p3 a b c->G):G:=h.elim fun a h=>h.elim fun b h=>h.elim fun c h=>k a b c h.1 h.2.1 h.2.2.1 h.2.2.2
theorem OG.{u0,u1,u2} {α:Sort u0} {β:Sort u1} {γ:Sort u2} {p0 p1 p2 p3 p4:α->β->γ->Prop} {G:Prop} (h: ∃a b c,p0 a b c/\p1 a b c/\p2 a b c/\p3 a b c/\p4 a b c) (k: ∀a b c,p0 a b c->p1 a b c->p2 a b c->p3 a b c->p4 a b c->G):G:=h.elim fun a h=>h.elim fun b h=>h.elim fun c h=>k a b c h.1 h.2.1 h.2.2.1 h.2.2.2.1 h.2.2.2.2
theorem VR.{u0,u1,u2} {α:Sort u0} {β:Sort u1} {γ:Sort u2} {p0 p1 p2 p3 p4 p5:α->β->γ->Prop} {G:Prop} (h: ∃a b c,p0 a b c/\p1 a b c/\p2 a b c/\p3 a b c/\p4 a b c/\p5 a b c) (k: ∀a b c,p0 a b c->p1 a b c->p2 a b c->p3 a b c->p4 a b c->p5 a b c->G):G:=h.elim fun a h=>h.elim fun b h=>h.elim fun c h=>k a b c h.1 h.2.1 h.2.2.1 h.2.2.2.1 h.2.2.2.2.1 h.2.2.2.2.2
theorem JR.{u0,u1,u2} {α:Sort u0} {β:Sort u1} {γ:Sort u2} {p0 p1 p2 p3 p4 p5 p6 p7:α->β->γ->Prop} {G:Prop} (h: ∃a b c,p0 a b c/\p1 a b c/\p2 a b c/\p3 a b c/\p4 a b c/\p5 a b c/\p6 a b c/\p7 a b c) (k: ∀a b c,p0 a b c->p1 a b c->p2 a b c->p3 a b c->p4 a b c->p5 a b c->p6 a b c->p7 a b c->G):G:=h.elim fun a h=>h.elim fun b h=>h.elim fun c h=>k a b c h.1 h.2.1 h.2.2.1 h.2.2.2.1 h.2.2.2.2.1 h.2.2.2.2.2.1 h.2.2.2.2.2.2.1 h.2.2.2.2.2.2.2
theorem nK.{u0,u1,u2,u3} {α:Sort u0} {β:Sort u1} {γ:Sort u2} {δ:Sort u3} {p0 p1:α->β->γ->δ->Prop} {G:Prop} (h: ∃a b c d,p0 a b c d/\p1 a b c d) (k: ∀a b c d,p0 a b c d->p1 a b c d->G):G:=h.elim fun a h=>h.elim fun b h=>h.elim fun c h=>h.elim fun d h=>k a b c d h.1 h.2
theorem sW.{u0,u1,u2,u3} {α:Sort u0} {β:Sort u1} {γ:Sort u2} {δ:Sort u3} {p0 p1 p2:α->β->γ->δ->Prop} {G:Prop} (h: ∃a b c d,p0 a b c d/\p1 a b c d/\p2 a b c d) (k: ∀a b c d,p0 a b c d->p1 a b c d->p2 a b c d->G):G:=h.elim fun a h=>h.elim fun b h=>h.elim fun c h=>h.elim fun d h=>k a b c d h.1 h.2.1 h.2.2
theorem sX.{u0,u1,u2,u3} {α:Sort u0} {β:Sort u1} {γ:Sort u2} {δ:Sort u3} {p0 p1 p2 p3:α->β->γ->δ->Prop} {G:Prop} (h: ∃a b c d,p0 a b c d/\p1 a b c d/\p2 a b c d/\p3 a b c d) (k: ∀a b c d,p0 a b c d->p1 a b c d->p2 a b c d->p3 a b c d->G):G:=h.elim fun a h=>h.elim fun b h=>h.elim fun c h=>h.elim fun d h=>k a b c d h.1 h.2.1 h.2.2.1 h.2.2.2
theorem AR.{u0,u1,u2,u3} {α:Sort u0} {β:Sort u1} {γ:Sort u2} {δ:Sort u3} {p0 p1 p2 p3 p4:α->β->γ->δ->Prop} {G:Prop} (h: ∃a b c d,p0 a b c d/\p1 a b c d/\p2 a b c d/\p3 a b c d/\p4 a b c d) (k: ∀a b c d,p0 a b c d->p1 a b c d->p2 a b c d->p3 a b c d->p4 a b c d->G):G:=h.elim fun a h=>h.elim fun b h=>h.elim fun c h=>h.elim fun d h=>k a b c d h.1 h.2.1 h.2.2.1 h.2.2.2.1 h.2.2.2.2
theorem X1.{u0,u1,u2,u3} {α:Sort u0} {β:Sort u1} {γ:Sort u2} {δ:Sort u3} {p0 p1 p2 p3 p4 p5:α->β->γ->δ->Prop} {G:Prop} (h: ∃a b c d,p0 a b c d/\p1 a b c d/\p2 a b c d/\p3 a b c d/\p4 a b c d/\p5 a b c d) (k: ∀a b c d,p0 a b c d->p1 a b c d->p2 a b c d->p3 a b c d->p4 a b c d->p5 a b c d->G):G:=h.elim fun a h=>h.elim fun b h=>h.elim fun c h=>h.elim fun d h=>k a b c d h.1 h.2.1 h.2.2.1 h.2.2.2.1 h.2.2.2.2.1 h.2.2.2.2.2
theorem V6.{u0,u1,u2,u3,u4} {α:Sort u0} {β:Sort u1} {γ:Sort u2} {δ:Sort u3} {ε:Sort u4} {p0 p1:α->β->γ->δ->ε->Prop} {G:Prop} (h: ∃a b c d e,p0 a b c d e/\p1 a b c d e) (k: ∀a b c d e,p0 a b c d e->p1 a b c d e->G):G:=h.elim fun a h=>h.elim fun b h=>h.elim fun c h=>h.elim fun d h=>h.elim fun e h=>k a b c d e h.1 h.2
theorem AS.{u0,u1,u2,u3,u4} {α:Sort u0} {β:Sort u1} {γ:Sort u2} {δ:Sort u3} {ε:Sort u4} {p0 p1 p2 p3:α->β->γ->δ->ε->Prop} {G:Prop} (h: ∃a b c d e,p0 a b c d e/\p1 a b c d e/\p2 a b c d e/\p3 a b c d e) (k: ∀a b c d e,p0 a b c d e->p1 a b c d e->p2 a b c d e->p3 a b c d e->G):G:=h.elim fun a h=>h.elim fun b h=>h.elim fun c h=>h.elim fun d h=>h.elim fun e h=>k a b c d e h.1 h.2.1 h.2.2.1 h.2.2.2
theorem RW.{u0,u1,u2,u3,u4} {α:Sort u0} {β:Sort u1} {γ:Sort u2} {δ:Sort u3} {ε:Sort u4} {p0 p1 p2 p3 p4 p5 p6 p7 p8 p9:α->β->γ->δ->ε->Prop} {G:Prop} (h: ∃a b c d e,p0 a b c d e/\p1 a b c d e/\p2 a b c d e/\p3 a b c d e/\p4 a b c d e/\p5 a b c d e/\p6 a b c d e/\p7 a b c d e/\p8 a b c d e/\p9 a b c d e) (k: ∀a b c d e,p0 a b c d e->p1 a b c d e->p2 a b c d e->p3 a b c d e->p4 a b c d e->p5 a b c d e->p6 a b c d e->p7 a b c d e->p8 a b c d e->p9 a b c d e->G):G:=h.elim fun a h=>h.elim fun b h=>h.elim fun c h=>h.elim fun d h=>h.elim fun e h=>k a b c d e h.1 h.2.1 h.2.2.1 h.2.2.2.1 h.2.2.2.2.1 h.2.2.2.2.2.1 h.2.2.2.2.2.2.1 h.2.2.2.2.2.2.2.1 h.2.2.2.2.2.2.2.2.1 h.2.2.2.2.2.2.2.2.2
theorem VS.{u0,u1,u2,u3,u4,u5} {α:Sort u0} {β:Sort u1} {γ:Sort u2} {δ:Sort u3} {ε:Sort u4} {ζ:Sort u5} {p0 p1:α->β->γ->δ->ε->ζ->Prop} {G:Prop} (h: ∃a b c d e f,p0 a b c d e f/\p1 a b c d e f) (k: ∀a b c d e f,p0 a b c d e f->p1 a b c d e f->G):G:=h.elim fun a h=>h.elim fun b h=>h.elim fun c h=>h.elim fun d h=>h.elim fun e h=>h.elim fun f h=>k a b c d e f h.1 h.2
theorem VT.{u0,u1,u2,u3,u4,u5,u6,u7,u8} {α:Sort u0} {β:Sort u1} {γ:Sort u2} {δ:Sort u3} {ε:Sort u4} {ζ:Sort u5} {η:Sort u6} {θ:Sort u7} {ι:Sort u8} {p0 p1:α->β->γ->δ->ε->ζ->η->θ->ι->Prop} {G:Prop} (h: ∃a b c d e f g i j,p0 a b c d e f g i j/\p1 a b c d e f g i j) (k: ∀a b c d e f g i j,p0 a b c d e f g i j->p1 a b c d e f g i j->G):G:=h.elim fun a h=>h.elim fun b h=>h.elim fun c h=>h.elim fun d h=>h.elim fun e h=>h.elim fun f h=>h.elim fun g h=>h.elim fun i h=>h.elim fun j h=>k a b c d e f g i j h.1 h.2
theorem VU.{u0,u1,u2,u3,u4,u5,u6,u7,u8} {α:Sort u0} {β:Sort u1} {γ:Sort u2} {δ:Sort u3} {ε:Sort u4} {ζ:Sort u5} {η:Sort u6} {θ:Sort u7} {ι:Sort u8} {p0 p1 p2:α->β->γ->δ->ε->ζ->η->θ->ι->Prop} {G:Prop} (h: ∃a b c d e f g i j,p0 a b c d e f g i j/\p1 a b c d e f g i j/\p2 a b c d e f g i j) (k: ∀a b c d e f g i j,p0 a b c d e f g i j->p1 a b c d e f g i j->p2 a b c d e f g i j->G):G:=h.elim fun a h=>h.elim fun b h=>h.elim fun c h=>h.elim fun d h=>h.elim fun e h=>h.elim fun f h=>h.elim fun g h=>h.elim fun i h=>h.elim fun j h=>k a b c d e f g i j h.1 h.2.1 h.2.2
theorem RX.{u0,u1,u2,u3,u4,u5,u6,u7,u8} {α:Sort u0} {β:Sort u1} {γ:Sort u2} {δ:Sort u3} {ε:Sort u4} {ζ:Sort u5} {η:Sort u6} {θ:Sort u7} {ι:Sort u8} {p0 p1 p2 p3:α->β->γ->δ->ε->ζ->η->θ->ι->Prop} {G:Prop} (h: ∃a b c d e f g i j,p0 a b c d e f g i j/\p1 a b c d e f g i j/\p2 a b c d e f g i j/\p3 a b c d e f g i j) (k: ∀a b c d e f g i j,p0 a b c d e f g i j->p1 a b c d e f g i j->p2 a b c d e f g i j->p3 a b c d e f g i j->G):G:=h.elim fun a h=>h.elim fun b h=>h.elim fun c h=>h.elim fun d h=>h.elim fun e h=>h.elim fun f h=>h.elim fun g h=>h.elim fun i h=>h.elim fun j h=>k a b c d e f g i j h.1 h.2.1 h.2.2.1 h.2.2.2
end
section
set_option hygiene false in
local macro_rules | `(tactic| show $t) => `(tactic| refine(?_ : $t))
set_option hygiene false in
local macro_rules | `(tactic| omega) => do
  let f := RU #[<- `(by assumption), <- `(by decide), <- `(_)]
  let a := f "RT/001 VJ/001 VK/001 VL/0011 VM/0001 VN/0011 obb/0001 oz1/0001 q58/00 q59/00 q60/001"
  let b := f "Nat.le_trans/01 ole/001 VI/001 ols/0001 oa2/0001 oa3/0001 oz3/01 q3/001 q4/1 q5/1 q53/00 q61/0"
  let c := f "Nat.lt_of_le_of_lt/01 oac/0001"
  let d := f "VH ZX ohs okk VG/0 oz5/01 Nat.sub_add_comm/0 ZZ/00 oj2/0 ZG/0 ZH/00 ozn/0 ozt/0 oz6 q1/00 q2/0 Nat.sub_eq_zero_of_le/0 q48/0 q56/000 q57 q62/0 Nat.min_eq_left/0 q66/0 Nat.add_sub_cancel'/0 Nat.sub_right_comm/222"
  let e := f "oz7/0 oz8/0 oz9/0 Nat.sub_le/22 q11/001 q31/1"
  let g := f "ZC/00 ZY/000 oc1/0 oad/0 ZI/0 Nat.add_le_add/00 Nat.succ_le_succ/0 q5/1 q10/0 q24/000 q32/0000 q33/000 q40/00 q67/00 q69/0"
  let h := f "Nat.le_trans/01 Nat.le_of_lt/0 Nat.le_of_not_lt/0 Nat.le_succ_of_le/0 Nat.le_of_lt_succ/0 Nat.le_of_eq/0 Nat.le_trans/00 Nat.le_refl/2 Nat.min_le_left/22 Nat.min_le_right/22 Nat.le_max_left/22 omx/0 Nat.le_of_sub_eq_zero/0 Nat.le_pred_of_lt/0 q4/1 q4/0 q8/00 q9/00 q18/0000 q26/00 q25/0 q27/001 q28/0000 q41/0 q46/00 q47/0 q49 q54/0 q63/0 q64/00 ZK/00 q71/000 q75/0 q77/0 q80/0"
  let i := f "Nat.lt_of_le_of_lt/01 Nat.lt_of_lt_of_le/00 VP/0 ZW/0 ZE/0 ou2/0 ZF/00 q14/00 q16/000 q17/0000 q30/000 q34/0 q35/0 q36/0 q37/00 q38/00 q39/0 q50/01 q51/00 q52/0 q72/000 q83/000"
  let k := f "q6/0 q7/0 q12/001 q13/0 q19/0000 q42/0 q43/0 q73/0 q86/0000"
  let l := f "oT/0 q23/00"
  let m := f "q20/10 q22/00 q44/0 q45/0 q74 q79/0 q82/0"
  let n := f "oe2/0 q29 q85/0"
  let j := f "ZJ q76 q78/0 q55/00"
  `(tactic| first | (with_reducible first | assumption | (show Int.natAbs _ < _; first $[| exact $a]*) | (show _ <= i0; first $[| exact $b]*) | (show _ < i0; first $[| exact $c]*) | (show(_ : Nat) = _; first $[| exact $d]*) | (show _ - _ <= _; first $[| exact $e]*) | (show _ + _ <= _; first $[| exact $g]*) | (show(_ : Nat) <= _; first $[| exact $h]*) | (show(_ : Nat) < _; first $[| exact $i]*) | (show(_ : Int) <= _; first $[| exact $k]*) | (show(_ : Int) < _; first $[| exact $l]*) | (show(_ : Int) = _; first $[| exact $m]*) | (show _ /\ _; first $[| exact $n]*) $[| exact $j]*) | decide | (simp; done) | omega +splitMinMax)
section
open PySem PySem.W PyProof.Rows
noncomputable abbrev RY:=PySem.Challenge.rw_tk0066_01
noncomputable abbrev pw:=PySem.Challenge.pw_tk0066_01
noncomputable def oP:List Nat:=[10,11,12,13,14,15,16,17,18,19,20,21,22,23,25,26,27,28,29,30,31,32,33,34,35,36,37,38,39,40,41,42,43,44]
noncomputable def qv:Program:={pw with main:={pw.main with body:=oP.map (i4 pw.main.body)}}
noncomputable def DV:List Str:=[Str.ofString "BoardError",Str.ofString "BadText",Str.ofString "ESCAPES",Str.ofString "LETTERS",Str.ofString "FIGURES",Str.ofString "OCTAL",Str.ofString "NAME_SIGNS",Str.ofString "QUOTES"]
noncomputable def OH (h:Heap):Frag:=[2,52,32,31,51,29,49].filterMap fun a=>(h.get? a).map fun o=>(a,o)
noncomputable def jR (v:Option Value) (s:String):Bool:=match v with
 |some (.str x _)=>x==Str.ofString s
 |_=>false
noncomputable def MX (c:Option CFound) (v:Value):Bool:=match c with
 |some (.val u)=>u==v
 |_=>false
noncomputable def VV (s:Shared):Bool:=
 let h:=s.heap;let K:=OH h;let m:=h.nsMap mainGlobals
 h.isNs 51 &&h.isNs 31 &&
 ((h.nsMap 51 "__setattr__").isNone &&(h.nsMap 51 "line").isNone &&(h.nsMap 51 "reason").isNone &&(h.nsMap 51 "__getattribute__").isNone &&(h.nsMap 51 "__getattr__").isNone &&(h.nsMap 31 "__getattribute__").isNone &&(h.nsMap 31 "__getattr__").isNone &&(h.nsMap 31 "__setattr__").isNone &&(h.nsMap 31 "line").isNone &&(h.nsMap 31 "reason").isNone &&h.nsMap 51 "__init__"==some (.ref 49)) &&
 (m "BoardError"==some (.ref 32) &&m "BadText"==some (.ref 52) &&m "ESCAPES"==some (.ref 55) &&(m "ValueError").isNone &&m "_law_told"==some (.ref 242) &&m "_law_atom_right"==some (.ref 263) &&m "_law_line_right"==some (.ref 268) &&m "law"==some (.ref 275)) &&
 (jR (m "FIGURES") "0123456789" &&jR (m "OCTAL") "01234567" &&jR (m "NAME_SIGNS") "abcdefghijklmnopqrstuvwxyzABCDEFGHIJKLMNOPQRSTUVWXYZ0123456789_.$" &&jR (m "QUOTES") "\"'") &&
 (m9.all fun f=>(m f).isNone) &&
 (readsIn K 32 (.type "type") &&MX (findCls K (.ref 32) (.type "type") "__init__") (.ref 29) &&specialIn K (.ref 32) "__getattribute__"==some (some (.builtin "type.__getattribute__")))
noncomputable def qM (o:Obj):Option (Option Value):=match o.data with
 | .fields vs=>some vs[1]?
 |_=>none
noncomputable def wR (o:Obj):Option (Value×Value):=match o.data with
 | .func fd=>some (o.cls,fd.code)
 |_=>none
noncomputable def wS (nm:String) (t l n ref P:Nat) (x1 x2 x3:Value) (tt:Nat):Obj:={cls:=.type "code",data:=.fields #[.str (Str.ofString nm) t,.str (Str.ofString nm) (t+1),.str "/claim/cut.py" (t+2),.int l 0,.int n 0,.int 0 0,.int 0 0,.int 3 0,.ref ref,.bool true,.int 181 0,.ref P,.none,x1,x2,x3,.int tt 0,.int l 0,.str "/claim/cut.py" (tt+1)]}
noncomputable def DW (i:Nat):Option (Arguments×List Stmt×Scope):=match i4 pw.main.body i with
 | .ClassDef (body:=.FunctionDef (args:=ps) (body:=b) (scope:=sc) .. ::_) .. =>some (ps,b,sc)
 |_=>none
noncomputable def iP (i:Nat):Arguments:=match DW i with|some q=>q.1|none=>⟨[],[],none,[],[],none,[]⟩
noncomputable def iB (i:Nat):List Stmt:=match DW i with|some q=>q.2.1|none=>[]
noncomputable def iS (i:Nat):Scope:=match DW i with|some q=>q.2.2|none=>pw.main.scope
noncomputable def JP (q:String) (i:Nat) (d:Value) (c:Addr):FuncData:={name:="__init__",qualname:=Str.ofString q,params:=iP i,body:=.stmts (iB i),scope:=iS i,globals:=3,closure:=[],defaults:=d,kwdefaults:=.none,doc:=.none,pyModule:=.str "pipeboard.errors" 187,code:=.ref c}
noncomputable def MY:Obj:={cls:=.type "type",data:=.cls {name:="BadText",bases:=[.ref 32],mro:=[.ref 52,.ref 32,.type "ValueError",.type "Exception",.type "BaseException",.type "object"],ns:=51,qualname:="BadText"},slots:= #[some (.ref 36),none,some (.str "BadText" 217),some (.str "BadText" 225),some (.builtin "ValueError.__new__"),some (.bool true)]}
noncomputable def MZ:Obj:={cls:=.type "type",data:=.cls {name:="BoardError",bases:=[.type "ValueError"],mro:=[.ref 32,.type "ValueError",.type "Exception",.type "BaseException",.type "object"],ns:=31,qualname:="BoardError",subclasses:=[.ref 52]},slots:= #[some (.ref 15),none,some (.str "BoardError" 189),some (.str "BoardError" 197),some (.builtin "ValueError.__new__"),some (.bool true)]}
noncomputable def jS (w:World) (k:String) (t:Nat) (v:Int):DictEntry:=⟨PyData.keyHash w.params (Str.ofString k),.str (Str.ofString k) t,.int v (t+1)⟩
noncomputable def NA (w:World):Obj:={cls:=.type "dict",data:=.dict #[jS w "n" 245 10,jS w "t" 247 9,jS w "r" 249 13,jS w "\\" 251 92,jS w "'" 253 39,jS w "\"" 255 34] 6}
noncomputable def OI (o:Obj):Option (Value×FuncData):=match o.data with
 | .func fd=>some (o.cls,fd)
 |_=>none
noncomputable def Yf (s:Shared):=([52,32,22,262,258,267,265,274,270,55].map s.heap.get?,[29,49].map (fun a=>(s.heap.get? a).map OI),[28,48].map (fun a=>(s.heap.get? a).map qM),[242,263,268,275].map (fun a=>(s.heap.get? a).map wR))
noncomputable def Ya (w:World):List (Option Obj)×List (Option (Option (Value×FuncData)))×List (Option (Option (Option Value)))×List (Option (Option (Value×Value))):=
 ([some MY,some MZ,some {cls:=.type "tuple",data:=.seq #[.str "" 201]},
  some (wS "_law_atom_right" 552 278 2 257 258 (.ref 259) (.ref 260) (.ref 261) 561),some (tabObj #[]),some (wS "_law_line_right" 564 289 2 264 265 .none .none (.ref 266) 567),some (tabObj #[]),
  some (wS "law" 570 314 1 269 270 (.ref 271) (.ref 272) (.ref 273) 581),some (tabObj #[]),some (NA w)],
  [some (some (.type "function",JP "BoardError.__init__" 1 (.ref 22) 28)),some (some (.type "function",JP "BadText.__init__" 2 .none 48))],
  [some (some (some (.str "BoardError.__init__" 203))),some (some (some (.str "BadText.__init__" 230)))],
  [some (some (.type "function",.ref 241)),some (some (.type "function",.ref 262)),some (some (.type "function",.ref 267)),some (some (.type "function",.ref 274))])
theorem RZ:OpenLaw.wellSaid RY=true:=by kernel_rfl
theorem SA:LeftO RY.row.toRowW.prog qv DV VV Yf Ya 3506:=.of_split "special-get-raises" fun w=>by kernel_rfl
noncomputable def o4 (a:Addr):Prop:=a=258\/a=265\/a=270
structure GX (mg:Str->Option Value) (h:Heap) (mC mB:Str->Option Value) (K:Frag):Prop where
 nC:h.Ns 51 mC
 nB:h.Ns 31 mB
 kin:K.In h
 kt: ∀a o,K.lookup a=some o-> ¬o4 a
 c:mC "__setattr__"=none/\mC "line"=none/\mC "reason"=none/\mC "__getattribute__"=none/\mC "__getattr__"=none/\mC "__init__"=some (.ref 49)
 b:mB "__setattr__"=none/\mB "line"=none/\mB "reason"=none/\mB "__getattribute__"=none/\mB "__getattr__"=none
 m:mg "BoardError"=some (.ref 32)/\mg "BadText"=some (.ref 52)/\mg "ESCAPES"=some (.ref 55)/\mg "ValueError"=none/\mg "_law_told"=some (.ref 242)/\mg "_law_atom_right"=some (.ref 263)/\mg "_law_line_right"=some (.ref 268)/\mg "law"=some (.ref 275)
 t:(∃t,mg "FIGURES"=some (.str "0123456789" t))/\(∃t,mg "OCTAL"=some (.str "01234567" t))/\(∃t,mg "NAME_SIGNS"=some (.str "abcdefghijklmnopqrstuvwxyzABCDEFGHIJKLMNOPQRSTUVWXYZ0123456789_.$" t))/\ ∃t,mg "QUOTES"=some (.str "\"'" t)
 nine: ∀f,m9.contains f=true->mg f=none
 k:readsIn K 32 (.type "type")=true/\findCls K (.ref 32) (.type "type") "__init__"=some (.val (.ref 29))/\specialIn K (.ref 32) "__getattribute__"=some (some (.builtin "type.__getattribute__"))
noncomputable def RL (mg:Str->Option Value) (h:Heap):Prop:= ∃mC mB K,GX mg h mC mB K
noncomputable def DY (h:Heap) (a:Addr) (fd:FuncData):Prop:= ∃o,h.get? a=some o/\o.data=.func fd/\o.cls=.type "function"
noncomputable def X2 (h:Heap) (a:Addr) (c:Value):Prop:= ∃o fd,h.get? a=some o/\o.data=.func fd/\fd.code=c/\o.cls=.type "function"
noncomputable def AT (h:Heap) (a:Addr) (v:Value):Prop:= ∃o vs,h.get? a=some o/\o.data=.fields vs/\vs[1]? =some v
structure GY (w:World) (h:Heap):Prop where
 o52:h.get? 52=some MY
 o32:h.get? 32=some MZ
 o22:h.get? 22=some {cls:=.type "tuple",data:=.seq #[.str "" 201]}
 t:h.get? 262=some (wS "_law_atom_right" 552 278 2 257 258 (.ref 259) (.ref 260) (.ref 261) 561)/\h.get? 258=some (tabObj #[])/\h.get? 267=some (wS "_law_line_right" 564 289 2 264 265 .none .none (.ref 266) 567)/\h.get? 265=some (tabObj #[])/\
  h.get? 274=some (wS "law" 570 314 1 269 270 (.ref 271) (.ref 272) (.ref 273) 581)/\h.get? 270=some (tabObj #[])
 o55:h.get? 55=some (NA w)
 f29:DY h 29 (JP "BoardError.__init__" 1 (.ref 22) 28)
 f49:DY h 49 (JP "BadText.__init__" 2 .none 48)
 c28:AT h 28 (.str "BoardError.__init__" 203)
 c48:AT h 48 (.str "BadText.__init__" 230)
 c242:X2 h 242 (.ref 241)
 c263:X2 h 263 (.ref 262)
 c268:X2 h 268 (.ref 267)
 c275:X2 h 275 (.ref 274)
noncomputable def K1 (i:Nat):DefRec:=match i4 pw.main.body i with
 | .FunctionDef name ps b _ _ _ sc _ _ pos=>⟨name,ps,b,sc,pos⟩
 |_=>⟨"",⟨[],[],none,[],[],none,[]⟩,[],pw.main.scope,⟨0,0,0,0⟩⟩
noncomputable def Wk (v:World):Prop:=WalkO qv DV RL (fun u h=>GY u h/\u=v) RY.row.toRowW (K1 44) [] fun f vs=>PySem.call f vs
@[irreducible] noncomputable def w:World:= @Classical.epsilon World ⟨{draws:=fun _ _=>0,params:={strHash:=fun _=>0,shareClass:=fun _=>0,mergeTok:=id,idOf:=fun _=>0,idOfShared:=fun _ _=>0,followText:=fun _=>false,idOfImm:=fun _=>0}}⟩ fun v=> ¬Wk v
theorem OJ (h:Wk w) (v:World):Wk v:=Classical.byContradiction fun z=>by unfold w at h;exact Classical.epsilon_spec (p:=fun v=> ¬Wk v) ⟨v,z⟩ h
@[irreducible] noncomputable def prog:Program:=RY.row.toRowW.prog
theorem JS:prog=RY.row.toRowW.prog:=by unfold prog;rfl
end
section
open PySem
section
noncomputable abbrev b9:=List Nat
set_option genInjectivity true in
inductive V where
 |none
 |bool (b:Bool)
 |int (i:Int)
 |str (x:b9)
 |bytes (b:List Int)
 |tup (vs:List V)
 |list (vs:List V)
 |olist (vs:List V)
 |rng (n:Int)
 |dict (kvs:List (b9×Int))
set_option genInjectivity true in
inductive R (α:Type) where
 |stuck
 |err (line:Int)
 |ok (a:α)
namespace R
noncomputable def bind {α β:Type}:R α->(α->R β)->R β
 |stuck,_=>stuck
 |err l,_=>err l
 |ok a,f=>f a
noncomputable def map {α β:Type} (f:α->β):R α->R β
 |stuck=>stuck
 |err l=>err l
 |ok a=>ok (f a)
noncomputable def calm {α:Type}:R α->R α
 |err _=>stuck
 |r=>r
theorem bind_assoc {α β γ:Type} (r:R α) (f:α->R β) (h:β->R γ):(r.bind f).bind h=r.bind fun a=>(f a).bind h:=by cases r<;>rfl
theorem map_bind {α β γ:Type} (r:R α) (f:α->β) (h:β->R γ):(r.map f).bind h=r.bind fun a=>h (f a):=by cases r<;>rfl
theorem OK {α:Type} (r:R α):(r.bind fun a=>.ok a)=r:=by cases r<;>rfl
end R
noncomputable def B9 {α β:Type} (f:α->R β):List α->R (List β)
 |[]=>.ok []
 |x::r=>(f x).bind fun y=>(B9 f r).map (y:: ·)
noncomputable def D4 {α β:Type} (f:α->R (Option β)):List α->R (List β)
 |[]=>.ok []
 |x::r=>(f x).bind fun y=>(D4 f r).map fun ys=>match y with|some v=>v::ys|none=>ys
noncomputable def cR {α:Type} (f:α->R Bool):List α->R Bool
 |[]=>.ok true
 |x::r=>(f x).bind fun b=>if b then cR f r else .ok false
noncomputable def sY {α:Type} (f:α->R Bool):List α->R Bool
 |[]=>.ok false
 |x::r=>(f x).bind fun b=>if b then .ok true else sY f r
noncomputable abbrev d9:=List (Str×V)
noncomputable def d9.get (σ:d9) (x:Str):Option V:=List.lookup x σ
noncomputable def d9.set:d9->Str->V->d9
 |[],x,v=>[(x,v)]
 |(y,u)::r,x,v=>if x=y then (x,v)::r else (y,u)::d9.set r x v
structure G where
 const:Str->Option V
 fn:Str->Option (List V->R V)
 low:Str->Option (List V->R V)
 lam:Bool
noncomputable def G.lows (g:G):G:={g with fn:=g.low,lam:=false}
noncomputable def V.open? :V->Bool
 | .olist _=>true
 |_=>false
noncomputable def V.freeze:V->V
 | .olist vs=>.list vs
 |v=>v
noncomputable def qN:Const->R V
 | .none=>.ok .none
 | .bool b=>.ok (.bool b)
 | .int i=>.ok (.int i)
 | .str s=>.ok (.str s.cps.toList)
 |_=>.stuck
noncomputable def B2:V->R Bool
 | .none=>.ok false
 | .bool b=>.ok b
 | .int i=>.ok (i !=0)
 | .str x=>if x.length<=i0 then .ok (!x.isEmpty) else .stuck
 | .list vs=>if vs.length<=i0 then .ok (!vs.isEmpty) else .stuck
 |_=>.stuck
noncomputable def small (i:Int):Bool:=decide (i.natAbs<2 ^4096)
section
variable {β:Type}
noncomputable def strM (f:b9->R β):V->R β
 | .str x=>f x
 |_=>.stuck
noncomputable def intM (f:Int->R β):V->R β
 | .int i=>f i
 |_=>.stuck
noncomputable def AU (f:List V->R β):V->R β
 | .list x=>f x
 |_=>.stuck
noncomputable def SC (f:List V->R β):V->R β
 | .tup x=>f x
 |_=>.stuck
noncomputable def seqM (f:List V->R β):V->R β
 | .list x=>f x
 | .olist x=>f x
 |_=>.stuck
noncomputable def dictM (f:List (b9×Int)->R β):V->R β
 | .dict x=>f x
 |_=>.stuck
noncomputable def arg0 (r:R β):List V->R β
 |[]=>r
 |_=>.stuck
noncomputable def arg1 (f:V->R β):List V->R β
 |[v]=>f v
 |_=>.stuck
noncomputable def arg2 (f:V->V->R β):List V->R β
 |[u,v]=>f u v
 |_=>.stuck
noncomputable def oneM (x:b9) (f:Nat->R β):R β:=match x with
 |[c]=>f c
 |_=>.stuck
noncomputable def needR {α:Type} (o:Option α) (f:α->R β):R β:=match o with
 |some a=>f a
 |none=>.stuck
end
noncomputable def SD (x y:V):R V:=match x with
 | .int a=>intM (fun b=>.ok (.int (a+b))) y
 | .str x=>strM (fun y=>if x.length+y.length<=i0 then .ok (.str (x++y)) else .stuck) y
 | .list x=>AU (fun y=>if x.length+y.length<=i0 then .ok (.list (x++y)) else .stuck) y
 |_=>.stuck
noncomputable def R0 (op:Operator) (x y:V):R V:=match op with
 | .Add=>SD x y
 | .Sub=>intM (fun a=>intM (fun b=>.ok (.int (a-b))) y) x
 | .Mult=>intM (fun a=>intM (fun b=>if small a &&small b then .ok (.int (a*b)) else .stuck) y) x
 | .Pow=>intM (fun a=>intM (fun b=>if 0<=b/\b<=1000000/\a.natAbs<2 ^64 then .ok (.int (a ^b.toNat)) else .stuck) y) x
 | .Mod=>intM (fun a=>intM (fun b=>if 0<b then .ok (.int (a%b)) else .stuck) y) x
 | .FloorDiv=>intM (fun a=>intM (fun b=>if 0<b/\small b=true then .ok (.int (a/b)) else .stuck) y) x
 |_=>.stuck
noncomputable def OL:V->R V:=intM fun i=>.ok (.int (-i))
noncomputable def M0:List V->Option (List b9)
 |[]=>some []
 | .str x::r=>(M0 r).map (x:: ·)
 |_::_=>none
noncomputable def J3:List V->Option (List Int)
 |[]=>some []
 | .int x::r=>(J3 r).map (x:: ·)
 |_::_=>none
noncomputable def U5:List V->Option (List Bool)
 |[]=>some []
 | .bool x::r=>(U5 r).map (x:: ·)
 |_::_=>none
mutual
noncomputable def RM:V->Prop
 | .none| .bool _| .int _| .str _| .bytes _=>True
 | .tup vs=>Dats vs
 | .list vs=>Dats vs
 |_=>False
noncomputable def Dats:List V->Prop
 |[]=>True
 |v::r=>RM v/\Dats r
end
mutual
noncomputable def gQ:V->Nat
 | .tup vs=>deepVs vs+1
 | .list vs=>deepVs vs+1
 |_=>0
noncomputable def deepVs:List V->Nat
 |[]=>0
 |v::r=>max (gQ v) (deepVs r)
end
open Classical in
noncomputable def VW (x y:V):R Bool:=match x with
 | .int a=>intM (fun b=>.ok (a==b)) y
 | .str a=>strM (fun b=>.ok (a==b)) y
 | .list a=>AU (fun b=>match b with|[]=>if a.length<=i0 then .ok a.isEmpty else .stuck|_=>.stuck) y
 | .tup a=>SC (fun b=>if a=b/\Dats a/\deepVs a<=20 then .ok true else .stuck) y
 |_=>.stuck
noncomputable def Z6 (x:V) (ys:List V):R Bool:=
 if ys.length<=i0 then (match x with
  | .str a=>needR (M0 ys) fun l=>.ok (l.contains a)
  | .int a=>needR (J3 ys) fun l=>.ok (l.contains a)
  |_=>.stuck)
 else .stuck
noncomputable def VX (x y:V):R Bool:=match y with
 | .str y=>strM (fun x=>oneM x fun c=>if y.length<=i0 then .ok (y.contains c) else .stuck) x
 | .list ys=>Z6 x ys
 | .olist ys=>Z6 x ys
 | .tup ys=>Z6 x ys
 | .dict kvs=>strM (fun a=>.ok ((kvs.lookup a).isSome)) x
 |_=>.stuck
noncomputable def qO:V->Bool
 | .none=>true
 |_=>false
noncomputable def VY (x y:V):R Bool:=match y with
 | .none=>.ok (qO x)
 | .bool b=>(match x with| .bool a=>.ok (a==b)|_=>.stuck)
 |_=>.stuck
noncomputable def JT (f:Int->Int->Bool) (x y:V):R Bool:=intM (fun a=>intM (fun b=>.ok (f a b)) y) x
noncomputable def w8 (op:CmpOp) (x y:V):R Bool:=match op with
 | .Eq=>VW x y
 | .NotEq=>(VW x y).map (!·)
 | .Lt=>JT (fun a b=>decide (a<b)) x y
 | .LtE=>JT (fun a b=>decide (a<=b)) x y
 | .Gt=>JT (fun a b=>decide (b<a)) x y
 | .GtE=>JT (fun a b=>decide (b<=a)) x y
 | .In=>VX x y
 | .NotIn=>(VX x y).map (!·)
 | .Is=>VY x y
 | .IsNot=>(VY x y).map (!·)
noncomputable def G2 (i:Int) (n:Nat):Option Nat:=
 if 0<=i then (if i<n then some i.toNat else none) else (if -(n:Int)<=i then some (i+n).toNat else none)
noncomputable def DZ (vs:List V) (i:Int):R V:=if vs.length<=i0 then needR (G2 i vs.length) fun k=>needR vs[k]? .ok else .stuck
noncomputable def P1 (x i:V):R V:=match x with
 | .str x=>intM (fun i=>if x.length<=i0 then needR (G2 i x.length) fun k=>.ok (.str [x.getD k 0]) else .stuck) i
 | .list vs=>intM (DZ vs) i
 | .olist vs=>intM (DZ vs) i
 | .tup vs=>intM (DZ vs) i
 | .bytes b=>intM (fun i=>if b.length<=i0/\0<=i/\i<b.length then .ok (.int (b.getD i.toNat 0)) else .stuck) i
 | .dict kvs=>strM (fun a=>needR (kvs.lookup a) fun i=>.ok (.int i)) i
 |_=>.stuck
noncomputable def P4 (i:Int) (n:Nat):Nat:=
 if i<0 then (i+n).toNat else min i.toNat n
noncomputable def AV {α:Type} (x:List α) (lo hi:Nat):List α:=(x.take hi).drop lo
noncomputable def j9 {α:Type} (x:List α) (lo hi:Option Int):List α:=
 AV x (match lo with|some i=>P4 i x.length|none=>0) (match hi with|some i=>P4 i x.length|none=>x.length)
noncomputable def R1:Option V->R (Option Int)
 |none=>.ok none
 |some (.int i)=>if i.natAbs<2 ^40 then .ok (some i) else .stuck
 |some _=>.stuck
noncomputable def wT (v:V) (lo hi:Option Int):R V:=
 match v with
 | .str x=>if x.length<=i0 then .ok (.str (j9 x lo hi)) else .stuck
 |_=>.stuck
noncomputable def j4 (c:Nat):Bool:=c==32
noncomputable def i6 (x:b9):b9:=((x.dropWhile j4).reverse.dropWhile j4).reverse
noncomputable def cG (c:Nat):Nat:=if 65<=c/\c<=90 then c+32 else c
noncomputable def X3 (c:Nat):Bool:=decide (65<=c/\c<=90)||decide (97<=c/\c<=122)
noncomputable def j6 (x:b9):Bool:=x.all (fun c=>decide (c<128))
noncomputable def J4 (c:Nat):b9->Nat
 |[]=>0
 |d::r=>if d=c then 0 else J4 c r+1
noncomputable def X4 (l:List b9):Nat:=(l.map List.length).sum
noncomputable def w2 (m:Str) (o:V) (as:List V):R V:=
 if m="strip" then strM (fun x=>arg1 (strM fun y=>if y=[32]/\x.length<=i0 then .ok (.str (i6 x)) else .stuck) as) o
 else if m="lower" then strM (fun x=>arg0 (if x.length<=i0/\j6 x then .ok (.str (x.map cG)) else .stuck) as) o
 else if m="isalpha" then strM (fun x=>arg0 (oneM x fun c=>if c<128 then .ok (.bool (X3 c)) else .stuck) as) o
 else if m="find" then strM (fun x=>arg1 (strM fun y=>oneM y fun c=>if x.length<=i0 then .ok (.int (if x.contains c then (J4 c x:Int) else -1)) else .stuck) as) o
 else if m="index" then strM (fun x=>arg1 (strM fun y=>oneM y fun c=>if x.length<=i0/\x.contains c then .ok (.int (J4 c x:Int)) else .stuck) as) o
 else if m="join" then strM (fun x=>arg1 (seqM fun vs=>needR (M0 vs) fun l=>if x=[]/\X4 l<=i0/\l.length<=i0 then .ok (.str l.flatten) else .stuck) as) o
 else if m="get" then dictM (fun kvs=>arg2 (fun a d=>strM (fun a=>intM (fun d=>.ok (.int ((kvs.lookup a).getD d))) d) a) as) o
 else .stuck
noncomputable def wU:List Int->Int
 |[]=>0
 |x::r=>r.foldl max x
noncomputable def JU (n:Nat):R V:=if n<=i0 then .ok (.int n) else .stuck
noncomputable def SE:List V->R V:=arg1 fun v=>match v with
 | .str x=>JU x.length
 | .list x=>JU x.length
 | .olist x=>JU x.length
 | .bytes x=>JU x.length
 |_=>.stuck
noncomputable def SG:List V->R V:=arg1 (strM fun x=>oneM x fun c=>.ok (.int c))
noncomputable def SH:List V->R V:=arg1 (intM fun i=>if 0<=i/\i<=1114111 then .ok (.str [i.toNat]) else .stuck)
noncomputable def wV:List V->R V:=arg1 (seqM fun vs=>needR (J3 vs) fun l=>if l.length<=i0/\l.all (fun n=>decide (0<=n/\n<256)) then .ok (.bytes l) else .stuck)
noncomputable def NB:List V->R V:=arg1 (strM fun x=>if x.length<=i0 then .ok (.list (x.map fun c=>.str [c])) else .stuck)
noncomputable def SI:List V->R V:=arg2 fun a b=>intM (fun a=>intM (fun b=>.ok (.int (min a b))) b) a
noncomputable def OM:List V->R V:=arg1 (seqM fun vs=>needR (J3 vs) fun l=>if l≠[] then .ok (.int (wU l)) else .stuck)
noncomputable def ON:List V->R V:=arg1 (AU fun vs=>needR (J3 vs) fun l=>.ok (.int l.sum))
noncomputable def OO:List V->R V:=arg1 (AU fun vs=>needR (U5 vs) fun l=>.ok (.bool (l.all id)))
noncomputable def jT:List V->R V:=arg1 (intM fun n=>if n.natAbs<=i0 then .ok (.rng n) else .stuck)
noncomputable def SJ:List V->R V:=arg1 (intM fun n=>.ok (.int (if n<0 then -n else n)))
noncomputable def SK:List V->R V:=arg1 fun v=>match v with
 | .bool b=>.ok (.int (if b then 1 else 0))
 |_=>.stuck
noncomputable def fH (f:Str) (as:List V):R V:=
 if f="len" then SE as
 else if f="ord" then SG as
 else if f="chr" then SH as
 else if f="bytes" then wV as
 else if f="list" then NB as
 else if f="min" then SI as
 else if f="max" then OM as
 else if f="sum" then ON as
 else if f="all" then OO as
 else if f="range" then jT as
 else if f="abs" then SJ as
 else if f="int" then SK as
 else .stuck
noncomputable def aG (g:G) (f:Str) (as:List V):R V:=
 match g.fn f with
 |some F=>if as.any V.open? then .stuck else F as
 |none=>if m9.contains f then fH f as else .stuck
noncomputable def s0:V->R (List V)
 | .str x=>if x.length<=i0 then .ok (x.map fun c=>.str [c]) else .stuck
 | .list vs=>if vs.length<=i0 then .ok vs else .stuck
 | .rng n=>if n.natAbs<=i0 then .ok ((List.range n.toNat).map fun(k:Nat)=>V.int (k:Int)) else .stuck
 |_=>.stuck
noncomputable def r5 (g:G) (sc:Scope) (σ:d9) (x:Str):R V:=
 if x="__debug__"\/x="__classdict__" then .stuck else
 match sc.names.lookup x with
 |some .local|some .cell|some .free=>(match σ.get x with|some v=>.ok v|none=>.stuck)
 |some .globalImplicit=>(match g.const x with|some v=>.ok v|none=>.stuck)
 |_=>.stuck
noncomputable def OP:Expr->Option Const
 | .Constant c _ _=>some c
 |_=>none
noncomputable def SL:Const->Option Str
 | .str k=>some k
 |_=>none
noncomputable def SM:Const->Option Int
 | .int k=>some k
 |_=>none
noncomputable def wW:Expr->Option (Expr×List Expr×Pos)
 | .Call fn as kws p=>(match kws with|[]=>some (fn,as,p)|_=>none)
 |_=>none
noncomputable def EA:Expr->Option (Expr×Str×Pos)
 | .Attribute o m ap=>some (o,m,ap)
 |_=>none
noncomputable def EB:Option Expr->Option Str
 |some e=>(OP e).bind SL
 |none=>none
noncomputable def EC (e:Expr):Option Int:=(OP e).bind SM
noncomputable def bS:List (Option Expr)->List Expr->Option (List (b9×Int))
 |[],[]=>some []
 |k::ks,v::vs=>(EB k).bind fun k=>(EC v).bind fun i=>(bS ks vs).map ((k.cps.toList,i):: ·)
 |_,_=>none
noncomputable def SN {β:Type} (f:V->V->R β):V->R β
 | .tup [a,b]=>f a b
 |_=>.stuck
noncomputable def X5:Expr->Option Str
 | .Name x _=>some x
 |_=>none
noncomputable def NC:List Expr->Option Expr
 |[a]=>some a
 |_=>none
noncomputable def wX:List Expr->Option (Expr×Expr)
 |[a,b]=>some (a,b)
 |_=>none
noncomputable def yS (l:List Expr):Option (Str×Str):=(wX l).bind fun q=>(X5 q.1).bind fun x=>(X5 q.2).map fun y=>(x,y)
noncomputable def sZ:Expr->Option (Str ⊕ List Expr)
 | .Name x _=>some (.inl x)
 | .Tuple ts _ _=>some (.inr ts)
 |_=>none
noncomputable def SO (σ:d9) (v:V):Str ⊕ List Expr->R d9
 | .inl x=>.ok (σ.set x v)
 | .inr ts=>needR (yS ts) fun q=>SN (fun a b=>.ok ((σ.set q.1 a).set q.2 b)) v
noncomputable def s5 (σ:d9) (t:Expr) (v:V):R d9:=needR (sZ t) (SO σ v)
noncomputable def i5 (σ:d9) (sc csc:Scope):d9:=
 σ.filter fun p=>csc.names.lookup p.1==some .free &&(sc.names.lookup p.1==some .cell||sc.names.lookup p.1==some .free)
noncomputable def s9 (sc csc:Scope):Bool:=
 csc.names.all (fun p=>p.1 !=("_law_told":Str) &&(p.2 !=.cell &&(p.2 !=.local||csc.names.lookup p.1==some .local) &&(p.2 !=.free||sc.names.lookup p.1==some .cell||sc.names.lookup p.1==some .free))) &&csc.kind==.function
noncomputable def aH (a:Arguments) (lsc:Scope):Bool:=
 a.posonlyargs.isEmpty &&a.args.isEmpty &&a.vararg.isNone &&a.kwonlyargs.isEmpty &&a.kw_defaults.isEmpty &&a.kwarg.isNone &&a.defaults.isEmpty && !lsc.isGenerator && !lsc.isCoroutine &&lsc.names.all (fun p=>p.2 !=.local)
noncomputable def X6 (csc:Scope) (t:Expr):Bool:=(sZ t).any fun
 | .inl x=>csc.names.lookup x==some .local
 | .inr ts=>(match yS ts with
  |some q=>csc.names.lookup q.1==some .local &&csc.names.lookup q.2==some .local &&q.1 !=q.2
  |none=>false)
noncomputable def l7 (v:V):R Bool:=match v with| .bool b=>.ok b|_=>.stuck
noncomputable def R2:Expr->Bool
 | .Call (.Name _ _) [] [] _=>false
 |_=>true
noncomputable def Q1:Expr->Bool
 | .Starred .. =>true
 |_=>false
noncomputable def aJ (sc:Scope) (f:Str) (as:List Expr):Bool:=sc.names.lookup f==some .globalImplicit &&f !="__debug__" && !(as.any Q1)
noncomputable def iL (v:V):R V:=if v.open? then .stuck else .ok v
noncomputable def N1 (vs:List V):R (List V):=if vs.any V.open? ||decide (i0<vs.length) then .stuck else .ok vs
section
variable (E T:Expr->R V)
noncomputable def AW (l:Expr) (op:CmpOp) (r:Expr):R V:=if behindInMarks op r=true then .stuck else (E l).bind fun a=>(E r).bind fun b=>(w8 op a b).map .bool
noncomputable def cmp2 (l:Expr) (G7 I3:CmpOp) (Z4 aE:Expr):R V:=
 if lastMarks [G7,I3] [Z4,aE]=true then .stuck else (E l).bind fun a=>(E Z4).bind fun b=>(w8 G7 a b).bind fun c=>if c then (E aE).bind fun d=>(w8 I3 b d).map .bool else .ok (.bool false)
noncomputable def nL:Option Expr->R (Option V)
 |none=>.ok none
 |some e=>(E e).map some
noncomputable def jU (o:V) (lo hi:Option Expr):R V:=
 (nL E lo).bind fun lv=>(nL E hi).bind fun hv=>(R1 lv).bind fun a=>(R1 hv).bind fun b=>wT o a b
end
noncomputable def F6 (E T:d9->Expr->R V) (σ:d9) (t elt:Expr) (ifs:List Expr) (v:V):R (Option V):=
 (s5 σ t v).bind fun σ'=>(cR (fun x=>((T σ' x).bind l7).calm) ifs).bind fun c=>
  if c then ((E σ' elt).bind iL).calm.map some else .ok none
noncomputable def C9 (r:R V):R V:=
 match r with
 | .stuck=>.stuck
 | .ok v=>if v.open? then .stuck else .ok (.tup [.str [108,101,116],v])
 | .err l=>.ok (.tup [.str [114,101,102,117,115,101,100],.int l])
noncomputable def oQ:List Expr->Option (Arguments×Expr×Scope)
 |[a]=>(match a with| .Lambda as body lsc _=>some (as,body,lsc)|_=>none)
 |_=>none
noncomputable def X7:Expr->Option (Option Expr×Option Expr×Option Expr)
 | .Slice lo hi st _=>some (lo,hi,st)
 |_=>none
noncomputable def SP (E:Expr->R V) (l:Expr) (ops:List CmpOp) (rs:List Expr):R V:=match ops with
 |[op]=>(match rs with|[r]=>AW E l op r|_=>.stuck)
 |[G7,I3]=>(match rs with|[Z4,aE]=>cmp2 E l G7 I3 Z4 aE|_=>.stuck)
 |_=>.stuck
noncomputable def SQ (E:Expr->R V) (o:Expr) (m:Str) (as:List Expr):R V:=match as with
 |[]=>(E o).calm.bind fun ov=>w2 m ov []
 |[a]=>(E o).calm.bind fun ov=>(E a).calm.bind fun v=>w2 m ov [v]
 |[a,b]=>(E o).calm.bind fun ov=>(E a).calm.bind fun v=>(E b).calm.bind fun u=>w2 m ov [v,u]
 |_=>.stuck
noncomputable def tA (g:G) (E:Expr->R V) (told:Scope->Expr->R V) (sc:Scope) (fn:Expr) (as:List Expr) (p:Pos):R V:=match fn with
 | .Attribute o m ap=>if ap.endLine=p.line/\R2 o=true then SQ E o m as else .stuck
 | .Name f _=>(match oQ as with
  |some (la,body,lsc)=>if f="_law_told"/\g.lam=true/\sc.names.lookup f=some .globalImplicit/\aH la lsc=true/\s9 sc lsc=true then told lsc body else .stuck
  |none=>if aJ sc f as=true/\((g.fn f).isSome||m9.contains f)=true then (B9 E as).bind fun vs=>aG g f vs else .stuck)
 |_=>.stuck
noncomputable def ED (E:Expr->R V) (v i:Expr):R V:=match v with
 | .Name x xp=>(match X7 i with
  |some (lo,hi,st)=>(match st with
   |none=>(E (.Name x xp)).bind fun o=>jU E o lo hi
   |some _=>.stuck)
  |none=>(E (.Name x xp)).bind fun o=>(E i).bind fun k=>P1 o k)
 |_=>.stuck
noncomputable def ev (g:G):Nat->Bool->Scope->d9->Expr->R V
 |0,_,_,_,_=>.stuck
 |n+1,true,sc,σ,e=>
  match e with
  | .UnaryOp op x _=>(match op with| .Not=>((ev g n true sc σ x).bind l7).map fun b=>.bool !b|_=>.stuck)
  | .BoolOp op vs _=>(match op with
   | .And=>(cR (fun x=>(ev g n true sc σ x).bind l7) vs).map .bool
   | .Or=>(sY (fun x=>(ev g n true sc σ x).bind l7) vs).map .bool)
  | .Compare l ops rs _=>SP (ev g n false sc σ) l ops rs
  | .IfExp .. =>.stuck
  |_=>(ev g n false sc σ e).bind fun v=>(B2 v).map .bool
 |n+1,false,sc,σ,e=>
  match e with
  | .Constant c _ _=>qN c
  | .Name x _=>r5 g sc σ x
  | .BinOp l op r _=>(ev g n false sc σ l).bind fun a=>(ev g n false sc σ r).bind fun b=>R0 op a b
  | .UnaryOp op x _=>(match op with
   | .Not=>(ev g n false sc σ x).bind fun a=>(B2 a).bind fun b=>.ok (.bool !b)
   | .USub=>(ev g n false sc σ x).bind OL
   |_=>.stuck)
  | .IfExp t b o _=>((ev g n true sc σ t).bind l7).bind fun c=>if c then ev g n false sc σ b else ev g n false sc σ o
  | .BoolOp op vs p=>(match vs with
   |[]=>.stuck
   |[x]=>ev g n false sc σ x
   |x::y::r=>(match op with
    | .And=>(ev g n false sc σ x).bind fun a=>(B2 a).bind fun t=>if t then ev g n false sc σ (.BoolOp .And (y::r) p) else .ok a
    | .Or=>(ev g n false sc σ x).bind fun a=>(B2 a).bind fun t=>if t then .ok a else ev g n false sc σ (.BoolOp .Or (y::r) p)))
  | .Compare l ops rs _=>SP (ev g n false sc σ) l ops rs
  | .Tuple es _ _=>((B9 (ev g n false sc σ) es).bind N1).map .tup
  | .List es _=>((B9 (ev g n false sc σ) es).bind N1).map .list
  | .Dict ks vs _=>needR (bS ks vs) fun kvs=>if 1<=kvs.length/\kvs.length<=15/\(kvs.map (·.1)).Nodup then .ok (.dict kvs) else .stuck
  | .Subscript v i _=>ED (ev g n false sc σ) v i
  | .Call fn as kws p=>(match kws with
   |[]=>tA g (ev g n false sc σ) (fun lsc body=>C9 (ev g.lows n false lsc (i5 σ sc lsc) body)) sc fn as p
   |_=>.stuck)
  | .ListComp elt gens csc _=>(match gens with
   |[⟨t,it,ifs,a⟩]=>if s9 sc csc &&X6 csc t then (if a=0 then
    (ev g n false sc σ it).bind fun iv=>(s0 iv).bind fun items=>
     (D4 (F6 (ev g n false csc) (ev g n true csc) (i5 σ sc csc) t elt ifs) items).map .list else .stuck) else .stuck
   |_=>.stuck)
  |_=>.stuck
set_option genInjectivity true in
inductive Fl where
 |next
 |brk
 |ret (v:V)
noncomputable def SR (k:d9->R (Fl×d9)):Fl×d9->R (Fl×d9)
 |(.next,σ')=>k σ'
 |(.brk,σ')=>.ok (.brk,σ')
 |(.ret v,σ')=>.ok (.ret v,σ')
noncomputable def D1 {α:Type} (f:d9->α->R (Fl×d9)):d9->List α->R (Fl×d9)
 |σ,[]=>.ok (.next,σ)
 |σ,x::r=>(f σ x).bind (SR fun σ'=>D1 f σ' r)
noncomputable def oR (k:d9->R (Fl×d9)):Fl×d9->R (Fl×d9)
 |(.next,σ')=>k σ'
 |(.brk,σ')=>.ok (.next,σ')
 |(.ret v,σ')=>.ok (.ret v,σ')
noncomputable def tB (f:d9->V->R (Fl×d9)):d9->List V->R (Fl×d9)
 |σ,[]=>.ok (.next,σ)
 |σ,x::r=>(f σ x).bind (oR fun σ'=>tB f σ' r)
noncomputable def O1:Expr->Bool
 | .List .. =>true
 |_=>false
noncomputable def E7 (opn:Option Str) (σ:d9) (x:Str) (e:Expr) (v:V):R d9:=
 if opn=some x then (match v with| .list vs=>if O1 e then .ok (σ.set x (.olist vs)) else .stuck|_=>.stuck)
 else if v.open? then .stuck else .ok (σ.set x v)
noncomputable def G3:List Expr->Option (List Str)
 |[]=>some []
 |e::r=>(X5 e).bind fun x=>(G3 r).map (x:: ·)
noncomputable def oS:V->Bool
 | .none| .bool _| .int _| .str _| .bytes _=>true
 |_=>false
noncomputable def N2:d9->List Str->List V->R d9
 |σ,[],[]=>.ok σ
 |σ,x::xs,v::vs=>if v.open? then .stuck else N2 (σ.set x v) xs vs
 |_,_,_=>.stuck
noncomputable def U6 (opn:Option Str) (σ:d9):List Str->List Expr->List V->R d9
 |x::xs,e::es,v::vs=>
  if opn=some x then (match v with
   | .list ds=>if O1 e &&vs.all oS then N2 (σ.set x (.olist ds)) xs vs else .stuck
   |_=>.stuck)
  else if (x::xs).any (fun y=>opn==some y) then .stuck else N2 σ (x::xs) (v::vs)
 |_,_,_=>.stuck
noncomputable def g9 (sc:Scope) (x:Str):Bool:=sc.names.lookup x==some .local||sc.names.lookup x==some .cell
noncomputable def dP (sc:Scope) (opn:Option Str) (t:Expr):Bool:=(sZ t).any fun
 | .inl x=>g9 sc x &&opn !=some x
 | .inr ts=>(match yS ts with
  |some q=>g9 sc q.1 &&g9 sc q.2 &&opn !=some q.1 &&opn !=some q.2
  |none=>false)
noncomputable def aK (es:List Expr):Bool:= !(es.all (constantsAlone 8))||es.all (foldedForSure 8)
noncomputable def X8 (v:V) (vs:List V) (σ:d9) (x:Str):R (Fl×d9):=
 if v.open? ||decide (i0<=vs.length) then .stuck else .ok (.next,σ.set x (.olist (vs++[v])))
noncomputable def oU (v:V) (vs:List V) (σ:d9) (x:Str):R (Fl×d9):=
 if v.open? ||vs.isEmpty||decide (i0<vs.length) then .stuck else .ok (.next,σ.set x (.olist (vs.dropLast++[v])))
noncomputable def VZ:V->Option (List V)
 | .olist vs=>some vs
 |_=>none
noncomputable def SS:R V->Option (List V)
 | .ok v=>VZ v
 |_=>none
noncomputable def X9 (r:R V) (k:List V->R (Fl×d9)):R (Fl×d9):=needR (SS r) k
noncomputable def JV (a:V) (v:V) (σ:d9) (x:Str):R (Fl×d9):=intM (fun a=>intM (fun b=>.ok (.next,σ.set x (.int (a+b)))) v) a
noncomputable def JW (v:V):R (Fl×d9):=match v with| .int i=>if i.natAbs<1000000 then .err i else .stuck|_=>.stuck
noncomputable def EE:Expr->Bool
 | .UnaryOp op e _=>(match op with| .USub=>EC e==some 1|_=>false)
 |_=>false
noncomputable def dQ:Expr->Bool
 | .ListComp .. =>true
 |_=>false
noncomputable def jA (e:Expr):Option (Str×Str):=(wW e).bind fun q=>(wX q.2.1).bind fun z=>
 (X5 q.1).bind fun f=>(X5 z.1).bind fun l=>(EB (some z.2)).bind fun c=>if c.length<=1000 then some (f,l) else none
noncomputable def yT (e:Expr):Option (Str×Str×Pos×Expr×Pos):=(wW e).bind fun q=>(NC q.2.1).bind fun a=>
 (EA q.1).bind fun z=>(X5 z.1).map fun x=>(x,z.2.1,z.2.2,a,q.2.2)
noncomputable def assignE (g:G) (opn:Option Str) (sc:Scope) (σ:d9) (E:Expr->R V) (t e:Expr):R (Fl×d9):=match t with
 | .Name x _=>if g9 sc x=true/\(opn=some x->O1 e=true) then (E e).bind fun v=>(E7 opn σ x e v).map fun σ'=>(.next,σ') else .stuck
 | .Tuple ts _ _=>(match e with
  | .Tuple es _ _=>needR (G3 ts) fun xs=>if xs.Nodup/\aK es=true/\xs.all (g9 sc)=true/\xs.length<=8 then (B9 E es).bind fun vs=>(U6 opn σ xs es vs).map fun σ'=>(.next,σ') else .stuck
  |_=>.stuck)
 | .Subscript v i _=>needR (X5 v) fun x=>
   if EE i=true/\dQ e=false/\opn=some x/\g9 sc x=true then (E e).bind fun v=>X9 (r5 g sc σ x) fun vs=>oU v vs σ x else .stuck
 |_=>.stuck
noncomputable def ex (g:G) (opn:Option Str) (sc:Scope):Nat->d9->Stmt->R (Fl×d9)
 |0,_,_=>.stuck
 |n+1,σ,s=>
  match s with
  | .Expr e _=>needR (yT e) fun(x,m,ap,a,p)=>
   if m="append"/\opn=some x/\ap.endLine=p.line/\g9 sc x=true then X9 (r5 g sc σ x) fun vs=>(ev g n false sc σ a).bind fun v=>X8 v vs σ x else .stuck
  | .Assign ts e _=>(match ts with
   |[t]=>assignE g opn sc σ (ev g n false sc σ) t e
   |_=>.stuck)
  | .AugAssign t op e _=>(match op with
   | .Add=>(match t with
    | .Name x xp=>if opn=some x\/g9 sc x=false then .stuck else (ev g n false sc σ (.Name x xp)).bind fun a=>(ev g n false sc σ e).bind fun v=>JV a v σ x
    |_=>.stuck)
   |_=>.stuck)
  | .If t b o _=>((ev g n true sc σ t).bind l7).bind fun c=>if c then D1 (ex g opn sc n) σ b else D1 (ex g opn sc n) σ o
  | .While t b o p=>(match o with
   |[]=>((ev g n true sc σ t).bind l7).bind fun c=>if c then (D1 (ex g opn sc n) σ b).bind (oR fun σ'=>ex g opn sc n σ' (.While t b [] p)) else .ok (.next,σ)
   |_=>.stuck)
  | .For t it b o _=>(match o with
   |[]=>if dP sc opn t=true then (ev g n false sc σ it).bind fun iv=>(s0 iv).bind fun items=>
    tB (fun σ v=>(s5 σ t v).bind fun σ'=>D1 (ex g opn sc n) σ' b) σ items else .stuck
   |_=>.stuck)
  | .Return e _=>needR e fun e=>(ev g n false sc σ e).map fun v=>(.ret v.freeze,σ)
  | .Raise x c _=>(match c with
   |none=>needR x fun x=>needR (jA x) fun(f,l)=>if f="BadText"/\sc.names.lookup f=some .globalImplicit then (r5 g sc σ l).bind JW else .stuck
   |_=>.stuck)
  | .Break _=>.ok (.brk,σ)
  |_=>.stuck
noncomputable def wY (g:G) (opn:Option Str) (sc:Scope) (ps:List Str) (body:List Stmt) (n:Nat) (as:List V):R V:=
 if as.length=ps.length then
  (D1 (ex g opn sc n) (ps.zip as) body).bind fun q=>match q with|(.ret v,_)=>.ok v|(.next,_)=>.ok .none|_=>.stuck
 else .stuck
open PySem
theorem qP (a b:String):(Str.ofString a=Str.ofString b)=(a=b):=by
 refine propext ⟨fun h=> ?_,fun h=>h▸rfl⟩;rw[Str.ofString_eq_toList,Str.ofString_eq_toList] at h;have h1:(a.toList.map Char.toNat).toArray=(b.toList.map Char.toNat).toArray:=(Str.mk.injEq _ _).mp h;have h2:a.toList.map Char.toNat=b.toList.map Char.toNat:=by simpa using h1
 have h3:a.toList=b.toList:=by
  refine(List.map_inj_right fun c d e=> ?_).mp h2;exact Char.toNat_inj.mp e
 exact String.toList_inj.mp h3
section
variable {α β:Type} (a:α) (f:α->R β) (h:α->β) (l:Int)
theorem AX (x:α) (r:List α):B9 f (x::r)=(f x).bind fun y=>(B9 f r).map (y:: ·):=rfl
theorem fK (p:α->R Bool) (x:α) (r:List α):cR p (x::r)=(p x).bind fun b=>if b then cR p r else .ok false:=rfl
theorem AY (p:α->R Bool) (x:α) (r:List α):sY p (x::r)=(p x).bind fun b=>if b then .ok true else sY p r:=rfl
end
section
variable (a b:Int) (x y:b9) (c:Nat) (us vs:List V)
theorem cS:R0 .Add (.int a) (.int b)=.ok (.int (a+b)):=rfl
theorem fL:R0 .Sub (.int a) (.int b)=.ok (.int (a-b)):=rfl
theorem OQ:R0 .Mult (.int a) (.int b)=if small a &&small b then .ok (.int (a*b)) else .stuck:=by unfold R0;simp only[intM]
theorem OR:R0 .Add (.list us) (.list vs)=if us.length+vs.length<=i0 then .ok (.list (us++vs)) else .stuck:=rfl
theorem OS:R0 .Pow (.int a) (.int b)=if 0<=b/\b<=1000000/\a.natAbs<2 ^64 then .ok (.int (a ^b.toNat)) else .stuck:=rfl
theorem yU:w8 .Eq (.int a) (.int b)=.ok (a==b):=rfl
theorem dR:w8 .Eq (.str x) (.str y)=.ok (x==y):=rfl
theorem ST:w8 .Eq (.list us) (.list [])=if us.length<=i0 then .ok us.isEmpty else .stuck:=rfl
theorem EF:w8 .NotEq (.int a) (.int b)=.ok (!(a==b)):=rfl
theorem ND:w8 .NotEq (.str x) (.str y)=.ok (!(x==y)):=rfl
theorem SU:w8 .NotEq (.list us) (.list [])=if us.length<=i0 then .ok (!us.isEmpty) else .stuck:=by
 show(if us.length<=i0 then R.ok us.isEmpty else .stuck).map (!·)=_;split<;>rfl
theorem NF (h:Dats us) (h':deepVs us<=20):w8 .Eq (.tup us) (.tup us)=.ok true:=if_pos ⟨rfl,h,h'⟩
theorem NG (h:Dats us) (h':deepVs us<=20):w8 .NotEq (.tup us) (.tup us)=.ok false:=congrArg (R.map (!·)) (NF us h h')
theorem gR:w8 .Lt (.int a) (.int b)=.ok (decide (a<b)):=rfl
theorem NH:w8 .LtE (.int a) (.int b)=.ok (decide (a<=b)):=rfl
theorem NI:w8 .Gt (.int a) (.int b)=.ok (decide (b<a)):=rfl
theorem NJ:w8 .GtE (.int a) (.int b)=.ok (decide (b<=a)):=rfl
theorem SV:w8 .In (.str [c]) (.str y)=if y.length<=i0 then .ok (y.contains c) else .stuck:=rfl
theorem EG:w8 .NotIn (.str [c]) (.str y)=if y.length<=i0 then .ok (!y.contains c) else .stuck:=by
 show(if y.length<=i0 then R.ok (y.contains c) else .stuck).map (!·)=_;split<;>rfl
theorem OT (v:V):w8 .In v (.list us)=Z6 v us:=by
 rcases v with _|_|_|(_|⟨c,_|_⟩)|_|_|_|_|_|_<;>rfl
theorem WA (v:V):w8 .In v (.olist us)=Z6 v us:=by
 rcases v with _|_|_|(_|⟨c,_|_⟩)|_|_|_|_|_|_<;>rfl
theorem WB (v:V):w8 .In v (.tup us)=Z6 v us:=by
 rcases v with _|_|_|(_|⟨c,_|_⟩)|_|_|_|_|_|_<;>rfl
theorem yV (v:V):w8 .NotIn v (.list us)=(Z6 v us).map (!·):=by rw[<-OT];rfl
theorem WC (kvs:List (b9×Int)):w8 .In (.str x) (.dict kvs)=.ok ((kvs.lookup x).isSome):=by
 rcases x with _|⟨c,_|_⟩<;>rfl
theorem JX (kvs:List (b9×Int)):w8 .NotIn (.str x) (.dict kvs)=.ok (!(kvs.lookup x).isSome):=by
 rcases x with _|⟨c,_|_⟩<;>rfl
theorem T7:w8 .Is .none .none=.ok true:=rfl
theorem jV:w8 .Is (.str x) .none=.ok false:=rfl
theorem gS:w8 .Is (.list us) .none=.ok false:=rfl
theorem wZ:w8 .Is (.int a) .none=.ok false:=rfl
theorem yW (p q:Bool):w8 .Is (.bool p) (.bool q)=.ok (p==q):=rfl
theorem cT:B2 .none=.ok false:=rfl
theorem N3 (p:Bool):B2 (.bool p)=.ok p:=rfl
theorem xA:B2 (.list us)=if us.length<=i0 then .ok (!us.isEmpty) else .stuck:=rfl
theorem NK:P1 (.str x) (.int a)=if x.length<=i0 then needR (G2 a x.length) (fun k=>.ok (.str [x.getD k 0])) else .stuck:=rfl
end
theorem no {α:Type} {x:α} {P:Prop} (h:none=some x):P:=by injection h
theorem tC {r:R V} {vs:List V} (h:SS r=some vs):r=.ok (.olist vs):=by
 cases r with
 |ok v=>cases v<;>first|exact congrArg (fun vs=>R.ok (V.olist vs)) (Option.some.inj h)|exact no h
 |_=>exact no h
theorem VA {P:Prop} (h:false=true):P:=Bool.noConfusion h
noncomputable def WD (x:Str) (e:Expr):Prop:= ∃p,e=.Name x p
theorem G9 {e:Expr} {x:Str} (h:X5 e=some x):WD x e:=by
 cases e<;>first|exact⟨_,congrArg (Expr.Name · _) (Option.some.inj h)⟩|exact no h
noncomputable def WE (c:Const) (e:Expr):Prop:= ∃j p,e=.Constant c j p
theorem oV {e:Expr} {c:Const} (h:OP e=some c):WE c e:=by
 cases e<;>first|exact⟨_,_,congrArg (Expr.Constant · _ _) (Option.some.inj h)⟩|exact no h
theorem AZ {c:Const} {k:Str} (h:SL c=some k):c=.str k:=by
 cases c<;>first|exact congrArg Const.str (Option.some.inj h)|exact no h
theorem BB {c:Const} {k:Int} (h:SM c=some k):c=.int k:=by
 cases c<;>first|exact congrArg Const.int (Option.some.inj h)|exact no h
theorem jW {e:Option Expr} {x:Str} (h:EB e=some x): ∃j p,e=some (.Constant (.str x) j p):=by
 cases e with
 |none=>exact no h
 |some e=>
  refine e8 (Option.bind_eq_some_iff.mp h) fun c hc h=> ?_;refine C0 (oV hc) fun j p e=> ?_;exact⟨j,p,by rw[e,AZ h]⟩
theorem jX {e:Expr} {x:Int} (h:EC e=some x): ∃j p,e=.Constant (.int x) j p:=by
 refine e8 (Option.bind_eq_some_iff.mp h) fun c hc h=> ?_;refine C0 (oV hc) fun j p e=> ?_;exact⟨j,p,by rw[e,BB h]⟩
noncomputable def OU (q:Expr×List Expr×Pos) (e:Expr):Prop:=e=.Call q.1 q.2.1 [] q.2.2
theorem gT {e:Expr} {q:Expr×List Expr×Pos} (h:wW e=some q):OU q e:=by
 cases e with
 |Call fn as kws p=>
  cases kws with
  |cons _ _=>exact no h
  |nil=>cases h;rfl
 |_=>exact no h
noncomputable def OV (q:Expr×Str×Pos) (e:Expr):Prop:=e=.Attribute q.1 q.2.1 q.2.2
theorem tD {e:Expr} {q:Expr×Str×Pos} (h:EA e=some q):OV q e:=by
 cases e<;>first|(cases h;rfl)|exact no h
noncomputable def SW (q:Arguments×Expr×Scope) (as:List Expr):Prop:= ∃lp,as=[.Lambda q.1 q.2.1 q.2.2 lp]
theorem xB {as:List Expr} {q:Arguments×Expr×Scope} (h:oQ as=some q):SW q as:=by
 rcases as with _|⟨a,_|_⟩
 ·exact no h
 ·cases a<;>first|exact⟨_,congrArg (fun q:Arguments×Expr×Scope=>[Expr.Lambda q.1 q.2.1 q.2.2 _]) (Option.some.inj h)⟩|exact no h
 ·exact no h
noncomputable def WF (q:Option Expr×Option Expr×Option Expr) (e:Expr):Prop:= ∃p,e=.Slice q.1 q.2.1 q.2.2 p
theorem qQ {e:Expr} {q:Option Expr×Option Expr×Option Expr} (h:X7 e=some q):WF q e:=by
 cases e<;>first|exact⟨_,congrArg (fun q:Option Expr×Option Expr×Option Expr=>Expr.Slice q.1 q.2.1 q.2.2 _) (Option.some.inj h)⟩|exact no h
theorem xC {l:List Expr} {a:Expr} (h:NC l=some a):l=[a]:=by
 rcases l with _|⟨b,_|_⟩
 ·exact no h
 ·exact congrArg (fun a=>[a]) (Option.some.inj h)
 ·exact no h
theorem gU {l:List Expr} {q:Expr×Expr} (h:wX l=some q):l=[q.1,q.2]:=by
 rcases l with _|⟨b,_|⟨c,_|_⟩⟩
 ·exact no h
 ·exact no h
 ·exact congrArg (fun q:Expr×Expr=>[q.1,q.2]) (Option.some.inj h)
 ·exact no h
theorem xD {ts:List Expr} {q:Str×Str} (h:yS ts=some q): ∃p p',ts=[.Name q.1 p,.Name q.2 p']:=by
 refine e8 (Option.bind_eq_some_iff.mp h) fun z hz h=> ?_;refine e8 (Option.bind_eq_some_iff.mp h) fun x hx h=> ?_;refine e8 (Option.map_eq_some_iff.mp h) fun y hy h=> ?_;refine d6 (G9 hx) fun p e=> ?_;refine d6 (G9 hy) fun p' e'=> ?_;exact⟨p,p',(gU hz).trans (by rw[e,e',<-h])⟩
noncomputable def NL (tg:Expr):Prop:=(∃x p,tg=.Name x p)\/(∃es j p,tg=.Tuple es j p)
noncomputable def WG (t:Expr):Str ⊕ List Expr->Prop
 | .inl x=> ∃p,t=.Name x p
 | .inr ts=> ∃j p,t=.Tuple ts j p
theorem jY {t:Expr} {q:Str ⊕ List Expr} (h:sZ t=some q):WG t q:=by
 cases t<;>first|exact no h|(cases h;first|exact⟨_,rfl⟩|exact⟨_,_,rfl⟩)
theorem EH {α:Type} {o:Option α} {f:α->Bool} (h:o.any f=true): ∃a,o=some a:=by
 cases o with
 |none=>exact VA h
 |some a=>exact⟨a,rfl⟩
theorem EI {t:Expr} {f:Str ⊕ List Expr->Bool} (h:(sZ t).any f=true):NL t:=by
 refine d6 (EH h) fun q e=> ?_;have:=jY e;cases q with
 |inl x=>exact .inl ⟨x,this⟩
 |inr ts=>exact .inr ⟨ts,this⟩
theorem dS {e:Expr} {r:List Expr} {xs:List Str} (h:G3 (e::r)=some xs): ∃x p ys,e=.Name x p/\G3 r=some ys/\xs=x::ys:=by
 refine e8 (Option.bind_eq_some_iff.mp h) fun x hx h=> ?_;refine e8 (Option.map_eq_some_iff.mp h) fun ys hy h=> ?_;refine d6 (G9 hx) fun p e=> ?_;exact⟨x,p,ys,e,hy,h.symm⟩
noncomputable def JY (q:Str×Str) (e:Expr):Prop:= ∃fp lp c kk cp p,e=.Call (.Name q.1 fp) [.Name q.2 lp,.Constant (.str c) kk cp] [] p/\c.length<=1000
theorem qR {e:Expr} {q:Str×Str} (h:jA e=some q):JY q e:=by
 refine e8 (Option.bind_eq_some_iff.mp h) fun y hy h=> ?_;refine e8 (Option.bind_eq_some_iff.mp h) fun z hz h=> ?_;refine e8 (Option.bind_eq_some_iff.mp h) fun f hf h=> ?_;refine e8 (Option.bind_eq_some_iff.mp h) fun l hl h=> ?_;refine e8 (Option.bind_eq_some_iff.mp h) fun c hc h=> ?_;refine d6 (G9 hf) fun fp e1=> ?_;refine d6 (G9 hl) fun lp e2=> ?_;refine C0 (jW hc) fun j cp e3=> ?_;by_cases hl:c.length<=1000
 ·rw[if_pos hl] at h;exact⟨fp,lp,c,j,cp,y.2.2,(gT hy).trans (by rw[e1,gU hz,e2,Option.some.inj e3,<-Option.some.inj h]),hl⟩
 ·rw[if_neg hl] at h;exact no h
noncomputable def SX (r:Str×Str×Pos×Expr×Pos) (e:Expr):Prop:= ∃xp,e=.Call (.Attribute (.Name r.1 xp) r.2.1 r.2.2.1) [r.2.2.2.1] [] r.2.2.2.2
theorem xE {e:Expr} {r:Str×Str×Pos×Expr×Pos} (h:yT e=some r):SX r e:=by
 refine e8 (Option.bind_eq_some_iff.mp h) fun q hq h=> ?_;refine e8 (Option.bind_eq_some_iff.mp h) fun a ha h=> ?_;refine e8 (Option.bind_eq_some_iff.mp h) fun z hz h=> ?_;refine e8 (Option.map_eq_some_iff.mp h) fun x hx h=> ?_;refine d6 (G9 hx) fun xp e1=> ?_;subst h;exact⟨xp,(gT hq).trans (by rw[tD hz,xC ha,e1])⟩
noncomputable def WH (e:Expr):Prop:= ∃j p q,e=.UnaryOp .USub (.Constant (.int 1) j p) q
theorem JZ {e:Expr} (h:EE e=true):WH e:=by
 cases e with
 |UnaryOp op e q=>cases op with
  |USub=>
   refine C0 (jX (eq_of_beq h)) fun j p e=> ?_;exact⟨j,p,q,by rw[e]⟩
  |_=>exact VA h
 |_=>exact VA h
theorem KA {β:Type} {f:V->V->R β} {v:V} (h:SN f v≠.stuck): ∃a b,v=.tup [a,b]:=by
 cases v with
 |tup vs=>rcases vs with _|⟨a,_|⟨b,_|_⟩⟩<;>first|exact⟨_,_,rfl⟩|exact absurd rfl h
 |_=>exact absurd rfl h
theorem t7 {α β:Type} {o:Option α} {f:α->R β} (h:needR o f≠.stuck): ∃a,o=some a/\f a≠.stuck:=by
 cases o with
 |none=>exact absurd rfl h
 |some a=>exact⟨a,rfl,h⟩
noncomputable def WI (σ:d9) (t:Expr) (v:V) (r:R d9):Prop:=(∃x p,t=.Name x p/\r=.ok (σ.set x v))\/
  ∃x px y py j p a b,t=.Tuple [.Name x px,.Name y py] j p/\v=.tup [a,b]/\r=.ok ((σ.set x a).set y b)
theorem jZ {σ:d9} {t:Expr} {v:V} (h:s5 σ t v≠.stuck):WI σ t v (s5 σ t v):=by
 refine e8 (t7 h) fun q hq h2=> ?_;have e:=jY hq;cases q with
 |inl x=>refine d6 e fun p e=> ?_;subst e;exact .inl ⟨x,p,rfl,rfl⟩
 |inr ts=>
  refine C0 e fun j p e=> ?_;subst e;refine e8 (t7 h2) fun q2 hq2 h3=> ?_;refine C0 (xD hq2) fun px py z2r=> ?_;subst z2r;refine C0 (KA h3) fun a b z1r=> ?_;subst z1r;exact .inr ⟨_,px,_,py,j,p,a,b,rfl,rfl,rfl⟩
theorem kA (v:V):(∃ds,v=.olist ds)\/v.open? =false:=by cases v<;>first|exact .inr rfl|exact .inl ⟨_,rfl⟩
theorem BC {v:V} (h:v.open? =false):v.freeze=v:=by cases v<;>first|rfl|exact VA h.symm
theorem oW {d:Option V} {l:Int} (h:R1 d=.err l):False:=by
 cases d with
 |none=>injection h
 |some d=>
  cases d with
  |int i=>
   have h:(if i.natAbs<2 ^40 then R.ok (some i) else .stuck)=.err l:=h;by_cases c:i.natAbs<2 ^40
   ·rw[if_pos c] at h;injection h
   ·rw[if_neg c] at h;injection h
  |_=>injection h
theorem tE {σ:d9} {x:Str} {xs:List Str} {v:V} {vs:List V}:N2 σ (x::xs) (v::vs)=if v.open? then .stuck else N2 (σ.set x v) xs vs:=rfl
end
end
section
open PySem PySem.W PyProof.Rows
noncomputable abbrev Xs:=Addr->Prop
section
mutual
inductive Rp (h:Heap) (X:Xs):Value->V->Prop
 |none:Rp h X .none .none
 |bool (b:Bool):Rp h X (.bool b) (.bool b)
 |int (i:Int) (t:Tok):Rp h X (.int i t) (.int i)
 |str (x:b9) (t:Tok):Rp h X (.str ⟨x.toArray⟩ t) (.str x)
 |bytes (b:List Int) (t:Tok):(∀n∈b,0<=n/\n<256)->Rp h X (.bytes (b.map fun n=>UInt8.ofNat n.toNat).toArray t) (.bytes b)
 |tup {a:Addr} {o:Obj} {vs:List Value} {n:Nat} {ds:List V}:h.get? a=some o->o.cls=.type "tuple"->o.data=.seq vs.toArray n-> ¬X a->Rps h X vs ds->Rp h X (.ref a) (.tup ds)
 |list {a:Addr} {o:Obj} {vs:List Value} {n:Nat} {ds:List V}:h.get? a=some o->o.cls=.type "list"->o.data=.seq vs.toArray n-> ¬X a->Rps h X vs ds->Rp h X (.ref a) (.list ds)
 |rng {a:Addr} {n:Int} {t u v:Tok}:IsRange h a 0 n 1 t u v-> ¬X a->Rp h X (.ref a) (.rng n)
 |dict {a:Addr} {f:Str->Option Value} {kvs:List (b9×Int)}:h.MapOf (strKind prog w) a f->a≠sysModules-> ¬X a->
   (∀x:b9,match kvs.lookup x with|some i=> ∃t,f ⟨x.toArray⟩=some (.int i t)| .none=>f ⟨x.toArray⟩=.none)->Rp h X (.ref a) (.dict kvs)
inductive Rps (h:Heap) (X:Xs):List Value->List V->Prop
 |nil:Rps h X [] []
 |cons {v:Value} {vs:List Value} {d:V} {ds:List V}:Rp h X v d->Rps h X vs ds->Rps h X (v::vs) (d::ds)
end
end
noncomputable def I7 (o:Obj):Prop:=(o.cls=.type "list"\/o.cls=.type "tuple"\/o.cls=.type "range"\/o.cls=.type "dict")/\ ∀v,o.data≠.cell v
noncomputable def R3 (X:Xs) (h h':Heap):Prop:= ∀b o,h.get? b=some o-> ¬X b->I7 o->h'.get? b=some o
section
variable {h h':Heap} {X X':Xs} {v:Value} {d:V} {vs us:List Value} {ds es:List V}
theorem Rp.carry (k:R3 X h h') (r:Rp h X v d):Rp h' X v d:=
 r.rec (motive_1:=fun v d Z=>Rp h' X v d) (motive_2:=fun vs ds Z=>Rps h' X vs ds) .none .bool .int .str .bytes
  (fun e c q n Z r=>.tup (k _ _ e n ⟨.inr (.inl c),fun v z=>nomatch q.symm.trans z⟩) c q n r)
  (fun e c q n Z r=>.list (k _ _ e n ⟨.inl c,fun v z=>nomatch q.symm.trans z⟩) c q n r)
  (fun e n=>.rng (k _ _ e n ⟨.inr (.inr (.inl rfl)),fun v z=>nomatch z⟩) n)
  (fun m s n q=>.dict (nJ (m) fun o es ep e x r=>⟨o,es,ep,k _ _ e n ⟨.inr (.inr (.inr x.1)),fun v z=>nomatch r.1.symm.trans z⟩,x,r⟩) s n q)
  .nil fun Z Z a r=>.cons a r
theorem Rp.more (k: ∀a,X' a->X a\/ ∀o,h.get? a=some o-> ¬I7 o) (r:Rp h X v d):Rp h X' v d:=
 r.rec (motive_1:=fun v d Z=>Rp h X' v d) (motive_2:=fun vs ds Z=>Rps h X' vs ds) .none .bool .int .str .bytes
  (fun e c q n Z r=>.tup e c q (fun x=>(k _ x).elim n fun y=>y _ e ⟨.inr (.inl c),fun v z=>nomatch q.symm.trans z⟩) r)
  (fun e c q n Z r=>.list e c q (fun x=>(k _ x).elim n fun y=>y _ e ⟨.inl c,fun v z=>nomatch q.symm.trans z⟩) r)
  (fun e n=>.rng e (fun x=>(k _ x).elim n fun y=>y _ e ⟨.inr (.inr (.inl rfl)),fun v z=>nomatch z⟩))
  (fun m s n q=>.dict m s (fun x=>(k _ x).elim n fun y=>nJ (m) fun Z Z Z e x r=>y _ e ⟨.inr (.inr (.inr x.1)),fun v z=>nomatch r.1.symm.trans z⟩) q)
  .nil fun Z Z a r=>.cons a r
theorem yX {h':Heap} (k: ∀{v:Value} {d:V},Rp h X v d->Rp h' X' v d) (r:Rps h X vs ds):Rps h' X' vs ds:=
 r.rec (motive_1:=fun Z Z Z=>True) (motive_2:=fun vs ds Z=>Rps h' X' vs ds) trivial (fun Z=>trivial) (fun Z Z=>trivial) (fun Z Z=>trivial) (fun Z Z Z=>trivial)
  (fun Z Z Z Z Z Z=>trivial) (fun Z Z Z Z Z Z=>trivial) (fun Z Z=>trivial) (fun Z Z Z Z=>trivial) .nil fun a Z Z r=>.cons (k a) r
theorem Rps.carry (k:R3 X h h') (r:Rps h X vs ds):Rps h' X vs ds:=yX (Rp.carry k) r
theorem Rps.more (k: ∀a,X' a->X a\/ ∀o,h.get? a=some o-> ¬I7 o) (r:Rps h X vs ds):Rps h X' vs ds:=yX (Rp.more k) r
theorem Rp.less (k: ∀a,X' a->X a) (r:Rp h X v d):Rp h X' v d:=r.more fun a q=>.inl (k a q)
theorem Rps.less (k: ∀a,X' a->X a) (r:Rps h X vs ds):Rps h X' vs ds:=r.more fun a q=>.inl (k a q)
variable (h X v) in
noncomputable def WJ:V->Prop
 | .none=>v=.none
 | .bool b=>v=.bool b
 | .int i=> ∃t,v=.int i t
 | .str x=> ∃t,v=.str ⟨x.toArray⟩ t
 | .bytes b=>(∃t,v=.bytes (b.map fun n=>UInt8.ofNat n.toNat).toArray t)/\ ∀n∈b,0<=n/\n<256
 | .tup ds=> ∃a o vs n,v=.ref a/\h.get? a=some o/\o.cls=.type "tuple"/\o.data=.seq vs.toArray n/\ ¬X a/\Rps h X vs ds
 | .list ds=> ∃a o vs n,v=.ref a/\h.get? a=some o/\o.cls=.type "list"/\o.data=.seq vs.toArray n/\ ¬X a/\Rps h X vs ds
 | .rng n=> ∃a t u t',v=.ref a/\IsRange h a 0 n 1 t u t'/\ ¬X a
 | .dict kvs=> ∃a f,v=.ref a/\h.MapOf (strKind prog w) a f/\a≠sysModules/\ ¬X a/\
   ∀x:b9,match kvs.lookup x with|some i=> ∃t,f ⟨x.toArray⟩=some (.int i t)| .none=>f ⟨x.toArray⟩=.none
 | .olist _=>False
theorem Rp.inv (r:Rp h X v d):WJ h X v d:=by
 cases r with
 |none=>exact rfl
 |bool _=>exact rfl
 |int _ _=>exact⟨_,rfl⟩
 |str _ _=>exact⟨_,rfl⟩
 |bytes _ _ q=>exact⟨⟨_,rfl⟩,q⟩
 |tup e c q n r=>exact⟨_,_,_,_,rfl,e,c,q,n,r⟩
 |list e c q n r=>exact⟨_,_,_,_,rfl,e,c,q,n,r⟩
 |rng e n=>exact⟨_,_,_,_,rfl,e,n⟩
 |dict m s n q=>exact⟨_,_,rfl,m,s,n,q⟩
theorem bT (r:Rp h X v .none):v=.none:=r.inv
theorem M1 {b:Bool} (r:Rp h X v (.bool b)):v=.bool b:=r.inv
theorem A1 {i:Int} (r:Rp h X v (.int i)): ∃t,v=.int i t:=r.inv
theorem s6 {x:b9} (r:Rp h X v (.str x)): ∃t,v=.str ⟨x.toArray⟩ t:=r.inv
theorem R4 {b:List Int} (r:Rp h X v (.bytes b)):(∃t,v=.bytes (b.map fun n=>UInt8.ofNat n.toNat).toArray t)/\ ∀n∈b,0<=n/\n<256:=r.inv
theorem dT (r:Rp h X v (.list ds)): ∃a o vs n,v=.ref a/\h.get? a=some o/\o.cls=.type "list"/\o.data=.seq vs.toArray n/\ ¬X a/\Rps h X vs ds:=r.inv
variable (h X) in
noncomputable def WK:List Value->List V->Prop
 |[],[]=>True
 |v::vs,d::ds=>Rp h X v d/\Rps h X vs ds
 |_,_=>False
theorem Rps.inv (r:Rps h X vs ds):WK h X vs ds:=by
 cases r with
 |nil=>exact trivial
 |cons a r=>exact⟨a,r⟩
theorem K2 (r:Rps h X vs []):vs=[]:=by
 cases vs with
 |nil=>rfl
 |cons _ _=>exact r.inv.elim
theorem D2 (r:Rps h X vs (d::ds)): ∃v us,vs=v::us/\Rp h X v d/\Rps h X us ds:=by
 cases vs with
 |nil=>exact r.inv.elim
 |cons v us=>exact⟨v,us,rfl,r.inv⟩
theorem Rps.length (r:Rps h X vs ds):vs.length=ds.length:=by
 induction ds generalizing vs with
 |nil=>rw[K2 r];rfl
 |cons d ds ih=>
  refine v8 (D2 r) fun v us e Z q=> ?_;rw[e];exact congrArg Nat.succ (ih q)
theorem Rps.append (r:Rps h X vs ds) (q:Rps h X us es):Rps h X (vs++us) (ds++es):=by
 induction ds generalizing vs with
 |nil=>rw[K2 r];exact q
 |cons d ds ih=>
  refine v8 (D2 r) fun v us e a z=> ?_;rw[e];exact .cons a (ih z)
theorem Rps.get (r:Rps h X vs ds) {k:Nat} {d:V} (hk:ds[k]? =some d): ∃v,vs[k]? =some v/\Rp h X v d:=by
 induction ds generalizing vs k with
 |nil=>nomatch hk
 |cons d' ds ih=>
  refine v8 (D2 r) fun v us e a z=> ?_;rw[e];cases k with
  |zero=>exact⟨v,rfl,Option.some.inj hk▸a⟩
  |succ k=>exact ih z hk
theorem Rps.dropLast (r:Rps h X vs ds):Rps h X vs.dropLast ds.dropLast:=by
 induction ds generalizing vs with
 |nil=>rw[K2 r];exact .nil
 |cons d ds ih=>
  refine v8 (D2 r) fun v us e a z=> ?_;rw[e];cases ds with
  |nil=>rw[K2 z];exact .nil
  |cons d' ds=>
   refine v8 (D2 z) fun v' us' e' a' z'=> ?_;have:=ih z;rw[e'] at this ⊢;exact .cons a this
theorem Rp.not_open (r:Rp h X v d):d.open? =false:=by
 cases d<;>first|rfl|exact r.inv.elim
theorem oY {d:V} {ds:List V} {l:List Int} (e:J3 (d::ds)=some l): ∃i l',d=.int i/\J3 ds=some l'/\l=i::l':=by
 cases d with
 |int i=>
  refine e8 (Option.map_eq_some_iff.mp (show(J3 ds).map (i:: ·)=some l from e)) fun l' q z4r=> ?_;subst z4r;exact⟨i,l',rfl,q,rfl⟩
 |_=>nomatch e
theorem Rps.ofInts (r:Rps h X vs ds) {l:List Int} (e:J3 ds=some l):IntsAre vs l:=by
 induction ds generalizing vs l with
 |nil=>rw[K2 r,<-Option.some.inj e];exact .nil
 |cons d ds ih=>
  refine v8 (oY e) fun i l' z2r q' z3r=> ?_;subst z2r;subst z3r;refine v8 (D2 r) fun v us e' a z=> ?_;refine d6 (A1 a) fun t z1r=> ?_;subst z1r;rw[e'];exact .cons _ _ (ih z q')
end
section
variable {h h' h'':Heap}
structure aJ4 (h h':Heap):Prop where
 keep: ∀b o,h.get? b=some o-> ¬o4 b->h'.get? b=some o
end
structure Wd where
 G:Heap
 mg:Str->Option Value
 mb:Str->Option Value
noncomputable def E8:List (Addr×Addr×Str):=[(262,258,"_law_atom_right.<locals>.<lambda>"),(267,265,"_law_line_right.<locals>.<lambda>"),(274,270,"law.<locals>.<lambda>")]
structure Wd.Ok (W:Wd):Prop where
 g:W.G.Ns mainGlobals W.mg
 b:W.G.Ns builtinsNs W.mb
 nolimit:W.G.NoLimit
 boot: ∀x:Str,x≠"__name__"->W.mb x=bootBuiltins x
 bm: ∀P,o4 P->W.G.BuiltinsAt W.mg P
noncomputable def NM (h:Heap) (c P:Addr) (q:Str):Prop:=
 CodeHd h c P/\ ∃ps,h.get? P=some (tabObj ps)/\TriplesOk ps.toList/\ ∀pos cv,codeAmong pos ps.toList=some cv->h.CodeRec cv q
noncomputable def o3 (h:Heap):Prop:= ∀x∈E8,NM h x.1 x.2.1 x.2.2
theorem o3.keeps {h h':Heap} (x:o3 h) (k: ∀b o,h.get? b=some o->h'.get? b=some o):o3 h':=fun y m=>f8 (x y m) fun a z=>r6 z fun ps b c d=>
 ⟨a.keeps k,ps,k _ _ b,c,fun pos cv e=>(d pos cv e).keeps k⟩
noncomputable def u9 (h:Heap) (a:Addr):Prop:= ∀x∈E8,∀ps,h.get? x.2.1=some (tabObj ps)-> ∀pos,codeAmong pos ps.toList≠some (.ref a)
theorem u9.keeps {h h':Heap} {a:Addr} (t:o3 h) (k: ∀b o,h.get? b=some o->h'.get? b=some o) (n:u9 h a):u9 h' a:=fun x m ps e=>by
 refine f8 (t x m) fun Z z12t=> ?_;refine e8 z12t fun ps' e' Z=> ?_;clear z12t;have:=k _ _ e';rw[e] at this;injection this with this;injection this with _ _ this _;injection this with this;subst this;exact n x m ps e'
noncomputable def nM (h:Heap) (a:Addr):Prop:= ∃o,h.get? a=some o/\((∀vs,o.data≠.fields vs)\/(o.cls≠.none/\o.cls≠.type "code"/\u9 h a))
theorem nM.notab {h:Heap} {a:Addr} (m:nM h a) (t:o3 h): ∀x∈E8,x.1≠a/\x.2.1≠a:=fun x hx=>by
 refine e8 m fun o e d=> ?_;clear m;refine f8 (t x hx) fun z10n z11t=> ?_;refine e8 z11t fun ps p1 Z=> ?_;clear z11t;refine RX z10n fun oc vs Z Z Z Z Z Z Z c1 c2 c3 Z=> ?_;clear z10n;refine⟨fun q=> ?_,fun q=> ?_⟩
 ·rw[q,e] at c1;injection c1 with c1;subst c1;rcases d with d|⟨_,d,_⟩
  ·exact d _ c3
  ·exact d c2
 ·rw[q,e] at p1;injection p1 with p1;subst p1;rcases d with d|⟨d,_⟩
  ·exact d _ rfl
  ·exact d rfl
theorem o3.but {h h':Heap} {a:Addr} (t:o3 h) (m:nM h a) (k: ∀b o,b≠a->h.get? b=some o->h'.get? b=some o):o3 h':=fun x hx=>by
 refine f8 (m.notab t x hx) fun n1 n2=> ?_;refine f8 (t x hx) fun z8n z9t=> ?_;refine r6 z9t fun ps p1 p2 p3=> ?_;clear z9t;refine VT z8n fun oc vs a1 a2 a3 a4 a5 a6 a7 c1 cr=> ?_;clear z8n;refine⟨⟨oc,vs,a1,a2,a3,a4,a5,a6,a7,k _ _ n1 c1,cr⟩,ps,k _ _ n2 p1,p2,fun pos cv e=> ?_⟩;refine sX (p3 pos cv e) fun c o vs' tq e1 e2 e3 e4=> ?_;refine⟨c,o,vs',tq,e1,k _ _ (fun q=> ?_) e2,e3,e4⟩;refine e8 m fun o' e' d=> ?_;clear m;rw[q,e'] at e2;injection e2 with e2;subst e2;rcases d with d|⟨_,_,d⟩
 ·exact d _ e3
 ·exact d x hx ps p1 pos (by rw[e,e1,q])
theorem u9.but {h h':Heap} {a b:Addr} (t:o3 h) (m:nM h a) (k: ∀b o,b≠a->h.get? b=some o->h'.get? b=some o) (n:u9 h b):u9 h' b:=fun x hx ps e=>by
 refine f8 (m.notab t x hx) fun Z n2=> ?_;refine f8 (t x hx) fun Z z7t=> ?_;refine e8 z7t fun ps' e' Z=> ?_;clear z7t;have:=k _ _ n2 e';rw[e] at this;injection this with this;injection this with _ _ this _;injection this with this;subst this;exact n x hx ps e'
structure Cx where
 A:Around
 fr:List Env
 base:Heap
 X:Xs
 tb:Prop
noncomputable def Cx.locs (C:Cx):List Addr:=C.fr.filterMap (·.frame)
structure Cx.Ok (C:Cx) (k:Nat):Prop where
 frames:C.A.frames=some C.fr
 handled:C.A.handled=none
 depth:C.A.depth+k+10<recursionLimit
 units:C.A.units+8*k+40<cLine
 locs: ∀a∈C.locs,C.X a
 tab:C.tb-> ∀a,o4 a->C.base.get? a=none
 loct: ∀a∈C.locs,¬o4 a
theorem Cx.Ok.less {C:Cx} {k k':Nat} (o:C.Ok k) (h:k'<=k):C.Ok k':=
 ⟨o.frames,o.handled,by have:=o.depth;omega,by have:=o.units;omega,o.locs,o.tab,o.loct⟩
structure aM (W:Wd) (C:Cx) (h:Heap):Prop where
 G: ∀b o,W.G.get? b=some o->h.get? b=some o
 base:C.base.StaysIn h
 frames:h.FunFrames C.base C.fr
 tabs:o3 h
 Gl: ∀a∈C.locs,W.G.get? a=none
structure Gr (C:Cx) (h h':Heap):Prop where
 keep: ∀b o,h.get? b=some o-> ¬(C.tb/\o4 b)->b∉C.locs->h'.get? b=some o
 slots: ∀b o,h.get? b=some o-> ¬(C.tb/\o4 b)-> ∃sl,h'.get? b=some {o with slots:=sl}
 tabs:o3 h->o3 h'
 codes:o3 h-> ∀a o,h.get? a=some o-> ¬o4 a->u9 h a->u9 h' a
section
variable {W:Wd} {C:Cx} {h h' h'':Heap}
theorem Gr.of_keep (k: ∀b o,h.get? b=some o->h'.get? b=some o):Gr C h h':=
 ⟨fun b o e Z Z=>k b o e,fun b o e Z=>⟨o.slots,k b o e⟩,fun t=>t.keeps k,fun t a o Z Z n=>n.keeps t k⟩
theorem Gr.refl:Gr C h h:=.of_keep fun Z Z e=>e
theorem Gr.push (o:Obj):Gr C h (h.push o):=.of_keep fun Z Z e=>Heap.get?_push_of_some _ e
theorem Gr.trans (a:Gr C h h') (b:Gr C h' h''):Gr C h h'':=
 ⟨fun x o e n m=>b.keep x o (a.keep x o e n m) n m,fun x o e n=>d6 (a.slots x o e n) fun Z I4=>d6 (b.slots x _ I4 n) fun sl oO=>⟨sl,oO⟩,fun t=>b.tabs (a.tabs t),
  fun t x o e n nc=>d6 (a.slots x o e (fun z=>n z.2)) fun Z I4=>b.codes (a.tabs t) x _ I4 n (a.codes t x o e n nc)⟩
theorem Gr.but {a:Addr} (gr:Gr C h h') (hn:h.get? a=none) (t:o3 h) (m:nM h' a) (k: ∀b o,b≠a->h'.get? b=some o->h''.get? b=some o):Gr C h h'':=
 ⟨fun b o e n l=>k b o (fun q=>by rw[q,hn] at e;injection e) (gr.keep b o e n l),fun b o e n=>d6 (gr.slots b o e n) fun sl I4=>⟨sl,k b _ (fun q=>by rw[q,hn] at e;injection e) I4⟩,
  fun t=>(gr.tabs t).but m k,fun t b o e n nc=>(gr.codes t b o e n nc).but (gr.tabs t) m k⟩
theorem aM.tabNone {a:Addr} (i:aM W C h) (t:o4 a): ∃ps,h.get? a=some (tabObj ps):=by
 rcases t with e|e|e
 ·refine f8 (i.tabs (262,258,_) (.head _)) fun Z z6t=> ?_;refine e8 z6t fun ps q Z=> ?_;clear z6t;exact⟨ps,e▸q⟩
 ·refine f8 (i.tabs (267,265,_) (.tail _ (.head _))) fun Z z5t=> ?_;refine e8 z5t fun ps q Z=> ?_;clear z5t;exact⟨ps,e▸q⟩
 ·refine f8 (i.tabs (274,270,_) (.tail _ (.tail _ (.head _)))) fun Z z4t=> ?_;refine e8 z4t fun ps q Z=> ?_;clear z4t;exact⟨ps,e▸q⟩
theorem aM.locSome {a:Addr} (i:aM W C h) (m:a∈C.locs):C.base.get? a=none/\ ∃o,h.get? a=some o/\ ∀vs,o.data≠.fields vs:=i.frames.mem m
structure Wd.Fits (W:Wd) (C:Cx):Prop where
 notab:C.tb-> ∀a,o4 a->W.G.get? a=none
theorem aM.gr {k:Nat} (ok:C.Ok k) (wf:W.Fits C) (i:aM W C h) (g:Gr C h h'):aM W C h':=by
 refine⟨fun b o e=> ?_,fun b o e=> ?_,i.frames.of_keeps fun b o e hn=> ?_,g.tabs i.tabs,i.Gl⟩
 ·refine g.keep b o (i.G b o e) (fun⟨t,q⟩=>by rw[wf.notab t b q] at e;injection e) fun m=>by rw[i.Gl b m] at e;injection e
 ·refine g.keep b o (i.base b o e) (fun⟨t,q⟩=>by rw[ok.tab t b q] at e;injection e) fun m=>by rw[(i.locSome m).1] at e;injection e
 ·obtain⟨sl,q⟩:=g.slots b o e fun⟨_,t⟩=>by
   refine d6 (i.tabNone t) fun ps z=> ?_;rw[z] at e;injection e with e;subst e;exact hn _ rfl
  exact⟨_,q,rfl⟩
theorem aM.carry {k:Nat} {X:Xs} (ok:C.Ok k) (i:aM W C h) (g:Gr C h h') (hX: ∀a,C.X a->X a):R3 X h h':=fun b o e n d=>by
 refine g.keep b o e (fun⟨_,t⟩=> ?_) fun m=>n (hX _ (ok.locs b m));refine d6 (i.tabNone t) fun ps z=> ?_;rw[z] at e;injection e with e;subst e;rcases d.1 with q|q|q|q<;>cases q
theorem Gr.upTo (g:Gr C h h') (nt: ¬C.tb\/o3 h):h.UpToSlots h':=fun b o e hn=>g.slots b o e fun⟨t,q⟩=>by
 rcases nt with n|x
 ·exact n t
 ·rcases q with q|q|q
  ·refine f8 (x (262,258,_) (.head _)) fun Z z3t=> ?_;refine e8 z3t fun ps z Z=> ?_;clear z3t;rw[q] at e;rw[z] at e;injection e with e;subst e;exact hn _ rfl
  ·refine f8 (x (267,265,_) (.tail _ (.head _))) fun Z z2t=> ?_;refine e8 z2t fun ps z Z=> ?_;clear z2t;rw[q] at e;rw[z] at e;injection e with e;subst e;exact hn _ rfl
  ·refine f8 (x (274,270,_) (.tail _ (.tail _ (.head _)))) fun Z z1t=> ?_;refine e8 z1t fun ps z Z=> ?_;clear z1t;rw[q] at e;rw[z] at e;injection e with e;subst e;exact hn _ rfl
end
section
noncomputable def B1 (h:Heap) (X:Xs) (oa:Option Addr) (u:Value):V->Prop
 | .olist ds=> ∃a o vs n,oa=some a/\u=.ref a/\h.get? a=some o/\(o.cls=.type "list"/\o.dict=none)/\o.data=.seq vs.toArray n/\Rps h X vs ds
 |v=>Rp h X u v
noncomputable def v6 (h:Heap) (X:Xs) (oa:Option Addr):List Value->List V->Prop
 |[],[]=>True
 |u::us,v::vs=>B1 h X oa u v/\v6 h X oa us vs
 |_,_=>False
structure St (env:Env) (oa:Option Addr) (X:Xs) (h:Heap) (σ:d9):Prop where
 cells: ∀x,env.kindOf x=some .cell\/env.kindOf x=some .free-> ∃c v,env.cells.lookup x=some c/\h.IsCell c v
 vals: ∃m,h.Ns env.locals m/\ ∀x v,σ.get x=some v-> ∃u,B1 h X oa u v/\
  ((env.kindOf x=some .local/\m x=some u)\/((env.kindOf x=some .cell\/env.kindOf x=some .free)/\ ∃c,env.cells.lookup x=some c/\h.IsCell c (some u)))
noncomputable def k9 (C:Cx) (s s':Shared):Prop:= ∃h' tk,s'={s with heap:=h',toks:=tk}/\Gr C s.heap h'
noncomputable def g5 (C:Cx) (X:Xs) (oa:Option Addr) (s:Shared) (d:V) (v:Value) (s':Shared):Prop:=k9 C s s'/\B1 s'.heap X oa v d
noncomputable def xF (C:Cx) (X:Xs) (oa:Option Addr) (s:Shared) (d:List V) (v:List Value) (s':Shared):Prop:=k9 C s s'/\v6 s'.heap X oa v d
noncomputable def P5 (C:Cx) (s:Shared) (d:Bool) (v:Bool) (s':Shared):Prop:=k9 C s s'/\v=d
noncomputable def Y0 (h:Heap) (e:Addr) (l:Int):Prop:= ∃o d m t,h.get? e=some o/\o.dict=some d/\h.Ns d m/\m "line"=some (.int l t)
noncomputable def kB:Value:=.ref 52
noncomputable def C6 (C:Cx) (s:Shared) (l:Int) (e:Value) (s':Shared):Prop:=
 ∃ae a0 h' tk,e=.ref ae/\s'={s with heap:=h',toks:=tk}/\Heap.FlyingW C.base C.fr ae kB a0 h'/\s.heap.UpToSlots h'/\Y0 h' ae l
noncomputable abbrev Tr (β:Type):=(β->Shared->Prop)->(Value->Shared->Prop)->Shared->Prop
noncomputable def w4 {α β:Type} (r:R α) (F:Tr β) (P:α->β->Shared->Prop) (E:Int->Value->Shared->Prop) (s:Shared):Prop:=
 match r with
 | .stuck=>True
 | .ok d=>F (P d) (fun Z Z=>False) s
 | .err l=>F (fun Z Z=>False) (E l) s
noncomputable abbrev Ou {α β:Type} (C:Cx) (r:R α) (t:Sem β) (P:α->β->Shared->Prop) (E:Int->Value->Shared->Prop) (s:Shared):Prop:=
 w4 r (fun Q E s=>wpAny (model prog w) C.A t Q E s) P E s
end
section
variable {W:Wd} {C:Cx} {X:Xs} {oa:Option Addr} {s s₁ e7:Shared}
theorem k9.refl:k9 C s s:=⟨s.heap,s.toks,rfl,.refl⟩
theorem k9.trans (a:k9 C s s₁) (b:k9 C s₁ e7):k9 C s e7:=by
 refine r0 a fun y5 n7 z6r QW=> ?_;clear a;subst z6r;refine r0 b fun i8 dJ z5r YK=> ?_;clear b;subst z5r;exact⟨i8,dJ,rfl,QW.trans YK⟩
theorem k9.gr (a:k9 C s s₁):Gr C s.heap s₁.heap:=by refine r0 a fun Z Z z4r g=> ?_;clear a;subst z4r;exact g
theorem k9.of_keep {h':Heap} {tk:Nat} (k: ∀b o,s.heap.get? b=some o->h'.get? b=some o):k9 C s {s with heap:=h',toks:=tk}:=⟨h',tk,rfl,.of_keep k⟩
theorem g5.from {d:V} {v:Value} {s':Shared} (a:k9 C s s₁) (p:g5 C X oa s₁ d v s'):g5 C X oa s d v s':=⟨a.trans p.1,p.2⟩
theorem C6.from {l:Int} {e:Value} {s':Shared} (a:k9 C s s₁) (nt: ¬C.tb\/o3 s.heap) (p:C6 C s₁ l e s'):C6 C s l e s':=by
 refine r0 a fun y5 n7 z3r QW=> ?_;clear a;subst z3r;refine AR p fun ae a0 h' tk z1r z2r f u li=> ?_;clear p;subst z1r;subst z2r;exact⟨ae,a0,h',tk,rfl,rfl,f,(QW.upTo nt).trans u,li⟩
theorem Ou.bind {α β γ δ:Type} {r:R α} {f:α->R γ} {t:Sem β} {F:β->Tr δ} {G:Tr δ} {P:α->β->Shared->Prop} {P':γ->δ->Shared->Prop} {E:Int->Value->Shared->Prop}
  (rule: ∀(Q:δ->Shared->Prop) (E':Value->Shared->Prop),wpAny (model prog w) C.A t (fun v s₁=>F v Q E' s₁) E' s->G Q E' s)
  (h:Ou C r t P E s) (hk: ∀a v s₁,r=.ok a->P a v s₁->w4 (f a) (F v) P' E s₁):w4 (r.bind f) G P' E s:=by
 cases r with
 |stuck=>trivial
 |err l=>exact rule _ _ (wpAny_mono h (fun Z Z x=>x.elim) fun Z Z x=>x)
 |ok a=>
  show w4 (f a) G P' E s;have hk':=fun v s₁ p=>hk a v s₁ rfl p;cases hf:f a with
  |stuck=>trivial
  |err l=>
   rw[hf] at hk';exact rule _ _ (wpAny_mono h (fun v s₁ p=>hk' v s₁ p) fun Z Z x=>x.elim)
  |ok c=>
   rw[hf] at hk';exact rule _ _ (wpAny_mono h (fun v s₁ p=>hk' v s₁ p) fun Z Z x=>x.elim)
theorem Ou.mono {α β:Type} {r:R α} {t:Sem β} {P P':α->β->Shared->Prop} {E E':Int->Value->Shared->Prop} (h:Ou C r t P E s)
  (hp: ∀a v s',r=.ok a->P a v s'->P' a v s') (he: ∀l e s',r=.err l->E l e s'->E' l e s'):Ou C r t P' E' s:=by
 cases r with
 |stuck=>trivial
 |err l=>exact wpAny_mono h (fun Z Z x=>x) fun e s' x=>he l e s' rfl x
 |ok a=>exact wpAny_mono h (fun v s' x=>hp a v s' rfl x) fun Z Z x=>x
theorem Ou.map {α β γ:Type} {r:R α} {g:α->γ} {t:Sem β} {P:α->β->Shared->Prop} {P':γ->β->Shared->Prop} {E:Int->Value->Shared->Prop} (h:Ou C r t P E s)
  (hp: ∀a v s',r=.ok a->P a v s'->P' (g a) v s'):Ou C (r.map g) t P' E s:=by
 cases r with
 |stuck=>trivial
 |err l=>exact h
 |ok a=>exact wpAny_mono h (fun v s' x=>hp a v s' rfl x) fun Z Z x=>x
theorem aM.slot {h h':Heap} {b:Addr} {o:Obj} (i:aM W C h) (g:Gr C h h') (e:h.get? b=some o) (hn: ∀vs,o.data≠.fields vs): ∃sl,h'.get? b=some {o with slots:=sl}:=
 g.upTo (.inr i.tabs) b o e hn
theorem B1.plain {h:Heap} {u:Value} {v:V} (r:B1 h X oa u v) (n:v.open? =false):Rp h X u v:=by
 cases v<;>first|exact r|injection n
theorem B1.of {h:Heap} {u:Value} {v:V} (r:Rp h X u v):B1 h X oa u v:=by cases r<;>(unfold B1;constructor<;>assumption)
theorem B1.gr {h h':Heap} {k:Nat} {u:Value} {v:V} (ok:C.Ok k) (i:aM W C h) (g:Gr C h h') (hX: ∀a,C.X a->X a) (r:B1 h X oa u v):B1 h' X oa u v:=by
 rcases kA v with⟨ds,rfl⟩|q
 ·refine X1 r fun a o vs n e1 e2 e3 e4 e5 e6=> ?_;clear r;refine d6 (i.slot g e3 fun vs z=>by rw[e5] at z;injection z) fun sl hs=> ?_;exact⟨a,_,vs,n,e1,e2,hs,e4,e5,e6.carry (i.carry ok g hX)⟩
 ·exact B1.of ((r.plain q).carry (i.carry ok g hX))
theorem v6.gr {h h':Heap} {k:Nat} (ok:C.Ok k) (i:aM W C h) (g:Gr C h h') (hX: ∀a,C.X a->X a): ∀{us:List Value} {vs:List V},v6 h X oa us vs->v6 h' X oa us vs
 |[],[],_=>trivial
 |_::_,_::_,r=>⟨r.1.gr ok i g hX,v6.gr ok i g hX r.2⟩
theorem v6.plain {h:Heap}: ∀{us:List Value} {vs:List V},v6 h X oa us vs->vs.any V.open? =false->Rps h X us vs
 |[],[],_,_=>.nil
 |_::_,v::vs,r,n=>by
  rw[List.any_cons,Bool.or_eq_false_iff] at n;exact .cons (r.1.plain n.1) (v6.plain r.2 n.2)
theorem v6.of {h:Heap} {us:List Value} {vs:List V} (r:Rps h X us vs):v6 h X oa us vs:=by
 induction us generalizing vs with
 |nil=>cases r;trivial
 |cons u us ih=>cases r with|cons a r=>exact⟨.of a,ih r⟩
theorem St.gr {h h':Heap} {k:Nat} {env:Env} {σ:d9} (ok:C.Ok k) (i:aM W C h) (g:Gr C h h') (hX: ∀a,C.X a->X a) (t:St env oa X h σ):St env oa X h' σ:=by
 refine e8 t.vals fun m hm hv=> ?_;have cell: ∀c v,h.IsCell c v->h'.IsCell c v:=fun c v ⟨o,ho,hd⟩=>by
  refine d6 (i.slot g ho fun vs z=>by rw[hd] at z;injection z) fun sl hs=> ?_;exact⟨_,hs,hd⟩
 refine⟨fun x hx=> ?_,m,(g.upTo (.inr i.tabs)).ns hm,fun x v e=> ?_⟩
 ·refine r0 (t.cells x hx) fun c v hc hi=> ?_;exact⟨c,v,hc,cell c v hi⟩
 refine e8 (hv x v e) fun u hu hk=> ?_;refine⟨u,hu.gr ok i g hX,?_⟩;rcases hk with q|⟨q,c,hc,hi⟩
 ·exact .inl q
 ·exact .inr ⟨q,c,hc,cell c _ hi⟩
end
end
section
open PySem PySem.W PyProof.Rows PySem.Builtin.Str PySem.Builtin
noncomputable abbrev S (x:b9):Str:=⟨x.toArray⟩
theorem gV (x:b9):(S x).length=x.length:=by simp[Str.length]
theorem EJ (x:b9):(S x).cps.toList=x:=rfl
theorem NN (x y:b9):S x++S y=S (x++y):=by
 show Str.append _ _=_;simp[Str.append]
theorem EK {x y:b9}:S x=S y↔x=y:=by simp[S]
theorem EL (x y:b9):(S x==S y)=(x==y):=by
 rw[Bool.eq_iff_iff,beq_iff_eq,beq_iff_eq];exact EK
theorem WL (x:Str):S x.cps.toList=x:=rfl
theorem qS (x:b9) (c:Nat):Txt.contains (S x) (S [c])=x.contains c:=by
 have h:=StrLaws.found_one (S x) c;rw[EJ] at h;show(!(occurrences (S x) ⟨#[c]⟩ 0 (S x).length 1).isEmpty)=_;rw[h,Bool.eq_iff_iff];simp
theorem oZ {c:Nat}: ∀{x:b9},c∈x->x[J4 c x]? =some c
 |d::r,h=>by
  unfold J4;split
  ·rename_i q;subst q;rfl
  ·rename_i q;have:c∈r:=by
    rcases List.mem_cons.mp h with e|e
    ·exact absurd e.symm q
    ·exact e
   simpa using oZ this
theorem pA {c:Nat}: ∀{x:b9} {i:Nat},x[i]? =some c->J4 c x<=i
 |[],i,h=>by simp at h
 |d::r,i,h=>by
  unfold J4;split
  ·omega
  ·rename_i q;cases i with
   |zero=>simp at h;exact absurd h q
   |succ i=>have:=pA (x:=r) (i:=i) (by simpa using h);omega
theorem yY (x:b9) (c:Nat):(x.contains c=false/\occurrences (S x) (S [c]) 0 (S x).length 1=[])\/(x.contains c=true/\ ∃r,occurrences (S x) (S [c]) 0 (S x).length 1=J4 c x::r):=by
 have at_iff: ∀i,StrLaws.At (S x) (S [c]) (S x).length i↔x[i]? =some c:=fun i=>StrLaws.subAt_one (S x) c i;rcases StrLaws.occ_head (S x) (S [c]) 1 (Nat.le_refl _) with⟨h,hn⟩|⟨i,r,h,ha,hm⟩
 ·refine .inl ⟨?_,h⟩;rw[Bool.eq_false_iff];intro q;refine d6 (List.mem_iff_getElem?.mp (List.contains_iff_mem.mp q)) fun i hi=> ?_;exact hn i ((at_iff i).mpr hi)
 ·have hi:=(at_iff i).mp ha;refine .inr ⟨List.contains_iff_mem.mpr (List.mem_iff_getElem?.mpr ⟨i,hi⟩),r,?_⟩;have h1:=pA hi;have h2:=oZ (List.mem_iff_getElem?.mpr ⟨i,hi⟩);have:i=J4 c x:=by
   apply Nat.le_antisymm _ h1
   apply Nat.le_of_not_lt
   intro q;exact hm _ q ((at_iff _).mpr h2)
  rw[h,this]
theorem EM (x:b9) (c:Nat):Txt.find (S x) (S [c])=if x.contains c then (J4 c x:Int) else -1:=by
 unfold Txt.find;rcases yY x c with⟨a,b⟩|⟨a,r,b⟩
 ·rw[b,a];rfl
 ·rw[b,a];rfl
theorem pD {i:Int} {n:Nat} (h:i<0):P4 i n=(i+n).toNat:=if_pos h
theorem fM {i:Int} {n:Nat} (h: ¬i<0):P4 i n=min i.toNat n:=if_neg h
theorem dU (i:Int) (n:Nat):P4 i n<=n:=by
 by_cases h:i<0
 ·rw[pD h];exact Int.toNat_le.mpr (Int.add_le_of_le_sub_right (by rw[Int.sub_self];exact Int.le_of_lt h))
 ·rw[fM h];exact Nat.min_le_right _ _
theorem BD {m n:Nat} (h:m<=n):P4 (m:Int) n=m:=by
 rw[fM (Int.not_lt.mpr (Int.natCast_nonneg m)),Int.toNat_natCast,Nat.min_eq_left h]
theorem pE (i:Int) (n:Nat):max (0:Int) (min (if i<0 then i+n else i) n)=(P4 i n:Nat):=by
 by_cases h:i<0
 ·rw[pD h,if_pos h,Int.min_eq_left (Int.add_le_of_le_sub_right (by rw[Int.sub_self];exact Int.le_of_lt h)),Int.max_comm,Int.ofNat_toNat]
 ·have h0:=Int.not_lt.mp h;rw[fM h,if_neg h,Int.max_eq_right (Int.le_min.mpr ⟨h0,Int.natCast_nonneg n⟩)];rcases Int.le_total i n with q|q
  ·rw[Int.min_eq_left q,Nat.min_eq_left (Int.toNat_le.mpr q),Int.toNat_of_nonneg h0]
  ·rw[Int.min_eq_right q,Nat.min_eq_right ((Int.le_toNat h0).mpr q)]
noncomputable def EN (lo:Option Int) (n:Nat):Nat:=match lo with|some i=>P4 i n|none=>0
noncomputable def xG (hi:Option Int) (n:Nat):Nat:=match hi with|some i=>P4 i n|none=>n
theorem kC (m n:Nat) (h:m<=n):max (0:Int) (min (if (m:Int)<0 then (m:Int)+n else m) n)=m:=by
 rw[pE,BD h]
theorem tF (lo hi:Option Int) (n:Nat):
  strSliceIndices lo hi 1 n=strSliceIndices (some ((EN lo n:Nat):Int)) (some ((xG hi n:Nat):Int)) 1 n:=by
 unfold strSliceIndices;have key: ∀a b a' b':Int,a=a'->b=b'->sliceRange a b 1=sliceRange a' b' 1:=by intro a b a' b' p q;rw[p,q]
 have c (i:Int):=dU i n;cases lo<;>cases hi<;>simp only[show(1:Int)>0 by decide,if_true,pE,EN,xG]<;>refine key _ _ _ _ ?_ ?_<;>
  first
  |exact(kC 0 n (Nat.zero_le _)).symm
  |exact(kC n n (Nat.le_refl _)).symm
  |exact(kC _ n (dU _ _)).symm
theorem EO (x:b9) (lo hi:Option Int):Txt.slice (S x) lo hi=S (j9 x lo hi):=by
 show StrLaws.sliceText (S x) lo hi=_;unfold StrLaws.sliceText;rw[tF];generalize ha:EN lo (S x).length=a;generalize hb:xG hi (S x).length=b;have hbn:b<=(S x).length:=by
  rw[<-hb];cases hi with
  |none=>exact Nat.le_refl _
  |some i=>exact dU _ _
 have e:j9 x lo hi=AV x a b:=by
  rw[gV] at ha hb;rw[<-ha,<-hb];cases lo<;>cases hi<;>rfl
 rw[e];rcases Nat.le_total a b with hab|hba
 ·have:=StrLaws.sliceText_nat (S x) hab hbn;unfold StrLaws.sliceText at this;rw[this,EJ];unfold AV;rw[List.drop_take]
 ·have e0:AV x a b=[]:=by
   unfold AV;rw[List.drop_eq_nil_iff,List.length_take];omega
  have e1:strSliceIndices (some (a:Int)) (some (b:Int)) 1 (S x).length=[]:=by
   have han:a<=(S x).length:=by
    rw[<-ha];cases lo with
    |none=>exact Nat.zero_le _
    |some i=>exact dU _ _
   unfold strSliceIndices;simp only[show(1:Int)>0 by decide,if_true];rw[kC a _ han,kC b _ hbn];unfold sliceRange;rw[if_pos (by decide),if_neg (Int.not_lt.mpr (Int.ofNat_le.mpr hba))];rfl
  rw[e0,e1];split
  ·rename_i q;have:(S x).length=0:=by have:=q;simp at this;omega
   rw[gV] at this;rw[List.eq_nil_of_length_eq_zero this]
  ·simp[S]
theorem BE {x:b9} {lo hi:Option Int}:(j9 x lo hi).length<=x.length:=by
 unfold j9 AV;rw[List.length_drop,List.length_take];omega
theorem K3 {α:Type} (p:α->Bool): ∀l:List α,l.drop (l.takeWhile p).length=l.dropWhile p
 |[]=>rfl
 |a::r=>by
  cases h:p a with
  |true=>simp[List.takeWhile_cons,List.dropWhile_cons,h,K3 p r]
  |false=>simp[List.takeWhile_cons,List.dropWhile_cons,h]
theorem M2 {α:Type} (p:α->Bool): ∀l:List α,(l.takeWhile p).length+(l.dropWhile p).length=l.length
 |[]=>rfl
 |a::r=>by
  have:=M2 p r;cases h:p a with
  |true=>simp only[List.takeWhile_cons,List.dropWhile_cons,h,if_true,List.length_cons];omega
  |false=>simp only[List.takeWhile_cons,List.dropWhile_cons,h,Bool.false_eq_true,if_false,List.length_cons,List.length_nil];omega
theorem pF (x:b9):i6 x=(x.drop (x.takeWhile j4).length).take ((x.drop (x.takeWhile j4).length).length-((x.drop (x.takeWhile j4).length).reverse.takeWhile j4).length):=by
 unfold i6;rw[K3];generalize x.dropWhile j4=y;rw[<-K3,List.drop_reverse,List.reverse_reverse]
theorem EP (x:b9):Txt.stripChars (S x) (S [32])=S (i6 x):=by
 unfold Txt.stripChars Txt.stripBy;have hg:(S [32]).cps.contains=j4:=by
  funext c
  show(#[32]:Array Nat).contains c=(c==32);rw[Bool.eq_iff_iff,beq_iff_eq];simp
 rw[hg];have hlo:stripLo j4 true (S x)=(x.takeWhile j4).length:=rfl;have hhi:stripHi j4 true (S x) (x.takeWhile j4).length=x.length-((x.drop (x.takeWhile j4).length).reverse.takeWhile j4).length:=by
  show(S x).length-_=_;rw[gV]
 have hsub:PySem.stripped j4 true true (S x)=S (i6 x):=by
  unfold PySem.stripped;rw[hlo,hhi];unfold strSub;rw[pF];show Str.mk (x.toArray.extract _ _)=_;have h1:=M2 j4 x;have h2:(x.drop (x.takeWhile j4).length).length=x.length-(x.takeWhile j4).length:=List.length_drop;rw[List.extract_toArray,List.extract_eq_drop_take,h2];congr 3
  omega
 split
 ·rename_i h;unfold stripSame at h;rw[hlo,hhi,gV,Bool.and_eq_true,beq_iff_eq,beq_iff_eq] at h;refine f8 h fun h1 h2=> ?_;clear h;rw[pF,h1];have h3:((x.drop 0).reverse.takeWhile j4).length<=(x.drop 0).length:=by
   have:=M2 j4 (x.drop 0).reverse;rw[List.length_reverse] at this;omega
  rw[h1] at h2;rw[List.drop_zero] at h2 h3 ⊢;congr 1
  rw[List.take_of_length_le];omega
 ·exact hsub
theorem nN: ∀c,c<128->Unicode.lowerOf c=[cG c]:=by decide+kernel
theorem EQ (x:b9) (h:j6 x=true):Txt.lower (S x)=S (x.map cG):=by
 unfold Txt.lower placed;have ha: ∀c∈x,c<128:=fun c hc=>of_decide_eq_true (List.all_eq_true.mp h c hc);have h1:(S x).cps.mapIdx (fun i c=>(Unicode.lowerAt (S x).cps i).toArray)=(x.map fun c=> #[cG c]).toArray:=by
  apply Array.ext
  ·simp
  ·intro i h1 h2;have hi:i<x.length:=by simpa using h1
   simp only[Array.getElem_mapIdx,List.getElem_toArray,List.getElem_map];have he:(S x).cps[i]? =some x[i]:=by simp[hi]
   unfold Unicode.lowerAt;rw[he];have hc:=ha x[i] (List.getElem_mem hi);have hne:(x[i]==0x3A3)=false:=by
    rw[beq_eq_false_iff_ne];omega
   simp only[hne,Bool.false_and,Bool.false_eq_true,if_false,nN _ hc]
 rw[h1];show Str.mk _=Str.mk _;congr 1
 clear h1 h ha;induction x with
 |nil=>rfl
 |cons a r ih=>
  simp only[List.map_cons];rw[<-Array.toList_inj];have ih':=congrArg Array.toList ih;simp at ih' ⊢;try exact ih'
theorem ER: ∀c,c<128->Txt.isalpha (S [c])=X3 c:=by decide+kernel
end
section
open PySem PySem.W PyProof.Rows
theorem D5:i0<=sizeLine:=by decide
theorem fN:(i0:Int)<2 ^63:=by decide
section
variable {W:Wd} {C:Cx} {X:Xs} {oa:Option Addr} {s:Shared} {k:Nat}
theorem g5.mk_int {i:Int} {t:Tok} {h':Heap} {tk:Nat} (q: ∀b o,s.heap.get? b=some o->h'.get? b=some o):g5 C X oa s (.int i) (.int i t) {s with heap:=h',toks:=tk}:=
 ⟨.of_keep q,.int i t⟩
theorem g5.mk_str {x:b9} {t:Tok} {h':Heap} {tk:Nat} (q: ∀b o,s.heap.get? b=some o->h'.get? b=some o):g5 C X oa s (.str x) (.str (S x) t) {s with heap:=h',toks:=tk}:=
 ⟨.of_keep q,.str x t⟩
theorem g5.mk_bool {b:Bool} {h':Heap} {tk:Nat} (q: ∀b o,s.heap.get? b=some o->h'.get? b=some o):g5 C X oa s (.bool b) (.bool b) {s with heap:=h',toks:=tk}:=
 ⟨.of_keep q,.bool b⟩
theorem Rps.items {h:Heap} {vs:List Value} {ds:List V} (r:Rps h X vs ds):vs.toArray.size=ds.length:=by
 rw[List.size_toArray];exact r.length
theorem kD {b:Int} (h:small b=true):b.natAbs.log2<4096:=by
 have h1:b.natAbs<2 ^4096:=of_decide_eq_true h;by_cases h0:b.natAbs=0
 ·rw[h0];decide+kernel
 ·exact(Nat.log2_lt h0).mpr h1
theorem OW {a b:Int} (ha:small a=true) (hb:small b=true):IntMulOk a b:=by
 unfold IntMulOk;have bits: ∀x:Int,small x=true->Builtin.Int.intBits x<=4096:=fun x hx=>by
  unfold Builtin.Int.intBits;split
  ·omega
  ·have:=kD hx;omega
 have:=bits a ha;have:=bits b hb;have hb':Builtin.Int.intTooBig (Builtin.Int.intBits a+Builtin.Int.intBits b)=false:=by
  unfold Builtin.Int.intTooBig;refine decide_eq_false ?_;have:(8192:Int)<=bitsLine:=by decide+kernel
  omega
 rw[hb'];simp
theorem t8 {h:Heap} {u:Value} {d:V} {ds:List V} (hd:d=.list ds\/d=.olist ds) (r:B1 h X oa u d): ∃a vs,u=.ref a/\h.IsList a vs.toArray/\Rps h X vs ds:=by
 rcases hd with e|e
 ·subst e;refine X1 (dT r) fun a o vs n e1 e2 e3 e4 Z e5=> ?_;exact⟨a,vs,e1,⟨o,e2,e3,n,e4⟩,e5⟩
 ·subst e;refine X1 r fun a o vs n Z e1 e2 e3 e4 e5=> ?_;clear r;exact⟨a,vs,e1,⟨o,e2,e3.1,n,e4⟩,e5⟩
theorem Q2 {h:Heap} {u:Value} {ds:List V} (r:Rp h X u (.tup ds)): ∃a vs,u=.ref a/\IsTup h a vs.toArray/\Rps h X vs ds:=by
 refine X1 r.inv fun a o vs n e h1 h2 h3 Z h4=> ?_;exact⟨a,vs,e,⟨o,h1,h2,n,h3⟩,h4⟩
theorem B1.any {h:Heap} {u:Value} {d:V} (r:B1 h X none u d):B1 h X oa u d:=by
 cases d<;>first|exact r|(refine nK r fun Z Z Z Z e Z=> ?_;clear r;injection e)
theorem B1.keep {h h':Heap} {u:Value} {d:V} (k: ∀b o,h.get? b=some o->h'.get? b=some o) (r:B1 h X oa u d):B1 h' X oa u d:=by
 cases d with
 |olist ds=>refine X1 r fun b o vs n e1 e2 e3 e4 e5 e6=> ?_;clear r;exact⟨b,o,vs,n,e1,e2,k _ _ e3,e4,e5,e6.carry fun b o e Z Z=>k b o e⟩
 |_=>exact Rp.carry (fun b o e Z Z=>k b o e) r
theorem g5.mk_list {vs:List Value} {ds:List V} {tk:Nat} (hf: ¬X s.heap.objs.size) (r:Rps s.heap X vs ds) (keep:R3 X s.heap (s.heap.push {cls:=.type "list",data:=.seq vs.toArray})):
  g5 C X oa s (.list ds) (.ref s.heap.objs.size) {s with heap:=s.heap.push {cls:=.type "list",data:=.seq vs.toArray},toks:=tk}:=
 ⟨.of_keep fun Z Z e=>Heap.get?_push_of_some _ e,.list (n:=0) (Heap.get?_push_size _ rfl) rfl rfl hf (r.carry keep)⟩
theorem g5.mk_tup {vs:List Value} {ds:List V} {tk:Nat} (hf: ¬X s.heap.objs.size) (r:Rps s.heap X vs ds) (keep:R3 X s.heap (s.heap.push {cls:=.type "tuple",data:=.seq vs.toArray})):
  g5 C X oa s (.tup ds) (.ref s.heap.objs.size) {s with heap:=s.heap.push {cls:=.type "tuple",data:=.seq vs.toArray},toks:=tk}:=
 ⟨.of_keep fun Z Z e=>Heap.get?_push_of_some _ e,.tup (n:=0) (Heap.get?_push_size _ rfl) rfl rfl hf (r.carry keep)⟩
theorem R3.push {h:Heap} (o:Obj):R3 X h (h.push o):=fun Z Z e Z Z=>Heap.get?_push_of_some _ e
noncomputable def Xn (X:Xs) (h:Heap):Prop:= ∀a,X a->a<h.objs.size
theorem w4.guard {α β:Type} {r:R α} {G:Tr β} {P:α->β->Shared->Prop} {E:Int->Value->Shared->Prop} {c:Prop} [Decidable c] (h:c->w4 r G P E s):w4 (if c then r else .stuck) G P E s:=by
 by_cases hc:c
 ·rw[if_pos hc];exact h hc
 ·rw[if_neg hc];trivial
theorem w4.need1 {α γ β:Type} {o:Option γ} {f:γ->R α} {G:Tr β} {P:α->β->Shared->Prop} {E:Int->Value->Shared->Prop} (h: ∀a,o=some a->w4 (f a) G P E s):w4 (needR o f) G P E s:=by
 cases o with
 |none=>trivial
 |some a=>exact h a rfl
theorem OX {α β:Type} {r:R α} {G:Tr β} {P:α->β->Shared->Prop} {E:Int->Value->Shared->Prop} (h:r≠.stuck->w4 r G P E s):w4 r G P E s:=by
 cases r with
 |stuck=>trivial
 |_=>exact h nofun
theorem Y1 {α β:Type} {r:R α} {t:Sem β} {P:α->β->Shared->Prop} {E:Int->Value->Shared->Prop} (h:r≠.stuck->Ou C r t P E s):Ou C r t P E s:=by
 cases r with
 |stuck=>trivial
 |_=>exact h nofun
theorem Ou.guard {α β:Type} {r:R α} {t:Sem β} {P:α->β->Shared->Prop} {E:Int->Value->Shared->Prop} {c:Prop} [Decidable c] (h:c->Ou C r t P E s):Ou C (if c then r else .stuck) t P E s:=by
 by_cases hc:c
 ·rw[if_pos hc];exact h hc
 ·rw[if_neg hc];trivial
section
variable {β γ:Type} {P:γ->β->Shared->Prop} {E:Int->Value->Shared->Prop} {T:Value->Sem β} {TT:List Value->Sem β} {t:Sem β} {u:Value} {v:V} {us:List Value} {vs:List V}
theorem bU {f:b9->R γ} (h:strM f v≠.stuck): ∃x,v=.str x:=by cases v<;>first|exact⟨_,rfl⟩|exact absurd rfl h
theorem dW {f:Int->R γ} (h:intM f v≠.stuck): ∃x,v=.int x:=by cases v<;>first|exact⟨_,rfl⟩|exact absurd rfl h
theorem qT {f:List V->R γ} (h:AU f v≠.stuck): ∃x,v=.list x:=by cases v<;>first|exact⟨_,rfl⟩|exact absurd rfl h
theorem yZ {f:List V->R γ} (h:seqM f v≠.stuck): ∃x,(v=.list x\/v=.olist x)/\seqM f v=f x:=by cases v<;>first|exact⟨_,.inl rfl,rfl⟩|exact⟨_,.inr rfl,rfl⟩|exact absurd rfl h
theorem KB {f:List V->R γ} (h:SC f v≠.stuck): ∃x,v=.tup x:=by cases v<;>first|exact⟨_,rfl⟩|exact absurd rfl h
theorem ES {f:List (b9×Int)->R γ} (h:dictM f v≠.stuck): ∃x,v=.dict x:=by cases v<;>first|exact⟨_,rfl⟩|exact absurd rfl h
theorem V7 {α:Type} {r:R α} {d:α} (h:r=.ok d):r≠.stuck:=fun q=>nomatch q.symm.trans h
theorem O2 {f:b9->R γ} {d:γ} (h:strM f v=.ok d): ∃x,v=.str x/\f x=.ok d:=by
 refine d6 (bU (V7 h)) fun x z9r=> ?_;subst z9r;exact⟨x,rfl,h⟩
theorem KC {f:Int->R γ} {d:γ} (h:intM f v=.ok d): ∃x,v=.int x/\f x=.ok d:=by
 refine d6 (dW (V7 h)) fun x z8r=> ?_;subst z8r;exact⟨x,rfl,h⟩
theorem ET {f:List (b9×Int)->R γ} {d:γ} (h:dictM f v=.ok d): ∃x,v=.dict x/\f x=.ok d:=by
 refine d6 (ES (V7 h)) fun x z7r=> ?_;subst z7r;exact⟨x,rfl,h⟩
theorem KD {f:List V->R γ} {d:γ} (h:seqM f v=.ok d): ∃x,(v=.list x\/v=.olist x)/\f x=.ok d:=
 have⟨x,e,q⟩:=yZ (V7 h)
 ⟨x,e,q▸h⟩
theorem qU {f:Nat->R γ} {x:b9} {d:γ} (h:oneM x f=.ok d): ∃c,x=[c]/\f c=.ok d:=by
 rcases x with _|⟨c,_|_⟩
 ·injection h
 ·exact⟨c,rfl,h⟩
 ·injection h
theorem kE {α:Type} {o:Option α} {f:α->R γ} {d:γ} (h:needR o f=.ok d): ∃a,o=some a/\f a=.ok d:=by
 cases o with
 |none=>injection h
 |some a=>exact⟨a,rfl,h⟩
theorem D6 {α:Type} {c:Prop} [Decidable c] {d:α} {r:R α} (h:(if c then r else .stuck)=.ok d):c/\r=.ok d:=by
 by_cases hc:c
 ·rw[if_pos hc] at h;exact⟨hc,h⟩
 ·rw[if_neg hc] at h;injection h
theorem v0 {α:Type} {c d:α} (h:R.ok c=.ok d):c=d:=by cases h;rfl
theorem Ou.strM {f:b9->R γ} (a:B1 s.heap X oa u v) (h: ∀x t,v=.str x->Ou C (f x) (T (.str (S x) t)) P E s):Ou C (strM f v) (T u) P E s:=Y1 fun hne=>by
 refine d6 (bU hne) fun x z6r=> ?_;subst z6r;refine d6 (s6 a) fun t e=> ?_;rw[e];exact h x t rfl
theorem Ou.intM {f:Int->R γ} (a:B1 s.heap X oa u v) (h: ∀x t,v=.int x->Ou C (f x) (T (.int x t)) P E s):Ou C (intM f v) (T u) P E s:=Y1 fun hne=>by
 refine d6 (dW hne) fun x z5r=> ?_;subst z5r;refine d6 (A1 a) fun t e=> ?_;rw[e];exact h x t rfl
theorem Ou.oneM {f:Nat->R γ} {x:b9} (h: ∀c,x=[c]->Ou C (f c) t P E s):Ou C (oneM x f) t P E s:=by
 rcases x with _|⟨c,_|_⟩
 ·trivial
 ·exact h c rfl
 ·trivial
theorem Ou.need1 {α:Type} {o:Option α} {f:α->R γ} (h: ∀a,o=some a->Ou C (f a) t P E s):Ou C (needR o f) t P E s:=by
 cases o with
 |none=>trivial
 |some a=>exact h a rfl
theorem Ou.arg1 {f:V->R γ} (a:v6 s.heap X oa us vs) (h: ∀u v,B1 s.heap X oa u v->Ou C (f v) (TT [u]) P E s):Ou C (arg1 f vs) (TT us) P E s:=by
 rcases vs with _|⟨v,_|_⟩
 ·trivial
 ·rcases us with _|⟨u,_|_⟩
  ·exact a.elim
  ·exact h u v a.1
  ·exact a.2.elim
 ·trivial
theorem Ou.arg2 {f:V->V->R γ} (a:v6 s.heap X oa us vs) (h: ∀u v u' v',B1 s.heap X oa u v->B1 s.heap X oa u' v'->Ou C (f v v') (TT [u,u']) P E s):Ou C (arg2 f vs) (TT us) P E s:=by
 rcases vs with _|⟨v,_|⟨v',_|_⟩⟩
 ·trivial
 ·trivial
 ·rcases us with _|⟨u,_|⟨u',_|_⟩⟩
  ·exact a.elim
  ·exact a.2.elim
  ·exact h u v u' v' a.1 a.2.1
  ·exact a.2.2.elim
 ·trivial
end
noncomputable def NE {α:Type} (r:R α):Prop:= ∀l,r≠.err l
section
variable {γ:Type} {r r':R γ} {v:V} {vs:List V}
theorem NE.ok {a:γ}:NE (.ok a):=nofun
theorem NE.stuck:NE (.stuck:R γ):=nofun
theorem NE.or {c:Prop} [Decidable c] (h:NE r) (h':NE r'):NE (if c then r else r'):=by
 by_cases e:c
 ·rw[if_pos e];exact h
 ·rw[if_neg e];exact h'
theorem NE.strM {f:b9->R γ} (h: ∀x,NE (f x)):NE (strM f v):=by cases v<;>first|exact NE.stuck|exact h _
theorem NE.intM {f:Int->R γ} (h: ∀x,NE (f x)):NE (intM f v):=by cases v<;>first|exact NE.stuck|exact h _
theorem NE.seqM {f:List V->R γ} (h: ∀x,NE (f x)):NE (seqM f v):=by cases v<;>first|exact NE.stuck|exact h _
theorem NE.dictM {f:List (b9×Int)->R γ} (h: ∀x,NE (f x)):NE (dictM f v):=by cases v<;>first|exact NE.stuck|exact h _
theorem NE.arg0 (h:NE r):NE (arg0 r vs):=by cases vs<;>first|exact NE.stuck|exact h
theorem NE.arg1 {f:V->R γ} (h: ∀x,NE (f x)):NE (arg1 f vs):=by rcases vs with _|⟨_,_|_⟩<;>first|exact NE.stuck|exact h _
theorem NE.arg2 {f:V->V->R γ} (h: ∀x y,NE (f x y)):NE (arg2 f vs):=by rcases vs with _|⟨_,_|⟨_,_|_⟩⟩<;>first|exact NE.stuck|exact h _ _
theorem NE.oneM {f:Nat->R γ} {x:b9} (h: ∀x,NE (f x)):NE (oneM x f):=by rcases x with _|⟨_,_|_⟩<;>first|exact NE.stuck|exact h _
theorem NE.needR {α:Type} {o:Option α} {f:α->R γ} (h: ∀x,NE (f x)):NE (needR o f):=by cases o<;>first|exact NE.stuck|exact h _
end
theorem KE {x y:V} {u v:Value} (a:B1 s.heap X oa u x) (b:B1 s.heap X oa v y) (hf:Xn X s.heap):
  Ou C (SD x y) (binaryOp .Add u v) (g5 C X oa s) (C6 C s) s:=by
 cases x with
 |int i=>
  refine d6 (A1 a) fun Z e=> ?_;rw[e];exact Ou.intM (T:=fun v=>binaryOp .Add _ v) b fun j t Z=>add_int (.mk_int fun Z Z e=>e)
 |str c=>
  refine d6 (s6 a) fun Z e=> ?_;rw[e];refine Ou.strM (T:=fun v=>binaryOp .Add _ v) b fun d t Z=>Ou.guard fun h=>add_str (fun t' tk=> ?_) (Nat.le_trans h D5);have:(S c++S d)=S (c++d):=NN c d;show g5 C X oa s (.str (c++d)) (.str (S c++S d) t') _;rw[this];exact .mk_str fun Z Z e=>e
 |list c=>
  refine Y1 fun hne=> ?_;refine d6 (qT hne) fun d z3r=> ?_;subst z3r;refine Ou.guard fun h=> ?_;refine X1 (dT a) fun l o vs n z2r e1 e2 e3 Z e4=> ?_;subst z2r;refine X1 (dT b) fun l' o' vs' n' z1r f1 f2 f3 Z f4=> ?_;subst z1r;obtain⟨cls,dd,data,sl⟩:=o;obtain⟨cls',dd',data',sl'⟩:=o';cases e2;cases e3;cases f2;cases f3;refine concat_meets ⟨_,e1,rfl⟩ ⟨_,f1,rfl⟩ noFill_list_add seq_list_add PySem.F.slot_list_add PySem.F.entry_list_add (PySem.F.args_list_add_2 _ _)
   (list_addW l l' vs.toArray vs'.toArray n n' dd dd' sl sl' (by rw[e4.items,f4.items];exact Nat.le_trans h D5)) ⟨e1,f1,?_⟩
  rw[List.append_toArray];exact .mk_list (fun q=>Nat.lt_irrefl _ (hf _ q)) (e4.append f4) (.push _)
 |_=>trivial
theorem J5 {γ β:Type} {P:γ->β->Shared->Prop} {E:Int->Value->Shared->Prop} {f:Int->Int->R γ} {T:Value->Value->Sem β} {x y:V} {u v:Value} (a:B1 s.heap X oa u x) (b:B1 s.heap X oa v y)
  (h: ∀i j t t',Ou C (f i j) (T (.int i t) (.int j t')) P E s):Ou C (intM (fun i=>intM (f i) y) x) (T u v) P E s:=
 Ou.intM (T:=fun u=>T u v) a fun i t Z=>Ou.intM (T:=fun v=>T (.int i t) v) b fun j t' Z=>h i j t t'
theorem KF (op:Operator) {x y:V} {u v:Value} (a:B1 s.heap X oa u x) (b:B1 s.heap X oa v y) (hf:Xn X s.heap):
  Ou C (R0 op x y) (binaryOp op u v) (g5 C X oa s) (C6 C s) s:=by
 cases op with
 |Add=>exact KE a b hf
 |Sub=>exact J5 (T:=fun u v=>binaryOp .Sub u v) a b fun i j t t'=>sub_int (.mk_int fun Z Z e=>e)
 |Mult=>exact J5 (T:=fun u v=>binaryOp .Mult u v) a b fun i j t t'=>Ou.guard fun h=>mul_int (.mk_int fun Z Z e=>e) (let h:=Bool.and_eq_true_iff.mp h;OW h.1 h.2)
 |Pow=>exact J5 (T:=fun u v=>binaryOp .Pow u v) a b fun i j t t'=>Ou.guard fun h=>pow_int_small h.1 h.2.1 h.2.2 (.mk_int fun Z Z e=>e)
 |Mod=>exact J5 (T:=fun u v=>binaryOp .Mod u v) a b fun i j t t'=>Ou.guard fun h=>mod_int (Int.ne_of_gt h) (Int.fmod_eq_emod_of_nonneg i (Int.le_of_lt h)▸.mk_int fun Z Z e=>e)
 |FloorDiv=>exact J5 (T:=fun u v=>binaryOp .FloorDiv u v) a b fun i j t t'=>Ou.guard fun h=>floordiv_int (Int.ne_of_gt h.1) (Int.fdiv_eq_ediv_of_nonneg i (Int.le_of_lt h.1)▸.mk_int fun Z Z e=>e) (.inl (PyProof.noPylong_of_log2 (Nat.lt_of_lt_of_le (kD h.2) (by decide))))
 |_=>trivial
theorem KG {x:V} {u:Value} (a:B1 s.heap X oa u x):Ou C (OL x) (unaryOp .USub u) (g5 C X oa s) (C6 C s) s:=
 Ou.intM (T:=fun u=>unaryOp .USub u) a fun i t Z=>neg_int (.mk_int fun Z Z e=>e)
end
end
section
open PySem PySem.W PyProof.Rows PySem.SeqAt
section
variable {W:Wd} {C:Cx} {X:Xs} {oa:Option Addr} {s:Shared} {k:Nat}
theorem P5.mk {b c:Bool} {h':Heap} {tk:Nat} (q: ∀a o,s.heap.get? a=some o->h'.get? a=some o) (e:c=b):P5 C s b c {s with heap:=h',toks:=tk}:=⟨.of_keep q,e⟩
theorem V8 {x:V} {u:Value} (a:B1 s.heap X oa u x):Ou C (B2 x) (truthy u) (P5 C s) (C6 C s) s:=by
 refine Y1 fun hne=> ?_;cases x with
 |none=>rw[bT a];exact truthy_none (.mk (fun Z Z e=>e) rfl)
 |bool b=>rw[M1 a];exact wpAny_truthy_bool (.mk (fun Z Z e=>e) rfl)
 |int i=>refine d6 (A1 a) fun Z z34r=> ?_;subst z34r;exact truthy_int (.mk (fun Z Z e=>e) rfl)
 |str x=>
  refine d6 (s6 a) fun Z z33r=> ?_;subst z33r;refine Ou.guard fun h=>PySem.P.truthy_str (by show ¬(x.length:Int)≥2 ^63;have:=fN;omega) (.mk (fun Z Z e=>e) ?_);cases x<;>rfl
 |list ds=>
  refine Ou.guard fun h=> ?_;refine v8 (t8 (.inl rfl) a) fun l vs z32r hl hr=> ?_;subst z32r;refine wpAny_truthy_list hl (by rw[hr.items];have:=fN;omega) (.mk (fun Z Z e=>e) ?_);cases ds with
  |nil=>rw[K2 hr];rfl
  |cons _ _=>refine r0 (D2 hr) fun Z Z e Z=> ?_;rw[e];rfl
 |_=>exact absurd rfl hne
noncomputable def OY (C:Cx) (s:Shared) (b:Bool) (v:Value) (s':Shared):Prop:=k9 C s s'/\v=.bool b
theorem OY.mk {b c:Bool} {tk:Nat} (e:c=b):OY C s b (.bool c) {s with toks:=tk}:=⟨.of_keep fun Z Z e=>e,e▸rfl⟩
theorem aN {n:Nat} {e:Nat->Bool} (h: ∀j,j<n->e j=true):(List.range n).all e=true:=List.all_eq_true.mpr fun j hj=>h j (List.mem_range.mp hj)
theorem Rps.at {h:Heap} {vs:List Value} {ds:List V} (r:Rps h X vs ds) {j:Nat} (hj:j<vs.length): ∃hd:j<ds.length,Rp h X vs[j] ds[j]:=by
 have hd:j<ds.length:=by rw[<-r.length];exact hj
 refine e8 (r.get (k:=j) (d:=ds[j]) (List.getElem?_eq_getElem hd)) fun v e q=> ?_;rw[List.getElem?_eq_getElem hj] at e;injection e with e;subst e;exact⟨hd,q⟩
theorem Dats.at: ∀{ds:List V},Dats ds-> ∀{j:Nat} (hj:j<ds.length),RM ds[j]
 |d::r,q,0,_=>q.1
 |d::r,q,j+1,hj=>Dats.at (ds:=r) q.2 (by simpa using hj)
theorem pG: ∀{ds:List V} {j:Nat} (hj:j<ds.length),gQ ds[j]<=deepVs ds
 |d::r,0,_=>by show gQ d<=max _ _;omega
 |d::r,j+1,hj=>by
  have:=pG (ds:=r) (j:=j) (by simpa using hj);have hr:(d::r)[j+1]=r[j]'(by simpa using hj):=rfl;rw[hr];show _<=max (gQ d) (deepVs r);omega
theorem w9 {h:Heap} {a:Addr} {items:Array Value} (t:IsTup h a items):h.IsTuple a items:=t
theorem pH {d:V} {u v:Value} {A:Around} (hd:RM d) (a:Rp s.heap X u d) (b:Rp s.heap X v d):EqAt A s u v true\/ ∃ds,d=.tup ds\/d=.list ds:=by
 cases d with
 |none=>rw[bT a,bT b];exact .inl (.same _)
 |bool _=>rw[M1 a,M1 b];exact .inl (.same _)
 |int i=>
  refine d6 (A1 a) fun t e=> ?_;refine d6 (A1 b) fun t' e'=> ?_;rw[e,e',<-beq_self_eq_true i];exact .inl (EqAt.int_int i t i t')
 |str x=>
  refine d6 (s6 a) fun t e=> ?_;refine d6 (s6 b) fun t' e'=> ?_;rw[e,e',<-beq_self_eq_true (⟨x.toArray⟩:Str)];exact .inl (EqAt.str_str _ t _ t')
 |bytes y=>
  refine f8 (R4 a) fun z31n Z=> ?_;refine d6 z31n fun t e=> ?_;clear z31n;refine f8 (R4 b) fun z30n Z=> ?_;refine d6 z30n fun t' e'=> ?_;clear z30n;rw[e,e'];exact .inl fun Z Z E Q h=>eqBool_bytes (by rwa[decide_eq_true rfl])
 |tup ds=>exact .inr ⟨ds,.inl rfl⟩
 |list ds=>exact .inr ⟨ds,.inr rfl⟩
 |_=>exact hd.elim
theorem cU {n:Nat} {A:Around} {ds:List V} {vs vs':List Value} (ih: ∀{d:V} {u v:Value} {A:Around} {s:Shared},gQ d<=n->RM d->A.units+n<cLine->Rp s.heap X u d->Rp s.heap X v d->EqAt A s u v true)
  (hn:deepVs ds<=n) (hd:Dats ds) (hu:A.units+(n+1)<cLine) (hr:Rps s.heap X vs ds) (hr':Rps s.heap X vs' ds):
  ∀j (h1:j<vs.toArray.size) (h2:j<vs'.toArray.size),EqAt A.in1 s vs.toArray[j] vs'.toArray[j] true:=fun j h1 h2=>
 have⟨hj,q⟩:=hr.at (show j<vs.length from h1);have⟨_,q'⟩:=hr'.at (show j<vs'.length from h2)
 ih (Nat.le_trans (pG hj) hn) (Dats.at hd hj) (by show A.units+1+n<cLine;omega) q q'
theorem tG {n m:Nat} (h:n=m):((List.range (min n m)).all (fun Z=>true) &&n==m)=true:=by
 rw[aN fun Z Z=>rfl,h,beq_self_eq_true];rfl
theorem BF: ∀(n:Nat) {d:V} {u v:Value} {A:Around} {s:Shared},gQ d<=n->RM d->A.units+n<cLine->Rp s.heap X u d->Rp s.heap X v d->EqAt A s u v true:=by
 intro n;induction n with
 |zero=>
  intro d u v A s hn hd hu a b;rcases pH (A:=A) hd a b with e|⟨ds,rfl|rfl⟩
  ·exact e
  ·exact absurd hn (Nat.not_succ_le_zero _)
  ·exact absurd hn (Nat.not_succ_le_zero _)
 |succ n ih=>
  intro d u v A s hn hd hu a b;rcases pH (A:=A) hd a b with e|⟨ds,rfl|rfl⟩
  ·exact e
  ·refine v8 (Q2 a) fun l vs z29r hl hr=> ?_;subst z29r;refine v8 (Q2 b) fun l' vs' z28r hl' hr'=> ?_;subst z28r;by_cases e:l=l'
   ·subst e;exact .same _
   ·exact .of_refs e (tG (hr.items.trans hr'.items.symm)▸RcAt.tuples (A:=A) (e:=fun Z=>true) (w9 hl) (w9 hl') (by omega) (cU ih (Nat.le_of_succ_le_succ hn) hd hu hr hr'))
  ·refine v8 (t8 (oa:=none) (.inl rfl) (show B1 s.heap X none u (.list ds) from a)) fun l vs z27r hl hr=> ?_;subst z27r;refine v8 (t8 (oa:=none) (.inl rfl) (show B1 s.heap X none v (.list ds) from b)) fun l' vs' z26r hl' hr'=> ?_;subst z26r;by_cases e:l=l'
   ·subst e;exact .same _
   ·have key:=RcAt.lists (A:=A) (e:=fun Z=>true) hl hl' (hr.items.trans hr'.items.symm) (by omega) (cU ih (Nat.le_of_succ_le_succ hn) hd hu hr hr');rw[aN fun Z Z=>rfl] at key;exact .of_refs e key
theorem fO {d:V} {ds:List V} {l:List b9} (e:M0 (d::ds)=some l): ∃i l',d=.str i/\M0 ds=some l'/\l=i::l':=by
 cases d with
 |str i=>
  refine e8 (Option.map_eq_some_iff.mp (show(M0 ds).map (i:: ·)=some l from e)) fun l' q z25r=> ?_;subst z25r;exact⟨i,l',rfl,q,rfl⟩
 |_=>nomatch e
theorem tH {α:Type} [BEq α] [LawfulBEq α] {x c:α} {l:List α} {b:Bool} (h:b=l.contains x):(c==x||b)=(c::l).contains x:=by
 rw[List.contains_cons,h,BEq.comm]
noncomputable def NO (x:b9) (y:Value):Bool:=match y with
 | .str c _=>c==S x
 |_=>false
noncomputable def NP (x:Int) (y:Value):Bool:=match y with
 | .int c _=>c==x
 |_=>false
theorem EU {h:Heap} {x:b9} {vs:List Value} {ds:List V} {l:List b9} (r:Rps h X vs ds) (e:M0 ds=some l):
  (∀y∈vs,∃c t,y=.str (S c) t)/\vs.any (NO x)=l.contains x:=by
 induction ds generalizing vs l with
 |nil=>rw[K2 r,<-Option.some.inj e];exact⟨fun Z h=>(List.not_mem_nil h).elim,rfl⟩
 |cons d ds ih=>
  refine v8 (fO e) fun c l' z23r q z24r=> ?_;subst z23r;subst z24r;refine v8 (D2 r) fun v us z22r a z=> ?_;subst z22r;refine d6 (s6 a) fun t z21r=> ?_;subst z21r;refine f8 (ih z q) fun h1 h2=> ?_;exact⟨fun y hy=>(List.mem_cons.mp hy).elim (fun e=>⟨c,t,e⟩) (h1 y),(congrArg (· ||_) (EL c x)).trans (tH h2)⟩
theorem EV {h:Heap} {x:Int} {vs:List Value} {ds:List V} {l:List Int} (r:Rps h X vs ds) (e:J3 ds=some l):
  (∀y∈vs,∃c t,y=.int c t)/\vs.any (NP x)=l.contains x:=by
 induction ds generalizing vs l with
 |nil=>rw[K2 r,<-Option.some.inj e];exact⟨fun Z h=>(List.not_mem_nil h).elim,rfl⟩
 |cons d ds ih=>
  refine v8 (oY e) fun c l' z19r q z20r=> ?_;subst z19r;subst z20r;refine v8 (D2 r) fun v us z18r a z=> ?_;subst z18r;refine d6 (A1 a) fun t z17r=> ?_;subst z17r;refine f8 (ih z q) fun h1 h2=> ?_;exact⟨fun y hy=>(List.mem_cons.mp hy).elim (fun e=>⟨c,t,e⟩) (h1 y),tH h2⟩
theorem EW {x:V} {u:Value} {ds:List V} {vs:List Value} (hr:Rps s.heap X vs ds) (a:B1 s.heap X oa u x) {b:Bool} (hb:Z6 x ds=.ok b):
  ∃e:Value->Bool,(∀(A:Around) (y:Value),y∈vs.toArray->EqAt A s y u (e y))/\vs.toArray.any e=b:=by
 refine f8 (D6 hb) fun Z hb=> ?_;cases x with
 |str x=>
  refine e8 (kE hb) fun l q e=> ?_;refine d6 (s6 a) fun t' hu=> ?_;refine f8 (EU (x:=x) hr q) fun h1 h2=> ?_;refine⟨NO x,fun A y hy=> ?_,(List.any_toArray ..).trans (h2.trans (v0 e))⟩;refine C0 (h1 y (List.mem_toArray.mp hy)) fun c t z16r=> ?_;subst z16r;rw[hu];exact EqAt.str_str _ _ _ _
 |int i=>
  refine e8 (kE hb) fun l q e=> ?_;refine d6 (A1 a) fun t' hu=> ?_;refine f8 (EV (x:=i) hr q) fun h1 h2=> ?_;refine⟨NP i,fun A y hy=> ?_,(List.any_toArray ..).trans (h2.trans (v0 e))⟩;refine C0 (h1 y (List.mem_toArray.mp hy)) fun c t z15r=> ?_;subst z15r;rw[hu];exact EqAt.int_int _ _ _ _
 |_=>injection hb
theorem nO {x:V} {u:Value} (a:B1 s.heap X oa u x) (h:x≠.none):(u==Value.none)=false:=by
 cases x with
 |none=>exact absurd rfl h
 |bool _=>rw[M1 a];rfl
 |int _=>refine d6 (A1 a) fun Z e=> ?_;rw[e];rfl
 |str _=>refine d6 (s6 a) fun Z e=> ?_;rw[e];rfl
 |bytes _=>refine f8 (R4 a) fun z14n Z=> ?_;refine d6 z14n fun Z e=> ?_;clear z14n;rw[e];rfl
 |tup _=>refine nK (Rp.inv a) fun Z Z Z Z e Z=> ?_;rw[e];rfl
 |list _=>refine nK (Rp.inv a) fun Z Z Z Z e Z=> ?_;rw[e];rfl
 |rng _=>refine nK (Rp.inv a) fun Z Z Z Z e Z=> ?_;rw[e];rfl
 |dict _=>refine r0 (Rp.inv a) fun Z Z e Z=> ?_;rw[e];rfl
 |olist _=>refine sW a fun Z Z Z Z Z e Z=> ?_;clear a;rw[e];rfl
theorem BG {f:Str->Option Value} {kvs:List (b9×Int)} (q: ∀x:b9,match kvs.lookup x with|some i=> ∃t,f ⟨x.toArray⟩=some (.int i t)| .none=>f ⟨x.toArray⟩=.none) (x:b9):
  (f (S x)).isSome=(kvs.lookup x).isSome:=by
 have:=q x;split at this
 ·rename_i e;refine d6 this fun t z=> ?_;clear this;rw[e];show(f ⟨x.toArray⟩).isSome=_;rw[z];rfl
 ·rename_i e;rw[e];show(f ⟨x.toArray⟩).isSome=_;rw[this];rfl
variable (C s) in
noncomputable def sV (r:R Bool) (op op':CmpOp) (u v:Value):Prop:=Ou C r (compareOp op u v) (OY C s) (C6 C s) s/\Ou C (r.map (!·)) (compareOp op' u v) (OY C s) (C6 C s) s
theorem sV.of {r:R Bool} {op op':CmpOp} {u v:Value} (h:r≠.stuck->sV C s r op op' u v):sV C s r op op' u v:=by
 cases r with
 |stuck=>exact⟨trivial,trivial⟩
 |_=>exact h nofun
theorem sV.guard {r:R Bool} {op op':CmpOp} {u v:Value} {c:Prop} [Decidable c] (h:c->sV C s r op op' u v):sV C s (if c then r else .stuck) op op' u v:=by
 split
 ·exact h ‹_›
 ·exact⟨trivial,trivial⟩
theorem tI {x:V} {ds:List V} {l:Int} (h:Z6 x ds=.err l):False:=by
 unfold Z6 at h;by_cases hc:ds.length<=i0
 ·rw[if_pos hc] at h;cases x with
  |str x=>cases q:M0 ds with
   |none=>rw[q] at h;injection h
   |some l=>rw[q] at h;injection h
  |int x=>cases q:J3 ds with
   |none=>rw[q] at h;injection h
   |some l=>rw[q] at h;injection h
  |_=>injection h
 ·rw[if_neg hc] at h;injection h
variable {x y:V} {u v:Value}
theorem sV.none (e:x≠.none) (a:B1 s.heap X oa u x):qO x=false:=by cases x<;>first|rfl|exact absurd rfl e
open Classical in
theorem EX {k:Nat} (ok:C.Ok k) (a:B1 s.heap X oa u x) (b:B1 s.heap X oa v y):sV C s (VW x y) .Eq .NotEq u v:=by
 have hu:C.A.units+40<cLine:=by have:=ok.units;omega
 refine sV.of fun hne=> ?_;cases x with
 |int p=>
  refine d6 (dW hne) fun q z13r=> ?_;subst z13r;refine d6 (A1 a) fun Z e=> ?_;refine d6 (A1 b) fun Z e'=> ?_;rw[e,e'];exact⟨eq_int (.mk rfl),ne_int (.mk rfl)⟩
 |str p=>
  refine d6 (bU hne) fun q z12r=> ?_;subst z12r;refine d6 (s6 a) fun Z e=> ?_;refine d6 (s6 b) fun Z e'=> ?_;rw[e,e'];exact⟨eq_str (.mk (EL _ _)),ne_str (.mk (congrArg (!·) (EL _ _)))⟩
 |tup us=>
  refine d6 (KB hne) fun vs z11r=> ?_;subst z11r;refine sV.guard fun⟨e,hd,hn⟩=> ?_;subst e;refine v8 (Q2 a) fun l zs z10r hl hr=> ?_;subst z10r;refine v8 (Q2 b) fun l' zs' z9r hl' hr'=> ?_;subst z9r;have he:=cU (A:=C.A) (BF 20) hn hd (by omega) hr hr';have key:=tG (hr.items.trans hr'.items.symm);exact⟨RcAt.tuples (e:=fun Z=>true) (w9 hl) (w9 hl') (by omega) he prog w _ _ (.mk key),
   RcNeAt.tuples (e:=fun Z=>true) (w9 hl) (w9 hl') (by omega) he prog w _ _ (.mk (congrArg (!·) key))⟩
 |list us=>
  refine d6 (qT hne) fun vs z8r=> ?_;subst z8r;cases vs with
  |cons _ _=>exact absurd rfl hne
  |nil=>
   refine sV.guard fun Z=> ?_;refine v8 (t8 (.inl rfl) a) fun l zs z7r hl hr=> ?_;subst z7r;refine v8 (t8 (.inl rfl) b) fun l' zs' z6r hl' hr'=> ?_;subst z6r;rw[K2 hr'] at hl';cases us with
   |nil=>
    rw[K2 hr] at hl;exact⟨RcAt.lists (e:=fun Z=>true) hl hl' rfl (by omega) (fun j h1 Z=>absurd h1 (Nat.not_lt_zero _)) prog w _ _ (.mk rfl),RcNeAt.lists (e:=fun Z=>true) hl hl' rfl (by omega) (fun j h1 Z=>absurd h1 (Nat.not_lt_zero _)) prog w _ _ (.mk rfl)⟩
   |cons d ds=>
    have hz:(zs.toArray.size !=(([]:List Value).toArray).size)=true:=by
     rw[hr.items];rfl
    exact⟨RcAt.lists_lengths hl hl' hz (by omega) prog w _ _ (.mk rfl),RcNeAt.lists_lengths hl hl' hz (by omega) prog w _ _ (.mk rfl)⟩
 |_=>exact absurd rfl hne
theorem qV (a:B1 s.heap X oa u x) (ds:List V) {l:Addr} {zs:List Value} (hl:s.heap.IsList l zs.toArray\/IsTup s.heap l zs.toArray) (hr:Rps s.heap X zs ds):sV C s (Z6 x ds) .In .NotIn u (.ref l):=by
 cases hi:Z6 x ds with
 |stuck=>exact⟨trivial,trivial⟩
 |err l=>exact(tI hi).elim
 |ok r=>
  refine e8 (EW hr a hi) fun f h1 h2=> ?_;rcases hl with hl|hl
  ·exact⟨in_listAt f hl (h1 _) (.mk h2),notIn_listAt f hl (h1 _) (.mk (congrArg (!·) h2))⟩
  ·exact⟨in_tupleAt f (w9 hl) (h1 _) (.mk h2),notIn_tupleAt f (w9 hl) (h1 _) (.mk (congrArg (!·) h2))⟩
theorem EY (a:B1 s.heap X oa u x) (b:B1 s.heap X oa v y):sV C s (VX x y) .In .NotIn u v:=by
 refine sV.of fun hne=> ?_;cases y with
 |str z=>
  refine d6 (bU hne) fun p z5r=> ?_;subst z5r;refine d6 (s6 a) fun Z e=> ?_;refine d6 (s6 b) fun Z e'=> ?_;rw[e,e'];rcases p with _|⟨c,_|_⟩
  ·exact absurd rfl hne
  ·have e:=qS z c;exact sV.guard fun Z=>⟨in_str (.mk e),notIn_str (.mk (congrArg (!·) e))⟩
  ·exact absurd rfl hne
 |list ds=>refine v8 (t8 (.inl rfl) b) fun l zs z4r hl hr=> ?_;subst z4r;exact qV a ds (.inl hl) hr
 |olist ds=>refine v8 (t8 (.inr rfl) b) fun l zs z3r hl hr=> ?_;subst z3r;exact qV a ds (.inl hl) hr
 |tup ds=>refine v8 (Q2 b) fun l zs z2r hl hr=> ?_;subst z2r;exact qV a ds (.inr hl) hr
 |dict d=>
  refine d6 (bU hne) fun p z1r=> ?_;subst z1r;refine d6 (s6 a) fun t e=> ?_;refine iK (Rp.inv b) fun D f e' m sm n q=> ?_;rw[e,e'];have hk:(PySem.strKind prog w).is (S p) (.str (S p) t)=true:=by show Value.isStrOf (S p) (.str (S p) t)=true;simp[Value.isStrOf]
  have e:=BG q p;exact⟨wpAny_in_of (k:=S p) hk (by simpa using sm) m (.mk e),wpAny_notIn_of (k:=S p) hk (by simpa using sm) m (.mk (congrArg (!·) e))⟩
 |_=>exact absurd rfl hne
theorem EZ (a:B1 s.heap X oa u x) (b:B1 s.heap X oa v y):sV C s (VY x y) .Is .IsNot u v:=by
 refine sV.of fun hne=> ?_;cases y with
 |none=>
  have z:(u==Value.none)=qO x:=by
   by_cases hx:x=.none
   ·subst hx;rw[bT a];rfl
   ·exact(nO a hx).trans (sV.none hx a).symm
  rw[bT b];exact⟨is_none (.mk z),isNot_none (.mk (congrArg (!·) z))⟩
 |bool q=>
  obtain⟨p,rfl⟩: ∃p,x=.bool p:=by cases x<;>first|exact⟨_,rfl⟩|exact absurd rfl hne
  rw[M1 a,M1 b];have e:(Value.bool p==Value.bool q)=(p==q):=by cases p<;>cases q<;>rfl
  exact⟨wpAny_is_plain rfl (.mk e),wpAny_isNot_plain rfl (.mk (congrArg (!·) e))⟩
 |_=>exact absurd rfl hne
theorem bV (op:CmpOp) {k:Nat} (ok:C.Ok k) (a:B1 s.heap X oa u x) (b:B1 s.heap X oa v y):
  Ou C (w8 op x y) (compareOp op u v) (OY C s) (C6 C s) s:=by
 cases op with
 |Eq=>exact(EX ok a b).1
 |NotEq=>exact(EX ok a b).2
 |In=>exact(EY a b).1
 |NotIn=>exact(EY a b).2
 |Is=>exact(EZ a b).1
 |IsNot=>exact(EZ a b).2
 |Lt=>exact J5 (T:=compareOp .Lt) a b fun i j t t'=>lt_int (.mk rfl)
 |LtE=>exact J5 (T:=compareOp .LtE) a b fun i j t t'=>le_int (.mk rfl)
 |Gt=>exact J5 (T:=compareOp .Gt) a b fun i j t t'=>gt_int (.mk rfl)
 |GtE=>exact J5 (T:=compareOp .GtE) a b fun i j t t'=>ge_int (.mk rfl)
end
end
section
open PySem PySem.W PyProof.Rows PySem.SeqAt PySem.Builtin.Str
theorem pI {i:Int} {n k:Nat} (h:G2 i n=some k):seqIndex? i n=some k/\k<n/\(0<=i->(k:Int)=i)/\(i<0->(k:Int)=i+n):=by
 have key: ∀j:Int,0<=j->j<n->(if (decide (0<=j) &&decide (j<(n:Int)))=true then some j.toNat else none)=some j.toNat:=fun j a b=>by
  rw[if_pos (by rw[Bool.and_eq_true,decide_eq_true_eq,decide_eq_true_eq];exact⟨a,b⟩)]
 unfold G2 at h;unfold seqIndex?;split at h<;>split at h<;>(try cases h)
 ·rename_i h1 h2;refine⟨?_,by omega,by omega,by omega⟩;have e:(if i<0 then i+n else i)=i:=if_neg (by omega);simp only[e];exact key i h1 h2
 ·rename_i h1 h2;refine⟨?_,by omega,by omega,by omega⟩;have e:(if i<0 then i+n else i)=i+n:=if_pos (by omega);simp only[e];exact key (i+n) (by omega) (by omega)
section
variable {W:Wd} {C:Cx} {X:Xs} {oa:Option Addr} {s:Shared} {k:Nat}
theorem qW (x:b9) (k:Nat) (h:k<x.length):(S x).cps[k]? =some (x.getD k 0):=by
 simp[h]
theorem qX {ds:List V} {l:Addr} {zs:List Value} (hl:s.heap.IsList l zs.toArray\/IsTup s.heap l zs.toArray) (hr:Rps s.heap X zs ds) (j:Int) (t:Tok):
  Ou C (DZ ds j) (getItem (.ref l) (.int j t)) (g5 C X oa s) (C6 C s) s:=by
 refine Ou.guard fun h=>Ou.need1 fun k hp=>Ou.need1 fun d hk=> ?_;refine Q0 (pI hp) fun h1 h2 h3 h4=> ?_;refine e8 (hr.get hk) fun z hz hz'=> ?_;have h63:=fN;have hx:zs.toArray[k]? =some z:=List.getElem?_toArray.trans hz;have hi:=hr.items;by_cases h0:0<=j
 ·have h3:=h3 h0;rcases hl with hl|hl
  ·exact wpAny_getItem_list (x:=z) hl h0 (by omega) (by rw[show j.toNat=k by omega];exact hx) ⟨.refl,.of hz'⟩
  ·exact PyProof.Rows.getItem_tuple hl (by omega) (by omega) (by rw[hi];exact h1) hx ⟨.refl,.of hz'⟩
 ·have h4:=h4 (Int.not_le.mp h0);rcases hl with hl|hl
  ·exact wpAny_getItem_list_neg (x:=z) hl (Int.not_le.mp h0) (by rw[hi];omega) (by omega) (by rw[hi,show(j+ds.length).toNat=k by omega];exact hx) ⟨.refl,.of hz'⟩
  ·exact PyProof.Rows.getItem_tuple hl (by omega) (by omega) (by rw[hi];exact h1) hx ⟨.refl,.of hz'⟩
theorem BH (x:b9) (t:Tok) (j:Int) (t':Tok):
  Ou C (if x.length<=i0 then needR (G2 j x.length) fun k=>R.ok (.str [x.getD k 0]) else .stuck) (getItem (.str (S x) t) (.int j t')) (g5 C X oa s) (C6 C s) s:=by
 refine Ou.guard fun h=>Ou.need1 fun k hp=> ?_;refine Q0 (pI hp) fun h1 h2 h3 h4=> ?_;have h63:=fN;refine PyProof.Rows.getItem_str (c:=x.getD k 0) ?_ ?_ (.mk_str fun Z Z e=>e)
 ·rw[Bool.or_eq_false_iff,decide_eq_false_iff_not,decide_eq_false_iff_not];by_cases h0:0<=j
  ·have:=h3 h0;omega
  ·have:=h4 (Int.not_le.mp h0);omega
 ·show(seqIndex? j (S x).length).bind _=_;rw[gV,h1];exact qW x k h2
theorem BI {bs:List Int} (hb: ∀n∈bs,0<=n/\n<256) (t:Tok) (j:Int) (t':Tok):
  Ou C (if bs.length<=i0/\0<=j/\j<bs.length then R.ok (V.int (bs.getD j.toNat 0)) else .stuck) (getItem (.bytes (bs.map fun n=>UInt8.ofNat n.toNat).toArray t) (.int j t')) (g5 C X oa s) (C6 C s) s:=by
 refine Ou.guard fun⟨h1,h2,h3⟩=> ?_;have hm:(bs.map fun n=>UInt8.ofNat n.toNat).length=bs.length:=List.length_map _;refine getItem_bytes (by rw[hm];exact Nat.le_trans h1 (by decide)) h2 (by rw[hm];exact h3) ?_;have hj:j.toNat<bs.length:=by omega
 have e:(((bs.map fun n=>UInt8.ofNat n.toNat).getD j.toNat 0).toNat:Int)=bs.getD j.toNat 0:=by
  rw[List.getD_eq_getElem?_getD,List.getD_eq_getElem?_getD,List.getElem?_map,List.getElem?_eq_getElem hj];have:=hb bs[j.toNat] (List.getElem_mem hj);show((UInt8.ofNat (bs[j.toNat]).toNat).toNat:Int)=bs[j.toNat];rw[UInt8.toNat_ofNat'];omega
 rw[e];exact .mk_int fun Z Z e=>e
theorem zA {x i:V} {u v:Value} (a:B1 s.heap X oa u x) (b:B1 s.heap X oa v i):Ou C (P1 x i) (getItem u v) (g5 C X oa s) (C6 C s) s:=by
 cases x with
 |str x=>
  refine d6 (s6 a) fun t e=> ?_;rw[e];exact Ou.intM (T:=fun v=>getItem _ v) b fun j t' Z=>BH x t j t'
 |bytes bs=>
  refine f8 (R4 a) fun z18n hb=> ?_;obtain⟨t,e⟩:=z18n;rw[e];exact Ou.intM (T:=fun v=>getItem _ v) b fun j t' Z=>BI hb t j t'
 |tup ds=>
  refine v8 (Q2 a) fun l vs e hl hr=> ?_;rw[e];exact Ou.intM (T:=fun v=>getItem _ v) b fun j t' Z=>qX (.inr hl) hr j t'
 |list ds=>
  refine v8 (t8 (.inl rfl) a) fun l vs e hl hr=> ?_;rw[e];exact Ou.intM (T:=fun v=>getItem _ v) b fun j t' Z=>qX (.inl hl) hr j t'
 |olist ds=>
  refine v8 (t8 (.inr rfl) a) fun l vs e hl hr=> ?_;rw[e];exact Ou.intM (T:=fun v=>getItem _ v) b fun j t' Z=>qX (.inl hl) hr j t'
 |dict kvs=>
  refine iK (Rp.inv a) fun D f e m sm n q=> ?_;rw[e];refine Ou.strM (T:=fun v=>getItem _ v) b fun y t Z=>Ou.need1 fun i hy=> ?_;have:=q y;rw[hy] at this;refine d6 this fun t' e=> ?_;clear this;have hk:(PySem.strKind prog w).is (S y) (.str (S y) t)=true:=by show Value.isStrOf (S y) (.str (S y) t)=true;simp[Value.isStrOf]
  exact wpAny_getItem_of (k:=S y) hk m e (.mk_int fun Z Z e=>e)
 |_=>trivial
theorem pJ {h:Heap} {vs:List Value} {ds:List V} {l:List b9} (r:Rps h X vs ds) (e:M0 ds=some l):
  ∃ps:List (Str×Tok),vs=strValues ps/\ps.map (·.1)=l.map S:=by
 induction ds generalizing vs l with
 |nil=>rw[K2 r,<-Option.some.inj e];exact⟨[],rfl,rfl⟩
 |cons d ds ih=>
  refine v8 (fO e) fun c l' z16r q z17r=> ?_;subst z16r;subst z17r;refine v8 (D2 r) fun v us z15r a z=> ?_;subst z15r;refine d6 (s6 a) fun t z14r=> ?_;subst z14r;refine e8 (ih z q) fun ps h1 h2=> ?_;exact⟨(S c,t)::ps,by rw[h1];rfl,by rw[List.map_cons,h2];rfl⟩
theorem pK (l:List b9):Txt.join (S []) (l.map S)=S l.flatten:=by
 unfold Txt.join;rw[StrLaws.glued_eq_join];show Str.join ⟨#[]⟩ _=_;rw[<-fold_cat_join_nil];have key: ∀(l:List b9) (a:b9),(l.map S).foldl HAppend.hAppend (S a)=S (a++l.flatten):=by
  intro l;induction l with
  |nil=>intro a;simp
  |cons x r ih=>
   intro a;rw[List.map_cons,List.foldl_cons];show(r.map S).foldl HAppend.hAppend (S a++S x)=_;rw[NN,ih,List.flatten_cons,List.append_assoc]
 exact key l []
theorem pL {l:List b9} (h:X4 l<=i0):JoinOk (S []) (l.map S)=true:=by
 unfold JoinOk;rw[StrLaws.joinTotal];have e:((l.map S).map (·.length)).sum=X4 l:=by
  unfold X4;rw[List.map_map];congr 1
 rw[e];have e2:(S []).length=0:=rfl;rw[e2,Nat.mul_zero,Nat.add_zero];rw[Bool.not_eq_true'];unfold tooLong;have:=D5;have e3:sizeLine=2 ^24:=by decide
 refine decide_eq_false ?_;omega
theorem zB {r d:V} {v:List V} {q:R V} (h:arg0 q v=.ok d):v=[]/\q=.ok d:=by
 cases v with
 |nil=>exact⟨rfl,h⟩
 |cons _ _=>injection h
noncomputable def MSh (m:Str) (o:V) (as:List V) (d:V):Prop:=
 (∃x,o=.str x/\((m="strip"/\as=[.str [32]]/\x.length<=i0/\d=.str (i6 x))\/(m="lower"/\as=[]/\(x.length<=i0/\j6 x=true)/\d=.str (x.map cG))\/
  (∃c,m="isalpha"/\as=[]/\x=[c]/\c<128/\d=.bool (X3 c))\/(∃c,m="find"/\as=[.str [c]]/\d=.int (if x.contains c then (J4 c x:Int) else -1))\/
  (∃c,m="index"/\as=[.str [c]]/\x.contains c=true/\d=.int (J4 c x:Int))\/
  ∃y vs l,m="join"/\as=[y]/\(y=.list vs\/y=.olist vs)/\M0 vs=some l/\x=[]/\X4 l<=i0/\d=.str l.flatten))\/
 ∃kvs a i,o=.dict kvs/\m="get"/\as=[.str a,.int i]/\d=.int ((kvs.lookup a).getD i)
theorem jB {f:V->R V} {as:List V} {d:V} (h:arg1 f as=.ok d): ∃y,as=[y]/\f y=.ok d:=by
 rcases as with _|⟨y,_|_⟩
 ·injection h
 ·exact⟨y,rfl,h⟩
 ·injection h
theorem KH {f:V->V->R V} {as:List V} {d:V} (h:arg2 f as=.ok d): ∃y z,as=[y,z]/\f y z=.ok d:=by
 rcases as with _|⟨y,_|⟨z,_|_⟩⟩
 ·injection h
 ·injection h
 ·exact⟨y,z,rfl,h⟩
 ·injection h
theorem qY {m:Str} {o d:V} {as:List V} (h:w2 m o as=.ok d):MSh m o as d:=by
 unfold w2 at h;by_cases e:m="strip"
 ·rw[if_pos e] at h;refine e8 (O2 h) fun x hx h1=> ?_;refine e8 (jB h1) fun y hy h2=> ?_;refine e8 (O2 h2) fun y z13r h3=> ?_;subst z13r;refine f8 (D6 h3) fun z12n h4=> ?_;obtain⟨rfl,hl⟩:=z12n;exact .inl ⟨x,hx,.inl ⟨e,hy,hl,(v0 h4).symm⟩⟩
 rw[if_neg e] at h;by_cases e:m="lower"
 ·rw[if_pos e] at h;refine e8 (O2 h) fun x hx h1=> ?_;refine f8 (zB (r:=d) h1) fun hy h2=> ?_;refine f8 (D6 h2) fun hl h3=> ?_;exact .inl ⟨x,hx,.inr (.inl ⟨e,hy,hl,(v0 h3).symm⟩)⟩
 rw[if_neg e] at h;by_cases e:m="isalpha"
 ·rw[if_pos e] at h;refine e8 (O2 h) fun x hx h1=> ?_;refine f8 (zB (r:=d) h1) fun hy h2=> ?_;refine e8 (qU h2) fun c hc h3=> ?_;refine f8 (D6 h3) fun hl h4=> ?_;exact .inl ⟨x,hx,.inr (.inr (.inl ⟨c,e,hy,hc,hl,(v0 h4).symm⟩))⟩
 rw[if_neg e] at h;by_cases e:m="find"
 ·rw[if_pos e] at h;refine e8 (O2 h) fun x hx h1=> ?_;refine e8 (jB h1) fun y hy h2=> ?_;refine e8 (O2 h2) fun y z11r h3=> ?_;subst z11r;refine e8 (qU h3) fun c z10r h4=> ?_;subst z10r;exact .inl ⟨x,hx,.inr (.inr (.inr (.inl ⟨c,e,hy,(v0 (D6 h4).2).symm⟩)))⟩
 rw[if_neg e] at h;by_cases e:m="index"
 ·rw[if_pos e] at h;refine e8 (O2 h) fun x hx h1=> ?_;refine e8 (jB h1) fun y hy h2=> ?_;refine e8 (O2 h2) fun y z9r h3=> ?_;subst z9r;refine e8 (qU h3) fun c z8r h4=> ?_;subst z8r;refine f8 (D6 h4) fun hl h5=> ?_;exact .inl ⟨x,hx,.inr (.inr (.inr (.inr (.inl ⟨c,e,hy,hl.2,(v0 h5).symm⟩))))⟩
 rw[if_neg e] at h;by_cases e:m="join"
 ·rw[if_pos e] at h;refine e8 (O2 h) fun x hx h1=> ?_;refine e8 (jB h1) fun y hy h2=> ?_;refine e8 (KD h2) fun vs hv h3=> ?_;refine e8 (kE h3) fun l q h4=> ?_;refine f8 (D6 h4) fun hl h5=> ?_;exact .inl ⟨x,hx,.inr (.inr (.inr (.inr (.inr ⟨y,vs,l,e,hy,hv,q,hl.1,hl.2.1,(v0 h5).symm⟩))))⟩
 rw[if_neg e] at h;by_cases e:m="get"
 ·rw[if_pos e] at h;refine e8 (ET h) fun x hx h1=> ?_;refine r0 (KH h1) fun y z hy h2=> ?_;refine e8 (O2 h2) fun y z7r h3=> ?_;subst z7r;refine e8 (KC h3) fun z z6r h4=> ?_;subst z6r;exact .inr ⟨x,y,z,hx,e,hy,(v0 h4).symm⟩
 rw[if_neg e] at h;injection h
theorem FA {m:Str} {x d:V} {u:Value} {pos:Pos} {E:Value->Shared->Prop} (a:B1 s.heap X oa u x) (h:w2 m x []=.ok d):
  MethodOnS prog w C.A E m u pos [] (g5 C X oa s d) s:=by
 have h0:=qY h;clear h;rcases h0 with⟨x,rfl,h⟩|⟨_,_,_,_,_,q,_⟩
 ·refine d6 (s6 a) fun t e=> ?_;rw[e];rcases h with⟨_,q,_⟩|⟨rfl,_,h1,rfl⟩|⟨c,rfl,_,rfl,h1,rfl⟩|⟨_,_,q,_⟩|⟨_,_,q,_⟩|⟨_,_,_,_,q,_⟩
  ·nomatch q
  ·have e:=EQ x h1.2;refine SB.lower ?_ ?_
   ·show tooLong (Txt.lower (S x)).length=false;rw[e,gV,List.length_map];exact decide_eq_false (Nat.not_lt.mpr (Nat.le_trans h1.1 D5))
   ·show g5 C X oa s _ (.str (Txt.lower (S x)) _) _;rw[e];exact .mk_str fun Z Z e=>e
  ·refine SB.isalpha ?_;show g5 C X oa s _ (.bool (Txt.isalpha (S [c]))) _;rw[ER c h1];exact .mk_bool fun Z Z e=>e
  ·nomatch q
  ·nomatch q
  ·nomatch q
 ·nomatch q
theorem g5.after {h':Heap} {d:V} {v:Value} {st:Shared} {tk:Nat} (g:k9 C s st) (r:B1 st.heap X oa v d):g5 C X oa s d v {st with toks:=tk}:=by
 obtain⟨h',_,rfl,g⟩:=g;exact⟨⟨h',tk,rfl,g⟩,r⟩
theorem FC {m:Str} {x y d:V} {u:Value} {pos:Pos} {arg:Sem Value} {E:Value->Shared->Prop} (ok:C.Ok k) (i:aM W C s.heap) (hX: ∀a,C.X a->X a) (a:B1 s.heap X oa u x)
  (ha:wpAny (model prog w) C.A arg (g5 C X oa s y) E s) (h:w2 m x [y]=.ok d):
  MethodOnS prog w C.A E m u pos [(false,arg)] (g5 C X oa s d) s:=by
 have h0:=qY h;clear h;rcases h0 with⟨x,rfl,h⟩|⟨_,_,_,_,_,q,_⟩
 ·refine d6 (s6 a) fun t e=> ?_;rw[e];rcases h with⟨rfl,q,h1,rfl⟩|⟨_,q,_⟩|⟨_,_,q,_⟩|⟨c,rfl,q,rfl⟩|⟨c,rfl,q,h1,rfl⟩|⟨y',vs,l,rfl,q,hy,hs,rfl,h1,rfl⟩
  ·rw[(List.cons.inj q).1] at ha;refine SB.stripChars (wpAny_mono ha (fun v s₁ p=> ?_) fun Z Z e=>e) (Nat.le_trans h1 D5);refine d6 (s6 p.2) fun t' e=> ?_;refine⟨_,_,e,fun t' k=> ?_⟩;show g5 C X oa s _ (.str (Txt.stripChars (S _) (S [32])) _) _;rw[EP];exact .after (h':=s.heap) p.1 (.str _ _)
  ·nomatch q
  ·nomatch q
  ·rw[(List.cons.inj q).1] at ha;refine SB.find (wpAny_mono ha (fun v s₁ p=> ?_) fun Z Z e=>e);refine d6 (s6 p.2) fun t' e=> ?_;refine⟨_,_,e,?_⟩;show g5 C X oa s _ (.int (Txt.find (S x) (S [c])) _) _;rw[EM];exact .after (h':=s.heap) p.1 (.int _ _)
  ·rw[(List.cons.inj q).1] at ha;refine SB.index (wpAny_mono ha (fun v s₁ p=> ?_) fun Z Z e=>e);refine d6 (s6 p.2) fun t' e=> ?_;rcases yY x c with⟨h2,_⟩|⟨_,r,h2⟩
   ·rw[h2] at h1;exact absurd h1 (by decide)
   exact⟨_,_,e,J4 c x,r,h2,.after (h':=s.heap) p.1 (.int _ _)⟩
  ·rw[(List.cons.inj q).1] at ha;refine SB.join (wpAny_mono ha (fun v s₁ p=> ?_) fun Z Z e=>e);refine v8 (t8 hy p.2) fun D zs e hl hr=> ?_;refine e8 (pJ hr hs) fun ps z4r h3=> ?_;subst z4r;refine⟨D,ps,e,hl,_,h3,pL h1,fun t' k=> ?_⟩;show g5 C X oa s _ (.str (Txt.join (S []) (l.map S)) _) _;rw[pK];exact .after (h':=s.heap) p.1 (.str _ _)
 ·nomatch q
theorem FD {m:Str} {x y z d:V} {u:Value} {pos:Pos} {arg arg':Sem Value} {E:Value->Shared->Prop} (ok:C.Ok k) (hX: ∀a,C.X a->X a) (i:aM W C s.heap) (wf:W.Fits C) (a:B1 s.heap X oa u x)
  (ha:wpAny (model prog w) C.A arg (fun v s₁=>g5 C X oa s y v s₁/\wpAny (model prog w) C.A arg' (g5 C X oa s₁ z) E s₁) E s) (h:w2 m x [y,z]=.ok d):
  MethodOnS prog w C.A E m u pos [(false,arg),(false,arg')] (g5 C X oa s d) s:=by
 have h0:=qY h;clear h;rcases h0 with⟨x,_,h⟩|⟨kvs,y',z',rfl,rfl,q,rfl⟩
 ·rcases h with⟨_,q,_⟩|⟨_,q,_⟩|⟨_,_,q,_⟩|⟨_,_,q,_⟩|⟨_,_,q,_⟩|⟨_,_,_,_,q,_⟩<;>nomatch q
 ·refine f8 (List.cons.inj q) fun qy qz=> ?_;rw[qy,(List.cons.inj qz).1] at ha;refine iK (Rp.inv a) fun D f e m sm n Z=> ?_;rw[e];refine X0 (id m) fun o es ep ho x1 x2 x3=> ?_;refine⟨"dict","dict.get",F.plainAttrs_dict,F.slot_dict_get,F.type_dict_get,m.typeIs,fun a e=> ?_,?_⟩
  ·injection e with e;subst e;exact⟨o,ho,x1.2.1⟩
  ·refine wpAny_dict_get2 (knd:=PySem.strKind prog w) (by simpa using sm) (wpAny_mono ha (fun v s₁ p=> ?_) fun Z Z e=>e);refine f8 p fun z3n hz=> ?_;clear p;obtain⟨st,hv⟩:=z3n;refine d6 (s6 hv) fun t z2r=> ?_;subst z2r;refine wpAny_mono hz (fun v e7 p=> ?_) fun Z Z e=>e;refine f8 p fun st' hv=> ?_;clear p;refine d6 (A1 hv) fun t'' z1r=> ?_;subst z1r;have YL:=i.gr ok wf st.gr;have YM:=(Rp.carry (i.carry ok st.gr hX) a).carry (YL.carry ok st'.gr hX);refine iK YM.inv fun D' n8 e' YN ZS aK8 B8=> ?_;obtain rfl:D=D':=Value.ref.inj (e.symm.trans e');have hk:(PySem.strKind prog w).is (S y') (.str (S y') t)=true:=by show Value.isStrOf (S y') (.str (S y') t)=true;simp[Value.isStrOf]
   refine⟨S y',_,hk,YN,.after (h':=s.heap) (st.trans st') ?_⟩;have:=B8 y';cases e:kvs.lookup y' with
   |none=>rw[e] at this;rw[show n8 (S y')=none from this];exact .int _ _
   |some i=>rw[e] at this;refine d6 this fun t' e'=> ?_;clear this;rw[show n8 (S y')=some (.int i t') from e'];exact .int _ _
end
theorem tJ:bootBuiltins "len"=some (.builtin "len"):=by decide+kernel
theorem tK:bootBuiltins "ord"=some (.builtin "ord"):=by decide+kernel
theorem tL:bootBuiltins "chr"=some (.builtin "chr"):=by decide+kernel
theorem kF:bootBuiltins "bytes"=some (.type "bytes"):=by decide+kernel
theorem pM:bootBuiltins "list"=some (.type "list"):=by decide+kernel
theorem tM:bootBuiltins "min"=some (.builtin "min"):=by decide+kernel
theorem tN:bootBuiltins "max"=some (.builtin "max"):=by decide+kernel
theorem tO:bootBuiltins "sum"=some (.builtin "sum"):=by decide+kernel
theorem tP:bootBuiltins "all"=some (.builtin "all"):=by decide+kernel
theorem tQ:bootBuiltins "abs"=some (.builtin "abs"):=by decide+kernel
theorem tR:bootBuiltins "int"=some (.type "int"):=by decide+kernel
theorem kH:bootBuiltins "range"=some (.type "range"):=by decide+kernel
section
variable {W:Wd} {C:Cx} {X:Xs} {oa:Option Addr} {s:Shared} {k:Nat}
theorem FE: ∀(x:Int) (l:List Int),wU (x::l)∈x::l/\ ∀a∈x::l,a<=wU (x::l):=by
 have key: ∀(l:List Int) (x:Int),(l.foldl max x=x\/l.foldl max x∈l)/\x<=l.foldl max x/\ ∀a∈l,a<=l.foldl max x:=by
  intro l;induction l with
  |nil=>intro x;exact⟨.inl rfl,Int.le_refl _,fun a h=>(List.not_mem_nil h).elim⟩
  |cons y r ih=>
   intro x;refine n5 (ih (max x y)) fun h1 h2 h3=> ?_;rw[List.foldl_cons];refine⟨?_,by omega,fun a ha=> ?_⟩
   ·rcases h1 with e|e
    ·by_cases hxy:x<=y
     ·right;rw[e,show max x y=y by omega];exact .head _
     ·left;rw[e];omega
    ·exact .inr (.tail _ e)
   ·rcases List.mem_cons.mp ha with rfl|ha
    ·omega
    ·exact h3 a ha
 intro x l;refine n5 (key l x) fun h1 h2 h3=> ?_;refine⟨?_,fun a ha=> ?_⟩
 ·rcases h1 with e|e
  ·show l.foldl max x∈_;rw[e];exact .head _
  ·exact .tail _ e
 ·rcases List.mem_cons.mp ha with rfl|ha
  ·exact h2
  ·exact h3 a ha
noncomputable def dX (vs:List Value) (bs:List Bool):Prop:=vs=bs.map Value.bool
theorem dX.length {vs:List Value} {bs:List Bool} (h:dX vs bs):vs.length=bs.length:=(congrArg List.length h).trans (List.length_map _)
theorem dX.get {vs:List Value} {bs:List Bool} (h:dX vs bs) (i:Nat) (v:Value) (e:vs[i]? =some v): ∃b,bs[i]? =some b/\v=.bool b:=by
 rw[h,List.getElem?_map] at e;refine e8 (Option.map_eq_some_iff.mp e) fun b h1 h2=> ?_;exact⟨b,h1,h2.symm⟩
theorem xH {d:V} {ds:List V} {l:List Bool} (e:U5 (d::ds)=some l): ∃i l',d=.bool i/\U5 ds=some l'/\l=i::l':=by
 cases d with
 |bool i=>
  refine e8 (Option.map_eq_some_iff.mp (show(U5 ds).map (i:: ·)=some l from e)) fun l' q z15r=> ?_;subst z15r;exact⟨i,l',rfl,q,rfl⟩
 |_=>nomatch e
theorem FF {h:Heap} {vs:List Value} {ds:List V} {l:List Bool} (r:Rps h X vs ds) (e:U5 ds=some l):dX vs l:=by
 induction ds generalizing vs l with
 |nil=>rw[K2 r,<-Option.some.inj e];rfl
 |cons d ds ih=>
  refine v8 (xH e) fun c l' z13r q z14r=> ?_;subst z13r;subst z14r;refine v8 (D2 r) fun v us z12r a z=> ?_;subst z12r;rw[M1 a];exact congrArg (Value.bool c:: ·) (ih z q)
theorem iM (bs:List Bool):((List.range bs.length).all fun i=>(bs[i]?).getD true)=bs.all id:=by
 rw[Bool.eq_iff_iff,List.all_eq_true,List.all_eq_true];constructor
 ·intro h b hb;obtain⟨i,hi,e⟩:=List.getElem_of_mem hb;have:=h i (List.mem_range.mpr hi);rw[List.getElem?_eq_getElem hi,e] at this;exact this
 ·intro h i hi;have hi':=List.mem_range.mp hi;rw[List.getElem?_eq_getElem hi'];exact h _ (List.getElem_mem hi')
theorem gW (ok:C.Ok k) {ds:List V} {d:V} {u:Value} (hd:d=.list ds\/d=.olist ds) (a:B1 s.heap X oa u d) (h:ds.length<=i0):
  wpAny (model prog w) C.A (call (.builtin "len") [u]) (g5 C X oa s (.int ds.length)) (fun Z Z=>False) s:=by
 refine v8 (t8 hd a) fun l vs z11r hl hr=> ?_;subst z11r;have h63:=fN;refine PyProof.Rows.len_list hl (by rw[hr.items];omega) ?_;rw[hr.items];exact .mk_int fun Z Z e=>e
theorem FG (ok:C.Ok k) {ds:List V} {l:List Int} {d:V} {u:Value} (hd:d=.list ds\/d=.olist ds) (a:B1 s.heap X oa u d) (hi:J3 ds=some l) (h:l.length<=i0) (hr: ∀n∈l,0<=n/\n<256):
  wpAny (model prog w) C.A (call (.type "bytes") [u]) (g5 C X oa s (.bytes l)) (fun Z Z=>False) s:=by
 refine v8 (t8 hd a) fun D vs z10r hl hq=> ?_;subst z10r;have hi':=hq.ofInts hi;refine call_bytes_ints hl hi' hr ?_ ok.handled fun h' t k hk=> ?_
 ·have:vs.length=l.length:=hi'.length;have:=D5;omega
 ·exact⟨.of_keep hk,.bytes l t hr⟩
theorem OZ (ok:C.Ok k) {ds:List V} {x:Int} {l:List Int} {d:V} {u:Value} (hd:d=.list ds\/d=.olist ds) (a:B1 s.heap X oa u d) (hi:J3 ds=some (x::l)):
  wpAny (model prog w) C.A (call (.builtin "max") [u]) (g5 C X oa s (.int (wU (x::l)))) (fun Z Z=>False) s:=by
 refine v8 (t8 hd a) fun D vs z9r hl hq=> ?_;subst z9r;have hi':=hq.ofInts hi;refine d6 hi'.allInts.items fun xs e=> ?_;have hns:(x::l)=xs.toList.map (·.1):=by rw[<-hi'.numsOf,<-nums_intItems,<-e]
 have hsz:0<xs.size:=by
  have h3:0<(x::l).length:=by simp
  rw[hns,List.length_map,Array.length_toList] at h3;exact h3
 rw[e] at hl;refine max_intList ok.handled hl hsz fun v h' tk hv hk=> ?_;refine d6 (intItems_at hv) fun t z8r=> ?_;subst z8r;refine f8 (argBest_gt (numAt xs) (xs.size-1)) fun h1 h2=> ?_;have g1:numAt xs (argBest (fun i j=>decide (numAt xs i>numAt xs j)) (xs.size-1))∈x::l:=by
  rw[hns,numAt_eq];exact getD_mem (by rw[List.length_map,Array.length_toList];omega)
 have g2: ∀a∈x::l,a<=numAt xs (argBest (fun i j=>decide (numAt xs i>numAt xs j)) (xs.size-1)):=fun a ha=>by
  rw[hns] at ha;refine e8 (mem_getD ha) fun j hj z7r=> ?_;subst z7r;rw[List.length_map,Array.length_toList] at hj;rw[<-numAt_eq];exact h2 j (by omega)
 refine f8 (FE x l) fun m1 m2=> ?_;have:numAt xs (argBest (fun i j=>decide (numAt xs i>numAt xs j)) (xs.size-1))=wU (x::l):=Int.le_antisymm (m2 _ g1) (g2 _ m1);rw[this];exact .mk_int hk
theorem PA (ok:C.Ok k) {ds:List V} {l:List Int} {u:Value} (a:B1 s.heap X oa u (.list ds)) (hi:J3 ds=some l):
  wpAny (model prog w) C.A (call (.builtin "sum") [u]) (g5 C X oa s (.int l.sum)) (fun Z Z=>False) s:=by
 refine v8 (t8 (.inl rfl) a) fun D vs z6r hl hq=> ?_;subst z6r;have hi':=hq.ofInts hi;refine d6 hi'.allInts.items fun xs hx=> ?_;have hl':s.heap.IsList D (intItems xs):=hx▸hl;refine sum_intListG ok.handled hl' fun h' tk t' hk=> ?_;have e1:l=xs.toList.map (·.1):=by rw[<-hi'.numsOf,<-nums_intItems,<-hx]
 have e2:preSum (numAt xs) xs.size=l.sum:=by
  rw[preSum_eq,List.take_of_length_le (by simp),e1]
 rw[e2];exact .mk_int hk
theorem PB (ok:C.Ok k) {ds:List V} {l:List Bool} {u:Value} (a:B1 s.heap X oa u (.list ds)) (hi:U5 ds=some l):
  wpAny (model prog w) C.A (call (.builtin "all") [u]) (g5 C X oa s (.bool (l.all id))) (fun Z Z=>False) s:=by
 refine v8 (t8 (.inl rfl) a) fun D vs z5r hl hq=> ?_;subst z5r;have hb:=FF hq hi;have hlt:D<s.heap.objs.size:=by refine e8 hl fun Z e Z=> ?_;clear hl;exact Heap.lt_size e
 refine call_all_walk (wpAny_pyIter_list hl ?_);refine⟨s.heap.objs.size,[s.heap.objs.size,D],[s.heap.objs.size],vs.toArray.size,_,_,fun i=>(l[i]?).getD true,rfl,Walks.list (A:=C.A.in1) ok.handled _ D (Nat.ne_of_lt hlt) vs.toArray,
  ⟨⟨_,Heap.get?_push_size _ rfl,rfl,rfl⟩,hl.push _⟩,fun i v s' Q' E' hP hQ=> ?_,fun h' tk hk=> ?_⟩
 ·refine e8 (hb.get i v (by simpa using hP)) fun b e z4r=> ?_;subst z4r;simp only[e,Option.getD_some] at hQ;exact wpAny_truthy_bool hQ
 ·have e:((List.range vs.toArray.size).all fun i=>(l[i]?).getD true)=l.all id:=by
   rw[List.size_toArray,hb.length];exact iM l
  rw[e];refine .mk_bool fun b x e=>hk b x (fun hm=> ?_) (Heap.get?_push_of_some _ e);rw[List.mem_singleton.mp hm] at e;exact Nat.lt_irrefl _ (Heap.lt_size e)
theorem KI (ok:C.Ok k) {x:b9} {u:Value} (hf:Xn X s.heap) (a:B1 s.heap X oa u (.str x)) (h:x.length<=i0):
  wpAny (model prog w) C.A (call (.type "list") [u]) (g5 C X oa s (.list (x.map fun c=>.str [c]))) (fun Z Z=>False) s:=by
 refine d6 (s6 a) fun t z3r=> ?_;subst z3r;have h':(S x).cps.size<=sizeLine:=by show(S x).length<=_;rw[gV];exact Nat.le_trans h D5
 refine call_list_str ok.handled (S x) t (hn:=h') fun h' tk acc c hk hS hacc=> ?_;refine⟨.of_keep hk,.list (n:=c) (vs:=acc.toList) (o:=_) hS rfl (by simp) (fun q=>Nat.lt_irrefl _ (hf _ q)) ?_⟩;have key: ∀(x:List Nat) (vs:List Value),vs.length=x.length->(∀(j:Nat) (v:Value),vs[j]? =some v-> ∃(c:Nat) (u:Tok),x[j]? =some c/\v=Value.str ⟨#[c]⟩ u)->Rps h' X vs (x.map fun c=>V.str [c]):=by
  intro x;induction x with
  |nil=>intro vs hl _;cases vs with|nil=>exact .nil|cons=>simp at hl
  |cons c r ih=>
   intro vs hl hv;cases vs with
   |nil=>simp at hl
   |cons v vs=>
    refine r0 (hv 0 v rfl) fun c' u e1 z2r=> ?_;subst z2r;simp at e1;subst e1;exact .cons (.str [c] u) (ih vs (by simpa using hl) fun j v e=>hv (j+1) v (by simpa using e))
 refine key x acc.toList ?_ fun j v e=> ?_
 ·have:=hacc.1;simp at this;simpa using this
 ·refine r0 (hacc.2 j v (by simpa using e)) fun c u e1 e2=> ?_;exact⟨c,u,by simpa using e1,e2⟩
noncomputable def cK (f:Str):Value:=(bootBuiltins f).getD .none
variable {us:List Value} {as:List V}
theorem KJ (ok:C.Ok k) (a:v6 s.heap X oa us as):Ou C (SE as) (call (.builtin "len") us []) (g5 C X oa s) (C6 C s) s:=by
 have h63:=fN;refine Ou.arg1 (TT:=fun us=>call (.builtin "len") us []) a fun u v r=> ?_;cases v with
 |str x=>
  refine d6 (s6 r) fun t e=> ?_;rw[e];refine Ou.guard fun h=>PyProof.Rows.len_str (by show ¬(x.length:Int)≥2 ^63;omega) ?_;exact .mk_int (i:=x.length) fun Z Z e=>e
 |list ds=>exact Ou.guard fun h=>gW ok (.inl rfl) r h
 |olist ds=>exact Ou.guard fun h=>gW ok (.inr rfl) r h
 |bytes b=>
  refine f8 (R4 r) fun z1n Z=> ?_;obtain⟨t,e⟩:=z1n;rw[e];have e:(b.map fun n=>UInt8.ofNat n.toNat).toArray.size=b.length:=List.length_map _;refine Ou.guard fun h=>len_bytes (by rw[e];exact Nat.le_trans h (by decide)) ?_;rw[e];exact .mk_int fun Z Z e=>e
 |_=>trivial
theorem KL (a:v6 s.heap X oa us as):Ou C (SG as) (call (.builtin "ord") us []) (g5 C X oa s) (C6 C s) s:=
 Ou.arg1 (TT:=fun us=>call (.builtin "ord") us []) a fun u v r=>Ou.strM (T:=fun u=>call (.builtin "ord") [u] []) r fun x t Z=>Ou.oneM fun c e=>by
  rw[e];exact PySem.P.ord_of_char (.mk_int fun Z Z e=>e)
theorem KM (a:v6 s.heap X oa us as):Ou C (SH as) (call (.builtin "chr") us []) (g5 C X oa s) (C6 C s) s:=
 Ou.arg1 (TT:=fun us=>call (.builtin "chr") us []) a fun u v r=>Ou.intM (T:=fun u=>call (.builtin "chr") [u] []) r fun i t Z=>Ou.guard fun h=>
  PySem.P.chr_of_int (by rw[Bool.or_eq_false_iff,decide_eq_false_iff_not,decide_eq_false_iff_not];omega) (.mk_str fun Z Z e=>e)
theorem SY {f:List V->R V} {F:Value} (a:v6 s.heap X oa us as) (h: ∀ds d u,(d=.list ds\/d=.olist ds)->B1 s.heap X oa u d->Ou C (f ds) (call F [u] []) (g5 C X oa s) (C6 C s) s):
  Ou C (arg1 (seqM f) as) (call F us []) (g5 C X oa s) (C6 C s) s:=
 Ou.arg1 (TT:=fun us=>call F us []) a fun u v r=>Y1 fun hne=>by
  refine e8 (yZ hne) fun ds hd e=> ?_;rw[e];exact h ds v u hd r
theorem SZ {f:List V->R V} {F:Value} (a:v6 s.heap X oa us as) (h: ∀ds u,B1 s.heap X oa u (.list ds)->Ou C (f ds) (call F [u] []) (g5 C X oa s) (C6 C s) s):
  Ou C (arg1 (AU f) as) (call F us []) (g5 C X oa s) (C6 C s) s:=
 Ou.arg1 (TT:=fun us=>call F us []) a fun u v r=>Y1 fun hne=>by
  refine d6 (qT hne) fun ds e=> ?_;rw[e] at r ⊢;exact h ds u r
theorem BJ (ok:C.Ok k) (a:v6 s.heap X oa us as):Ou C (wV as) (call (.type "bytes") us []) (g5 C X oa s) (C6 C s) s:=
 SY a fun ds d u hd r=>Ou.need1 fun l hi=>Ou.guard fun h=>FG ok hd r hi h.1 fun n hn=>of_decide_eq_true (List.all_eq_true.mp h.2 n hn)
theorem FH (ok:C.Ok k) (hf:Xn X s.heap) (a:v6 s.heap X oa us as):Ou C (NB as) (call (.type "list") us []) (g5 C X oa s) (C6 C s) s:=
 Ou.arg1 (TT:=fun us=>call (.type "list") us []) a fun u v r=>Y1 fun hne=>by
  refine d6 (bU hne) fun x e=> ?_;rw[e] at r ⊢;exact Ou.guard fun h=>KI ok hf r h
theorem KN (ok:C.Ok k) (a:v6 s.heap X oa us as):Ou C (SI as) (call (.builtin "min") us []) (g5 C X oa s) (C6 C s) s:=
 Ou.arg2 (TT:=fun us=>call (.builtin "min") us []) a fun u v u' v' r r'=>J5 (T:=fun u v=>call (.builtin "min") [u,v] []) r r' fun c d t t'=>by
  refine min_two_ints ok.handled fun h' tk hk=> ?_;by_cases h:d<c
  ·rw[if_pos h,show min c d=d by omega];exact .mk_int hk
  ·rw[if_neg h,show min c d=c by omega];exact .mk_int hk
theorem KO (ok:C.Ok k) (a:v6 s.heap X oa us as):Ou C (OM as) (call (.builtin "max") us []) (g5 C X oa s) (C6 C s) s:=
 SY a fun ds d u hd r=>Ou.need1 fun l hi=>Ou.guard fun h=>by
  cases l with
  |nil=>exact absurd rfl h
  |cons x l=>exact OZ ok hd r hi
theorem KP (ok:C.Ok k) (a:v6 s.heap X oa us as):Ou C (ON as) (call (.builtin "sum") us []) (g5 C X oa s) (C6 C s) s:=
 SZ a fun ds u r=>Ou.need1 fun l hi=>PA ok r hi
theorem KQ (ok:C.Ok k) (a:v6 s.heap X oa us as):Ou C (OO as) (call (.builtin "all") us []) (g5 C X oa s) (C6 C s) s:=
 SZ a fun ds u r=>Ou.need1 fun l hi=>PB ok r hi
theorem BK (hf:Xn X s.heap) (a:v6 s.heap X oa us as):Ou C (jT as) (call (.type "range") us []) (g5 C X oa s) (C6 C s) s:=
 Ou.arg1 (TT:=fun us=>call (.type "range") us []) a fun u v r=>Ou.intM (T:=fun u=>call (.type "range") [u] []) r fun i t Z=>Ou.guard fun h=>
  PySem.call_range_1 ⟨.of_keep fun Z Z e=>Heap.get?_push_of_some _ e,.rng (Heap.get?_push_size _ rfl) (fun q=>Nat.lt_irrefl _ (hf _ q))⟩
theorem KR (a:v6 s.heap X oa us as):Ou C (SJ as) (call (.builtin "abs") us []) (g5 C X oa s) (C6 C s) s:=
 Ou.arg1 (TT:=fun us=>call (.builtin "abs") us []) a fun u v r=>Ou.intM (T:=fun u=>call (.builtin "abs") [u] []) r fun i t Z=>call_abs_int fun u tk=>.mk_int fun Z Z e=>e
theorem KS (a:v6 s.heap X oa us as):Ou C (SK as) (call (.type "int") us []) (g5 C X oa s) (C6 C s) s:=
 Ou.arg1 (TT:=fun us=>call (.type "int") us []) a fun u v r=>by
  cases v with
  |bool b=>
   obtain rfl:=M1 r;exact call_int_bool (.mk_int fun Z Z e=>e)
  |_=>trivial
theorem PC {f:Str} (ok:C.Ok k) (hf:Xn X s.heap) (a:v6 s.heap X oa us as):
  Ou C (fH f as) (call (cK f) us []) (g5 C X oa s) (C6 C s) s:=by
 have go: ∀{n:Str} {v:Value} {r r':R V},bootBuiltins n=some v->(f=n->Ou C r (call v us []) (g5 C X oa s) (C6 C s) s)->(f≠n->Ou C r' (call (cK f) us []) (g5 C X oa s) (C6 C s) s)->
   Ou C (if f=n then r else r') (call (cK f) us []) (g5 C X oa s) (C6 C s) s:=by
  intro n v r r' hb h h';by_cases e:f=n
  ·rw[if_pos e,show cK f=v by rw[e];unfold cK;rw[hb];rfl];exact h e
  ·rw[if_neg e];exact h' e
 exact go tJ (fun Z=>KJ ok a) fun Z=>go tK (fun Z=>KL a) fun Z=>go tL (fun Z=>KM a) fun Z=>go kF (fun Z=>BJ ok a) fun Z=>
  go pM (fun Z=>FH ok hf a) fun Z=>go tM (fun Z=>KN ok a) fun Z=>go tN (fun Z=>KO ok a) fun Z=>go tO (fun Z=>KP ok a) fun Z=>
  go tP (fun Z=>KQ ok a) fun Z=>go kH (fun Z=>BK hf a) fun Z=>go tQ (fun Z=>KR a) fun Z=>go tR (fun Z=>KS a) fun Z=>trivial
end
end
section
open PySem PySem.W PyProof.Rows
theorem k7 (σ:d9) (x y:Str) (v:V):(σ.set x v).get y=if y=x then some v else σ.get y:=by
 unfold d9.get;induction σ with
 |nil=>
  show List.lookup y [(x,v)]=_;rw[List.lookup_cons];by_cases h:y=x
  ·subst h;simp
  ·have:(y==x)=false:=by simpa using h
   rw[this,if_neg h]
 |cons p r ih=>
  obtain⟨z,u⟩:=p;show List.lookup y (if x=z then (x,v)::r else (z,u)::d9.set r x v)=_;by_cases h:x=z
  ·subst h;rw[if_pos rfl,List.lookup_cons,List.lookup_cons];by_cases h:y=x
   ·subst h;simp
   ·have:(y==x)=false:=by simpa using h
    rw[this,if_neg h]
  ·rw[if_neg h,List.lookup_cons,List.lookup_cons,ih];by_cases hy:y=x
   ·subst hy;have:(y==z)=false:=by simpa using h
    rw[this]
   ·rw[if_neg hy,if_neg hy]
structure V9 (env:Env) (sc:Scope):Prop where
 kind:env.scope.kind=.function
 globals:env.globals=mainGlobals
 builtins:env.builtins=builtinsNs
 kinds: ∀x kd,sc.names.lookup x=some kd->env.kindOf x=some kd\/(kd=.free/\env.kindOf x=some .cell)
 told:sc.names.lookup ("_law_told":Str)=some .globalImplicit-> ∃x∈E8,env.code=.ref x.1/\env.qual++("<lambda>":Str)=x.2.2
section
variable (W:Wd)
noncomputable def dY (k:Nat) (tb:Prop) (f:Str) (F:List V->R V):Prop:=
 ∃a o fd,W.mg f=some (.ref a)/\W.G.get? a=some o/\o.data=.func fd/\
  ∀(C:Cx) (X:Xs) (s:Shared) (us:List Value) (vs:List V),C.Ok k->W.Fits C->(C.tb↔tb)->(∀a,C.X a->X a)->(∀a,X a->W.G.get? a=none)->(∀a,X a-> ¬o4 a/\ ∃o,s.heap.get? a=some o)->aM W C s.heap->
   Rps s.heap X us vs->Ou C (F vs) (call (.ref a) us []) (g5 C X none s) (C6 C s) s
structure C5 (k:Nat) (tb:Prop) (g:G):Prop where
 const: ∀x v,g.const x=some v->v.open? =false/\ ∃u,W.mg x=some u/\ ∀(h:Heap) (X:Xs),(∀b o,W.G.get? b=some o->h.get? b=some o)->(∀a,X a->W.G.get? a=none)->Rp h X u v
 fn: ∀f F,g.fn f=some F->dY W k tb f F
 bi: ∀f,m9.contains f=true->g.fn f=none->W.mg f=none
 lam:g.lam=true->tb/\(∃k',k'+2<=k/\ ∀f F,g.low f=some F->dY W k' False f F)/\ ∀f,m9.contains f=true->g.low f=none->W.mg f=none
structure J2 (C:Cx) (X:Xs) (k:Nat) (env:Env) (sc:Scope) (oa:Option Addr) (σ:d9) (h:Heap):Prop where
 wok:W.Ok
 ok:C.Ok k
 wf:W.Fits C
 sub: ∀a,C.X a->X a
 xg: ∀a,X a->W.G.get? a=none
 live: ∀a,X a-> ¬o4 a/\ ∃o,h.get? a=some o
 inv:aM W C h
 envOk:V9 env sc
 st:St env oa X h σ
 oaX: ∀a,oa=some a->X a
noncomputable def I8 (n:Nat):Prop:= ∀(g:G) (C:Cx) (X:Xs) (k:Nat) (env:Env) (sc:Scope) (oa:Option Addr) (σ:d9) (e:Expr) (s:Shared),
 C5 W k C.tb g->J2 W C X k env sc oa σ s.heap->
 Ou C (ev g n false sc σ e) (eval e env) (g5 C X oa s) (C6 C s) s/\
 Ou C ((ev g n true sc σ e).bind l7) (isTrue e env (eval e env)) (P5 C s) (C6 C s) s
end
section
variable {W:Wd} {C:Cx} {X:Xs} {k:Nat} {env:Env} {sc:Scope} {oa:Option Addr} {σ:d9} {s s₁:Shared} {g:G}
theorem Gr.live {h h':Heap} (gr:Gr C h h') (l: ∀a,X a-> ¬o4 a/\ ∃o,h.get? a=some o): ∀a,X a-> ¬o4 a/\ ∃o,h'.get? a=some o:=fun a x=>by
 refine f8 (l a x) fun n z4t=> ?_;refine d6 z4t fun o e=> ?_;clear z4t;refine d6 (gr.slots a o e fun⟨_,t⟩=>n t) fun sl e'=> ?_;exact⟨n,_,e'⟩
theorem TA {h:Heap} (l: ∀a,X a-> ¬o4 a/\ ∃o,h.get? a=some o):Xn X h:=fun a x=>by refine f8 (l a x) fun Z z3t=> ?_;refine d6 z3t fun o e=> ?_;clear z3t;exact Heap.lt_size e
theorem J2.step (t:J2 W C X k env sc oa σ s.heap) (st:k9 C s s₁):J2 W C X k env sc oa σ s₁.heap:=
 ⟨t.wok,t.ok,t.wf,t.sub,t.xg,st.gr.live t.live,t.inv.gr t.ok t.wf st.gr,t.envOk,t.st.gr t.ok t.inv st.gr t.sub,t.oaX⟩
theorem J2.keepO (t:J2 W C X k env sc oa σ s.heap) (st:k9 C s s₁) {u:Value} {v:V} (r:B1 s.heap X oa u v):B1 s₁.heap X oa u v:=r.gr t.ok t.inv st.gr t.sub
theorem J2.keepsO (t:J2 W C X k env sc oa σ s.heap) (st:k9 C s s₁) {u:List Value} {v:List V} (r:v6 s.heap X oa u v):v6 s₁.heap X oa u v:=r.gr t.ok t.inv st.gr t.sub
theorem J2.xn (t:J2 W C X k env sc oa σ s.heap):Xn X s.heap:=TA t.live
theorem J2.nt (t:J2 W C X k env sc oa σ s.heap): ¬C.tb\/o3 s.heap:=.inr t.inv.tabs
theorem O4 {d:R V} {T:Sem Value} (t:J2 W C X k env sc oa σ s.heap) (st:k9 C s s₁) (h:Ou C d T (g5 C X oa s₁) (C6 C s₁) s₁):Ou C d T (g5 C X oa s) (C6 C s) s₁:=
 h.mono (fun Z Z Z Z p=>p.from st) fun Z Z Z Z p=>p.from st t.nt
theorem kI {d:R Bool} {T:Sem Bool} (t:J2 W C X k env sc oa σ s.heap) (st:k9 C s s₁) (h:Ou C d T (P5 C s₁) (C6 C s₁) s₁):Ou C d T (P5 C s) (C6 C s) s₁:=
 h.mono (fun Z Z Z Z p=>⟨st.trans p.1,p.2⟩) fun Z Z Z Z p=>p.from st t.nt
theorem dZ {d:R Bool} {T:Sem Value} (t:J2 W C X k env sc oa σ s.heap) (st:k9 C s s₁) (h:Ou C d T (OY C s₁) (C6 C s₁) s₁):Ou C d T (OY C s) (C6 C s) s₁:=
 h.mono (fun Z Z Z Z p=>⟨st.trans p.1,p.2⟩) fun Z Z Z Z p=>p.from st t.nt
theorem B3 {α β:Type} {d:R α} {T:Sem β} {P:α->β->Shared->Prop} (t:J2 W C X k env sc oa σ s.heap) (st:k9 C s s₁) (h:Ou C d T P (C6 C s₁) s₁):Ou C d T P (C6 C s) s₁:=
 h.mono (fun Z Z Z Z p=>p) fun Z Z Z Z p=>p.from st t.nt
theorem y6 {a:Addr} {m:Str->Option Value} {h h':Heap} (x:h.Ns a m) (k: ∀b o,h.get? b=some o->h'.get? b=some o):h'.Ns a m:=F5 (x) fun o es ep ho r=>⟨o,es,ep,k _ _ ho,r⟩
set_option tactic.hygienic true in
theorem O5 (hg:C5 W k C.tb g) (t:J2 W C X k env sc oa σ s.heap) (x:Str) (p:Pos):
  Ou C (r5 g sc σ x) (eval (.Name x p) env) (g5 C X oa s) (C6 C s) s:=by
 unfold r5;split
 ·trivial
 rename_i hn;rw[not_or] at hn;have hd:(x==("__debug__":Str))=false:=by simpa using hn.1
 have hc:(x==("__classdict__":Str))=false:=by simpa using hn.2
 have loc: ∀v,σ.get x=some v->wpAny (model prog w) C.A (eval (.Name x p) env) (g5 C X oa s v) (fun Z Z=>False) s:=by
  intro v e;refine e8 t.st.vals fun m hm hv=> ?_;refine e8 (hv x v e) fun u hu hk=> ?_;refine wpAny_Name ?_ hd;rcases hk with⟨q,z⟩|⟨q,c,z,hi⟩
  ·exact wpAny_loadName_local t.envOk.kind q hm z ⟨.refl,hu⟩
  ·rcases q with q|q
   ·exact wpAny_loadName_cell t.envOk.kind q z hi ⟨.refl,hu⟩
   ·exact wpAny_loadName_free t.envOk.kind q z hi ⟨.refl,hu⟩ hc
 split
 ·split
  ·rename_i e;exact loc _ e
  ·trivial
 ·split
  ·rename_i e;exact loc _ e
  ·trivial
 ·split
  ·rename_i e;exact loc _ e
  ·trivial
 ·rename_i hk;split
  ·rename_i v e;refine f8 (hg.const _ _ e) fun ho z2t=> ?_;refine e8 z2t fun u hu hr=> ?_;clear z2t;have hx:env.kindOf x=some .globalImplicit:=by
    rcases t.envOk.kinds x _ hk with q|⟨q,_⟩
    ·exact q
    ·injection q
   refine Calls.Name_function_global t.envOk.kind hx (Calls.loadGlobal_global (mg:=W.mg) ?_ hu ?_) hd
   ·rw[t.envOk.globals];exact y6 t.wok.g t.inv.G
   ·exact⟨.refl,.of (hr _ _ t.inv.G t.xg)⟩
  ·trivial
 ·trivial
theorem jC {e:Expr} (h: ∀x p,e≠.Starred x p) (r:List Expr):starEach (e::r) env=(false,eval e env)::starEach r env:=by
 cases e<;>first|rfl|exact absurd rfl (h _ _)
theorem cV (n:Nat) (x:Expr) (p:Pos):ev g n false sc σ (.Starred x p)=.stuck:=by cases n<;>rfl
theorem Q3 {n:Nat} (ih:I8 W n) (hg:C5 W k C.tb g) (pos:Pos): ∀(es:List Expr) {s:Shared},J2 W C X k env sc oa σ s.heap->
  Ou C (B9 (ev g n false sc σ) es) (spliced (backTo pos (starEach es env))) (xF C X oa s) (C6 C s) s
 |[],s,t=>Calls.spliced_nil ⟨.refl,trivial⟩
 |e::r,s,t=>by
  by_cases hs: ∃x p,e=.Starred x p
  ·refine C0 hs fun x p z1r=> ?_;clear hs;subst z1r;rw[AX,cV];trivial
  ·rw[jC fun x p q=>hs ⟨x,p,q⟩];show Ou C ((ev g n false sc σ e).bind fun y=>(B9 (ev g n false sc σ) r).map (y:: ·)) (spliced ((false,eval e env)::backTo pos (starEach r env))) _ _ _;have h1:=(ih g C X k env sc oa σ e s hg t).1;cases hv:ev g n false sc σ e with
   |stuck=>trivial
   |err l=>rw[hv] at h1;exact Calls.spliced_cons (wpAny_mono h1 (fun Z Z x=>x.elim) fun Z Z x=>x)
   |ok a=>
    rw[hv] at h1;show Ou C ((B9 (ev g n false sc σ) r).map (a:: ·)) _ _ _ _;have step: ∀v s₁,g5 C X oa s a v s₁->Ou C (B9 (ev g n false sc σ) r) (spliced (backTo pos (starEach r env))) (xF C X oa s₁) (C6 C s₁) s₁:=fun v s₁ p=>Q3 ih hg pos r (t.step p.1);cases hr:B9 (ev g n false sc σ) r with
    |stuck=>trivial
    |err l=>
     rw[hr] at step;exact Calls.spliced_cons (wpAny_mono h1 (fun v s₁ p=>wpAny_mono (step v s₁ p) (fun Z Z x=>x.elim) fun Z Z x=>x.from p.1 t.nt) fun Z Z x=>x.elim)
    |ok vs=>
     rw[hr] at step;exact Calls.spliced_cons (wpAny_mono h1 (fun v s₁ p=>wpAny_mono (step v s₁ p) (fun us e7 q=>⟨p.1.trans q.1,(t.step p.1).keepO q.1 p.2,q.2⟩) fun Z Z x=>x.elim) fun Z Z x=>x.elim)
end
section
variable {W:Wd} {C:Cx} {X:Xs} {k:Nat} {env:Env} {sc:Scope} {oa:Option Addr} {σ:d9} {s s₁:Shared} {g:G} {n:Nat}
theorem BL (t:J2 W C X k env sc oa σ s.heap) (c:Const) (kk:Nat) (p:Pos):Ou C (qN c) (eval (.Constant c kk p) env) (g5 C X oa s) (C6 C s) s:=by
 cases c<;>try trivial
 ·exact wpAny_Constant_none ⟨.refl,.none⟩
 ·exact wpAny_Constant_bool ⟨.refl,.bool _⟩
 ·exact wpAny_Constant_int (.mk_int fun Z Z e=>e)
 ·exact wpAny_Constant_str (.mk_str fun Z Z e=>e)
theorem FI (ih:I8 W n) (hg:C5 W k C.tb g) (t:J2 W C X k env sc oa σ s.heap) (l r:Expr) (op:Operator) (p:Pos):
  Ou C (ev g (n+1) false sc σ (.BinOp l op r p)) (eval (.BinOp l op r p) env) (g5 C X oa s) (C6 C s) s:=by
 show Ou C ((ev g n false sc σ l).bind fun a=>(ev g n false sc σ r).bind fun b=>R0 op a b) _ _ _ _;refine Ou.bind (fun Q E h=>wpAny_BinOp h) (ih g C X k env sc oa σ l s hg t).1 fun a v s₁ Z F4=> ?_;have n7:=t.step F4.1;refine Ou.bind (fun Q E h=>h) (B3 t F4.1 (ih g C X k env sc oa σ r s₁ hg n7).1) fun b u e7 Z L8=> ?_;have dJ:=n7.step L8.1;exact O4 t (F4.1.trans L8.1) (KF op (n7.keepO L8.1 F4.2) L8.2 dJ.xn)
theorem PD (ih:I8 W n) (hg:C5 W k C.tb g) (t:J2 W C X k env sc oa σ s.heap) (x:Expr) (p:Pos):
  Ou C (ev g (n+1) false sc σ (.UnaryOp .Not x p)) (eval (.UnaryOp .Not x p) env) (g5 C X oa s) (C6 C s) s:=by
 show Ou C ((ev g n false sc σ x).bind fun a=>(B2 a).bind fun b=>R.ok (V.bool !b)) _ _ _ _;refine Ou.bind (fun Q E h=>wpAny_UnaryOp h) (ih g C X k env sc oa σ x s hg t).1 fun a v s₁ Z F4=> ?_;have n7:=t.step F4.1;refine Ou.bind (fun Q E h=>not_of h) (B3 t F4.1 (V8 F4.2)) (F:=fun b Q E s=>Q (.bool !b) s) fun b c e7 Z L8=> ?_;refine f8 L8 fun st z12r=> ?_;clear L8;subst z12r;exact⟨F4.1.trans st,.bool _⟩
theorem PE (ih:I8 W n) (hg:C5 W k C.tb g) (t:J2 W C X k env sc oa σ s.heap) (x:Expr) (p:Pos):
  Ou C (ev g (n+1) false sc σ (.UnaryOp .USub x p)) (eval (.UnaryOp .USub x p) env) (g5 C X oa s) (C6 C s) s:=by
 show Ou C ((ev g n false sc σ x).bind OL) _ _ _ _;refine Ou.bind (fun Q E h=>wpAny_UnaryOp h) (ih g C X k env sc oa σ x s hg t).1 fun a v s₁ Z F4=> ?_;exact O4 t F4.1 (KG F4.2)
theorem FK (ih:I8 W n) (hg:C5 W k C.tb g) (t:J2 W C X k env sc oa σ s.heap) (c b o:Expr) (p:Pos):
  Ou C (ev g (n+1) false sc σ (.IfExp c b o p)) (eval (.IfExp c b o p) env) (g5 C X oa s) (C6 C s) s:=by
 show Ou C (((ev g n true sc σ c).bind l7).bind fun z=>if z then ev g n false sc σ b else ev g n false sc σ o) _ _ _ _;refine Ou.bind (fun Q E h=>wpAny_IfExp h) (ih g C X k env sc oa σ c s hg t).2 fun z v s₁ Z F4=> ?_;refine f8 F4 fun st z11r=> ?_;clear F4;subst z11r;have n7:=t.step st;cases v with
 |true=>exact O4 t st (ih g C X k env sc oa σ b s₁ hg n7).1
 |false=>exact O4 t st (ih g C X k env sc oa σ o s₁ hg n7).1
set_option backward.match.sparseCases true in
theorem PF (ih:I8 W n) (hg:C5 W k C.tb g) (t:J2 W C X k env sc oa σ s.heap) (x y:Expr) (r:List Expr) (p:Pos):
  Ou C (ev g (n+1) false sc σ (.BoolOp .And (x::y::r) p)) (eval (.BoolOp .And (x::y::r) p) env) (g5 C X oa s) (C6 C s) s:=by
 show Ou C ((ev g n false sc σ x).bind fun a=>(B2 a).bind fun t=>if t then ev g n false sc σ (.BoolOp .And (y::r) p) else .ok a) _ _ _ _;refine Ou.bind (F:=fun v Q E s=>wpAny (model prog w) C.A (truthy v) (fun b e7=>if b then wpAny (model prog w) C.A (eval (.BoolOp .And (y::r) p) env) Q E e7 else Q v e7) E s) (fun Q E h=> ?_)
  (ih g C X k env sc oa σ x s hg t).1 fun a v s₁ Z F4=> ?_
 ·show wpAny _ C.A (do
   let v <-eval x env
   standAt p
   let t <-holding [v] (truthy v)
   match BoolOp.And,t with
   | .And,false| .Or,true=>pure v
   |_,_=>boolOp p .And (evalEach (y::r) env)) Q E s
  refine wpAny_bind (wpAny_mono h (fun v s₁ y5=>wpAny_bind (wpAny_standAt (wpAny_bind (wpAny_holding (wpAny_mono y5 (fun t e7 i8=> ?_) fun Z Z x=>x))))) fun Z Z x=>x);cases t with
  |false=>exact wpAny_pure i8
  |true=>exact i8
 ·have n7:=t.step F4.1;refine Ou.bind (fun Q E h=>h) (B3 t F4.1 (V8 F4.2)) (F:=fun b Q E s=>if b then wpAny (model prog w) C.A (eval (.BoolOp .And (y::r) p) env) Q E s else Q v s) fun b c e7 Z L8=> ?_;refine f8 L8 fun st z10r=> ?_;clear L8;subst z10r;cases c with
  |true=>exact O4 t (F4.1.trans st) (ih g C X k env sc oa σ _ e7 hg (n7.step st)).1
  |false=>exact⟨F4.1.trans st,n7.keepO st F4.2⟩
set_option backward.match.sparseCases true in
theorem TB (ih:I8 W n) (hg:C5 W k C.tb g) (t:J2 W C X k env sc oa σ s.heap) (x y:Expr) (r:List Expr) (p:Pos):
  Ou C (ev g (n+1) false sc σ (.BoolOp .Or (x::y::r) p)) (eval (.BoolOp .Or (x::y::r) p) env) (g5 C X oa s) (C6 C s) s:=by
 show Ou C ((ev g n false sc σ x).bind fun a=>(B2 a).bind fun t=>if t then .ok a else ev g n false sc σ (.BoolOp .Or (y::r) p)) _ _ _ _;refine Ou.bind (F:=fun v Q E s=>wpAny (model prog w) C.A (truthy v) (fun b e7=>if b then Q v e7 else wpAny (model prog w) C.A (eval (.BoolOp .Or (y::r) p) env) Q E e7) E s) (fun Q E h=> ?_)
  (ih g C X k env sc oa σ x s hg t).1 fun a v s₁ Z F4=> ?_
 ·show wpAny _ C.A (do
   let v <-eval x env
   standAt p
   let t <-holding [v] (truthy v)
   match BoolOp.Or,t with
   | .And,false| .Or,true=>pure v
   |_,_=>boolOp p .Or (evalEach (y::r) env)) Q E s
  refine wpAny_bind (wpAny_mono h (fun v s₁ y5=>wpAny_bind (wpAny_standAt (wpAny_bind (wpAny_holding (wpAny_mono y5 (fun t e7 i8=> ?_) fun Z Z x=>x))))) fun Z Z x=>x);cases t with
  |false=>exact i8
  |true=>exact wpAny_pure i8
 ·have n7:=t.step F4.1;refine Ou.bind (fun Q E h=>h) (B3 t F4.1 (V8 F4.2)) (F:=fun b Q E s=>if b then Q v s else wpAny (model prog w) C.A (eval (.BoolOp .Or (y::r) p) env) Q E s) fun b c e7 Z L8=> ?_;refine f8 L8 fun st z9r=> ?_;clear L8;subst z9r;cases c with
  |true=>exact⟨F4.1.trans st,n7.keepO st F4.2⟩
  |false=>exact O4 t (F4.1.trans st) (ih g C X k env sc oa σ _ e7 hg (n7.step st)).1
theorem KT (ih:I8 W n) (hg:C5 W k C.tb g) (t:J2 W C X k env sc oa σ s.heap) (l r:Expr) (op:CmpOp) (p:Pos):
  Ou C (AW (ev g n false sc σ) l op r) (eval (.Compare l [op] [r] p) env) (g5 C X oa s) (C6 C s) s/\
  Ou C ((AW (ev g n false sc σ) l op r).bind l7) (isTrue (.Compare l [op] [r] p) env (eval (.Compare l [op] [r] p) env)) (P5 C s) (C6 C s) s:=by
 unfold AW;split
 ·exact⟨trivial,trivial⟩
 rename_i hm;have hm':behindInMarks op r=false:=by simpa using hm
 constructor
 ·refine Ou.bind (fun Q E h=>wpAny_Compare1 h hm') (ih g C X k env sc oa σ l s hg t).1 fun a v s₁ Z F4=> ?_;have n7:=t.step F4.1;refine Ou.bind (fun Q E h=>h) (B3 t F4.1 (ih g C X k env sc oa σ r s₁ hg n7).1) fun b u e7 Z L8=> ?_;refine(Ou.map (dZ t (F4.1.trans L8.1) (bV op t.ok (n7.keepO L8.1 F4.2) L8.2)) fun c v l6 Z JE=> ?_);refine f8 JE fun st z8r=> ?_;clear JE;subst z8r;exact⟨st,.bool _⟩
 ·rw[R.bind_assoc];refine Ou.bind (fun Q E h=>wpAny_isTrue_Compare1 h hm') (ih g C X k env sc oa σ l s hg t).1 fun a v s₁ Z F4=> ?_;have n7:=t.step F4.1;rw[R.bind_assoc];refine Ou.bind (fun Q E h=>h) (B3 t F4.1 (ih g C X k env sc oa σ r s₁ hg n7).1) fun b u e7 Z L8=> ?_;rw[R.map_bind];refine Ou.bind (fun Q E h=>h) (dZ t (F4.1.trans L8.1) (bV op t.ok (n7.keepO L8.1 F4.2) L8.2)) fun c v l6 Z JE=> ?_;refine f8 JE fun st z7r=> ?_;clear JE;subst z7r;exact wpAny_truthy_bool ⟨st,rfl⟩
theorem KU (ih:I8 W n) (hg:C5 W k C.tb g) (t:J2 W C X k env sc oa σ s.heap) (l Z4 aE:Expr) (G7 I3:CmpOp) (p:Pos):
  Ou C (cmp2 (ev g n false sc σ) l G7 I3 Z4 aE) (eval (.Compare l [G7,I3] [Z4,aE] p) env) (g5 C X oa s) (C6 C s) s/\
  Ou C ((cmp2 (ev g n false sc σ) l G7 I3 Z4 aE).bind l7) (isTrue (.Compare l [G7,I3] [Z4,aE] p) env (eval (.Compare l [G7,I3] [Z4,aE] p) env)) (P5 C s) (C6 C s) s:=by
 unfold cmp2;split
 ·exact⟨trivial,trivial⟩
 rename_i hm;have hm':lastMarks [G7,I3] [Z4,aE]=false:=by simpa using hm
 constructor
 ·refine Ou.bind (fun Q E h=>Compare_chain h hm') (ih g C X k env sc oa σ l s hg t).1 fun a v s₁ Z I6=> ?_;have n7:=t.step I6.1;refine Ou.bind (fun Q E h=>chain_link h) (B3 t I6.1 (ih g C X k env sc oa σ Z4 s₁ hg n7).1) fun b u e7 Z B8=> ?_;have dJ:=n7.step B8.1;have st₂:=I6.1.trans B8.1;refine Ou.bind (fun Q E h=>h) (B3 t st₂ (bV G7 t.ok (n7.keepO B8.1 I6.2) B8.2)) fun c z l6 Z P0=> ?_;refine f8 P0 fun st z6r=> ?_;clear P0;subst z6r;have G8:=st₂.trans st;have JF:=dJ.step st;cases c with
  |false=>exact wpAny_truthy_bool ⟨G8,.bool _⟩
  |true=>
   refine Ou.bind (fun Q E h=>wpAny_truthy_bool (chain_last h)) (B3 t G8 (ih g C X k env sc oa σ aE l6 hg JF).1) fun d y C4 Z O0=> ?_;refine(Ou.map (dZ t (G8.trans O0.1) (bV I3 t.ok (JF.keepO O0.1 (dJ.keepO st B8.2)) O0.2)) fun c v C8 Z fG=> ?_);refine f8 fG fun st z5r=> ?_;clear fG;subst z5r;exact⟨st,.bool _⟩
 ·rw[R.bind_assoc];refine Ou.bind (fun Q E h=>isTrue_chain h hm') (ih g C X k env sc oa σ l s hg t).1 fun a v s₁ Z I6=> ?_;have n7:=t.step I6.1;rw[R.bind_assoc];refine Ou.bind (fun Q E h=>test_link h) (B3 t I6.1 (ih g C X k env sc oa σ Z4 s₁ hg n7).1) fun b u e7 Z B8=> ?_;have dJ:=n7.step B8.1;have st₂:=I6.1.trans B8.1;rw[R.bind_assoc];refine Ou.bind (fun Q E h=>h) (B3 t st₂ (bV G7 t.ok (n7.keepO B8.1 I6.2) B8.2)) fun c z l6 Z P0=> ?_;refine f8 P0 fun st z4r=> ?_;clear P0;subst z4r;have G8:=st₂.trans st;have JF:=dJ.step st;cases c with
  |false=>exact wpAny_truthy_bool ⟨G8,rfl⟩
  |true=>
   rw[if_pos rfl,R.bind_assoc];refine Ou.bind (fun Q E h=>wpAny_truthy_bool (test_last h)) (B3 t G8 (ih g C X k env sc oa σ aE l6 hg JF).1) fun d y C4 Z O0=> ?_;rw[R.map_bind];refine Ou.bind (fun Q E h=>h) (dZ t (G8.trans O0.1) (bV I3 t.ok (JF.keepO O0.1 (dJ.keepO st B8.2)) O0.2)) fun c v C8 Z fG=> ?_;refine f8 fG fun st z3r=> ?_;clear fG;subst z3r;exact wpAny_truthy_bool ⟨st,rfl⟩
theorem jD {us:List Value} {as:List V} (t:J2 W C X k env sc oa σ s.heap) (r:v6 s.heap X oa us as):
  match N1 as with| .stuck=>True| .err _=>False| .ok bs=>bs=as/\Rps s.heap X us as/\us.length<=sizeLine:=by
 unfold N1;by_cases h:(as.any V.open? ||decide (i0<as.length))=true
 ·rw[if_pos h];trivial
 ·rw[if_neg h];rw[Bool.or_eq_true,not_or] at h;have h1:as.any V.open? =false:=by simpa using h.1
  have h2:as.length<=i0:=by simpa using h.2
  have h3:=r.plain h1;exact⟨rfl,h3,by rw[h3.length];exact Nat.le_trans h2 D5⟩
theorem FL (ih:I8 W n) (hg:C5 W k C.tb g) (t:J2 W C X k env sc oa σ s.heap) (es:List Expr) (j:Nat) (p:Pos):
  Ou C (ev g (n+1) false sc σ (.Tuple es j p)) (eval (.Tuple es j p) env) (g5 C X oa s) (C6 C s) s:=by
 show Ou C (((B9 (ev g n false sc σ) es).bind N1).map V.tup) _ _ _ _;rw[show((B9 (ev g n false sc σ) es).bind N1).map V.tup=(B9 (ev g n false sc σ) es).bind fun vs=>(N1 vs).map V.tup by cases B9 (ev g n false sc σ) es<;>rfl];refine Ou.bind (F:=fun vs Q Z s₁=>vs.length<=sizeLine/\Q (.ref s₁.heap.objs.size) {s₁ with heap:=s₁.heap.push {cls:=.type "tuple",data:=.seq vs.toArray}})
  (fun Q E h=>wpAny_Tuple h) (Q3 ih hg p es t) fun as us s₁ Z q=> ?_
 have n7:=t.step q.1;have:=jD n7 q.2;cases hs:N1 as with
 |stuck=>trivial
 |err l=>rw[hs] at this;exact this.elim
 |ok bs=>
  rw[hs] at this;refine n5 this fun z2r h1 h2=> ?_;clear this;subst z2r;exact⟨h2,g5.from q.1 (.mk_tup (fun z=>Nat.lt_irrefl _ (n7.xn _ z)) h1 (.push _))⟩
theorem FM (ih:I8 W n) (hg:C5 W k C.tb g) (t:J2 W C X k env sc oa σ s.heap) (es:List Expr) (p:Pos):
  Ou C (ev g (n+1) false sc σ (.List es p)) (eval (.List es p) env) (g5 C X oa s) (C6 C s) s:=by
 show Ou C (((B9 (ev g n false sc σ) es).bind N1).map V.list) _ _ _ _;rw[show((B9 (ev g n false sc σ) es).bind N1).map V.list=(B9 (ev g n false sc σ) es).bind fun vs=>(N1 vs).map V.list by cases B9 (ev g n false sc σ) es<;>rfl];refine Ou.bind (F:=fun vs Q Z s₁=>vs.length<=sizeLine/\Q (.ref s₁.heap.objs.size) {s₁ with heap:=s₁.heap.push {cls:=.type "list",data:=.seq vs.toArray}})
  (fun Q E h=>wpAny_List h) (Q3 ih hg p es t) fun as us s₁ Z q=> ?_
 have n7:=t.step q.1;have:=jD n7 q.2;cases hs:N1 as with
 |stuck=>trivial
 |err l=>rw[hs] at this;exact this.elim
 |ok bs=>
  rw[hs] at this;refine n5 this fun z1r h1 h2=> ?_;clear this;subst z1r;exact⟨h2,g5.from q.1 (.mk_list (fun z=>Nat.lt_irrefl _ (n7.xn _ z)) h1 (.push _))⟩
theorem zC (ih:I8 W n) (hg:C5 W k C.tb g) (t:J2 W C X k env sc oa σ s.heap) (e:Option Expr):
  Ou C (nL (ev g n false sc σ) e) (evalPart e env) (fun d v s'=>k9 C s s'/\(match d with|none=>v=.none|some d=>B1 s'.heap X oa v d)) (C6 C s) s:=by
 cases e with
 |none=>exact wpAny_evalPart_none ⟨.refl,rfl⟩
 |some e=>exact Ou.map (ih g C X k env sc oa σ e s hg t).1 fun a v s' Z p=>p
theorem zD {h:Heap} {d:Option V} {v:Value} {i:Option Int} (r:match d with|none=>v=.none|some d=>B1 h X oa v d) (e:R1 d=.ok i): ∃z,v=partValue z/\z.map (·.1)=i:=by
 cases d with
 |none=>injection e with e;subst e;exact⟨none,r,rfl⟩
 |some d=>
  cases d<;>try cases e
  have e:(if Int.natAbs _<2 ^40 then R.ok (some _) else .stuck)=.ok i:=e;split at e
  ·injection e with e;subst e;cases r;exact⟨some (_,_),rfl,rfl⟩
  ·injection e
set_option tactic.hygienic true in
theorem BM (ih:I8 W n) (hg:C5 W k C.tb g) (t:J2 W C X k env sc oa σ s.heap) (v:Str) (vp:Pos) (lo hi:Option Expr) (sp p:Pos):
  Ou C ((ev g n false sc σ (.Name v vp)).bind fun o=>jU (ev g n false sc σ) o lo hi) (eval (.Subscript (.Name v vp) (.Slice lo hi none sp) p) env) (g5 C X oa s) (C6 C s) s:=by
 refine Ou.bind (F:=fun o Q E s₁=>wpAny (model prog w) C.A (evalPart lo env) (fun vl e7=>wpAny (model prog w) C.A (evalPart hi env) (fun vu l6=>
   ∃x t l u,o=.str x t/\vl=partValue l/\vu=partValue u/\
    (sliceMade x t l u none).post Q {l6 with heap:=l6.heap.push {cls:=.type "slice",data:=.fields #[vl,vu,.none]}}) E e7) E s₁)
  (fun Q E h=>wpAny_Subscript_str_slice h) (ih g C X k env sc oa σ (.Name v vp) s hg t).1 fun a o s₁ hao I6=> ?_
 clear hao;have n7:=t.step I6.1;unfold jU;refine Ou.bind (fun Q E h=>h) (B3 t I6.1 (zC ih hg n7 lo)) fun dl vl e7 Z B8=> ?_;have dJ:=n7.step B8.1;have st₂:=I6.1.trans B8.1;refine Ou.bind (fun Q E h=>h) (B3 t st₂ (zC ih hg dJ hi)) fun du vu l6 Z P0=> ?_;have G8:=st₂.trans P0.1;cases hl:R1 dl with
 |stuck=>trivial
 |err l=>exact(oW hl).elim
 |ok i=>
  cases hu:R1 du with
  |stuck=>trivial
  |err l=>exact(oW hu).elim
  |ok j=>
   refine e8 (zD B8.2 hl) fun zl e1 e2=> ?_;refine e8 (zD P0.2 hu) fun zu e3 e4=> ?_;show w4 (wT a i j) _ _ _ _;unfold wT;split
   ·rename_i x;split
    ·rename_i hx;have q:=I6.2;cases q;rename_i tk;refine⟨S x,tk,zl,zu,rfl,e1,e3,?_⟩;have key:Txt.slice (S x) i j=S (j9 x i j):=EO x i j;have hle:(Txt.slice (S x) i j).length<=sizeLine:=by
      rw[key,gV];exact Nat.le_trans BE (Nat.le_trans hx D5)
     have:=post_val_or_str (s:={l6 with heap:=l6.heap.push {cls:=.type "slice",data:=.fields #[vl,vu,.none]}}) (t:=tk) (Q:=g5 C X oa s (.str (j9 x i j)))
      (c:=((1:Int)==1 &&(Builtin.Str.strSliceIndices i j 1 (S x).length).length==(S x).length)=true) (y:=S x) (z:=⟨((Builtin.Str.strSliceIndices i j 1 (S x).length).filterMap ((S x).cps[·]?)).toArray⟩)
      ⟨hle,fun t' k=>by
       show g5 C X oa s _ (.str (Txt.slice (S x) i j) t') _;rw[key];exact g5.from G8 (.mk_str fun Z Z e=>Heap.get?_push_of_some _ e)⟩
     unfold sliceMade slicePicked;rw[e2,e4];exact this
    ·trivial
   ·trivial
end
section
variable {W:Wd} {C:Cx} {X:Xs} {k:Nat} {env:Env} {sc:Scope} {oa:Option Addr} {σ:d9} {s s₁:Shared} {g:G} {n:Nat}
theorem NQ {u:Value} {a i:V} {d:V} (r:B1 s.heap X oa u a) (h:P1 a i=.ok d): ∃T id,s.TypeIs u T/\typeLookup (.type T) "__getitem__"=pure (some (.builtin id)):=by
 cases a with
 |str x=>refine d6 (s6 r) fun t e=> ?_;rw[e];exact⟨"str",_,typeIs_str _ _ _,PySem.F.slot_str_getitem.lookup⟩
 |bytes b=>refine f8 (R4 r) fun z3n Z=> ?_;refine d6 z3n fun t e=> ?_;clear z3n;rw[e];exact⟨"bytes",_,typeIs_bytes _ _ _,PySem.W.FB.slot_bytes_getitem.lookup⟩
 |tup ds=>refine v8 (Q2 r) fun l vs e z2n Z=> ?_;refine r6 z2n fun o e' c Z=> ?_;clear z2n;rw[e];exact⟨"tuple",_,⟨o,e',c⟩,PySem.F.slot_tuple_getitem.lookup⟩
 |list ds=>refine v8 (t8 (.inl rfl) r) fun l vs e ht Z=> ?_;rw[e];exact⟨"list",_,ht.typeIs,PySem.F.slot_list_getitem.lookup⟩
 |olist ds=>refine v8 (t8 (.inr rfl) r) fun l vs e ht Z=> ?_;rw[e];exact⟨"list",_,ht.typeIs,PySem.F.slot_list_getitem.lookup⟩
 |dict kvs=>refine v8 (Rp.inv r) fun D f e m Z=> ?_;rw[e];exact⟨"dict",_,m.typeIs,PySem.F.slot_dict_getitem.lookup⟩
 |_=>injection h
theorem PG {x i:V}:NE (P1 x i):=by
 have hL: ∀ds j,NE (DZ ds j):=fun ds j=>.or (.needR fun Z=>.needR fun Z=>.ok) .stuck;cases x with
 |str x=>exact .intM fun Z=>.or (.needR fun Z=>.ok) .stuck
 |bytes x=>exact .intM fun Z=>.or .ok .stuck
 |tup ds=>exact .intM fun Z=>hL _ _
 |list ds=>exact .intM fun Z=>hL _ _
 |olist ds=>exact .intM fun Z=>hL _ _
 |dict ds=>exact .strM fun Z=>.needR fun Z=>.ok
 |_=>exact .stuck
theorem T8 {i:Expr} (h:X7 i=none) (o v:Value):subscripted i false o v=operate [o,v] (getItem o v):=by
 cases i<;>first|rfl|exact no h.symm
theorem KV (ih:I8 W n) (hg:C5 W k C.tb g) (t:J2 W C X k env sc oa σ s.heap) (v:Str) (vp:Pos) (i:Expr) (p:Pos) (hi:X7 i=none):
  Ou C ((ev g n false sc σ (.Name v vp)).bind fun o=>(ev g n false sc σ i).bind fun k=>P1 o k) (eval (.Subscript (.Name v vp) i p) env) (g5 C X oa s) (C6 C s) s:=by
 refine Ou.bind (fun Q E h=>Subscript_ h) (ih g C X k env sc oa σ (.Name v vp) s hg t).1 fun a o s₁ hao I6=> ?_;have n7:=t.step I6.1;refine Ou.bind (fun Q E h=>h) (B3 t I6.1 (ih g C X k env sc oa σ i s₁ hg n7).1) fun b u e7 hb B8=> ?_;have ro:=n7.keepO B8.1 I6.2;have key:=O4 t (I6.1.trans B8.1) (zA ro B8.2);cases hd:P1 a b with
 |stuck=>trivial
 |err l=>rw[hd] at key;exact(PG _ hd).elim
 |ok d=>
  rw[hd] at key;refine r0 (NQ ro hd) fun T id hT hl=> ?_;exact subscriptTail_builtin hT hl key (T8 hi _ _) (fun Z=>rfl)
theorem xI {m:Str} {o:V} {as:List V} {l:Int} (h:w2 m o as=.err l):False:=
 NE.or (.strM fun Z=>.arg1 fun Z=>.strM fun Z=>.or .ok .stuck) (.or (.strM fun Z=>.arg0 (.or .ok .stuck)) (.or (.strM fun Z=>.arg0 (.oneM fun Z=>.or .ok .stuck)) (.or (.strM fun Z=>.arg1 fun Z=>.strM fun Z=>.oneM fun Z=>.or .ok .stuck)
  (.or (.strM fun Z=>.arg1 fun Z=>.strM fun Z=>.oneM fun Z=>.or .ok .stuck) (.or (.strM fun Z=>.arg1 fun Z=>.seqM fun Z=>.needR fun Z=>.or .ok .stuck) (.or (.dictM fun Z=>.arg2 fun Z Z=>.strM fun Z=>.intM fun Z=>.ok) .stuck)))))) l h
theorem fP {A:Around} {E:Value->Shared->Prop} {m:Str} {ov:Value} {pos:Pos} {args:List (Bool×Sem Value)} {Q Q':Value->Shared->Prop}
  (h:MethodOnS prog w A E m ov pos args Q s) (hq: ∀v s',Q v s'->Q' v s'):MethodOnS prog w A E m ov pos args Q' s:=by
 refine OF h fun T id h1 h2 h3 h4 h5 h6=> ?_;clear h;exact⟨T,id,h1,h2,h3,h4,h5,wpAny_mono h6 hq fun Z Z e=>e⟩
theorem jE {o:Expr} {r:Sem Value} (m:Str) (h:R2 o=true):attributeBase o m env r=r:=by
 cases o with
 |Call fn as kws p=>cases fn with
  |Name x q=>cases as with
   |nil=>cases kws with
    |nil=>injection h
    |cons _ _=>rfl
   |cons _ _=>rfl
  |_=>rfl
 |_=>rfl
theorem K4 {α:Type} {r:R α}:r.calm=.stuck\/ ∃a,r=.ok a/\r.calm=.ok a:=by
 cases r with
 |stuck=>exact .inl rfl
 |err l=>exact .inl rfl
 |ok a=>exact .inr ⟨a,rfl,rfl⟩
theorem kJ {e:Expr} (h:ev g n false sc σ e≠.stuck):starEach [e] env=[(false,eval e env)]:=by
 rw[jC]
 ·rfl
 ·rintro x p rfl;exact h (cV n x p)
theorem BN (ih:I8 W n) (hg:C5 W k C.tb g) (t:J2 W C X k env sc oa σ s.heap) (o:Expr) (m:Str) (ap p:Pos) (hp:ap.endLine=p.line) (hb:R2 o=true):
  Ou C ((ev g n false sc σ o).calm.bind fun ov=>w2 m ov []) (eval (.Call (.Attribute o m ap) [] [] p) env) (g5 C X oa s) (C6 C s) s:=by
 rcases K4 (r:=ev g n false sc σ o) with h|⟨a,h,h'⟩
 ·rw[h];trivial
 rw[h'];show w4 (w2 m a []) _ _ _ _;have ho:=(ih g C X k env sc oa σ o s hg t).1;rw[h] at ho;cases hd:w2 m a [] with
 |stuck=>trivial
 |err l=>exact(xI hd).elim
 |ok d=>exact Call_method0 (jE m hb) (by simpa using hp) (wpAny_mono ho (fun v s₁ I6=>fP (FA (C:=C) (pos:=p) (E:=fun Z Z=>False) I6.2 hd) fun v s' q=>q.from I6.1) fun Z Z x=>x)
theorem BO (ih:I8 W n) (hg:C5 W k C.tb g) (t:J2 W C X k env sc oa σ s.heap) (o e:Expr) (m:Str) (ap p:Pos) (hp:ap.endLine=p.line) (hb:R2 o=true):
  Ou C ((ev g n false sc σ o).calm.bind fun ov=>(ev g n false sc σ e).calm.bind fun v=>w2 m ov [v]) (eval (.Call (.Attribute o m ap) [e] [] p) env) (g5 C X oa s) (C6 C s) s:=by
 rcases K4 (r:=ev g n false sc σ o) with h|⟨a,h,h'⟩
 ·rw[h];trivial
 rw[h'];show w4 ((ev g n false sc σ e).calm.bind fun v=>w2 m a [v]) _ _ _ _;have ho:=(ih g C X k env sc oa σ o s hg t).1;rw[h] at ho;rcases K4 (r:=ev g n false sc σ e) with z|⟨b,z,z'⟩
 ·rw[z];trivial
 rw[z'];show w4 (w2 m a [b]) _ _ _ _;have hs:=kJ (env:=env) (sc:=sc) (σ:=σ) (g:=g) (n:=n) (e:=e) (by rw[z];exact fun z=>by injection z);cases hd:w2 m a [b] with
 |stuck=>trivial
 |err l=>exact(xI hd).elim
 |ok d=>
  refine Call_method1 (jE m hb) hs (by simpa using hp) (wpAny_mono ho (fun v s₁ I6=> ?_) fun Z Z x=>x);have n7:=t.step I6.1;have he:=(ih g C X k env sc oa σ e s₁ hg n7).1;rw[z] at he;exact fP (FC (C:=C) (pos:=p) (E:=fun Z Z=>False) t.ok n7.inv t.sub I6.2 he hd) fun v s' q=>q.from I6.1
theorem BP (ih:I8 W n) (hg:C5 W k C.tb g) (t:J2 W C X k env sc oa σ s.heap) (o e f:Expr) (m:Str) (ap p:Pos) (hp:ap.endLine=p.line) (hb:R2 o=true):
  Ou C ((ev g n false sc σ o).calm.bind fun ov=>(ev g n false sc σ e).calm.bind fun v=>(ev g n false sc σ f).calm.bind fun u=>w2 m ov [v,u]) (eval (.Call (.Attribute o m ap) [e,f] [] p) env) (g5 C X oa s) (C6 C s) s:=by
 rcases K4 (r:=ev g n false sc σ o) with h|⟨a,h,h'⟩
 ·rw[h];trivial
 rw[h'];show w4 ((ev g n false sc σ e).calm.bind fun v=>(ev g n false sc σ f).calm.bind fun u=>w2 m a [v,u]) _ _ _ _;have ho:=(ih g C X k env sc oa σ o s hg t).1;rw[h] at ho;rcases K4 (r:=ev g n false sc σ e) with z|⟨b,z,z'⟩
 ·rw[z];trivial
 rw[z'];show w4 ((ev g n false sc σ f).calm.bind fun u=>w2 m a [b,u]) _ _ _ _;rcases K4 (r:=ev g n false sc σ f) with y|⟨c,y,y'⟩
 ·rw[y];trivial
 rw[y'];show w4 (w2 m a [b,c]) _ _ _ _;have hs:starEach [e,f] env=[(false,eval e env),(false,eval f env)]:=by
  rw[jC,kJ (env:=env) (sc:=sc) (σ:=σ) (g:=g) (n:=n) (e:=f) (by rw[y];exact fun z=>by injection z)]
  rintro x p rfl
  rw[cV] at z;injection z
 cases hd:w2 m a [b,c] with
 |stuck=>trivial
 |err l=>exact(xI hd).elim
 |ok d=>
  refine Call_method2 (jE m hb) hs (by simpa using hp) (wpAny_mono ho (fun v s₁ I6=> ?_) fun Z Z x=>x);have n7:=t.step I6.1;have he:=(ih g C X k env sc oa σ e s₁ hg n7).1;rw[z] at he;refine fP (FD (C:=C) (pos:=p) (E:=fun Z Z=>False) t.ok t.sub n7.inv t.wf I6.2 (wpAny_mono he (fun v' e7 B8=>⟨B8,?_⟩) fun Z Z x=>x) hd) fun v s' q=>q.from I6.1;have hf:=(ih g C X k env sc oa σ f e7 hg (n7.step B8.1)).1;rw[y] at hf;exact hf
theorem Y2 (p:Pos) {es:List Expr} (h:es.any Q1=false):(backTo p (starEach es env)).any (·.1)=false/\(es=[]->backTo p (starEach es env)=[])/\(∀e r,es=e::r->backTo p (starEach es env)=(false,eval e env)::backTo p (starEach r env)):=by
 induction es with
 |nil=>exact⟨rfl,fun Z=>rfl,fun e r z=>by injection z⟩
 |cons e r ih=>
  rw[List.any_cons,Bool.or_eq_false_iff] at h;have hs: ∀x p,e≠.Starred x p:=by rintro x p rfl;exact Bool.noConfusion h.1
  have key:backTo p (starEach (e::r) env)=(false,eval e env)::backTo p (starEach r env):=by rw[jC hs];rfl
  refine⟨?_,fun z=>(by injection z),fun e' r' z=> ?_⟩
  ·rw[key,List.any_cons,(ih h.2).1];rfl
  ·injection z with z z2;subst z;subst z2;exact key
theorem T9 {A:Around} {E:Value->Shared->Prop} {f:Value} (p:Pos) {es:List Expr} (h:es.any Q1=false) {Q:Args->Shared->Prop}
  (hq:wpAny (model prog w) A (spliced (backTo p (starEach es env))) (fun vs s'=>Q ⟨vs,[]⟩ s') E s):wpAny (model prog w) A (evalArgs f true (backTo p (starEach es env)) []) Q E s:=by
 refine n5 (Y2 (env:=env) p h) fun Z h1 h2=> ?_;cases es with
 |nil=>rw[h1 rfl] at hq ⊢;exact fun Γ p' VE=>PyProof.Rows.evalArgs_none (show Q ⟨[],[]⟩ s from hq Γ p' VE) Γ p' VE
 |cons e r=>rw[h2 e r rfl] at hq ⊢;exact Calls.evalArgs_plain hq
theorem KW {α β:Type} {r:R α} {F:Tr β} {P:α->β->Shared->Prop} {E:Int->Value->Shared->Prop} {z:Shared->Prop} (h:z s) (q:w4 r F P E s):w4 r (fun Q E s=>z s/\F Q E s) P E s:=by
 cases r with
 |stuck=>trivial
 |err l=>exact⟨h,q⟩
 |ok a=>exact⟨h,q⟩
theorem BQ {f:Str} (h:m9.contains f=true):(∃id,bootBuiltins f=some (.builtin id))\/ ∃T,bootBuiltins f=some (.type T):=by
 have: ∀f∈m9,(∃id,bootBuiltins f=some (.builtin id))\/ ∃T,bootBuiltins f=some (.type T):=by
  intro f hf;simp only[m9,List.mem_cons,List.not_mem_nil,or_false] at hf;rcases hf with rfl|rfl|rfl|rfl|rfl|rfl|rfl|rfl|rfl|rfl|rfl|rfl
  ·exact .inl ⟨_,tJ⟩
  ·exact .inl ⟨_,tK⟩
  ·exact .inl ⟨_,tL⟩
  ·exact .inr ⟨_,kF⟩
  ·exact .inr ⟨_,pM⟩
  ·exact .inl ⟨_,tM⟩
  ·exact .inl ⟨_,tN⟩
  ·exact .inl ⟨_,tO⟩
  ·exact .inl ⟨_,tP⟩
  ·exact .inr ⟨_,kH⟩
  ·exact .inl ⟨_,tQ⟩
  ·exact .inr ⟨_,tR⟩
 exact this f (List.contains_iff_mem.mp h)
theorem tS {f:Str} (h:m9.contains f=true):f≠"__name__":=by
 rintro rfl
 rw[List.contains_iff_mem] at h;simp only[m9,List.mem_cons,List.not_mem_nil,or_false,qP] at h;revert h;decide
theorem BR (ih:I8 W n) (hg:C5 W k C.tb g) (t:J2 W C X k env sc oa σ s.heap) (f:Str) (fp:Pos) (as:List Expr) (p:Pos) (hc:aJ sc f as=true) (hx:((g.fn f).isSome||m9.contains f)=true):
  Ou C ((B9 (ev g n false sc σ) as).bind fun vs=>aG g f vs) (eval (.Call (.Name f fp) as [] p) env) (g5 C X oa s) (C6 C s) s:=by
 unfold aJ at hc;rw[Bool.and_eq_true,Bool.and_eq_true] at hc;refine f8 hc fun z1n c3=> ?_;clear hc;refine f8 z1n fun c1 c2=> ?_;clear z1n;have hk:env.kindOf f=some .globalImplicit:=by
  rcases t.envOk.kinds f _ (by simpa using c1) with q|⟨q,_⟩
  ·exact q
  ·injection q
 have hd:(f==("__debug__":Str))=false:=by simpa using c2
 have hp:as.any Q1=false:=by simpa using c3
 have hargs:=Q3 ih hg p as t;cases hF:g.fn f with
 |some F=>
  refine X0 (hg.fn f F hF) fun a o fd h1 h2 h3 h4=> ?_;refine Ou.bind (F:=fun vs Q E s₁=>(s₁.heap.get? a=some o/\o.data=.func fd)/\wpAny (model prog w) C.A (call (.ref a) vs []) Q E s₁) (fun Q E h=> ?_) hargs fun as us s₁ Z q=> ?_
  ·refine wpAny_Call_NameR (Calls.Name_function_global t.envOk.kind hk (Calls.loadGlobal_global (mg:=W.mg) ?_ h1 ?_) hd)
   ·rw[t.envOk.globals];exact y6 t.wok.g t.inv.G
   ·exact Calls.callWith_function (o:=o) (fd:=fd) (T9 p hp h)
  ·have n7:=t.step q.1;refine KW (z:=fun s₁=>s₁.heap.get? a=some o/\o.data=.func fd) ⟨n7.inv.G _ _ h2,h3⟩ ?_;show w4 (aG g f as) _ _ _ _;unfold aG;rw[hF];simp only;by_cases hop:as.any V.open? =true
   ·rw[if_pos hop];trivial
   ·rw[if_neg hop];have hr:=q.2.plain (by simpa using hop);have key:=h4 C X s₁ us as t.ok t.wf Iff.rfl t.sub t.xg n7.live n7.inv hr;exact key.mono (fun d v s' Z z=>⟨q.1.trans z.1,z.2.any⟩) fun Z Z Z Z z=>z.from q.1 t.nt
 |none=>
  have hb:m9.contains f=true:=by rw[hF] at hx;simpa using hx
  refine Ou.bind (F:=fun vs Q E s₁=>wpAny (model prog w) C.A (call (cK f) vs []) Q E s₁) (fun Q E h=> ?_) hargs fun as us s₁ Z q=> ?_
  ·have hm:=hg.bi f hb hF;rcases BQ hb with⟨id,hv⟩|⟨T,hv⟩
   ·have hfv:cK f=.builtin id:=by unfold cK;rw[hv];rfl
    rw[hfv] at h;refine wpAny_Call_NameR (Calls.Name_function_global t.envOk.kind hk (Calls.loadGlobal_builtin (mg:=W.mg) (mb:=W.mb) ?_ hm ?_ ((t.wok.boot f (tS hb)).trans hv) ?_) hd)
    ·rw[t.envOk.globals];exact y6 t.wok.g t.inv.G
    ·rw[t.envOk.builtins];exact y6 t.wok.b t.inv.G
    ·exact Calls.callWith_builtin (Y2 p hp).1 (T9 p hp h)
   ·have hfv:cK f=.type T:=by unfold cK;rw[hv];rfl
    rw[hfv] at h;refine wpAny_Call_NameR (Calls.Name_function_global t.envOk.kind hk (Calls.loadGlobal_builtin (mg:=W.mg) (mb:=W.mb) ?_ hm ?_ ((t.wok.boot f (tS hb)).trans hv) ?_) hd)
    ·rw[t.envOk.globals];exact y6 t.wok.g t.inv.G
    ·rw[t.envOk.builtins];exact y6 t.wok.b t.inv.G
    ·exact PySem.callWith_type (Y2 p hp).1 (T9 p hp h)
  ·have n7:=t.step q.1;show w4 (aG g f as) _ _ _ _;unfold aG;rw[hF];simp only;split
   ·exact O4 t q.1 (PC t.ok n7.xn q.2)
   ·trivial
end
inductive tT:List (b9×Int)->List (Str×Value)->Prop
 |nil:tT [] []
 |cons (x:b9) (i:Int) (t:Tok) {a:List (b9×Int)} {b:List (Str×Value)}:tT a b->tT ((x,i)::a) ((S x,.int i t)::b)
theorem tT.keys {a:List (b9×Int)} {b:List (Str×Value)} (l:tT a b):b.map (·.1)=(a.map (·.1)).map S:=by
 induction l with
 |nil=>rfl
 |cons x i t r ih=>rw[List.map_cons,List.map_cons,List.map_cons,ih]
theorem zE: ∀{l:List b9},l.Nodup->(l.map S).Nodup
 |[],_=>.nil
 |x::r,h=>by
  rw[List.nodup_cons] at h;rw[List.map_cons,List.nodup_cons];refine⟨fun m=> ?_,zE h.2⟩;refine e8 (List.mem_map.mp m) fun y hy e=> ?_;exact h.1 (EK.mp e▸hy)
theorem tT.at {a:List (b9×Int)} {b:List (Str×Value)} (l:tT a b) (y:b9):match a.lookup y with|some i=> ∃t,valueAt b ⟨y.toArray⟩=some (.int i t)|none=>valueAt b ⟨y.toArray⟩=none:=by
 induction l with
 |nil=>rfl
 | @cons x i t a b r ih=>
  have hv:valueAt ((S x,Value.int i t)::b) ⟨y.toArray⟩=if S x=S y then some (.int i t) else valueAt b ⟨y.toArray⟩:=by
   unfold valueAt;rw[List.find?_cons];by_cases h:S x=S y
   ·have:decide ((S x,Value.int i t).1=(⟨y.toArray⟩:Str))=true:=decide_eq_true h;rw[this,if_pos h];rfl
   ·have:decide ((S x,Value.int i t).1=(⟨y.toArray⟩:Str))=false:=decide_eq_false h;rw[this,if_neg h]
  rw[hv,List.lookup_cons];by_cases h:y=x
  ·subst h;rw[beq_self_eq_true,if_pos rfl];exact⟨t,rfl⟩
  ·have h1:(y==x)=false:=by simpa using h
   have h2:S x≠S y:=fun e=>h (EK.mp e).symm;rw[h1,if_neg h2];exact ih
section
variable {W:Wd} {C:Cx} {X:Xs} {k:Nat} {env:Env} {sc:Scope} {oa:Option Addr} {σ:d9} {s s₁:Shared} {g:G} {n:Nat}
theorem kK (pos:Pos): ∀{ks:List (Option Expr)} {vs:List Expr} {kvs:List (b9×Int)},bS ks vs=some kvs->
  ∃pairs:List (Sem Value×Sem Value),(evalEachOpt ks env).zip ((evalEach vs env).map fun v=>do let x <-v;standAt pos;pure x)=pairs.map (fun p=>(some p.1,p.2))/\pairs.length=kvs.length/\
   ∀(A:Around) (s:Shared) (Q:List (Value×Value)->Shared->Prop) (E:Value->Shared->Prop),
    (∀ps b tk,Carries (PySem.strKind prog w) ps b->tT kvs b->Q ps {s with toks:=tk})->wpAny (model prog w) A (evalPairs pairs) Q E s
 |[],[],kvs,h=>⟨[],rfl,by rw[<-Option.some.inj h];rfl,fun A s Q E q=>evalPairs_nil (q [] [] s.toks trivial (Option.some.inj h▸.nil))⟩
 |[],_::_,kvs,h=>nomatch h
 |_::_,[],kvs,h=>nomatch h
 |e::ks,v::vs,kvs,h=>by
  refine e8 (Option.bind_eq_some_iff.mp h) fun x hx h=> ?_;refine e8 (Option.bind_eq_some_iff.mp h) fun i hi h=> ?_;refine e8 (Option.map_eq_some_iff.mp h) fun r hr h=> ?_;refine C0 (jW hx) fun j q e'=> ?_;refine C0 (jX hi) fun j' q' e''=> ?_;refine r6 (kK pos hr) fun pairs e1 e2 e3=> ?_;rw[e',e'',<-h];refine⟨(eval (.Constant (.str x) j q) env,do let x <-eval (.Constant (.int i) j' q') env;standAt pos;pure x)::pairs,congrArg (_:: ·) e1,congrArg Nat.succ e2,fun A s Q E hq=> ?_⟩;refine evalPairs_cons (wpAny_Constant_str (wpAny_bind (wpAny_Constant_int (wpAny_bind (wpAny_standAt (wpAny_pure ?_))))));refine e3 A _ _ E fun ps b tk hc hl=> ?_;refine hq _ ((S x.cps.toList,.int i _)::b) tk ⟨?_,rfl,hc⟩ (.cons _ _ _ hl);show Value.isStrOf (S x.cps.toList) (.str x s.toks)=true;rw[WL];simp[Value.isStrOf]
theorem FN (t:J2 W C X k env sc oa σ s.heap) (ks:List (Option Expr)) (vs:List Expr) (p:Pos):
  Ou C (needR (bS ks vs) fun kvs=>if 1<=kvs.length/\kvs.length<=15/\(kvs.map (·.1)).Nodup then R.ok (V.dict kvs) else .stuck) (eval (.Dict ks vs p) env) (g5 C X oa s) (C6 C s) s:=by
 refine Ou.need1 fun kvs h=>Ou.guard fun⟨h1,h2,h3⟩=> ?_;refine r6 (kK (env:=env) p h) fun pairs e1 e2 e3=> ?_;refine wpAny_Dict_pairs (knd:=PySem.strKind prog w) e1 (by rintro rfl;simp at e2;omega) (by omega) ?_;refine e3 C.A _ _ _ fun ps b tk hc hl=> ?_;refine⟨b,hc,Heap.DictOf.new _,fun h' hd hs=> ?_⟩;have hn:(b.map (·.1)).Nodup:=by rw[hl.keys];exact zE h3
 rw[merged_nil_of_nodup b hn] at hd;have old: ∀a o,s.heap.get? a=some o->h'.get? a=some o:=fun a o e=>(hs.2 a (Nat.ne_of_lt (Heap.lt_size e))).trans (Heap.get?_push_of_some _ e);refine⟨.of_keep old,.dict hd.mapOf ?_ (fun q=>Nat.lt_irrefl _ (t.xn _ q)) hl.at⟩;have hg:=t.wok.g;refine F5 hg fun o es ep ho Z=> ?_;clear hg;have:=Heap.lt_size (t.inv.G _ _ ho);intro q;rw[q] at this;exact absurd this (by decide)
end
theorem PH {o:Obj} {T:String} (hc:o.cls=.type T) (h:(["list","tuple","range","dict"]:List String).contains T=false): ¬I7 o:=by
 rintro ⟨e,_⟩
 rw[hc] at e;rcases e with e|e|e|e<;>(rw[Value.type.inj e] at h;exact absurd h (by decide))
noncomputable def zF (T:String):Bool:=T !="code" && !(["list","tuple","range","dict"]:List String).contains T && !(["enumerate","zip","dict_itemiterator","dict_reverseitemiterator","odict_iterator","itertools.zip_longest","itertools.pairwise"]:List String).contains T
noncomputable def WM (h:Heap) (I:Addr):Prop:= ∃o T vs,h.get? I=some o/\o.cls=.type T/\o.data=.fields vs/\zF T=true
structure DR (X:Xs) (I:Addr) (fp:List Addr) (items:List V) (P:Nat->Value->Prop) (St:Nat->Heap->Prop) (h:Heap):Prop where
 walks: ∀A:Around,A.handled=none->Walks prog w A I fp [I] items.length P St
 st:St 0 h
 fps: ∀b∈fp,b=I\/ ∃o,h.get? b=some o/\o.cls=.type "list"/\(∃vs n,o.data=.seq vs n)/\ ¬X b
 vals: ∀i v,i<items.length->P i v-> ∃d,items[i]? =some d/\Rp h X v d
 new: ∀a,X a->a≠I
 at_: ∀i h,St i h->WM h I
section
variable {W:Wd} {C:Cx} {X:Xs} {k:Nat} {env:Env} {sc:Scope} {oa:Option Addr} {σ:d9} {s s₁:Shared} {g:G} {n:Nat} {I:Addr} {fp:List Addr} {items:List V} {P:Nat->Value->Prop} {St:Nat->Heap->Prop} {h₀:Heap}
theorem DR.live (t:DR X I fp items P St h₀) (i:Nat) (h:Heap) (st:St i h): ∃o,h.get? I=some o/\o.cls≠.none/\o.cls≠.type "code"/\(∃vs,o.data=.fields vs)/\ ¬I7 o:=by
 refine X0 (t.at_ i h st) fun o T vs e hc hd hp=> ?_;refine f8 (Bool.and_eq_true_iff.mp hp) fun hp Z=> ?_;refine f8 (Bool.and_eq_true_iff.mp hp) fun h1 h2=> ?_;exact⟨o,e,fun z=>Value.noConfusion (hc.symm.trans z),fun z=>(bne_iff_ne.mp h1) (Value.type.inj (hc.symm.trans z)),⟨vs,hd⟩,PH hc (Bool.not_eq_true' _ |>.mp h2)⟩
theorem DR.go (t:DR X I fp items P St h₀) (A:Around) (E:Value->Shared->Prop) (i:Nat) (s:Shared) (v:Value) (tg:Expr) (Q:Unit->Shared->Prop) (ht:(∃x p,tg=.Name x p)\/(∃es j p,tg=.Tuple es j p)) (st:St i s.heap) (h:Q () s):
  wpAny (model prog w) A (letOwnedTupleGo tg (.ref I) v) Q E s:=by
 refine X0 (t.at_ i _ st) fun o T vs ho hc hd hp=> ?_;have hT:=Bool.not_eq_true' _ |>.mp (Bool.and_eq_true_iff.mp hp).2;rcases ht with⟨x,p,rfl⟩|⟨es,j,p,rfl⟩
 ·exact wpAny_pure h
 ·cases v with
  |ref a=>
   unfold letOwnedTupleGo;refine wpAny_bind (wpAny_load ho ?_);rw[hc,hd];show wpAny _ _ (if (_ &&_)=true then _ else _) _ _ _;rw[hT];exact wpAny_pure h
  |_=>exact wpAny_pure h
theorem zG {T:String} {x:b9} {t:Tok} (hw: ∀A:Around,A.handled=none->Walks prog w A I [I] [I] (S x).cps.size (SignAt (S x)) fun i h=>h.IsStrIter I T (S x) t i) (hT:zF T=true) (hnew: ∀a,X a->a≠I) (st:h₀.IsStrIter I T (S x) t 0):
  DR X I [I] (x.map fun c=>.str [c]) (SignAt (S x)) (fun i h=>h.IsStrIter I T (S x) t i) h₀ where
 walks A hA:=(List.length_map (as:=x) fun c=>V.str [c])▸hw A hA
 st:=st
 fps b hb:=.inl (List.mem_singleton.mp hb)
 vals i v hin hv:=by
  refine r0 hv fun c u e1 z2r=> ?_;clear hv;subst z2r;exact⟨.str [c],by rw[List.getElem?_map,show x[i]? =some c from List.getElem?_toArray.symm.trans e1];rfl,.str [c] u⟩
 new:=hnew
 at_ i h st:=r6 (st) fun o e1 e2 e3=>⟨o,T,_,e1,e2,e3,hT⟩
theorem FO {l:Addr} {o:Obj} {zs:List Value} {m:Nat} {ds:List V} (hnew: ∀a,X a->a≠I) (hl:l≠I) (st:h₀.IsListIter I l 0) (e1:h₀.get? l=some o) (e2:o.cls=.type "list") (e3:o.data=.seq zs.toArray m) (e4: ¬X l) (e5:Rps h₀ X zs ds):
  DR X I [I,l] ds (fun i v=>zs.toArray[i]? =some v) (fun i h=>h.IsListIter I l i/\h.IsList l zs.toArray) h₀ where
 walks A hA:=e5.items▸Walks.list hA I l hl zs.toArray
 st:=⟨st,o,e1,e2,m,e3⟩
 fps b hb:=(List.mem_cons.mp hb).imp id fun hb=>by rw[List.mem_singleton.mp hb];exact⟨o,e1,e2,⟨_,_,e3⟩,e4⟩
 vals i v hin hv:=by
  have hv:zs[i]? =some v:=List.getElem?_toArray.symm.trans hv;refine d6 (List.getElem?_eq_some_iff.mp hv) fun hj e=> ?_;refine d6 (e5.at hj) fun hd q=> ?_;exact⟨_,List.getElem?_eq_getElem hd,e▸q⟩
 new:=hnew
 at_ i h st:=r6 st.1 fun o e1 e2 e3=>⟨o,_,_,e1,e2,e3,by decide⟩
theorem KX {m:Nat} (hnew: ∀a,X a->a≠I) (st:IsRangeIter h₀ I 0 m 1):
  DR X I [I] ((List.range m).map fun(k:Nat)=>V.int (k:Int)) (fun i v=> ∃t,v=.int (0+i*1) t) (fun i h=>IsRangeIter h I (0+(i:Nat)*1) ((m:Int)-(i:Nat)) 1) h₀ where
 walks A hA:=by
  have e:m=((List.range m).map fun(k:Nat)=>V.int (k:Int)).length:=(List.length_map _ |>.trans List.length_range).symm;have:=Walks.range (prog:=prog) (w:=w) hA I 0 1 m;rw[<-e];exact this
 st:=by
  show IsRangeIter h₀ I (0+((0:Nat):Int)*1) ((m:Int)-((0:Nat):Int)) 1;rw[show(0+((0:Nat):Int)*1)=0 from rfl,show((m:Int)-((0:Nat):Int))=m from Int.sub_zero _];exact st
 fps b hb:=.inl (List.mem_singleton.mp hb)
 vals i v hin hv:=by
  refine d6 hv fun tk z1r=> ?_;clear hv;subst z1r;have hi':i<m:=by rwa[List.length_map,List.length_range] at hin
  refine⟨.int i,?_,?_⟩
  ·rw[List.getElem?_map,List.getElem?_range hi'];rfl
  ·rw[show(0+(i:Int)*1)=i by omega];exact .int _ _
 new:=hnew
 at_ i h st:=⟨_,_,_,st,rfl,rfl,by decide⟩
theorem tU (m:Int):Builtin.Range.rangeSize 0 m 1=m.toNat:=by
 unfold Builtin.Range.rangeSize;rw[if_pos (by decide)];by_cases h:(0:Int)<m
 ·rw[if_pos h,Int.ediv_one];omega
 ·rw[if_neg h];omega
theorem BS {m:Int} (hm:m.natAbs<=2 ^20):Builtin.Range.small 0 m 1=true:=by
 unfold Builtin.Range.small Builtin.Range.rangeFitsLong;rw[tU];simp only[Bool.and_eq_true,decide_eq_true_eq,Bool.or_eq_true,beq_iff_eq];refine⟨⟨⟨⟨⟨by decide,by decide⟩,by omega,by omega⟩,by decide,by decide⟩,by omega,by omega⟩,.inr ?_⟩;rw[if_pos (by decide)];simp only[Bool.and_eq_true,decide_eq_true_eq];omega
variable (C X s) in
noncomputable def tV (items:List V) (it:Value) (s₁:Shared):Prop:=
 ∃fp P St,it=.ref s.heap.objs.size/\k9 C s s₁/\(∀b o,s.heap.get? b=some o->s₁.heap.get? b=some o)/\DR X s.heap.objs.size fp items P St s₁.heap
theorem jF (ok:C.Ok k) (hf:Xn X s.heap) {u:Value} {iv:V} {items:List V} (r:B1 s.heap X oa u iv) (hi:s0 iv=.ok items):
  wpAny (model prog w) C.A (pyIter u) (tV C X s items) (fun Z Z=>False) s:=by
 have hnew: ∀a,X a->a≠s.heap.objs.size:=fun a x e=>Nat.lt_irrefl _ (e▸hf a x);have fin: ∀{o:Obj} {fp:List Addr} {P:Nat->Value->Prop} {St:Nat->Heap->Prop},DR X s.heap.objs.size fp items P St (s.heap.push o)->tV C X s items (.ref s.heap.objs.size) {s with heap:=s.heap.push o}:=
  fun q=>⟨_,_,_,rfl,.of_keep fun Z Z e=>Heap.get?_push_of_some _ e,fun Z Z e=>Heap.get?_push_of_some _ e,q⟩
 cases iv with
 |str x=>
  refine f8 (D6 hi) fun hx hi=> ?_;refine d6 (s6 r) fun t e=> ?_;rw[e];rw[<-v0 hi] at fin;cases ha:(S x).cps.all (· <128)
  ·exact wpAny_pyIter_wide ha (v0 hi▸fin (zG (T:="str_iterator") (fun A hA=>Walks.strWide hA _ _ _) (by decide) hnew ⟨_,Heap.get?_push_size _ rfl,rfl,rfl⟩))
  ·exact wpAny_pyIter_ascii ha (v0 hi▸fin (zG (T:="str_ascii_iterator") (fun A hA=>Walks.strAscii hA _ _ _) (by decide) hnew ⟨_,Heap.get?_push_size _ rfl,rfl,rfl⟩))
 |list ds=>
  refine f8 (D6 hi) fun hx hi=> ?_;refine X1 (dT r) fun l o zs m e e1 e2 e3 e4 e5=> ?_;rw[e];exact wpAny_pyIter_list ⟨o,e1,e2,m,e3⟩ (fin (FO hnew (Nat.ne_of_lt (Heap.lt_size e1)) ⟨_,Heap.get?_push_size _ rfl,rfl,rfl⟩ (Heap.get?_push_of_some _ e1) e2 e3 e4 (v0 hi▸e5.carry (.push _))))
 |rng m=>
  refine f8 (D6 hi) fun hm hi=> ?_;refine sW (Rp.inv r) fun l t u t' e hr hx=> ?_;rw[e];refine wpAny_pyIter_range hr (BS hm) ?_;rw[tU];exact fin (v0 hi▸KX hnew (Heap.get?_push_size _ rfl))
 |_=>injection hi
end
noncomputable def F7 (env:Env):List (Str×NameKind)->List (Str×Addr)->List (Str×Addr)
 |[],acc=>acc
 |(n,kd)::r,acc=>if kd==.free then F7 env r ((n,(env.cells.lookup n).getD 0)::acc) else F7 env r acc
theorem kL (env:Env) (f:Str×NameKind->List (Str×Addr)->Sem (ForInStep (List (Str×Addr)))):
  ∀(names:List (Str×NameKind)) (acc:List (Str×Addr)),(∀p∈names,p.2=.free-> ∃c,env.cells.lookup p.1=some c)->
   (∀n kd acc,f (n,kd) acc=if kd==.free then (do let c <-cellOf env n;pure (.yield ((n,c)::acc))) else pure (.yield acc))->
   forIn names acc f=pure (F7 env names acc)
 |[],acc,_,_=>by rw[List.forIn_nil];rfl
 |(n,kd)::r,acc,h,hf=>by
  rw[List.forIn_cons,hf];unfold F7;have ih:=fun acc=>kL env f r acc (fun p hp=>h p (List.mem_cons_of_mem _ hp)) hf;split
  ·rename_i hk;refine d6 (h (n,kd) List.mem_cons_self (by simpa using hk)) fun c hc=> ?_;have:cellOf env n=pure c:=by unfold cellOf;rw[hc]
   rw[this];simp only[pure_bind];rw[ih,hc];rfl
  ·simp only[pure_bind];exact ih acc
theorem Y3 {csc:Scope} {env:Env} (h: ∀p∈csc.names,p.2=.free-> ∃c,env.cells.lookup p.1=some c):closureFor csc env=pure (F7 env csc.names []):=by
 simp only[closureFor];rw[kL env _ csc.names [] h (fun n kd acc=>by
  cases hk:(kd==NameKind.free)<;>simp)]
 rfl
theorem jG (env:Env): ∀(names:List (Str×NameKind)) (acc:List (Str×Addr)) (x:Str) (c:Addr),env.cells.lookup x=some c->
  ((x,NameKind.free)∈names\/acc.lookup x=some c)->(F7 env names acc).lookup x=some c
 |[],acc,x,c,hc,h=>by
  rcases h with h|h
  ·cases h
  ·exact h
 |(n,kd)::r,acc,x,c,hc,h=>by
  unfold F7;by_cases hk:(kd==NameKind.free)=true
  ·rw[if_pos hk];refine jG env r _ x c hc ?_;rw[List.lookup_cons];by_cases e:x=n
   ·subst e;rw[beq_self_eq_true,hc];exact .inr rfl
   ·have:(x==n)=false:=by simpa using e
    rw[this];rcases h with h|h
    ·rcases List.mem_cons.mp h with q|q
     ·injection q with q q2;subst q;subst q2;exact absurd rfl e
     ·exact .inl q
    ·exact .inr h
  ·rw[if_neg hk];refine jG env r _ x c hc ?_;rcases h with h|h
   ·rcases List.mem_cons.mp h with q|q
    ·injection q with q q2;subst q;subst q2;exact absurd rfl hk
    ·exact .inl q
   ·exact .inr h
theorem aO {env:Env}: ∀{names:List (Str×NameKind)} {x:Str} {kd:NameKind},names.lookup x=some kd->
  (names.map fun(n,k)=>if (k==NameKind.free &&env.scope.kind==.function &&env.kindOf n==some .cell) then (n,NameKind.cell) else (n,k)).lookup x=some kd\/
  (kd=.free/\(names.map fun(n,k)=>if (k==NameKind.free &&env.scope.kind==.function &&env.kindOf n==some .cell) then (n,NameKind.cell) else (n,k)).lookup x=some .cell)
 |[],_,_,h=>by simp at h
 |(n,k)::r,x,kd,h=>by
  have ih:= @aO env r x kd;show List.lookup x ((if (k==NameKind.free &&env.scope.kind==.function &&env.kindOf n==some .cell)=true then (n,NameKind.cell) else (n,k))::_)=_\/(_/\List.lookup x ((if (k==NameKind.free &&env.scope.kind==.function &&env.kindOf n==some .cell)=true then (n,NameKind.cell) else (n,k))::_)=_);cases hx:x==n with
  |true=>
   simp only[List.lookup_cons,hx] at h;injection h with h;subst h;by_cases hc:(k==NameKind.free &&env.scope.kind==.function &&env.kindOf n==some .cell)=true
   ·rw[if_pos hc];refine .inr ⟨?_,by simp[List.lookup_cons,hx]⟩;rw[Bool.and_eq_true,Bool.and_eq_true] at hc;simpa using hc.1.1
   ·rw[if_neg hc];exact .inl (by simp[List.lookup_cons,hx])
  |false=>
   simp only[List.lookup_cons,hx] at h;by_cases hc:(k==NameKind.free &&env.scope.kind==.function &&env.kindOf n==some .cell)=true
   ·rw[if_pos hc];simp only[List.lookup_cons,hx];exact ih h
   ·rw[if_neg hc];simp only[List.lookup_cons,hx];exact ih h
theorem Y4 {env:Env}: ∀{names:List (Str×NameKind)} {x:Str} {kd:NameKind},
  (names.map fun(n,k)=>if (k==NameKind.free &&env.scope.kind==.function &&env.kindOf n==some .cell) then (n,NameKind.cell) else (n,k)).lookup x=some kd->
  (kd=.cell\/kd=.free)->(∀p∈names,p.2≠.cell)->(x,NameKind.free)∈names
 |[],_,_,h,_,_=>by simp at h
 |(n,k)::r,x,kd,h,hk,hn=>by
  have ih:=fun h'=> @Y4 env r x kd h' hk fun p hp=>hn p (List.mem_cons_of_mem _ hp);have h:List.lookup x ((if (k==NameKind.free &&env.scope.kind==.function &&env.kindOf n==some .cell)=true then (n,NameKind.cell) else (n,k))::_)=some kd:=h;cases hx:x==n with
  |true=>
   have e:x=n:=by simpa using hx
   subst e;by_cases hc:(k==NameKind.free &&env.scope.kind==.function &&env.kindOf x==some .cell)=true
   ·rw[Bool.and_eq_true,Bool.and_eq_true] at hc;have:k=.free:=by simpa using hc.1.1
    subst this;exact List.mem_cons_self
   ·rw[if_neg hc] at h;simp only[List.lookup_cons,hx] at h;injection h with h;subst h;rcases hk with q|q
    ·exact absurd q (hn (x,_) List.mem_cons_self)
    ·subst q;exact List.mem_cons_self
  |false=>
   by_cases hc:(k==NameKind.free &&env.scope.kind==.function &&env.kindOf n==some .cell)=true
   ·rw[if_pos hc] at h;simp only[List.lookup_cons,hx] at h;exact List.mem_cons_of_mem _ (ih h)
   ·rw[if_neg hc] at h;simp only[List.lookup_cons,hx] at h;exact List.mem_cons_of_mem _ (ih h)
theorem qZ {σ:d9} {sc csc:Scope} {x:Str} {v:V} (h:(i5 σ sc csc).get x=some v):
  σ.get x=some v/\csc.names.lookup x=some .free/\(sc.names.lookup x=some .cell\/sc.names.lookup x=some .free):=by
 unfold i5 d9.get at*;induction σ with
 |nil=>simp at h
 |cons p r ih=>
  obtain⟨y,u⟩:=p;rw[List.filter_cons] at h;rw[List.lookup_cons];split at h
  ·rename_i hp;rw[List.lookup_cons] at h;cases hxy:x==y with
   |true=>
    rw[hxy] at h;have e:x=y:=by simpa using hxy
    subst e;rw[Bool.and_eq_true,Bool.or_eq_true] at hp;refine⟨h,by simpa using hp.1,?_⟩;rcases hp.2 with q|q
    ·exact .inl (by simpa using q)
    ·exact .inr (by simpa using q)
   |false=>rw[hxy] at h;exact ih h
  ·rename_i hp;refine n5 (ih h) fun h1 h2 h3=> ?_;have hxy:(x==y)=false:=by
    cases q:x==y with
    |false=>rfl
    |true=>
     have e:x=y:=by simpa using q
     subst e;exfalso;apply hp;rw[Bool.and_eq_true,Bool.or_eq_true];refine⟨by simpa using h2,?_⟩;rcases h3 with z|z
     ·exact .inl (by simpa using z)
     ·exact .inr (by simpa using z)
   rw[hxy];exact⟨h1,h2,h3⟩
theorem gX {σ:d9} {t:Expr} {v:V} {l:Int} (h:s5 σ t v=.err l):False:=by
 rcases jZ (fun z=>nomatch z.symm.trans h) with⟨_,_,_,e⟩|⟨_,_,_,_,_,_,_,_,_,_,e⟩<;>(rw[e] at h;injection h)
theorem kM {α:Type} {r:R α} {l:Int}:r.calm≠.err l:=by cases r<;>intro h<;>cases h
theorem kN {α:Type} {f:α->R Bool} (hf: ∀x l,f x≠.err l): ∀(xs:List α) (l:Int),cR f xs≠.err l
 |[],l=>fun h=>by injection h
 |x::r,l=>by
  rw[fK];cases h:f x with
  |stuck=>exact fun z=>by injection z
  |err l'=>exact absurd h (hf x l')
  |ok b=>cases b with
   |true=>exact kN hf r l
   |false=>exact fun z=>by injection z
theorem kO {E T:d9->Expr->R V} {σ:d9} {t elt:Expr} {ifs:List Expr} {v:V} {l:Int}:F6 E T σ t elt ifs v≠.err l:=by
 unfold F6;cases h:s5 σ t v with
 |stuck=>exact fun z=>by injection z
 |err l'=>exact(gX h).elim
 |ok σ'=>
  show(cR _ ifs).bind _≠_;cases h2:cR (fun x=>((T σ' x).bind l7).calm) ifs with
  |stuck=>exact fun z=>by injection z
  |err l'=>exact absurd h2 (kN (fun Z Z=>kM) _ _)
  |ok c=>
   cases c with
   |false=>exact fun z=>by injection z
   |true=>
    show((E σ' elt).bind iL).calm.map some≠_;cases h3:((E σ' elt).bind iL).calm with
    |stuck=>exact fun z=>by injection z
    |err l'=>exact absurd h3 kM
    |ok _=>exact fun z=>by injection z
theorem aP {α β:Type} {f:α->R (Option β)} (hf: ∀x l,f x≠.err l): ∀(xs:List α) (l:Int),D4 f xs≠.err l
 |[],l=>fun h=>by injection h
 |x::r,l=>by
  show(f x).bind _≠_;cases h:f x with
  |stuck=>exact fun z=>by injection z
  |err l'=>exact absurd h (hf x l')
  |ok b=>
   show(D4 f r).map _≠_;cases h2:D4 f r with
   |stuck=>exact fun z=>by injection z
   |err l'=>exact absurd h2 (aP hf r l')
   |ok _=>exact fun z=>by injection z
section
variable {W:Wd} {C:Cx} {X:Xs} {k:Nat} {env:Env} {sc:Scope} {oa:Option Addr} {σ:d9} {s s₁:Shared} {g:G} {n:Nat}
theorem Rp.but {h h':Heap} {a:Addr} (hs: ∀b,b≠a->h'.get? b=h.get? b) (ha:X a\/ ∀o,h.get? a=some o-> ¬I7 o) {u:Value} {v:V} (r:Rp h X u v):Rp h' X u v:=
 r.carry fun b o e n d=>(hs b (by
  rintro rfl
  rcases ha with q|q
  ·exact n q
  ·exact q o e d)).trans e
theorem Rps.but {h h':Heap} {a:Addr} (hs: ∀b,b≠a->h'.get? b=h.get? b) (ha:X a\/ ∀o,h.get? a=some o-> ¬I7 o) {u:List Value} {v:List V} (r:Rps h X u v):Rps h' X u v:=
 r.carry fun b o e n d=>(hs b (by
  rintro rfl
  rcases ha with q|q
  ·exact n q
  ·exact q o e d)).trans e
theorem B1.but {h h':Heap} {a:Addr} (hs: ∀b,b≠a->h'.get? b=h.get? b) (ha:X a\/ ∀o,h.get? a=some o-> ¬I7 o) (hq: ∀o,h.get? a=some o-> ∀vs n,o.data≠.seq vs n) {u:Value} {v:V} (r:B1 h X oa u v):B1 h' X oa u v:=by
 rcases kA v with⟨ds,rfl⟩|q
 ·refine X1 r fun b o vs n e1 e2 e3 e4 e5 e6=> ?_;clear r;exact⟨b,o,vs,n,e1,e2,(hs b (by rintro rfl;exact hq o e3 _ _ e5)).trans e3,e4,e5,e6.but hs ha⟩
 ·exact B1.of ((r.plain q).but hs ha)
theorem D3 {h:Heap} {a:Addr} {m:Str->Option Value} (x:h.Ns a m): ∃o es ep,h.get? a=some o/\o.data=.dict es ep:=nJ (x) fun o es ep e d Z=>⟨o,es,ep,e,d⟩
theorem gY (t:St env oa X s.heap σ) (hk:env.scope.kind=.function) {x:Str} (hx:env.kindOf x=some .local) (hL:X env.locals) {u:Value} {v:V} (r:B1 s.heap X oa u v) {A:Around}:
  wpAny (model prog w) A (storeName env x u) (fun Z s'=> ∃h' tk,s'={s with heap:=h',toks:=tk}/\(∀b,b≠env.locals->h'.get? b=s.heap.get? b)/\St env oa X h' (σ.set x v)) (fun Z Z=>False) s:=by
 refine e8 t.vals fun m hm hv=> ?_;refine F5 (D3 hm) fun o es ep ho hd=> ?_;refine wpAny_storeName_local hx hm (fun h' hn hs=>⟨h',_,rfl,hs.2,?_⟩) (by rw[hk];rfl);have cell: ∀c v,s.heap.IsCell c v->h'.IsCell c v:=fun c v ⟨oc,e,d⟩=>⟨oc,(hs.2 c (by rintro rfl;rw[ho] at e;injection e with e;subst e;rw[hd] at d;injection d)).trans e,d⟩;have hq: ∀o',s.heap.get? env.locals=some o'-> ∀vs n,o'.data≠.seq vs n:=fun o' e vs n z=>by rw[ho] at e;injection e with e;subst e;rw[hd] at z;injection z
 refine⟨fun y hy=> ?_,_,hn,fun y z e=> ?_⟩
 ·refine r0 (t.cells y hy) fun c v h1 h2=> ?_;exact⟨c,v,h1,cell c v h2⟩
 ·rw[k7] at e;by_cases hyx:y=x
  ·subst hyx;rw[if_pos rfl] at e;injection e with e;subst e;exact⟨u,r.but hs.2 (.inl hL) hq,.inl ⟨hx,if_pos rfl⟩⟩
  ·rw[if_neg hyx] at e;refine e8 (hv y z e) fun u' hu hk'=> ?_;refine⟨u',hu.but hs.2 (.inl hL) hq,?_⟩;rcases hk' with⟨q,q'⟩|⟨q,c,hc,hi⟩
   ·exact .inl ⟨q,by rw[if_neg hyx];exact q'⟩
   ·exact .inr ⟨q,c,hc,cell c _ hi⟩
theorem xJ (t:St env oa X s.heap σ) (hk:env.scope.kind=.function) {x:Str} (hx:env.kindOf x=some .cell) (inj: ∀x y c,env.cells.lookup x=some c->env.cells.lookup y=some c->x=y) {u:Value} {v:V} (r:B1 s.heap X oa u v) {A:Around}:
  wpAny (model prog w) A (storeName env x u) (fun Z s'=> ∃h' tk c,s'={s with heap:=h',toks:=tk}/\env.cells.lookup x=some c/\(∀b,b≠c->h'.get? b=s.heap.get? b)/\St env oa X h' (σ.set x v)) (fun Z Z=>False) s:=by
 refine e8 t.vals fun m hm hv=> ?_;refine F5 (D3 hm) fun o es ep ho hd=> ?_;refine r0 (t.cells x (.inl hx)) fun c aK9 hc hi=> ?_;refine wpAny_storeName_cell hk hx hc hi fun h' hn hs=>⟨h',s.toks,c,rfl,hc,hs.2,?_⟩;refine e8 hi fun oc hoc hdc=> ?_;clear hi;have hLc:env.locals≠c:=by rintro e;rw[e,hoc] at ho;injection ho with ho;subst ho;rw[hdc] at hd;injection hd
 have hq: ∀o',s.heap.get? c=some o'-> ∀vs n,o'.data≠.seq vs n:=fun o' e vs n z=>by rw[hoc] at e;injection e with e;subst e;rw[hdc] at z;injection z
 have ha: ∀o',s.heap.get? c=some o'-> ¬I7 o':=fun o' e d=>by rw[hoc] at e;injection e with e;subst e;exact d.2 _ hdc
 have hm':h'.Ns env.locals m:=by
  refine F5 hm fun o es ep e r=> ?_;clear hm;exact⟨o,es,ep,(hs.2 _ hLc).trans e,r⟩
 refine⟨fun y hy=> ?_,m,hm',fun y z e=> ?_⟩
 ·refine r0 (t.cells y hy) fun c' v' h1 h2=> ?_;by_cases hcc:c'=c
  ·subst hcc;exact⟨c',_,h1,hn⟩
  ·refine e8 h2 fun o' e' d'=> ?_;clear h2;exact⟨c',v',h1,o',(hs.2 c' hcc).trans e',d'⟩
 ·rw[k7] at e;by_cases hyx:y=x
  ·subst hyx;rw[if_pos rfl] at e;injection e with e;subst e;exact⟨u,r.but hs.2 (.inr ha) hq,.inr ⟨.inl hx,c,hc,hn⟩⟩
  ·rw[if_neg hyx] at e;refine e8 (hv y z e) fun u' hu hk'=> ?_;refine⟨u',hu.but hs.2 (.inr ha) hq,?_⟩;rcases hk' with q|⟨q,c',hc',hi'⟩
   ·exact .inl q
   ·refine .inr ⟨q,c',hc',?_⟩;have hcc:c'≠c:=fun z=>hyx (inj y x c' hc' (z▸hc));refine e8 hi' fun o' e' d'=> ?_;clear hi';exact⟨o',(hs.2 c' hcc).trans e',d'⟩
theorem gZ {A:Around} {E:Value->Shared->Prop} {Q:Bool->Shared->Prop}: ∀(ifs:List Expr),Q false s->
  wpAny (model prog w) A (forIn ifs false fun c r=>if r=true then do let ok <-isTrue c env (eval c env);pure (ForInStep.yield ok) else pure (ForInStep.yield r)) Q E s
 |[],h=>by rw[List.forIn_nil];exact wpAny_pure h
 |c::r,h=>by
  rw[List.forIn_cons];simp only[Bool.false_eq_true,if_false,pure_bind];exact gZ r h
theorem tW (ih:I8 W n) (hg:C5 W k C.tb g): ∀(ifs:List Expr) {s:Shared} {b:Bool},J2 W C X k env sc oa σ s.heap->cR (fun x=>((ev g n true sc σ x).bind l7).calm) ifs=.ok b->
  wpAny (model prog w) C.A (forIn ifs true fun c r=>if r=true then do let ok <-isTrue c env (eval c env);pure (ForInStep.yield ok) else pure (ForInStep.yield r)) (fun ok s'=>ok=b/\k9 C s s') (fun Z Z=>False) s
 |[],s,b,t,h=>by injection h with h;subst h;rw[List.forIn_nil];exact wpAny_pure ⟨rfl,.refl⟩
 |c::r,s,b,t,h=>by
  rw[fK] at h;have h1:=(ih g C X k env sc oa σ c s hg t).2;rcases K4 (r:=(ev g n true sc σ c).bind l7) with e|⟨d,e,e'⟩
  ·rw[e] at h;injection h
  ·rw[e'] at h;rw[e] at h1;rw[List.forIn_cons];simp only[if_true];refine wpAny_bind (wpAny_bind (wpAny_mono h1 (fun z s₁ p=>wpAny_pure ?_) fun Z Z x=>x));refine f8 p fun st z1r=> ?_;clear p;subst z1r;have h:(if z=true then cR (fun x=>((ev g n true sc σ x).bind l7).calm) r else R.ok false)=R.ok b:=h;cases z with
   |true=>exact wpAny_mono (tW ih hg r (t.step st) h) (fun ok s' q=>⟨q.1,st.trans q.2⟩) fun Z Z x=>x
   |false=>injection h with h;subst h;exact gZ r ⟨rfl,st⟩
end
section
variable {W:Wd} {C:Cx} {X:Xs} {k:Nat} {env:Env} {sc:Scope} {oa:Option Addr} {σ:d9} {s s₁:Shared} {g:G} {n:Nat}
theorem tX {A:Around} {elt target iter:Expr} {ifs:List Expr} {scope:Scope} {pos:Pos} {it acc:Value} {env:Env} {R:Result->Shared->Prop} (I:Nat->Shared->Prop)
  (turn: ∀n s,I n s->wpAny (model prog w) A (pyNext it) (fun r s₁=>match r with
   |none=>R (.ok .next) s₁
   |some v=>wpAny (model prog w) A (letOwnedTupleGo target it v) (fun Z s₀=>wpAny (model prog w) A (assign target env v) (fun Z e7=>
     wpAny (model prog w) A (forIn ifs true fun c r=>if r=true then do let ok <-isTrue c env (eval c env);pure (ForInStep.yield ok) else pure (ForInStep.yield r)) (fun ok l6=>if ok=true then wpAny (model prog w) A (eval elt env) (fun x C4=>
      wpAny (model prog w) A (call (.builtin "list.append") [acc,x]) (fun Z C8=> ∃m,m<n/\I m C8) (fun Z Z=>False) C4) (fun Z Z=>False) l6
      else ∃m,m<n/\I m l6) (fun Z Z=>False) e7)
     (fun Z Z=>False) s₀) (fun Z Z=>False) s₁) (fun Z Z=>False) s)
  (n:Nat) (h:I n s):codeAny (model prog w) A (.compLoop (.ListComp elt [⟨target,iter,ifs,0⟩] scope pos) 0 it acc env) R s:=by
 refine codeAny_loop rfl I (fun n s hI=> ?_) n h;show wpAny _ A ((compTurn (.ListComp elt [⟨target,iter,ifs,0⟩] scope pos) 0 it acc env).onRaise (fun x=>do noteFrame x env;theTreesLotGoes x)) _ _ s;refine wpAny_noted ?_;rw[compTurn_list];refine wpAny_bind (wpAny_standAt (wpAny_bind (wpAny_mono (turn n s hI) (fun r s₁ y5=> ?_) fun Z Z h'=>h'.elim)));cases r with
 |none=>exact wpAny_pure y5
 |some v=>
  refine wpAny_bind (wpAny_mono y5 (fun Z s₀ UH=> ?_) fun Z Z h'=>h'.elim);refine wpAny_bind (wpAny_mono UH (fun Z e7 i8=> ?_) fun Z Z h'=>h'.elim);refine wpAny_bind (wpAny_mono i8 (fun okb l6 dK=> ?_) fun Z Z h'=>h'.elim);cases okb with
  |false=>exact wpAny_pure ⟨rfl,dK⟩
  |true=>exact wpAny_bind (wpAny_bind (wpAny_mono dK (fun x C4 YO=>wpAny_bind (wpAny_mono YO (fun Z C8 YP=>wpAny_pure (wpAny_pure ⟨rfl,YP⟩)) fun Z Z h'=>h'.elim)) fun Z Z h'=>h'.elim))
noncomputable def XC (X:Xs) (Cc D I:Addr):Xs:=fun a=>X a\/a=Cc\/a=D\/a=I
theorem J6 {csc:Scope} (h:s9 sc csc=true):(∀p∈csc.names,p.2≠.cell)/\(∀p∈csc.names,p.2=.local->csc.names.lookup p.1=some .local)/\
  (∀p∈csc.names,p.2=.free->sc.names.lookup p.1=some .cell\/sc.names.lookup p.1=some .free)/\csc.kind=.function:=by
 unfold s9 at h;rw[Bool.and_eq_true,List.all_eq_true] at h;refine f8 h fun h1 h2=> ?_;clear h;have h1:=fun p hp=>(Bool.and_eq_true_iff.mp (h1 p hp)).2;refine⟨fun p hp e=> ?_,fun p hp e=> ?_,fun p hp e=> ?_,by simpa using h2⟩
 ·have:=h1 p hp;rw[e] at this;simp at this
 ·have:=h1 p hp;rw[e] at this;simpa using this
 ·have:=h1 p hp;rw[e] at this;simpa using this
theorem zH {csc:Scope} (h:s9 sc csc=true) {kd:NameKind}:csc.names.lookup ("_law_told":Str)≠some kd:=fun e=>by
 unfold s9 at h;rw[Bool.and_eq_true,List.all_eq_true] at h;have:=(Bool.and_eq_true_iff.mp (h.1 _ (mem_of_lookup e))).1;simp at this
theorem kP {csc:Scope} (h:s9 sc csc=true) (t:V9 env sc) (Cc:Addr):V9 (compEnvC csc (F7 env csc.names []) Cc env) csc:=by
 refine Q0 (J6 h) fun h1 h2 h3 h4=> ?_;refine⟨by simpa[compEnvC,relabel] using h4,t.globals,t.builtins,fun x kd e=> ?_,fun e=>absurd e (zH h)⟩;exact aO e
theorem fQ {csc:Scope} (h:s9 sc csc=true) (ek:V9 env sc): ∀p∈csc.names,p.2=.free->env.kindOf p.1=some .cell\/env.kindOf p.1=some .free:=fun p hp e=>by
 refine Q0 (J6 h) fun h1 h2 h3 h4=> ?_;rcases h3 p hp e with q|q
 ·rcases ek.kinds _ _ q with z|⟨z,_⟩
  ·exact .inl z
  ·injection z
 ·rcases ek.kinds _ _ q with z|⟨_,z⟩
  ·exact .inr z
  ·exact .inl z
theorem R5 {csc:Scope} {h':Heap} (h:s9 sc csc=true) (ek:V9 env sc) (st:St env oa X h' σ): ∀p∈csc.names,p.2=.free-> ∃c,env.cells.lookup p.1=some c:=fun p hp e=>by
 refine r0 (st.cells _ (fQ h ek p hp e)) fun c v hc Z=> ?_;exact⟨c,hc⟩
theorem B1.more {h:Heap} {X X':Xs} {u:Value} {v:V} (kx: ∀a,X' a->X a\/ ∀o,h.get? a=some o-> ¬I7 o) (r:B1 h X oa u v):B1 h X' oa u v:=by
 rcases kA v with⟨ds,rfl⟩|q
 ·refine X1 r fun b o vs n e1 e2 e3 e4 e5 e6=> ?_;clear r;exact⟨b,o,vs,n,e1,e2,e3,e4,e5,e6.more kx⟩
 ·exact B1.of ((r.plain q).more kx)
theorem aQ {csc:Scope} (h:s9 sc csc=true) (ek:V9 env sc) (st:St env oa X s.heap σ)
  {cenv:Env} (hc:cenv.cells=F7 env csc.names []) (hk: ∀x kd,cenv.kindOf x=some kd->(kd=.cell\/kd=.free)->(x,NameKind.free)∈csc.names) (hk':V9 cenv csc) {m:Str->Option Value} (hn:s.heap.Ns cenv.locals m):
  St cenv oa X s.heap (i5 σ sc csc):=by
 refine e8 st.vals fun aL0 ZT hv=> ?_;refine⟨fun x hx=> ?_,m,hn,fun x v e=> ?_⟩
 ·have hf:(x,NameKind.free)∈csc.names:=by
   rcases hx with q|q
   ·exact hk x _ q (.inl rfl)
   ·exact hk x _ q (.inr rfl)
  refine r0 (st.cells x (fQ h ek _ hf rfl)) fun c' v e1 e2=> ?_;rw[hc];exact⟨c',v,jG env _ _ x c' e1 (.inl hf),e2⟩
 ·refine n5 (qZ e) fun e1 e2 e3=> ?_;refine e8 (hv x v e1) fun u hu hd=> ?_;have hf:(x,NameKind.free)∈csc.names:=mem_of_lookup e2;have hxk:=fQ h ek _ hf rfl;refine⟨u,hu,?_⟩;have hck:cenv.kindOf x=some .cell\/cenv.kindOf x=some .free:=by
   rcases hk'.kinds _ _ e2 with z|⟨_,z⟩
   ·exact .inr z
   ·exact .inl z
  rcases hd with⟨q,_⟩|⟨q,c,hcc,hi⟩
  ·rcases hxk with z|z<;>(rw[q] at z;cases z)
  ·exact .inr ⟨hck,c,by rw[hc];exact jG env _ _ x c hcc (.inl hf),hi⟩
theorem St.more {h:Heap} {X':Xs} (kx: ∀a,X' a->X a\/ ∀o,h.get? a=some o-> ¬I7 o) (st:St env oa X h σ):St env oa X' h σ:=by
 refine e8 st.vals fun m hm hv=> ?_;exact⟨st.cells,m,hm,fun x v e=>e8 (hv x v e) fun u hu hd=>⟨u,hu.more kx,hd⟩⟩
theorem St.keep {h h':Heap} {cenv:Env} (k: ∀b o,h.get? b=some o->h'.get? b=some o) (st:St cenv oa X h σ):St cenv oa X h' σ:=by
 refine e8 st.vals fun m hm hv=> ?_;have cell: ∀c v,h.IsCell c v->h'.IsCell c v:=fun c v ⟨oc,e,d⟩=>⟨oc,k _ _ e,d⟩;exact⟨fun x hx=>r0 (st.cells x hx) fun c v e1 e2=>⟨c,v,e1,cell c v e2⟩,m,y6 hm k,fun x v e=>e8 (hv x v e) fun u hu hd=>⟨u,hu.keep k,hd.imp id fun⟨q,c,hc,hi⟩=>⟨q,c,hc,cell c _ hi⟩⟩⟩
noncomputable def zI (cenv:Env) (oa:Option Addr) (X':Xs) (σ':d9) (s s':Shared):Prop:=
 ∃h' tk,s'={s with heap:=h',toks:=tk}/\(∀b o,b≠cenv.locals->s.heap.get? b=some o->h'.get? b=some o)/\(∃m,h'.Ns cenv.locals m)/\St cenv oa X' h' σ'
theorem pN {cenv:Env} {X':Xs} {csc:Scope} {t:Expr} {h0:C.A.handled=none} (st:St cenv oa X' s.heap σ) (hk:V9 cenv csc) (ht:X6 csc t=true) (hL:X' cenv.locals) {u:Value} {v:V} {σ':d9} (r:Rp s.heap X' u v) (hb:s5 σ t v=.ok σ'):
  wpAny (model prog w) C.A (assign t cenv u) (fun Z=>zI cenv oa X' σ' s) (fun Z Z=>False) s:=by
 have loc: ∀x,(csc.names.lookup x==some .local)=true->cenv.kindOf x=some .local:=fun x e=>by
  rcases hk.kinds _ _ (eq_of_beq e) with z|⟨z,_⟩
  ·exact z
  ·injection z
 have one: ∀{s:Shared} {x:Str} {u:Value} {d:V} {σ:d9} {E:Value->Shared->Prop},(csc.names.lookup x==some .local)=true->St cenv oa X' s.heap σ->Rp s.heap X' u d->wpAny (model prog w) C.A (storeName cenv x u) (fun Z=>zI cenv oa X' (σ.set x d) s) E s:=fun hx st r=>
  wpAny_mono (gY st hk.kind (loc _ hx) hL (.of r)) (fun _ s' ⟨h',tk,e1,e2,e3⟩=>e8 (e3.vals) fun m hm Z=>⟨h',tk,e1,fun b o n e=>(e2 b n).trans e,⟨m,hm⟩,e3⟩) fun Z Z x=>x.elim
 rcases jZ (V7 hb) with⟨x,p,rfl,e⟩|⟨x,px,y,py,j,p,a,b,rfl,rfl,e⟩
 ·rw[<-v0 (e.symm.trans hb)];exact wpAny_assign_Name (one ht st r)
 ·rw[<-v0 (e.symm.trans hb)];refine f8 (Bool.and_eq_true_iff.mp ht) fun hxy Z=> ?_;refine f8 (Bool.and_eq_true_iff.mp hxy) fun hx hy=> ?_;refine v8 (Q2 r) fun T zs z5r hT hr=> ?_;subst z5r;obtain⟨ua,zs',rfl,ra,hr⟩:=D2 hr;obtain⟨ub,zs',rfl,rb,hr⟩:=D2 hr;obtain rfl:=K2 hr;refine wpAny_assign_Tuple h0 (w9 hT) rfl rfl fun y5 he=> ?_;have keep: ∀b o,s.heap.get? b=some o->y5.get? b=some o:=fun b o e=>he b o (Nat.ne_of_lt (Heap.lt_size e)) e;have rb':=rb.carry (h':=y5) fun b o e Z Z=>keep b o e;show wpAny (model prog w) C.A (assignInOrder [assign (.Name x px) cenv,assign (.Name y py) cenv] [ua,ub]) _ _ _;refine wpAny_assignInOrder_more (wpAny_assign_Name (wpAny_mono (one (s:={s with heap:=y5}) hx (st.keep keep) (ra.carry fun b o e Z Z=>keep b o e)) (fun Z e7 q=> ?_) fun Z Z x=>x));refine cQ q fun i8 UI z2r e2 Z e3=> ?_;clear q;subst z2r;refine wpAny_assignInOrder_more (wpAny_assign_Name (wpAny_mono (one (s:={s with heap:=i8,toks:=UI}) hy e3 (rb'.carry fun b o e n Z=>e2 b o (fun q=>n (q▸hL)) e)) (fun Z l6 q=> ?_) fun Z Z x=>x));refine cQ q fun dK cP z1r e4 hm e5=> ?_;clear q;subst z1r;exact wpAny_assignInOrder_none ⟨dK,cP,rfl,fun b o n e=>e4 b o n (e2 b o n (keep b o e)),hm,e5⟩
end
theorem u9.new {h:Heap} {a:Addr} (t:o3 h) (ha:h.get? a=none):u9 h a:=fun x hx ps e pos q=>by
 refine f8 (t x hx) fun Z z10t=> ?_;refine r6 z10t fun ps' e' Z p3=> ?_;clear z10t;rw[e] at e';cases e';refine sW (p3 pos _ q) fun c o vs tq e1 e2 Z=> ?_;injection e1 with e1;subst e1;rw[ha] at e2;injection e2
theorem o6 {h:Heap} {a:Addr} (t:o3 h) (ha:h.get? a=none): ¬o4 a:=fun q=>by
 rcases q with q|q|q
 ·refine f8 (t (262,258,_) (.head _)) fun Z z9t=> ?_;refine e8 z9t fun ps z Z=> ?_;clear z9t;rw[q,z] at ha;injection ha
 ·refine f8 (t (267,265,_) (.tail _ (.head _))) fun Z z8t=> ?_;refine e8 z8t fun ps z Z=> ?_;clear z8t;rw[q,z] at ha;injection ha
 ·refine f8 (t (274,270,_) (.tail _ (.tail _ (.head _)))) fun Z z7t=> ?_;refine e8 z7t fun ps z Z=> ?_;clear z7t;rw[q,z] at ha;injection ha
theorem A2 {h:Heap} {a:Addr} (ha:h.objs.size<=a):h.get? a=none:=by
 cases e:h.get? a with
 |none=>rfl
 |some o=>exact absurd (Heap.lt_size e) (Nat.not_lt.mpr ha)
theorem Y5 {α β:Type} {r:R α} {f:α->R β} {d:β} (h:r.bind f=.ok d): ∃a,r=.ok a/\f a=.ok d:=by
 cases r with
 |ok a=>exact⟨a,rfl,h⟩
 |_=>cases h
theorem pO {α β:Type} {r:R α} {f:α->β} {d:β} (h:r.map f=.ok d): ∃a,r=.ok a/\f a=d:=by
 cases r with
 |ok a=>exact⟨a,rfl,v0 h⟩
 |_=>cases h
theorem xK {α:Type} {r:R α} {d:α} (h:r.calm=.ok d):r=.ok d:=by
 cases r with
 |ok a=>exact h
 |_=>injection h
theorem xL {iv:V} {items:List V} (h:s0 iv=.ok items):items.length<=i0:=by
 cases iv with
 |str x=>refine f8 (D6 h) fun q h=> ?_;rw[<-v0 h,List.length_map];exact q
 |list x=>refine f8 (D6 h) fun q h=> ?_;rw[<-v0 h];exact q
 |rng x=>refine f8 (D6 h) fun q h=> ?_;rw[<-v0 h,List.length_map,List.length_range];exact Nat.le_trans (by omega) q
 |_=>injection h
theorem BT {α β:Type} {f:α->R (Option β)} {xs:List α} {i:Nat} {ds:List β} (h:D4 f (xs.drop i)=.ok ds) (hi:i<xs.length):
  ∃o ds',f xs[i]=.ok o/\D4 f (xs.drop (i+1))=.ok ds'/\ds=(match o with|some v=>v::ds'|none=>ds'):=by
 rw[List.drop_eq_getElem_cons hi] at h;refine e8 (Y5 (r:=f xs[i]) h) fun o h1 h=> ?_;refine e8 (pO (r:=D4 f (xs.drop (i+1))) h) fun ds' h2 h=> ?_;exact⟨o,ds',h1,h2,by rw[<-h];cases o<;>rfl⟩
theorem FP {E T:d9->Expr->R V} {σ:d9} {t elt:Expr} {ifs:List Expr} {v:V} {o:Option V} (h:F6 E T σ t elt ifs v=.ok o):
  ∃σ' c,s5 σ t v=.ok σ'/\cR (fun x=>((T σ' x).bind l7).calm) ifs=.ok c/\((c=false/\o=none)\/c=true/\ ∃d,E σ' elt=.ok d/\d.open? =false/\o=some d):=by
 refine e8 (Y5 h) fun σ' h1 h=> ?_;refine e8 (Y5 h) fun c h2 h=> ?_;refine⟨σ',c,h1,h2,?_⟩;cases c with
 |false=>exact .inl ⟨rfl,(v0 h).symm⟩
 |true=>
  refine e8 (pO (r:=((E σ' elt).bind iL).calm) h) fun d h3 h=> ?_;refine e8 (Y5 (xK h3)) fun d' h4 h5=> ?_;by_cases hop:d'.open? =true
  ·rw[show iL d'=.stuck from if_pos hop] at h5;injection h5
  ·rw[show iL d'=.ok d' from if_neg hop] at h5;exact .inr ⟨rfl,d',h4,Bool.eq_false_iff.mpr hop,by rw[<-h,v0 h5]⟩
section
variable {W:Wd} {C:Cx} {X:Xs} {k:Nat} {env:Env} {sc:Scope} {oa:Option Addr} {σ:d9} {s s₁:Shared} {g:G} {n:Nat}
structure fR (C:Cx) (X':Xs) (s₁ e7:Shared) (Cc D I:Addr) (St:Nat->Heap->Prop) (i:Nat) (ds:List V) (s':Shared):Prop where
 step:k9 C s₁ s'
 st:St i s'.heap
 ns: ∃m,s'.heap.Ns Cc m
 acc: ∃o ys m,s'.heap.get? D=some o/\o.cls=.type "list"/\o.data=.seq (Array.mk ys) m/\Rps s'.heap X' ys ds
 nc:u9 s'.heap I
 carry:R3 X' e7.heap s'.heap
 len:ds.length<=i
theorem fR.ns' {X':Xs} {s₁ e7 s':Shared} {Cc D I:Addr} {St:Nat->Heap->Prop} {i:Nat} {ds:List V} (J:fR C X' s₁ e7 Cc D I St i ds s') {h:Heap} (k: ∀o,s'.heap.get? Cc=some o->h.get? Cc=some o): ∃m,h.Ns Cc m:=
 nK (J.ns) fun m o es ep e r=>⟨m,o,es,ep,k _ e,r⟩
structure aD (W:Wd) (C:Cx) (X:Xs) (k:Nat) (env:Env) (sc:Scope) (oa:Option Addr) (σ:d9) (s e7:Shared) (I D Cc:Addr) (fp:List Addr) (items:List V) (P:Nat->Value->Prop) (St:Nat->Heap->Prop):Prop where
 t:J2 W C X k env sc oa σ s.heap
 itn:DR X I fp items P St e7.heap
 st₂:k9 C s e7
 DC:D≠Cc
 ID:I≠D
 IC:I≠Cc
 sI:s.heap.get? I=none
 sD:s.heap.get? D=none
 sC:s.heap.get? Cc=none
 s₂D:e7.heap.get? D=none
 s₂C:e7.heap.get? Cc=none
section
variable {e7 s' s'':Shared} {I D Cc:Addr} {fp:List Addr} {items:List V} {P:Nat->Value->Prop} {St:Nat->Heap->Prop} (F:aD W C X k env sc oa σ s e7 I D Cc fp items P St) {i:Nat} {ds:List V} {i8:Heap} {tk:Nat} {a:Addr}
include F
theorem aD.nt (e:s.heap.get? a=none): ¬o4 a:=o6 F.t.inv.tabs e
theorem aD.nl (e:s.heap.get? a=none) (m:a∈C.locs):False:=by
 refine f8 (F.t.inv.locSome m) fun Z z6t=> ?_;refine e8 z6t fun o e' Z=> ?_;clear z6t;exact no (e.symm.trans e')
theorem aD.hxg (x:XC X Cc D I a):W.G.get? a=none:=by
 have hxn: ∀b,s.heap.get? b=none->W.G.get? b=none:=fun b e=>by
  cases q:W.G.get? b with
  |none=>rfl
  |some o=>exact no (e.symm.trans (F.t.inv.G _ _ q))
 rcases x with x|x|x|x
 ·exact F.t.xg a x
 ·exact x▸hxn _ F.sC
 ·exact x▸hxn _ F.sD
 ·exact x▸hxn _ F.sI
theorem aD.kx₁ (x:XC X Cc D I a):X a\/ ∀o,s.heap.get? a=some o-> ¬I7 o:=x.imp id fun x o e=>by
 rcases x with x|x|x
 ·exact no ((x▸F.sC).symm.trans e)
 ·exact no ((x▸F.sD).symm.trans e)
 ·exact no ((x▸F.sI).symm.trans e)
theorem aD.kx₂ (x:XC X Cc D I a):X a\/ ∀o,e7.heap.get? a=some o-> ¬I7 o:=x.imp id fun x o e=>by
 rcases x with x|x|x
 ·exact no ((x▸F.s₂C).symm.trans e)
 ·exact no ((x▸F.s₂D).symm.trans e)
 ·refine DU (F.itn.live 0 _ F.itn.st) fun oI eI Z Z Z nI=> ?_;rw[x,eI] at e;exact Option.some.inj e▸nI
theorem aD.fpk {b:Addr} (hb:b∈fp):b=I\/(b≠Cc/\b≠D/\b∉C.locs/\ ¬o4 b):=(F.itn.fps b hb).imp id fun⟨o,e,c,_,nx⟩=>
 ⟨fun q=>no (F.s₂C.symm.trans (q▸e)),fun q=>no (F.s₂D.symm.trans (q▸e)),fun m=>nx (F.t.sub _ (F.t.ok.locs b m)),fun z=>by
  refine d6 ((F.t.step F.st₂).inv.tabNone z) fun ps z'=> ?_;rw[e] at z';rw[Option.some.inj z'] at c;injection c⟩
theorem aD.mutI {h:Heap} (st:St i h) (nc:u9 h I):nM h I:=
 iJ (F.itn.live _ _ st) fun o e c1 c2 Z=>⟨o,e,.inr ⟨c1,c2,nc⟩⟩
theorem aD.but {i':Nat} {ds':List V} (J:fR C (XC X Cc D I) s e7 Cc D I St i ds s') (ha:a=Cc\/a=D\/a=I) (hk: ∀b o,b≠a->s'.heap.get? b=some o->i8.get? b=some o) (m:nM s'.heap a) (hst:St i' i8) (hns: ∃m,i8.Ns Cc m)
  (hacc: ∃o ys m,i8.get? D=some o/\o.cls=.type "list"/\o.data=.seq (Array.mk ys) m/\Rps i8 (XC X Cc D I) ys ds') (hl:ds'.length<=i'):fR C (XC X Cc D I) s e7 Cc D I St i' ds' {s' with heap:=i8,toks:=tk}:=by
 have xa:XC X Cc D I a:=.inr ha;have sa:s.heap.get? a=none:=ha.elim (fun e=>e▸F.sC) fun h=>h.elim (fun e=>e▸F.sD) fun e=>e▸F.sI;refine⟨?_,hst,hns,hacc,J.nc.but (F.t.step J.step).inv.tabs m hk,fun b o e nx dt=>hk b o (fun q=>nx (q▸xa)) (J.carry b o e nx dt),hl⟩;refine r0 J.step fun h' tk' e gr=> ?_;exact⟨i8,tk,by rw[e],gr.but sa F.t.inv.tabs (by rw[e] at m;exact m) (by rw[e] at hk;exact hk)⟩
omit F in
theorem aD.acc (J:fR C (XC X Cc D I) s e7 Cc D I St i ds s') (ha:a=Cc\/a=D\/a=I) (hn:a≠D) (hk: ∀b o,b≠a->s'.heap.get? b=some o->i8.get? b=some o):
  ∃o ys m,i8.get? D=some o/\o.cls=.type "list"/\o.data=.seq (Array.mk ys) m/\Rps i8 (XC X Cc D I) ys ds:=
 X0 (J.acc) fun o ys m e c d r=>⟨o,ys,m,hk _ _ hn.symm e,c,d,r.carry fun b o e nx Z=>hk b o (fun q=>nx (q▸.inr ha)) e⟩
theorem aD.frame (st:St i s'.heap) (ha:a=Cc\/a=D) (hk: ∀b o,b≠a->s'.heap.get? b=some o->i8.get? b=some o):St i i8:=
 (F.itn.walks _ F.t.ok.handled).frame _ _ _ st fun b hb o e=>hk b o (fun q=>by
  rcases F.fpk hb with z|⟨z1,z2,_⟩
  ·rcases ha with y|y
   ·exact F.IC (z.symm.trans (q.trans y))
   ·exact F.ID (z.symm.trans (q.trans y))
  ·rcases ha with y|y
   ·exact z1 (q.trans y)
   ·exact z2 (q.trans y)) e
theorem aD.goes (J:fR C (XC X Cc D I) s e7 Cc D I St i ds s') (iv:aM W C s'.heap) (g:k9 C s' s''):fR C (XC X Cc D I) s e7 Cc D I St i ds s'':=by
 have gr:=g.gr;have icar:R3 (XC X Cc D I) s'.heap s''.heap:=iv.carry F.t.ok gr fun a x=>.inl (F.t.sub a x);have kp: ∀{b o},s.heap.get? b=none->s'.heap.get? b=some o->s''.heap.get? b=some o:=fun sb e=>gr.keep _ _ e (fun z=>F.nt sb z.2) (F.nl sb);refine⟨J.step.trans g,(F.itn.walks _ F.t.ok.handled).frame _ _ _ J.st fun b hb o e=> ?_,J.ns' fun o=>kp F.sC,?_,?_,fun b o e nx dt=>icar b o (J.carry b o e nx dt) nx dt,J.len⟩
 ·rcases F.fpk hb with q|⟨_,_,q1,q2⟩
  ·exact kp (q▸F.sI) e
  ·exact gr.keep b o e (fun z=>q2 z.2) q1
 ·refine X0 J.acc fun o ys m e c d r=> ?_;exact⟨o,ys,m,kp F.sD e,c,d,r.carry icar⟩
 ·refine e8 (F.itn.live _ _ J.st) fun o e Z=> ?_;exact gr.codes iv.tabs I o e (F.nt F.sI) J.nc
theorem aD.sit {csc:Scope} {cenv:Env} {σ':d9} (J:fR C (XC X Cc D I) s e7 Cc D I St i ds s') (ek:V9 cenv csc) (st:Mine.St cenv oa (XC X Cc D I) s'.heap σ'):J2 W C (XC X Cc D I) k cenv csc oa σ' s'.heap:=
 have t:=F.t.step J.step
 ⟨F.t.wok,F.t.ok,F.t.wf,fun a x=>.inl (F.t.sub a x),fun a x=>F.hxg x,fun a x=>by
  rcases x with x|x|x|x
  ·exact t.live a x
  ·refine nK J.ns fun m o es ep e Z=> ?_;exact⟨x▸F.nt F.sC,x▸⟨o,e⟩⟩
  ·refine F5 J.acc fun o ys m e Z=> ?_;exact⟨x▸F.nt F.sD,x▸⟨o,e⟩⟩
  ·refine e8 (F.itn.live _ _ J.st) fun o e Z=> ?_;exact⟨x▸F.nt F.sI,x▸⟨o,e⟩⟩,t.inv,ek,st,fun a e=>.inl (F.t.oaX a e)⟩
end
theorem FQ {h:Heap} {a:Addr} (hn: ∃m,h.Ns a m):nM h a:=by
 refine d6 hn fun m hn=> ?_;refine F5 (D3 hn) fun o es ep e d=> ?_;exact⟨o,e,.inl fun vs z=>nomatch d.symm.trans z⟩
theorem BU (ih:I8 W n) (hg:C5 W k C.tb g) {csc:Scope} {tg elt:Expr} {ifs:List Expr} {e7 s':Shared} {I D Cc:Addr} {fp:List Addr} {items ds:List V} {P:Nat->Value->Prop} {St:Nat->Heap->Prop} (F:aD W C X k env sc oa σ s e7 I D Cc fp items P St)
  (hco:s9 sc csc=true) (hta:X6 csc tg=true) {i:Nat} {o:Option V} {v:Value} {i8:Heap} {tk:Nat} (hlt:i<items.length) (hlim:items.length<=i0) (J:fR C (XC X Cc D I) s e7 Cc D I St i ds s')
  (hturn:F6 (ev g n false csc) (ev g n true csc) (i5 σ sc csc) tg elt ifs items[i]=.ok o) (hv:P i v) (hst:St (i+1) i8) (hk: ∀b o,b≠I->s'.heap.get? b=some o->i8.get? b=some o) (Q:Shared->Prop)
  (hQ: ∀l6,fR C (XC X Cc D I) s e7 Cc D I St (i+1) (match o with|some d=>ds++[d]|none=>ds) l6->Q l6):
  wpAny (model prog w) C.A (letOwnedTupleGo tg (.ref I) v) (fun Z s₀=>wpAny (model prog w) C.A (assign tg (compEnvC csc (F7 env csc.names []) Cc env) v) (fun Z e7=>
     wpAny (model prog w) C.A (forIn ifs true fun c r=>if r=true then do let ok <-isTrue c (compEnvC csc (F7 env csc.names []) Cc env) (eval c (compEnvC csc (F7 env csc.names []) Cc env));pure (ForInStep.yield ok) else pure (ForInStep.yield r)) (fun ok l6=>if ok=true then wpAny (model prog w) C.A (eval elt (compEnvC csc (F7 env csc.names []) Cc env)) (fun x C4=>
      wpAny (model prog w) C.A (call (.builtin "list.append") [.ref D,x]) (fun Z C8=>Q C8) (fun Z Z=>False) C4) (fun Z Z=>False) l6
      else Q l6) (fun Z Z=>False) e7)
     (fun Z Z=>False) s₀) (fun Z Z=>False) {s' with heap:=i8,toks:=tk}:=by
 refine f8 (J6 hco) fun hn1 Z=> ?_;have ek:V9 (compEnvC csc (F7 env csc.names []) Cc env) csc:=kP hco F.t.envOk Cc;have cI:fR C (XC X Cc D I) s e7 Cc D I St (i+1) ds {s' with heap:=i8,toks:=tk}:=F.but J (.inr (.inr rfl)) hk (F.mutI J.st J.nc) hst (J.ns' fun o=>hk _ o F.IC.symm) (aD.acc J (.inr (.inr rfl)) F.ID hk) (Nat.le_succ_of_le J.len);refine e8 (F.itn.vals i v hlt hv) fun d hd rd=> ?_;obtain rfl:=Option.some.inj ((List.getElem?_eq_getElem hlt).symm.trans hd);have UJ:Rp i8 (XC X Cc D I) v items[i]:=(rd.more fun a=>F.kx₂).carry cI.carry;have stX:Mine.St env oa (XC X Cc D I) i8 σ:=(F.t.st.more fun a=>F.kx₁).gr F.t.ok F.t.inv cI.step.gr fun a x=>.inl (F.t.sub a x);refine d6 cI.ns fun mC nsC=> ?_;have cst:=aQ (s:=({s' with heap:=i8,toks:=tk}:Shared)) hco F.t.envOk stX (cenv:=compEnvC csc (F7 env csc.names []) Cc env) rfl (fun x kd e q=>Y4 e q hn1) ek nsC;refine v8 (FP hturn) fun σ' c hb hts hc=> ?_;refine F.itn.go _ _ (i+1) _ v tg _ (EI hta) hst ?_;refine wpAny_mono (pN (C:=C) (h0:=F.t.ok.handled) cst ek hta (.inr (.inl rfl)) UJ hb) (fun Z l6 q=> ?_) fun Z Z x=>x;refine cQ q fun dK cP z5r bP yP G8=> ?_;clear q;subst z5r;have bP: ∀b o,b≠Cc->i8.get? b=some o->dK.get? b=some o:=bP;have W7:fR C (XC X Cc D I) s e7 Cc D I St (i+1) ds {s' with heap:=dK,toks:=cP}:=F.but (s':={s' with heap:=i8,toks:=tk}) (tk:=cP) cI (.inl rfl) bP (FQ cI.ns) (F.frame (s':={s' with heap:=i8,toks:=tk}) cI.st (.inl rfl) bP) yP (aD.acc (s':={s' with heap:=i8,toks:=tk}) cI (.inl rfl) F.DC.symm bP) cI.len;have dM:=F.sit W7 ek G8;refine wpAny_mono (tW ih hg ifs (s:={s' with heap:=dK,toks:=cP}) dM hts) (fun okb C4 q=> ?_) fun Z Z x=>x;refine f8 q fun z4r AN=> ?_;clear q;subst z4r;have nE:=F.goes W7 dM.inv AN;rcases hc with⟨rfl,rfl⟩|⟨rfl,d,hel,hop,rfl⟩
 ·rw[if_neg (by decide)];exact hQ _ nE
 ·rw[if_pos rfl];have nF:=dM.step (s:={s' with heap:=dK,toks:=cP}) AN;have he:=(ih g C (XC X Cc D I) k (compEnvC csc (F7 env csc.names []) Cc env) csc oa σ' elt C4 hg nF).1;rw[hel] at he;refine wpAny_mono he (fun x C8 q=> ?_) fun Z Z x=>x;have Z5:=F.goes nE nF.inv q.1;refine X0 Z5.acc fun oD ys mD eD cD dD rD=> ?_;have hyl:(Array.mk ys).size=ds.length:=rD.length;refine wpAny_list_append ⟨oD,eD,cD,mD,dD⟩ (fun MU wF JG=>hQ _ ?_) (by rw[hyl];have:=J.len;have:=D5;omega);refine r6 wF fun QX QY QZ z3t=> ?_;clear wF;refine d6 z3t fun RA RB=> ?_;clear z3t;have wG: ∀b o,b≠D->C8.heap.get? b=some o->MU.get? b=some o:=fun b o nb e=>(JG.2 b nb).trans e;have c6:R3 (XC X Cc D I) C8.heap MU:=fun b o e nx Z=>wG b o (fun q=>nx (.inr (.inr (.inl q)))) e;exact F.but (tk:=C8.toks) Z5 (.inr (.inl rfl)) wG ⟨oD,eD,.inl fun vs z=>nomatch dD.symm.trans z⟩ (F.frame Z5.st (.inr rfl) wG) (Z5.ns' fun o=>wG _ o F.DC.symm)
   ⟨QX,ys++[x],RA,QY,QZ,by rw[RB];simp,(rD.carry c6).append (.cons ((q.2.plain hop).carry c6) .nil)⟩ (by rw[List.length_append];exact Nat.succ_le_succ J.len)
theorem kQ (ih:I8 W n) (hg:C5 W k C.tb g) (t:J2 W C X k env sc oa σ s.heap) {csc:Scope} {tg elt iter:Expr} {ifs:List Expr} {pos:Pos}
  (hco:s9 sc csc=true) (hta:X6 csc tg=true) {xv:Value} {iv:V} {items ds:List V} (r:B1 s.heap X oa xv iv) (hi:s0 iv=.ok items)
  (hp:D4 (F6 (ev g n false csc) (ev g n true csc) (i5 σ sc csc) tg elt ifs) items=.ok ds) (RR:Value->Addr->Result->Shared->Prop)
  (hRR: ∀D Cc I s',D≠Cc->s.heap.get? D=none->s.heap.get? Cc=none->s.heap.get? I=none->k9 C s s'->(∃m,s'.heap.Ns Cc m)->
   (∃o ys m,s'.heap.get? D=some o/\o.cls=.type "list"/\o.data=.seq (Array.mk ys) m/\Rps s'.heap (XC X Cc D I) ys ds)->RR (.ref D) Cc (.ok .next) s'):
  wpAny (model prog w) C.A (pyIter xv) (fun it e7=>wpAny (model prog w) C.A (newList []) (fun acc l6=>wpAny (model prog w) C.A (newFunctionEnv csc env.globals (F7 env csc.names []) [] env.qual none .none (some env)) (fun cenv C4=>
   codeAny (model prog w) C.A (.compStart (.ListComp elt [⟨tg,iter,ifs,0⟩] csc pos) 0 it acc {cenv with scope:=relabel csc env}) (RR acc cenv.locals) C4) (fun Z Z=>False) l6) (fun Z Z=>False) e7) (fun Z Z=>False) s:=by
 refine Q0 (J6 hco) fun hn1 hn2 hn3 hn4=> ?_;refine wpAny_mono (jF t.ok t.xn r hi) (fun it e7 q=> ?_) fun Z Z x=>x;refine X0 q fun fp P St z2r st₂ V4 itn=> ?_;clear q;subst z2r;generalize hI:s.heap.objs.size=I at itn ⊢;refine wpAny_newObj_type (wpAny_newFunctionEnv hn1 (by intro y hy;simp at hy) (fun y5 P3 S9=> ?_) hn4);dsimp only at P3 S9 ⊢;generalize hH2:e7.heap.push {cls:=.type "list",dict:=none,data:=.seq ([]:List Value).toArray}=H2 at P3 S9 ⊢;generalize hD:e7.heap.objs.size=D;have hC:H2.objs.size=D+1:=by rw[<-hH2,Heap.size_push,hD]
 generalize hCc:H2.objs.size=Cc at P3 S9 hC ⊢;have hID:I<D:=by
  refine e8 (itn.live 0 _ itn.st) fun oI eI Z=> ?_;rw[<-hD];exact Heap.lt_size eI
 have F:aD W C X k env sc oa σ s e7 I D Cc fp items P St:=
  have h1:D≠Cc:=by omega
  have h2:I≠D:=by omega
  have h3:I≠Cc:=by omega
  ⟨t,itn,st₂,h1,h2,h3,A2 (by omega),A2 (by omega),A2 (by omega),A2 (by omega),A2 (by omega)⟩
 have sS: ∀b o,e7.heap.get? b=some o->y5.get? b=some o:=fun b o e=>
  S9.extBut b o (fun q=>no (F.s₂C.symm.trans (q▸e))) (Heap.get?_push_of_some _ (hH2▸Heap.get?_push_of_some _ e))
 have hacc:y5.get? D=some {cls:=.type "list",dict:=none,data:=.seq ([]:List Value).toArray}:=
  S9.extBut _ _ F.DC (Heap.get?_push_of_some _ (hH2▸hD▸Heap.get?_push_size _ rfl))
 have nG:St 0 y5:=(itn.walks _ t.ok.handled).frame _ _ _ itn.st fun b Z o e=>sS b o e;have loop: ∀l6:Shared,l6={e7 with heap:=y5,toks:=e7.toks+([]:List (Str×Value)).length}->
   codeAny (model prog w) C.A (.compLoop (.ListComp elt [⟨tg,iter,ifs,0⟩] csc pos) 0 (.ref I) (.ref D) (compEnvC csc (F7 env csc.names []) Cc env)) (RR (.ref D) Cc) l6:=by
  intro l6 JH;refine tX (fun m s'=> ∃i JI dr,m=items.length+1-i/\i<=items.length/\D4 (F6 (ev g n false csc) (ev g n true csc) (i5 σ sc csc) tg elt ifs) (items.drop i)=.ok dr/\ds=JI++dr/\
   fR C (XC X Cc D I) s e7 Cc D I St i JI s') (fun m s' hJ=> ?_) (items.length+1) ⟨0,[],ds,by omega,by omega,hp,rfl,?_⟩
  ·refine OG hJ fun i JI dr z1r hile hdr hds J=> ?_;clear hJ;subst z1r;by_cases hlt:i<items.length
   ·refine v8 (BT hdr hlt) fun o dr' hturn hdr' hdro=> ?_;refine(itn.walks _ t.ok.handled).item i s' _ _ hlt J.st fun v i8 tk hv bQ T0=> ?_;refine BU ih hg F hco hta hlt (xL hi) J hturn hv bQ (fun b o nb e=>T0 b o (fun q=>nb (List.mem_singleton.mp q)) e) _ fun l6 W7=>
     ⟨items.length+1-(i+1),by omega,i+1,_,dr',rfl,hlt,hdr',?_,W7⟩
    rw[hds,hdro];cases o with
    |none=>rfl
    |some d=>simp
   ·refine(itn.walks _ t.ok.handled).done s' _ _ (by rw[show items.length=i by omega];exact J.st) fun i8 tk T0=> ?_;have V5: ∀b o,b≠I->s'.heap.get? b=some o->i8.get? b=some o:=fun b o nb e=>T0 b o (fun q=>nb (List.mem_singleton.mp q)) e;have hdr0:dr=[]:=by rw[List.drop_eq_nil_of_le (Nat.not_lt.mp hlt)] at hdr;exact(v0 hdr).symm
    rw[hdr0,List.append_nil] at hds;rw[hds] at hRR;refine hRR D Cc I _ F.DC F.sD F.sC F.sI ?_ (J.ns' fun o=>V5 _ o F.IC.symm) (aD.acc J (.inr (.inr rfl)) F.ID V5);have mI:=F.mutI J.st J.nc;refine r0 J.step fun h' tk' e gr=> ?_;exact⟨i8,tk,by rw[e],gr.but F.sI t.inv.tabs (by rw[e] at mI;exact mI) (by rw[e] at V5;exact V5)⟩
  ·rw[JH];refine⟨?_,nG,⟨_,P3⟩,⟨_,[],0,hacc,rfl,rfl,.nil⟩,((u9.new t.inv.tabs F.sI).keeps t.inv.tabs V4).keeps (t.step st₂).inv.tabs sS,fun b o e Z Z=>sS b o e,Nat.le_refl _⟩;refine r0 st₂ fun h' tk' e gr=> ?_;clear st₂;exact⟨y5,_,by rw[e],.of_keep fun b o e=>sS b o (V4 b o e)⟩
 exact codeAny_compStart_list (loop _ rfl) ((itn.walks _ t.ok.handled).self 0 _ _ _ nG (loop _ rfl))
end
theorem fT {iv:V}:NE (s0 iv):=by
 cases iv with
 |str x=>exact .or .ok .stuck
 |list x=>exact .or .ok .stuck
 |rng x=>exact .or .ok .stuck
 |_=>exact .stuck
section
variable {W:Wd} {C:Cx} {X:Xs} {k:Nat} {env:Env} {sc:Scope} {oa:Option Addr} {σ:d9} {s s₁:Shared} {g:G} {n:Nat}
theorem bW {e:Expr} (h:ev g n false sc σ e≠.stuck) (x:Value):foldedSetIterable e env x=pure x:=by
 cases e with
 |Set es p=>exact absurd (by cases n<;>rfl) h
 |_=>rfl
theorem BV (t:J2 W C X k env sc oa σ s.heap) {D Cc I:Addr} {s':Shared} {h':Heap} {ds:List V} (hDC:D≠Cc) (sD:s.heap.get? D=none) (sC:s.heap.get? Cc=none) (st:k9 C s s') (hn: ∃m,s'.heap.Ns Cc m)
  (hl: ∃o ys m,s'.heap.get? D=some o/\o.cls=.type "list"/\o.data=.seq (Array.mk ys) m/\Rps s'.heap (XC X Cc D I) ys ds) (hs:Heap.SameBut Cc s'.heap h'):
  g5 C X oa s (.list ds) (.ref D) {s' with heap:=h'}:=by
 refine X0 hl fun o ys m e1 e2 e3 e4=> ?_;clear hl;refine d6 hn fun mm hm=> ?_;clear hn;refine F5 (D3 hm) fun oc es ep e d=> ?_;refine⟨?_,.list (vs:=ys) ((hs.2 D hDC).trans e1) e2 e3 (fun x=> ?_) ((e4.but hs.2 (.inl (.inr (.inl rfl)))).less fun a x=>.inl x)⟩
 ·refine r0 st fun y5 tk z6r gr=> ?_;clear st;subst z6r;exact⟨h',tk,rfl,gr.but sC t.inv.tabs ⟨oc,e,.inl fun vs z=>by rw[d] at z;injection z⟩ fun b o nb e=>(hs.2 b nb).trans e⟩
 ·refine f8 (t.live D x) fun Z z5t=> ?_;refine d6 z5t fun o' e'=> ?_;clear z5t;rw[sD] at e';injection e'
theorem rA (ih:I8 W n) (hg:C5 W k C.tb g) (t:J2 W C X k env sc oa σ s.heap) (elt tg it:Expr) (ifs:List Expr) (csc:Scope) (p:Pos) (hc:(s9 sc csc &&X6 csc tg)=true):
  Ou C ((ev g n false sc σ it).bind fun iv=>(s0 iv).bind fun items=>(D4 (F6 (ev g n false csc) (ev g n true csc) (i5 σ sc csc) tg elt ifs) items).map V.list) (eval (.ListComp elt [⟨tg,it,ifs,0⟩] csc p) env) (g5 C X oa s) (C6 C s) s:=by
 rw[Bool.and_eq_true] at hc;refine Q0 (J6 hc.1) fun hn1 hn2 hn3 hn4=> ?_;have h1:=(ih g C X k env sc oa σ it s hg t).1;rw[eval_ListComp];cases hv:ev g n false sc σ it with
 |stuck=>trivial
 |err l=>
  rw[hv] at h1;exact wpAny_comprehension_free (use:=none) rfl (bW (g:=g) (n:=n) (sc:=sc) (σ:=σ) (by rw[hv];exact fun z=>by injection z)) (Y3 (R5 hc.1 t.envOk t.st)) hn4 hn2 (wpAny_mono h1 (fun Z Z x=>x.elim) fun Z Z x=>x)
 |ok iv=>
  rw[hv] at h1;show Ou C ((s0 iv).bind _) _ _ _ _;cases hi:s0 iv with
  |stuck=>trivial
  |err l=>exact absurd hi (fT _)
  |ok items=>
   show Ou C ((D4 _ items).map V.list) _ _ _ _;cases hp:D4 (F6 (ev g n false csc) (ev g n true csc) (i5 σ sc csc) tg elt ifs) items with
   |stuck=>trivial
   |err l=>exact absurd hp (aP (fun Z Z=>kO) _ _)
   |ok ds=>
    refine wpAny_comprehension_free (use:=none) rfl (bW (g:=g) (n:=n) (sc:=sc) (σ:=σ) (by rw[hv];exact fun z=>by injection z)) (Y3 (R5 hc.1 t.envOk t.st)) hn4 hn2
     (wpAny_mono h1 (fun xv s₁ q=> ?_) fun Z Z x=>x)
    have n7:=t.step q.1;refine kQ ih hg n7 hc.1 hc.2 q.2 hi hp (fun acc Cc=>compPost (model prog w) C.A (fun Z Z=>False) none (g5 C X oa s (.list ds)) acc Cc) ?_;intro D Cc I s' hDC sD sC sI st hn hl;refine d6 (id hn) fun m hm=> ?_;exact⟨m,hm,fun h' hs=>(BV n7 hDC sD sC st hn hl hs).from q.1⟩
theorem kR (ih:I8 W n) (hg:C5 W k C.tb g): ∀(vs:List Expr) {s:Shared},J2 W C X k env sc oa σ s.heap->
  Ou C (cR (fun x=>(ev g n true sc σ x).bind l7) vs) (allTrue .And vs env) (P5 C s) (C6 C s) s
 |[],s,t=>wpAny_pure ⟨.refl,rfl⟩
 |x::r,s,t=>by
  rw[fK];refine Ou.bind (fun Q E h=>wpAny_allTrue_And_cons h) (ih g C X k env sc oa σ x s hg t).2 fun b c s₁ Z q=> ?_;refine f8 q fun st z4r=> ?_;clear q;subst z4r;cases c with
  |true=>exact kI t st (kR ih hg r (t.step st))
  |false=>exact⟨st,rfl⟩
theorem kS (ih:I8 W n) (hg:C5 W k C.tb g): ∀(vs:List Expr) {s:Shared},J2 W C X k env sc oa σ s.heap->
  Ou C (sY (fun x=>(ev g n true sc σ x).bind l7) vs) (allTrue .Or vs env) (P5 C s) (C6 C s) s
 |[],s,t=>wpAny_pure ⟨.refl,rfl⟩
 |x::r,s,t=>by
  rw[AY];refine Ou.bind (fun Q E h=>wpAny_allTrue_Or_cons h) (ih g C X k env sc oa σ x s hg t).2 fun b c s₁ Z q=> ?_;refine f8 q fun st z3r=> ?_;clear q;subst z3r;cases c with
  |true=>exact⟨st,rfl⟩
  |false=>exact kI t st (kS ih hg r (t.step st))
theorem kT {r:R Bool}:(r.map V.bool).bind l7=r:=by cases r<;>rfl
theorem xM (ih:I8 W n) (hg:C5 W k C.tb g) (t:J2 W C X k env sc oa σ s.heap) (e:Expr) (he:isTrue e env (eval e env)=(do let v <-eval e env;standAt e.pos;holding [v] (truthy v))):
  Ou C (((ev g n false sc σ e).bind fun v=>(B2 v).map V.bool).bind l7) (isTrue e env (eval e env)) (P5 C s) (C6 C s) s:=by
 rw[R.bind_assoc];refine Ou.bind (fun Q E h=>wpAny_isTrue_value h he) (ih g C X k env sc oa σ e s hg t).1 fun a v s₁ Z q=> ?_;rw[kT];exact kI t q.1 (V8 q.2)
noncomputable def KY (W:Wd):Prop:= ∀(n:Nat),I8 W n-> ∀(g:G) (C:Cx) (X:Xs) (k:Nat) (env:Env) (sc:Scope) (oa:Option Addr) (σ:d9) (s:Shared),
 C5 W k C.tb g->J2 W C X k env sc oa σ s.heap-> ∀f fp as body lsc lp p,
 Ou C (ev g (n+1) false sc σ (.Call (.Name f fp) [.Lambda as body lsc lp] [] p)) (eval (.Call (.Name f fp) [.Lambda as body lsc lp] [] p) env) (g5 C X oa s) (C6 C s) s
theorem FR:I8 W 0:=fun Z Z Z Z Z Z Z Z Z Z Z Z=>⟨trivial,trivial⟩
variable (C X env sc oa σ s g n) in
noncomputable def RN (e:Expr):Prop:=Ou C (ev g (n+1) false sc σ e) (eval e env) (g5 C X oa s) (C6 C s) s
variable (C env sc σ s g n) in
noncomputable def WN (e:Expr):Prop:=Ou C ((ev g (n+1) true sc σ e).bind l7) (isTrue e env (eval e env)) (P5 C s) (C6 C s) s
theorem zJ (ih:I8 W n) (hg:C5 W k C.tb g) (t:J2 W C X k env sc oa σ s.heap) (l:Expr) (ops:List CmpOp) (rs:List Expr) (p:Pos):
  RN C X env sc oa σ s g n (.Compare l ops rs p)/\WN C env sc σ s g n (.Compare l ops rs p):=by
 rcases ops with _|⟨G7,_|⟨I3,_|_⟩⟩
 ·exact⟨trivial,trivial⟩
 ·rcases rs with _|⟨Z4,_|_⟩
  ·exact⟨trivial,trivial⟩
  ·exact KT ih hg t l Z4 G7 p
  ·exact⟨trivial,trivial⟩
 ·rcases rs with _|⟨Z4,_|⟨aE,_|_⟩⟩
  ·exact⟨trivial,trivial⟩
  ·exact⟨trivial,trivial⟩
  ·exact KU ih hg t l Z4 aE G7 I3 p
  ·exact⟨trivial,trivial⟩
 ·exact⟨trivial,trivial⟩
noncomputable def TC (v:Expr):Prop:=(∃x p,v=.Name x p)\/ ∀(g:G) n sc σ i p,ev g (n+1) false sc σ (.Subscript v i p)=.stuck
theorem PI (v:Expr):TC v:=by cases v<;>first|exact .inl ⟨_,_,rfl⟩|exact .inr fun _ _ _ _ _ _=>rfl
theorem KZ (ih:I8 W n) (hg:C5 W k C.tb g) (t:J2 W C X k env sc oa σ s.heap) (v i:Expr) (p:Pos):RN C X env sc oa σ s g n (.Subscript v i p):=by
 rcases PI v with z|z
 ·refine C0 z fun v vp e=> ?_;subst e;show Ou C (ED (ev g n false sc σ) (.Name v vp) i) _ _ _ _;unfold ED;cases h:X7 i with
  |none=>exact KV ih hg t v vp i p h
  |some q=>
   obtain⟨lo,hi,st⟩:=q;refine d6 (qQ h) fun sp z2r=> ?_;subst z2r;cases st with
   |none=>exact BM ih hg t v vp lo hi sp p
   |some _=>trivial
 ·unfold RN;rw[z];trivial
theorem FS (hlam:KY W) (ih:I8 W n) (hg:C5 W k C.tb g) (t:J2 W C X k env sc oa σ s.heap) (fn:Expr) (as:List Expr) (p:Pos):RN C X env sc oa σ s g n (.Call fn as [] p):=by
 cases fn with
 |Attribute o m ap=>
  refine Ou.guard fun h=> ?_;rcases as with _|⟨a,_|⟨b,_|_⟩⟩
  ·exact BN ih hg t o m ap p h.1 h.2
  ·exact BO ih hg t o a m ap p h.1 h.2
  ·exact BP ih hg t o a b m ap p h.1 h.2
  ·trivial
 |Name f fp=>
  cases h:oQ as with
  |some q=>
   refine d6 (xB h) fun lp z1r=> ?_;subst z1r;exact hlam n ih g C X k env sc oa σ s hg t f fp _ _ _ lp p
  |none=>
   show Ou C (tA g (ev g n false sc σ) _ sc (.Name f fp) as p) _ _ _ _;unfold tA;simp only[h];exact Ou.guard fun h=>BR ih hg t f fp as p h.1 h.2
 |_=>trivial
theorem pP (ih:I8 W n) (hg:C5 W k C.tb g) (t:J2 W C X k env sc oa σ s.heap) (op:BoolOp) (vs:List Expr) (p:Pos):
  RN C X env sc oa σ s g n (.BoolOp op vs p)/\WN C env sc σ s g n (.BoolOp op vs p):=by
 refine⟨?_,?_⟩
 ·rcases vs with _|⟨x,_|⟨y,r⟩⟩
  ·trivial
  ·cases op<;>exact(ih g C X k env sc oa σ x s hg t).1
  ·cases op with
   |And=>exact PF ih hg t x y r p
   |Or=>exact TB ih hg t x y r p
 ·have fin: ∀{r:R Bool} {T:Sem Bool} {U:Sem Bool},(∀Q E,wpAny (model prog w) C.A T Q E s->wpAny (model prog w) C.A U Q E s)->Ou C r T (P5 C s) (C6 C s) s->Ou C ((r.map V.bool).bind l7) U (P5 C s) (C6 C s) s:=by
   intro r T U hU key;rw[kT];cases r with
   |stuck=>trivial
   |err l=>exact hU _ _ key
   |ok b=>exact hU _ _ key
  cases op with
  |And=>exact fin (fun Q E h=>wpAny_isTrue_BoolOp h) (kR ih hg vs t)
  |Or=>exact fin (fun Q E h=>wpAny_isTrue_BoolOp h) (kS ih hg vs t)
theorem FU (hlam:KY W) (ih:I8 W n):I8 W (n+1):=by
 intro g C X k env sc oa σ e s hg t;show RN C X env sc oa σ s g n e/\WN C env sc σ s g n e;refine⟨?_,?_⟩
 ·cases e with
  |Constant c kk p=>exact BL t c kk p
  |Name x p=>exact O5 hg t x p
  |BinOp l op r p=>exact FI ih hg t l r op p
  |UnaryOp op x p=>
   cases op with
   |Not=>exact PD ih hg t x p
   |USub=>exact PE ih hg t x p
   |_=>trivial
  |IfExp c b o p=>exact FK ih hg t c b o p
  |BoolOp op vs p=>exact(pP ih hg t op vs p).1
  |Compare l ops rs p=>exact(zJ ih hg t l ops rs p).1
  |Tuple es j p=>exact FL ih hg t es j p
  |List es p=>exact FM ih hg t es p
  |Dict ks vs p=>exact FN t ks vs p
  |Subscript v i p=>exact KZ ih hg t v i p
  |Call fn as kws p=>
   cases kws with
   |nil=>exact FS hlam ih hg t fn as p
   |cons _ _=>trivial
  |ListComp elt gens csc p=>
   rcases gens with _|⟨⟨tg,it,ifs,a⟩,_|_⟩
   ·trivial
   ·refine Ou.guard fun hc=>Ou.guard fun ha=> ?_;subst ha;exact rA ih hg t elt tg it ifs csc p hc
   ·trivial
  |_=>trivial
 ·cases e with
  |UnaryOp op x p=>
   cases op with
   |Not=>
    show Ou C ((((ev g n true sc σ x).bind l7).map fun b=>V.bool !b).bind l7) _ _ _ _;rw[R.map_bind];refine Ou.bind (F:=fun b Q Z s=>Q (!b) s) (fun Q E h=>wpAny_isTrue_Not h) (ih g C X k env sc oa σ x s hg t).2 fun b c s₁ Z q=> ?_;exact⟨q.1,congrArg (!·) q.2⟩
   |_=>trivial
  |BoolOp op vs p=>exact(pP ih hg t op vs p).2
  |Compare l ops rs p=>exact(zJ ih hg t l ops rs p).2
  |IfExp c b o p=>trivial
  |_=>exact xM ih hg t _ rfl
theorem zK (hlam:KY W): ∀n,I8 W n
 |0=>FR
 |n+1=>FU hlam (zK hlam n)
end
section
noncomputable def DK (h h':Heap):Prop:= ∀a o,h.get? a=some o-> ∃o',h'.get? a=some o'/\o'.dict=o.dict
theorem DK.refl (h:Heap):DK h h:=fun Z o e=>⟨o,e,rfl⟩
theorem DK.trans {h h' h'':Heap} (a:DK h h') (b:DK h' h''):DK h h'':=fun x o e=>
 e8 (a x o e) fun K9 I4 dN=>e8 (b x K9 I4) fun RC oO RD=>⟨RC,oO,RD.trans dN⟩
theorem DK.of_keep {h h':Heap} (k: ∀b o,h.get? b=some o->h'.get? b=some o):DK h h':=fun a o e=>⟨o,k a o e,rfl⟩
structure F8 {α:Type} (t:Sem α):Prop where
 out: ∀(M:Model) (Γ:Ctx) (P:α->Pos->Shared->Prop) (E:Value->Pos->Shared->Prop) (p:Pos) (s:Shared),Sem.wp M Γ t P E p s->
  Sem.wp M Γ t (fun a p' s'=>P a p' s'/\DK s.heap s'.heap) (fun e p' s'=>E e p' s'/\DK s.heap s'.heap) p s
namespace F8
variable {α β:Type}
theorem pure (a:α):F8 (Pure.pure a:Sem α):=⟨fun Z Z Z Z Z s h=>⟨h,.refl _⟩⟩
theorem unsupported (w:String):F8 (PySem.unsupported w:Sem α):=⟨fun Z Z Z Z Z Z h=>h⟩
theorem bind {m:Sem α} {f:α->Sem β} (hm:F8 m) (hf: ∀a,F8 (f a)):F8 (m>>=f):=⟨fun M Γ P E p s h=>by
 rw[Sem.wp_bind'] at h ⊢;refine Sem.wp_mono M Γ m (fun a p' s' h'=> ?_) (fun e p' s' x=>x) p s (hm.out M Γ _ _ p s h);exact Sem.wp_mono M Γ (f a) (fun b p'' s'' q=>⟨q.1,h'.2.trans q.2⟩) (fun e p'' s'' q=>⟨q.1,h'.2.trans q.2⟩) p' s' ((hf a).out M Γ _ _ p' s' h'.1)⟩
theorem ite {c:Prop} [Decidable c] {t u:Sem α} (ht:F8 t) (hu:F8 u):F8 (if c then t else u):=by split<;>assumption
theorem load (a:Addr):F8 (PySem.load a):=⟨fun Z Z Z Z Z Z h=>e8 (h) fun o e q=>⟨o,e,q,.refl _⟩⟩
theorem update (a:Addr) (f:Obj->Obj) (hd: ∀o,(f o).dict=o.dict) (hf: ∀o,o.isFreed=false->(f o).isFreed=false):F8 (PySem.update a f):=⟨fun M Γ P E p s h=>by
 rw[Sem.wp_cmd_update] at h ⊢;refine⟨h.1,h.2,fun b o e=> ?_⟩;by_cases q:a=b
 ·subst q;exact⟨f o,Heap.get?_update_self f e (hf o (Heap.get?_some_iff.mp e).2),hd o⟩
 ·exact⟨o,(Heap.get?_update_other _ _ q).trans e,rfl⟩⟩
theorem stack:F8 PySem.stack:=⟨fun M Γ P E p s h=>by
 unfold PySem.stack at h ⊢;rw[Sem.wp_stack] at h ⊢;exact⟨h,.refl _⟩⟩
theorem alloc (o:Obj):F8 (PySem.alloc o):=⟨fun Z Z Z Z Z s h=>⟨h,.of_keep fun Z Z e=>Heap.get?_push_of_some _ e⟩⟩
theorem field (v:Value) (i:Nat):F8 (PySem.field v i):=⟨fun M Γ P E p s h=>by
 rw[wp_field_iff] at h ⊢;refine AR h fun a o vs x e ho hd hx q=> ?_;clear h;exact⟨a,o,vs,x,e,ho,hd,hx,q,.refl _⟩⟩
theorem aR (o:Obj) (f:Array Value->Array Value):(Obj.mapFields f o).dict=o.dict/\(o.isFreed=false->(Obj.mapFields f o).isFreed=false):=by
 obtain⟨c,d,dt,sl⟩:=o;cases dt<;>exact⟨rfl,fun h=>h⟩
theorem setField (v:Value) (i:Nat) (x:Value):F8 (PySem.setField v i x):=⟨fun M Γ P E p s h=>by
 rw[wp_setField_iff] at h ⊢;refine OG h fun a o vs e ho hd hi q=> ?_;clear h;refine⟨a,o,vs,e,ho,hd,hi,q,fun b o' e'=> ?_⟩;by_cases z:a=b
 ·subst z;exact⟨_,Heap.get?_update_self _ e' ((aR o' _).2 (Heap.get?_some_iff.mp e').2),(aR o' _).1⟩
 ·exact⟨o',(Heap.get?_update_other _ _ z).trans e',rfl⟩⟩
end F8
theorem xN (env:Env) (outer:List Env):F8 (behindIsImport env outer):=by
 unfold behindIsImport
 repeat' first|exact F8.pure _|exact F8.field _ _|apply F8.ite|apply F8.bind|intro _
theorem xO:F8 underTheClaimsCaller:=by
 unfold underTheClaimsCaller
 repeat' first|exact F8.pure _|exact F8.stack|apply F8.bind|intro _
theorem FV (env:Env) (i:Bool) (l:List Env):F8 (keptBack env i l):=by
 have:=xO;cases l<;>unfold keptBack<;>repeat' first|assumption|exact F8.pure _|apply F8.ite|apply F8.bind|intro _
theorem pQ: ∀l:List Env,F8 (readyFrames l)
 |[]=>F8.pure _
 |env::outer=>by
  have ih:=pQ outer;have h1:=xN env outer;have h2:=fun i=>FV env i outer;unfold readyFrames;split
  ·repeat' first|assumption|exact F8.pure _|exact F8.load _|exact h2 _|exact F8.update _ _ (fun Z=>rfl) (fun o h=>by obtain⟨c,d,dt,sl⟩:=o;cases dt<;>first|rfl|exact h)|apply F8.ite|apply F8.bind|intro _
  ·exact F8.unsupported _
theorem iN (l:List Env):F8 (frameObject l):=by
 cases l with
 |nil=>exact F8.pure _
 |cons env outer=>
  have:=pQ (env::outer);unfold frameObject;exact F8.bind this fun Z=>F8.pure _
theorem nP:F8 frameEnvs:=by
 unfold frameEnvs;exact F8.bind F8.stack fun Z=>F8.pure _
theorem tY (env:Env):F8 (PySem.frameOf env):=by
 unfold PySem.frameOf;refine F8.bind nP fun l=>F8.bind (iN _) fun r=> ?_;cases r with
 |none=>exact F8.unsupported _
 |some f=>exact F8.pure _
theorem kU (f:Addr) (b:Bool):F8 (entryPlaceOf f b):=by
 unfold entryPlaceOf;refine F8.bind F8.stack fun l=> ?_;split<;>exact F8.pure _
theorem rB (a b c d e:Value) (pl:List Value):F8 (EntryCells.newEntry a b c d e pl):=by
 unfold EntryCells.newEntry newFields newObj
 repeat' first|exact F8.pure _|exact F8.alloc _|exact F8.unsupported _|apply F8.ite|apply F8.bind|intro _|split
theorem cL (e:Value) (env:Env):F8 (noteFrame e env):=by
 have h1:=tY env;have h2:=kU;have h3:=rB;unfold noteFrame;split
 ·repeat' first|assumption|exact h2 _ _|exact h3 _ _ _ _ _ _|exact F8.pure _|exact F8.field _ _|exact F8.setField _ _ _|apply F8.ite|apply F8.bind|intro _
 ·exact F8.unsupported _
theorem U7 (e:Value) (f:Option Addr):F8 (setFlight e f):=by
 unfold setFlight
 repeat' first|exact F8.pure _|exact F8.field _ _|exact F8.setField _ _ _|apply F8.ite|apply F8.bind|intro _
theorem hH (e:Value) (env:Env):F8 (leaving env e):=by
 unfold leaving;exact F8.bind (cL e env) fun Z=>U7 e none
theorem F8.any {α:Type} {t:Sem α} (d:F8 t) {M:Model} {A:Around} {Q:α->Shared->Prop} {E:Value->Shared->Prop} {s:Shared} (h:wpAny M A t Q E s):
  wpAny M A t (fun a s'=>Q a s'/\DK s.heap s'.heap) (fun e s'=>E e s'/\DK s.heap s'.heap) s:=fun Γ p VE=>d.out M Γ _ _ p s (h Γ p VE)
theorem Y0.goes {h h':Heap} {e:Addr} {l:Int} (x:Y0 h e l) (k:DK h h') (u:h.UpToSlots h'):Y0 h' e l:=by
 refine sX x fun o d m t e1 e2 e3 e4=> ?_;clear x;refine e8 (k _ _ e1) fun o' e1' e2'=> ?_;exact⟨o',d,m,t,e1',e2'.trans e2,u.ns e3,e4⟩
section
variable {W:Wd} {C:Cx} {env:Env} {s s₁:Shared} {k:Nat}
theorem kW {C₀:Cx} {L:Addr} {l:Int} {e:Value} {s':Shared} (hfr:C.A.frames=some C.fr) (hc:C.fr=env::C₀.fr) (hb:C.base=C₀.base) (hf:env.frame=some L)
  (h:C6 C s l e s'):wpAny (model prog w) C.A (leaving env e) (fun Z s''=>C6 C₀ s l e s'') (fun Z Z=>False) s':=by
 refine AR h fun ae a0 h' tk z2r z3r f u li=> ?_;clear h;subst z2r;subst z3r;have key:=(hH (.ref ae) env).any (wpAny_leaves_onW (M:=model prog w) (A:=C.A) (E:=fun Z Z=>False) (s:={s with heap:=h',toks:=tk}) (outer:=C₀.fr) (Q:=fun Z s''=> ∃h'',s''={s with heap:=h'',toks:=tk}/\Heap.FlyingW C₀.base C₀.fr ae kB a0 h''/\h'.UpToSlots h'') (by rw[hfr,hc]) hf (by rw[<-hc];exact f)
  fun h'' f' u'=>⟨h'',rfl,hb▸f',u'⟩)
 refine wpAny_mono key (fun Z s'' q=> ?_) fun Z Z x=>x.1;refine f8 q fun z1n d=> ?_;clear q;refine r6 z1n fun h'' z1r f' u'=> ?_;clear z1n;subst z1r;exact⟨ae,a0,h'',tk,rfl,rfl,f',u.trans u',li.goes d u'⟩
end
end
noncomputable def Xo (C:Cx) (oa:Option Addr):Xs:=fun a=>C.X a\/oa=some a
structure L9 (W:Wd) (C C₀:Cx) (env:Env) (sc:Scope) (s₀:Shared):Prop where
 fr:C.fr=env::C₀.fr
 base:C.base=C₀.base
 frame:env.frame=some env.locals
 kinds: ∀x,env.kindOf x=sc.names.lookup x
 inj: ∀x y c,env.cells.lookup x=some c->env.cells.lookup y=some c->x=y
 newL:s₀.heap.get? env.locals=none
 newC: ∀x c,env.cells.lookup x=some c->s₀.heap.get? c=none
 XL:C.X env.locals
 base₀:C.base.StaysIn s₀.heap
 G₀: ∀b o,W.G.get? b=some o->s₀.heap.get? b=some o
 tabs₀:o3 s₀.heap
 nofree: ∀x,sc.names.lookup x≠some .free
 cellk: ∀x c,env.cells.lookup x=some c->sc.names.lookup x=some .cell
structure j7 (W:Wd) (C:Cx) (k:Nat) (env:Env) (sc:Scope) (s₀:Shared) (opn:Option Str) (oa:Option Addr) (σ:d9) (s:Shared):Prop where
 step:k9 C s₀ s
 sit:J2 W C (Xo C oa) k env sc oa σ s.heap
 newo: ∀a,oa=some a->s₀.heap.get? a=none/\ ¬C.X a
 only: ∀y v,σ.get y=some v->v.open? =true->opn=some y
structure t9 (C:Cx) (env:Env) (oa:Option Addr) (h:Heap) (oa':Option Addr) (h':Heap):Prop where
 keep: ∀b o,h.get? b=some o->b∉C.locs-> ¬o4 b->(∀x c,env.cells.lookup x=some c->b≠c)->oa≠some b->h'.get? b=some o
 live: ∀b o,h.get? b=some o-> ∃o',h'.get? b=some o'
 codes: ∀b o,h.get? b=some o-> ¬o4 b->u9 h b->u9 h' b
 oaf:oa'=oa\/ ∀a,oa'=some a->h.get? a=none
noncomputable def PJ (h:Heap) (X:Xs):Fl->Flow->Prop
 | .next,f=>f=.next
 | .brk,f=>f=.brk
 | .ret v,f=> ∃u,f=.ret u/\Rp h X u v
noncomputable def A5 (W:Wd) (C:Cx) (k:Nat) (env:Env) (sc:Scope) (s₀:Shared) (opn:Option Str) (oa:Option Addr) (s:Shared) (p:Fl×d9) (f:Flow) (s':Shared):Prop:=
 ∃oa',j7 W C k env sc s₀ opn oa' p.2 s'/\t9 C env oa s.heap oa' s'.heap/\PJ s'.heap C.X p.1 f
noncomputable def E9 (C C₀:Cx) (env:Env) (s₀:Shared) (l:Int) (e:Value) (s':Shared):Prop:=
 wpAny (model prog w) C.A (leaving env e) (fun Z s''=>C6 C₀ s₀ l e s'') (fun Z Z=>False) s'
section
variable {W:Wd} {C C₀:Cx} {X:Xs} {k:Nat} {env:Env} {sc:Scope} {oa oa' oa'':Option Addr} {σ σ':d9} {s₀ s s₁ s':Shared} {g:G} {n:Nat} {opn:Option Str} {h h' h'':Heap}
theorem t9.of_gr (t:o3 h) (gr:Gr C h h'):t9 C env oa h oa h':=
 ⟨fun b o e n m Z Z=>gr.keep b o e (fun z=>m z.2) n,fun b o e=>by
  by_cases q:C.tb/\o4 b
  ·refine f8 q fun Z q=> ?_;have t':=gr.tabs t;rcases q with q|q|q
   ·refine f8 (t' (262,258,_) (.head _)) fun Z z8t=> ?_;refine e8 z8t fun ps z Z=> ?_;clear z8t;exact⟨_,q▸z⟩
   ·refine f8 (t' (267,265,_) (.tail _ (.head _))) fun Z z7t=> ?_;refine e8 z7t fun ps z Z=> ?_;clear z7t;exact⟨_,q▸z⟩
   ·refine f8 (t' (274,270,_) (.tail _ (.tail _ (.head _)))) fun Z z6t=> ?_;refine e8 z6t fun ps z Z=> ?_;clear z6t;exact⟨_,q▸z⟩
  ·refine d6 (gr.slots b o e q) fun sl e'=> ?_;exact⟨_,e'⟩,fun b o e nt nc=>gr.codes t b o e nt nc,.inl rfl⟩
theorem t9.refl:t9 C env oa h oa h:=⟨fun Z Z e Z Z Z Z=>e,fun Z o e=>⟨o,e⟩,fun Z Z Z Z nc=>nc,.inl rfl⟩
theorem t9.trans (a:t9 C env oa h oa' h') (b:t9 C env oa' h' oa'' h''):t9 C env oa h oa'' h'':=by
 refine⟨fun x o e n m c q=> ?_,fun x o e=> ?_,fun x o e m nc=> ?_,?_⟩
 ·refine b.keep x o (a.keep x o e n m c q) n m c fun z=> ?_;rcases a.oaf with y|y
  ·rw[y] at z;exact q z
  ·have:=y x z;rw[e] at this;injection this
 ·refine d6 (a.live x o e) fun o' e'=> ?_;exact b.live x o' e'
 ·refine d6 (a.live x o e) fun o' e'=> ?_;exact b.codes x o' e' m (a.codes x o e m nc)
 ·rcases b.oaf with y|y
  ·rw[y];exact a.oaf
  ·refine .inr fun x z=> ?_;cases e:h.get? x with
   |none=>rfl
   |some o=>refine d6 (a.live x o e) fun o' e'=> ?_;have:=y x z;rw[e'] at this;injection this
theorem t9.but {a:Addr} (t:o3 h) (m:nM h a) (kp: ∀b o,b≠a->h.get? b=some o->h'.get? b=some o) (hl: ∃o',h'.get? a=some o') (ha:a∈C.locs\/(∃x,env.cells.lookup x=some a)\/oa=some a):t9 C env oa h oa h':=by
 refine⟨fun b o e n m c q=>kp b o (fun z=> ?_) e,fun b o e=> ?_,fun b o e Z nc=>nc.but t m kp,.inl rfl⟩
 ·rcases ha with y|⟨x,y⟩|y
  ·exact n (z▸y)
  ·exact c x a y z
  ·exact q (z▸y)
 ·by_cases z:b=a
  ·exact z▸hl
  ·exact⟨o,kp b o z e⟩
theorem j7.step' (f:j7 W C k env sc s₀ opn oa σ s) (st:k9 C s s₁):j7 W C k env sc s₀ opn oa σ s₁:=⟨f.step.trans st,f.sit.step st,f.newo,f.only⟩
theorem j7.keeps (f:j7 W C k env sc s₀ opn oa σ s) (st:k9 C s s₁):t9 C env oa s.heap oa s₁.heap:=.of_gr f.sit.inv.tabs st.gr
theorem kX {a:Addr} {base:Heap} (kp: ∀b o,b≠a->h.get? b=some o->h'.get? b=some o) (hl: ∃o',h'.get? a=some o'/\ ∀vs,o'.data≠.fields vs): ∀{l:List Env},h.FunFrames base l->h'.FunFrames base l
 |[],_=>trivial
 |env::r,z=>by
  refine n5 z fun hk z hr=> ?_;refine cQ z fun L o hf hn ho hd=> ?_;refine⟨hk,?_,kX kp hl hr⟩;by_cases q:L=a
  ·refine e8 hl fun o' e' d'=> ?_;clear hl;exact⟨L,o',hf,hn,q▸e',d'⟩
  ·exact⟨L,o,hf,hn,kp L o q ho,hd⟩
theorem LB {a:Addr} (i:aM W C h) (hG:W.G.get? a=none) (hb:C.base.get? a=none) (m:nM h a) (kp: ∀b o,b≠a->h.get? b=some o->h'.get? b=some o) (hl: ∃o',h'.get? a=some o'/\ ∀vs,o'.data≠.fields vs):aM W C h':=
 ⟨fun b o e=>kp b o (fun q=>by rw[q,hG] at e;injection e) (i.G b o e),fun b o e=>kp b o (fun q=>by rw[q,hb] at e;injection e) (i.base b o e),kX kp hl i.frames,i.tabs.but m kp,i.Gl⟩
theorem L9.notG {a:Addr} (F:L9 W C C₀ env sc s₀) (h:s₀.heap.get? a=none):W.G.get? a=none:=by
 cases q:W.G.get? a with
 |none=>rfl
 |some o=>have:=F.G₀ _ _ q;rw[h] at this;injection this
theorem L9.notB {a:Addr} (F:L9 W C C₀ env sc s₀) (h:s₀.heap.get? a=none):C.base.get? a=none:=by
 cases q:C.base.get? a with
 |none=>rfl
 |some o=>have:=F.base₀ _ _ q;rw[h] at this;injection this
theorem j7.stored {a:Addr} {tk:Nat} (F:L9 W C C₀ env sc s₀) (f:j7 W C k env sc s₀ opn oa σ s) (hn:s₀.heap.get? a=none) (m:nM s.heap a) (kp: ∀b o,b≠a->s.heap.get? b=some o->h'.get? b=some o)
  (hl: ∃o',h'.get? a=some o'/\ ∀vs,o'.data≠.fields vs) (st:Mine.St env oa (Xo C oa) h' σ') (hon: ∀y v,σ'.get y=some v->v.open? =true->opn=some y):j7 W C k env sc s₀ opn oa σ' {s with heap:=h',toks:=tk}:=by
 refine⟨?_,⟨f.sit.wok,f.sit.ok,f.sit.wf,f.sit.sub,f.sit.xg,fun b x=> ?_,LB f.sit.inv (F.notG hn) (F.notB hn) m kp hl,f.sit.envOk,st,f.sit.oaX⟩,f.newo,hon⟩
 ·refine r0 f.step fun y5 n7 e gr=> ?_;exact⟨h',tk,by rw[e],gr.but hn F.tabs₀ (by rw[e] at m;exact m) (by rw[e] at kp;exact kp)⟩
 ·refine f8 (f.sit.live b x) fun nt z5t=> ?_;refine d6 z5t fun o e=> ?_;clear z5t;refine⟨nt,?_⟩;by_cases q:b=a
  ·refine e8 hl fun o' e' Z=> ?_;clear hl;exact⟨o',q▸e'⟩
  ·exact⟨o,kp b o q e⟩
theorem eA {x:Str} {v:V} (h: ∀y v,σ.get y=some v->v.open? =true->opn=some y) (hv:v.open? =true->opn=some x): ∀y u,(σ.set x v).get y=some u->u.open? =true->opn=some y:=fun y u e o=>by
 rw[k7] at e;by_cases q:y=x
 ·rw[if_pos q] at e;injection e with e;subst e;rw[q];exact hv o
 ·rw[if_neg q] at e;exact h y u e o
theorem B4 (F:L9 W C C₀ env sc s₀) (f:j7 W C k env sc s₀ opn oa σ s) {x:Str} (hx:sc.names.lookup x=some .local\/sc.names.lookup x=some .cell) {u:Value} {v:V} (r:B1 s.heap (Xo C oa) oa u v) (hv:v.open? =true->opn=some x):
  wpAny (model prog w) C.A (storeName env x u) (fun Z s'=>j7 W C k env sc s₀ opn oa (σ.set x v) s'/\t9 C env oa s.heap oa s'.heap/\ ∀b o xs m,s.heap.get? b=some o->o.data=.seq xs m->s'.heap.get? b=some o) (fun Z Z=>False) s:=by
 have hloc:env.locals∈C.locs:=by unfold Cx.locs;rw[F.fr,List.filterMap_cons,F.frame];exact .head _
 rcases hx with hx|hx
 ·refine wpAny_mono (gY f.sit.st f.sit.envOk.kind ((F.kinds x).trans hx) (.inl F.XL) r) (fun Z s' q=> ?_) fun Z Z x=>x;refine v8 q fun h' tk z4r kp st=> ?_;clear q;subst z4r;refine e8 f.sit.st.vals fun m hm Z=> ?_;refine F5 (D3 hm) fun o es ep e d=> ?_;refine e8 st.vals fun m' hm' Z=> ?_;refine F5 (D3 hm') fun o' es' ep' e' d'=> ?_;have mu:nM s.heap env.locals:=⟨o,e,.inl fun vs z=>by rw[d] at z;injection z⟩;have kp': ∀b o,b≠env.locals->s.heap.get? b=some o->h'.get? b=some o:=fun b o n e=>(kp b n).trans e;exact⟨f.stored F F.newL mu kp' ⟨o',e',fun vs z=>by rw[d'] at z;injection z⟩ st (eA f.only hv),.but f.sit.inv.tabs mu kp' ⟨o',e'⟩ (.inl hloc),fun b o xs m q dd=>kp' b o (fun z=>by rw[z,e] at q;injection q with q;subst q;rw[d] at dd;injection dd) q⟩
 ·refine wpAny_mono (xJ f.sit.st f.sit.envOk.kind ((F.kinds x).trans hx) F.inj r) (fun Z s' q=> ?_) fun Z Z x=>x;refine X0 q fun h' tk c z3r hc kp st=> ?_;clear q;subst z3r;refine r0 (f.sit.st.cells x (.inl ((F.kinds x).trans hx))) fun c' v' hc' z2t=> ?_;refine e8 z2t fun o e d=> ?_;clear z2t;rw[hc] at hc';injection hc' with hc';subst hc';refine r0 (st.cells x (.inl ((F.kinds x).trans hx))) fun c' v'' hc' z1t=> ?_;refine e8 z1t fun o' e' d'=> ?_;clear z1t;rw[hc] at hc';injection hc' with hc';subst hc';have mu:nM s.heap c:=⟨o,e,.inl fun vs z=>by rw[d] at z;injection z⟩;have kp': ∀b o,b≠c->s.heap.get? b=some o->h'.get? b=some o:=fun b o n e=>(kp b n).trans e;exact⟨f.stored F (F.newC x c hc) mu kp' ⟨o',e',fun vs z=>by rw[d'] at z;injection z⟩ st (eA f.only hv),.but f.sit.inv.tabs mu kp' ⟨o',e'⟩ (.inr (.inl ⟨x,hc⟩)),fun b o xs m q dd=>kp' b o (fun z=>by rw[z,e] at q;injection q with q;subst q;rw[d] at dd;injection dd) q⟩
theorem fU (F:L9 W C C₀ env sc s₀) (f:j7 W C k env sc s₀ opn oa σ s) {l:Int} {e:Value} {s':Shared} (h:C6 C s l e s'):E9 C C₀ env s₀ l e s':=
 kW f.sit.ok.frames F.fr F.base F.frame (h.from f.step (.inr F.tabs₀))
end
section
variable {W:Wd} {C C₀:Cx} {X:Xs} {k:Nat} {env:Env} {sc:Scope} {oa oa' oa'':Option Addr} {σ σ':d9} {s₀ s s₁ s':Shared} {g:G} {n:Nat} {opn:Option Str} {h h' h'':Heap}
theorem Q4 (o:Obj) (f:Array Value->Array Value):(Obj.mapSeq f o).dict=o.dict/\(Obj.mapSeq f o).cls=o.cls:=by
 obtain⟨c,d,dt,sl⟩:=o;cases dt<;>exact⟨rfl,rfl⟩
theorem BW {A:Around} {l:Addr} {o:Obj} {ys:List Value} {m:Nat} {x:Value} (ho:s.heap.get? l=some o) (hc:o.cls=.type "list") (hd:o.data=.seq ys.toArray m) (hz:ys.length<=sizeLine) {Q:Value->Shared->Prop} {E:Value->Shared->Prop}
  (hQ: ∀h' o' m',(∀b,b≠l->h'.get? b=s.heap.get? b)->h'.get? l=some o'->o'.cls=.type "list"->o'.dict=o.dict->o'.data=.seq (ys++[x]).toArray m'->Q .none {s with heap:=h'}):
  wpAny (model prog w) A (call (.builtin "list.append") [.ref l,x]) Q E s:=by
 refine wpAny_call_entry slot_list_append ⟨_,ho,hc⟩ entry_list_append ?_ (args_list_append _ _);show wpAny _ _ (updateSeq l (·.push x)>>=fun Z=>ret .none) _ _ s;refine wpAny_bind ?_;refine d6 (Obj.data_mapSeq hd (·.push x)) fun m' hd'=> ?_;refine wpAny_updateSeq ho hd (wpAny_pure ⟨.none,rfl,hQ _ _ m' (Heap.SameBut.update ..).2 (Heap.get?_update_self _ ho (Obj.isFreed_of_seq hd')) ((Q4 o _).2.trans hc) (Q4 o _).1 (hd'.trans (by simp))⟩) (by simpa using hz)
theorem xP {A:Around} {l:Addr} {o:Obj} {ys:List Value} {m:Nat} {t:Tok} {x:Value} (ho:s.heap.get? l=some o) (hc:o.cls=.type "list") (hd:o.data=.seq ys.toArray m) (hne:ys≠[]) {Q:Unit->Shared->Prop} {E:Value->Shared->Prop}
  (hQ: ∀h' o' m',(∀b,b≠l->h'.get? b=s.heap.get? b)->h'.get? l=some o'->o'.cls=.type "list"->o'.dict=o.dict->o'.data=.seq (ys.dropLast++[x]).toArray m'->Q () {s with heap:=h'}):
  wpAny (model prog w) A (setItem (.ref l) (.int (-1) t) x) Q E s:=by
 have hl:s.heap.IsList l ys.toArray:=⟨o,ho,hc,m,hd⟩;have hlen:0<ys.length:=List.length_pos_iff.mpr hne;unfold setItem;try with_reducible refine wpAny_holding ?_
 first|refine wpAny_bind (wpAny_pure ?_)|skip
 refine wpAny_bind (wpAny_sequenceKey hl.typeIs (by decide) ?_);refine wpAny_bind (wpAny_callSpecial?_slot (name:=Str.ofString "__setitem__") hl.typeIs slot_list_setitem
  (wpAny_call_entry slot_list_setitem hl.typeIs entry_list_setitem ?_ (args_list_setitem _ _ _)))
 show wpAny _ _ (Builtin.List.listSubscript? (.int (-1) t)>>=_) _ _ s;refine wpAny_bind (wpAny_listSubscript_int (fitsIndex_neg (by decide) (by decide)) ?_);have hidx:=seqIndex_neg (k:= -1) (n:=ys.toArray.size) (by decide) (by simp;omega);show wpAny _ _ ((Builtin.List.listItems (.ref l)>>=fun xs=>pure ((seqIndex? (Int.negSucc 0) xs.size).bind fun i=>xs[i]?.map (i,·)))>>=_) _ _ s;refine wpAny_bind (wpAny_bind ?_);show wpAny _ _ (seqItems? (.ref l)>>=_) _ _ s;refine wpAny_bind (wpAny_seqItems ho hd (wpAny_pure (wpAny_pure ?_)));rw[show(Int.negSucc 0)= -1 from rfl,hidx];have hj:((-1:Int)+(ys.toArray.size:Int)).toNat=ys.length-1:=by simp;omega
 rw[hj];have hx:ys.toArray[ys.length-1]? =some (ys[ys.length-1]'(by omega)):=by simp
 simp only[Option.bind_some,hx,Option.map_some];show wpAny _ _ (setSeqItemAt l (ys.length-1) x>>=_) _ _ s;refine d6 (Obj.data_mapSeq hd (·.setIfInBounds (ys.length-1) x)) fun m' hd'=> ?_;have e:(ys.toArray.setIfInBounds (ys.length-1) x)=(ys.dropLast++[x]).toArray:=by
  rw[List.setIfInBounds_toArray];congr 1
  obtain⟨a,b,rfl⟩: ∃a b,ys=a++[b]:=⟨ys.dropLast,ys.getLast hne,(List.dropLast_concat_getLast hne).symm⟩;simp
 have fin:=hQ _ _ m' (Heap.SameBut.update s.heap l (Obj.mapSeq (·.setIfInBounds (ys.length-1) x))).2 (Heap.get?_update_self _ ho (Obj.isFreed_of_seq hd')) ((Q4 o _).2.trans hc) (Q4 o _).1 (by rw[hd',e]);refine wpAny_bind (wpAny_setSeqItemAt ho hd ?_);first
  |exact wpAny_bind (wpAny_pure (wpAny_pure ⟨.none,rfl,wpAny_pure fin⟩))
  |exact wpAny_pure ⟨.none,rfl,wpAny_pure fin⟩
theorem eE (F:L9 W C C₀ env sc s₀) (f:j7 W C k env sc s₀ opn oa σ s) {x:Str} {a:Addr} {o o':Obj} {ys:List Value} {vs ds:List V} {m:Nat} {tk:Nat} (hx:opn=some x) (hv:σ.get x=some (.olist vs)) (hoa:oa=some a) (ho:s.heap.get? a=some o) (hd: ∀zs,o.data≠.fields zs)
  (kp: ∀b,b≠a->h'.get? b=s.heap.get? b) (e1:h'.get? a=some o') (e2:o'.cls=.type "list") (e3:o'.dict=none) (e4:o'.data=.seq ys.toArray m) (r:Rps s.heap (Xo C oa) ys ds) (hdo: ∃zs nn,o.data=.seq zs nn):
  j7 W C k env sc s₀ opn oa (σ.set x (.olist ds)) {s with heap:=h',toks:=tk}/\t9 C env oa s.heap oa h':=by
 have mu:nM s.heap a:=⟨o,ho,.inl hd⟩;have kp': ∀b o,b≠a->s.heap.get? b=some o->h'.get? b=some o:=fun b o nb e=>(kp b nb).trans e;refine C0 hdo fun zs nn hzs=> ?_;clear hdo;have hXa:Xo C oa a:=.inr hoa;refine e8 f.sit.st.vals fun mm hm hvals=> ?_;have hne:env.locals≠a:=fun q=>by
  refine F5 (D3 hm) fun K9 es ep e d=> ?_;rw[q,ho] at e;injection e with e;subst e;rw[hzs] at d;injection d
 have cell: ∀c v,s.heap.IsCell c v->h'.IsCell c v:=fun c v ⟨oc,e,d⟩=>⟨oc,kp' c oc (fun q=>by rw[q,ho] at e;injection e with e;subst e;rw[hzs] at d;injection d) e,d⟩;have r':Rps h' (Xo C oa) ys ds:=r.but kp (.inl hXa);have st:Mine.St env oa (Xo C oa) h' (σ.set x (.olist ds)):=by
  refine⟨fun y hy=> ?_,mm,?_,fun y z e=> ?_⟩
  ·refine r0 (f.sit.st.cells y hy) fun c v q1 q2=> ?_;exact⟨c,v,q1,cell c v q2⟩
  ·refine F5 hm fun K9 es ep e rr=> ?_;clear hm;exact⟨K9,es,ep,kp' _ _ hne e,rr⟩
  ·rw[k7] at e;by_cases q:y=x
   ·rw[if_pos q] at e;injection e with e;subst e;refine e8 (hvals x _ hv) fun u hu hk=> ?_;refine sW hu fun a' K9 UK YQ q1 q2 Z=> ?_;clear hu;rw[hoa] at q1;injection q1 with q1;subst q1;subst q2;refine⟨.ref a,⟨a,o',ys,m,hoa,rfl,e1,⟨e2,e3⟩,e4,r'⟩,q▸ ?_⟩;rcases hk with z|⟨z,c,z1,z2⟩
    ·exact .inl z
    ·exact .inr ⟨z,c,z1,cell c _ z2⟩
   ·rw[if_neg q] at e;refine e8 (hvals y z e) fun u hu hk=> ?_;have hno:z.open? =false:=by
     cases hz:z.open? with
     |false=>rfl
     |true=>have:=f.only y z e hz;rw[hx] at this;exact absurd (Option.some.inj this).symm q
    refine⟨u,.of ((hu.plain hno).but kp (.inl hXa)),?_⟩;rcases hk with z|⟨z,c,z1,z2⟩
    ·exact .inl z
    ·exact .inr ⟨z,c,z1,cell c _ z2⟩
 have hl: ∃o',h'.get? a=some o'/\ ∀vs,o'.data≠.fields vs:=⟨o',e1,fun vs z=>by rw[e4] at z;injection z⟩;exact⟨f.stored F (f.newo a hoa).1 mu kp' hl st (eA f.only fun Z=>hx),.but f.sit.inv.tabs mu kp' ⟨o',e1⟩ (.inr (.inr hoa))⟩
end
section
variable (W:Wd)
noncomputable def xQ (n:Nat):Prop:= ∀(g:G) (C C₀:Cx) (k:Nat) (env:Env) (sc:Scope) (s₀:Shared) (opn:Option Str) (oa:Option Addr) (σ:d9) (st:Stmt) (s:Shared),
 C5 W k C.tb g->L9 W C C₀ env sc s₀->j7 W C k env sc s₀ opn oa σ s->
 w4 (ex g opn sc n σ st) (fun Q E s=>wpAny (model prog w) C.A (exec st env) Q E s) (A5 W C k env sc s₀ opn oa s) (E9 C C₀ env s₀) s
end
section
variable {W:Wd} {C C₀:Cx} {X:Xs} {k:Nat} {env:Env} {sc:Scope} {oa oa' oa'':Option Addr} {σ σ':d9} {s₀ s s₁ s':Shared} {g:G} {n:Nat} {opn:Option Str} {h h' h'':Heap}
theorem PK {α β:Type} {r:R α} {F F':Tr β} {P:α->β->Shared->Prop} {E:Int->Value->Shared->Prop} (h: ∀Q E,F Q E s->F' Q E s) (q:w4 r F P E s):w4 r F' P E s:=by
 cases r with
 |stuck=>trivial
 |err l=>exact h _ _ q
 |ok a=>exact h _ _ q
theorem hK (hE: ∀n,I8 W n) (hg:C5 W k C.tb g) (F:L9 W C C₀ env sc s₀) (f:j7 W C k env sc s₀ opn oa σ s) (e:Expr):
  Ou C (ev g n false sc σ e) (eval e env) (g5 C (Xo C oa) oa s) (E9 C C₀ env s₀) s:=
 (hE n g C (Xo C oa) k env sc oa σ e s hg f.sit).1.mono (fun Z Z Z Z p=>p) fun Z Z Z Z p=>fU F f p
theorem zL (hE: ∀n,I8 W n) (hg:C5 W k C.tb g) (F:L9 W C C₀ env sc s₀) (f:j7 W C k env sc s₀ opn oa σ s) (e:Expr):
  Ou C ((ev g n true sc σ e).bind l7) (isTrue e env (eval e env)) (P5 C s) (E9 C C₀ env s₀) s:=
 (hE n g C (Xo C oa) k env sc oa σ e s hg f.sit).2.mono (fun Z Z Z Z p=>p) fun Z Z Z Z p=>fU F f p
theorem A5.from {p:Fl×d9} {fl:Flow} {s':Shared} (kp:t9 C env oa s.heap oa' s₁.heap) (q:A5 W C k env sc s₀ opn oa' s₁ p fl s'):A5 W C k env sc s₀ opn oa s p fl s':=by
 refine r6 q fun oa'' f k' fw=> ?_;clear q;exact⟨oa'',f,kp.trans k',fw⟩
theorem w4.fromS {r:R (Fl×d9)} {Fr:Tr Flow} (kp:t9 C env oa s.heap oa' s₁.heap) (q:w4 r Fr (A5 W C k env sc s₀ opn oa' s₁) (E9 C C₀ env s₀) s₁)
  (mono: ∀{Q Q':Flow->Shared->Prop} {E:Value->Shared->Prop},(∀f s,Q f s->Q' f s)->Fr Q E s₁->Fr Q' E s₁):w4 r Fr (A5 W C k env sc s₀ opn oa s) (E9 C C₀ env s₀) s₁:=by
 cases r with
 |stuck=>trivial
 |err l=>exact q
 |ok a=>exact mono (fun f s' z=>z.from kp) q
set_option backward.match.sparseCases true in
theorem R6 (ih:xQ W n) (hg:C5 W k C.tb g) (F:L9 W C C₀ env sc s₀): ∀(b:List Stmt) {σ:d9} {oa:Option Addr} {s:Shared},j7 W C k env sc s₀ opn oa σ s->
  w4 (D1 (ex g opn sc n) σ b) (fun Q E s=>wpAny (model prog w) C.A (execs b env) Q E s) (A5 W C k env sc s₀ opn oa s) (E9 C C₀ env s₀) s
 |[],σ,oa,s,f=>wpAny_execs_nil ⟨oa,f,.refl,rfl⟩
 |st::r,σ,oa,s,f=>by
  show w4 ((ex g opn sc n σ st).bind (SR fun σ'=>D1 (ex g opn sc n) σ' r)) _ _ _ _;have h1:=ih g C C₀ k env sc s₀ opn oa σ st s hg F f;refine Ou.bind (F:=fun fl Q E s₁=>match fl with| .next=>wpAny (model prog w) C.A (execs r env) Q E s₁|fl=>Q fl s₁) (fun Q E h=>wpAny_execs_cons h) h1 fun p fl s₁ Z q=> ?_;obtain⟨fl',σ'⟩:=p;refine r6 q fun oa' f' kp fw=> ?_;clear q;cases fl' with
  |next=>
   have fw:fl=.next:=fw;subst fw;exact(R6 ih hg F r f').fromS kp fun hq hw=>wpAny_mono hw hq fun Z Z x=>x
  |brk=>
   have fw:fl=.brk:=fw;subst fw;exact⟨oa',f',kp,rfl⟩
  |ret v=>
   refine e8 fw fun u z2r hu=> ?_;clear fw;subst z2r;exact⟨oa',f',kp,u,rfl,hu⟩
theorem TD (hE: ∀n,I8 W n) (ih:xQ W n) (hg:C5 W k C.tb g) (F:L9 W C C₀ env sc s₀) (f:j7 W C k env sc s₀ opn oa σ s) (t:Expr) (b o:List Stmt) (p:Pos):
  w4 (ex g opn sc (n+1) σ (.If t b o p)) (fun Q E s=>wpAny (model prog w) C.A (exec (.If t b o p) env) Q E s) (A5 W C k env sc s₀ opn oa s) (E9 C C₀ env s₀) s:=by
 show w4 (((ev g n true sc σ t).bind l7).bind fun c=>if c then D1 (ex g opn sc n) σ b else D1 (ex g opn sc n) σ o) _ _ _ _;refine Ou.bind (fun Q E h=>wpAny_If h) (zL hE hg F f t) fun c v s₁ Z q=> ?_;refine f8 q fun st z1r=> ?_;clear q;subst z1r;have f₁:=f.step' st;cases v with
 |true=>exact(R6 ih hg F b f₁).fromS (f.keeps st) fun hq hw=>wpAny_mono hw hq fun Z Z x=>x
 |false=>exact(R6 ih hg F o f₁).fromS (f.keeps st) fun hq hw=>wpAny_mono hw hq fun Z Z x=>x
theorem BX (hE: ∀n,I8 W n) (hg:C5 W k C.tb g) (F:L9 W C C₀ env sc s₀) (f:j7 W C k env sc s₀ opn oa σ s) (e:Expr) (p:Pos):
  w4 (ex g opn sc (n+1) σ (.Return (some e) p)) (fun Q E s=>wpAny (model prog w) C.A (exec (.Return (some e) p) env) Q E s) (A5 W C k env sc s₀ opn oa s) (E9 C C₀ env s₀) s:=by
 show w4 ((ev g n false sc σ e).map fun v=>(Fl.ret v.freeze,σ)) _ _ _ _;rw[show((ev g n false sc σ e).map fun v=>(Fl.ret v.freeze,σ))=(ev g n false sc σ e).bind fun v=>.ok (Fl.ret v.freeze,σ) by cases ev g n false sc σ e<;>rfl];refine Ou.bind (F:=fun v Q Z s=>Q (.ret v) s) (fun Q E h=>wpAny_Return_some h) (hK hE hg F f e) fun a v s₁ Z q=> ?_;refine⟨oa,f.step' q.1,f.keeps q.1,v,rfl,?_⟩;have r:=q.2;rcases kA a with⟨ds,rfl⟩|ho
 ·refine X1 r fun x o vs m e1 e2 e3 e4 e5 e6=> ?_;clear r;exact e2▸.list e3 e4.1 e5 (f.newo x e1).2 (e6.less fun a x=>.inl x)
 ·rw[BC ho];exact(r.plain ho).less (X':=C.X) fun a x=>.inl x
theorem FW (f:j7 W C k env sc s₀ opn oa σ s) (p:Pos):
  w4 (ex g opn sc (n+1) σ (.Break p)) (fun Q E s=>wpAny (model prog w) C.A (exec (.Break p) env) Q E s) (A5 W C k env sc s₀ opn oa s) (E9 C C₀ env s₀) s:=
 wpAny_Break ⟨oa,f,.refl,rfl⟩
theorem H0 {x:Str} (h:g9 sc x=true):sc.names.lookup x=some .local\/sc.names.lookup x=some .cell:=by
 unfold g9 at h;rw[Bool.or_eq_true] at h;rcases h with h|h
 ·exact .inl (by simpa using h)
 ·exact .inr (by simpa using h)
theorem FY (t:J2 W C X k env sc oa σ s.heap) {x:Str} {v:V} (e:σ.get x=some v) (hc:x≠"__classdict__"):wpAny (model prog w) C.A (loadName env x) (g5 C X oa s v) (fun Z Z=>False) s:=by
 refine e8 t.st.vals fun m hm hv=> ?_;refine e8 (hv x v e) fun u hu hk=> ?_;rcases hk with⟨q,z⟩|⟨q,c,z,hi⟩
 ·exact wpAny_loadName_local t.envOk.kind q hm z ⟨.refl,hu⟩
 ·rcases q with q|q
  ·exact wpAny_loadName_cell t.envOk.kind q z hi ⟨.refl,hu⟩
  ·exact wpAny_loadName_free t.envOk.kind q z hi ⟨.refl,hu⟩ (by simpa using hc)
theorem tZ {x:Str} {xp:Pos} (hs:g9 sc x=true):(ev g n false sc σ (.Name x xp)=.stuck)\/ ∃v,ev g n false sc σ (.Name x xp)=.ok v/\σ.get x=some v/\x≠"__classdict__":=by
 cases n with
 |zero=>exact .inl rfl
 |succ n=>
  show r5 g sc σ x=_\/ ∃v,r5 g sc σ x=_/\_;unfold r5;split
  ·exact .inl rfl
  rename_i hn;rw[not_or] at hn;rcases H0 hs with e|e<;>rw[e]<;>simp only<;>(cases h:σ.get x with
   |none=>exact .inl rfl
   |some v=>exact .inr ⟨v,rfl,rfl,hn.2⟩)
theorem PL (hE: ∀n,I8 W n) (hg:C5 W k C.tb g) (F:L9 W C C₀ env sc s₀) (f:j7 W C k env sc s₀ opn oa σ s) (x:Str) (xp:Pos) (e:Expr) (p:Pos):
  w4 (ex g opn sc (n+1) σ (.AugAssign (.Name x xp) .Add e p)) (fun Q E s=>wpAny (model prog w) C.A (exec (.AugAssign (.Name x xp) .Add e p) env) Q E s) (A5 W C k env sc s₀ opn oa s) (E9 C C₀ env s₀) s:=by
 show w4 (if opn=some x\/g9 sc x=false then R.stuck else (ev g n false sc σ (.Name x xp)).bind fun a=>(ev g n false sc σ e).bind fun v=>JV a v σ x) _ _ _ _;split
 ·trivial
 rename_i hc;rw[not_or] at hc;have hst:g9 sc x=true:=by simpa using hc.2
 rcases tZ (g:=g) (n:=n) (σ:=σ) (xp:=xp) hst with h|⟨a,h,hget,hcd⟩
 ·rw[h];trivial
 rw[h];refine Ou.bind (r:=R.ok a) (P:=g5 C (Xo C oa) oa s) (t:=loadName env x) (fun Q E h=>wpAny_AugAssign_Name h) (FY f.sit hget hcd) fun a' old s₁ ha I6=> ?_;injection ha with ha;subst ha;have f₁:=f.step' I6.1;refine Ou.bind (fun Q E h=>h) (hK hE hg F f₁ e) fun b v e7 Z B8=> ?_;have n8:=f₁.step' B8.1;have Z4:=f₁.sit.keepO B8.1 I6.2;refine OX fun hne=> ?_;refine d6 (dW (show intM _ a≠.stuck from hne)) fun i ei=> ?_;subst ei;refine d6 (dW (show intM _ b≠.stuck from hne)) fun j ej=> ?_;subst ej;refine d6 (A1 Z4) fun t1 e1=> ?_;refine d6 (A1 B8.2) fun t2 e2=> ?_;rw[e1,e2];refine iadd_int ?_;have G8:k9 C e7 {e7 with toks:=e7.toks+1}:=.of_keep fun Z Z e=>e;have E3:=n8.step' G8;refine wpAny_mono (B4 F E3 (H0 (by simpa using hc.2)) (.of (.int _ _)) (fun z=>by injection z)) (fun Z C4 q=> ?_) fun Z Z x=>x;exact⟨oa,q.1,(f.keeps I6.1).trans ((f₁.keeps B8.1).trans ((n8.keeps G8).trans q.2.1)),rfl⟩
end
section
variable {W:Wd} {C C₀:Cx} {X:Xs} {k:Nat} {env:Env} {sc:Scope} {oa oa' oa'':Option Addr} {σ σ':d9} {s₀ s s₁ s':Shared} {g:G} {n:Nat} {opn:Option Str} {h h' h'':Heap}
theorem pR {x:Str} {v:V} (hs:g9 sc x=true) (h:r5 g sc σ x=.ok v):σ.get x=some v:=by
 rcases tZ (g:=g) (n:=1) (σ:=σ) (xp:=⟨0,0,0,0⟩) hs with e|⟨u,e,e',_⟩
 ·have:r5 g sc σ x=.stuck:=e;rw[h] at this;injection this
 ·have:r5 g sc σ x=.ok u:=e;rw[h] at this;injection this with this;subst this;exact e'
theorem R7 (h:env.scope.kind=.function):interactive env=false:=by
 unfold interactive;rw[h];rfl
set_option tactic.hygienic true in
set_option backward.match.sparseCases true in
theorem BY (hE: ∀n,I8 W n) (hg:C5 W k C.tb g) (F:L9 W C C₀ env sc s₀) (f:j7 W C k env sc s₀ opn oa σ s) (x:Str) (xp:Pos) (m:Str) (ap:Pos) (a:Expr) (p q:Pos):
  w4 (ex g opn sc (n+1) σ (.Expr (.Call (.Attribute (.Name x xp) m ap) [a] [] p) q)) (fun Q E s=>wpAny (model prog w) C.A (exec (.Expr (.Call (.Attribute (.Name x xp) m ap) [a] [] p) q) env) Q E s) (A5 W C k env sc s₀ opn oa s) (E9 C C₀ env s₀) s:=by
 show w4 (if m="append"/\opn=some x/\ap.endLine=p.line/\g9 sc x=true then X9 (r5 g sc σ x) fun vs=>(ev g n false sc σ a).bind fun v=>X8 v vs σ x else R.stuck) _ _ _ _;by_cases hc:m="append"/\opn=some x/\ap.endLine=p.line/\g9 sc x=true
 case neg=>rw[if_neg hc];trivial
 rw[if_pos hc];refine Q0 hc fun z5r hx hl hs=> ?_;clear hc;subst z5r;refine w4.need1 fun vs hn=> ?_;have hn:=tC hn;have hget:=pR hs hn;have hname:=O5 hg f.sit x xp;rw[hn] at hname;by_cases hst:ev g n false sc σ a=.stuck
 ·rw[hst];trivial
 have hstar:=kJ (env:=env) hst;have rule: ∀(Q:Flow->Shared->Prop) (E:Value->Shared->Prop),(∀D s₁,g5 C (Xo C oa) oa s (.olist vs) D s₁->wpAny (model prog w) C.A (eval a env) (fun y e7=>wpAny (model prog w) C.A (call (.builtin "list.append") [D,y]) (fun v s'=>match v with| .ref _=>False|_=>Q .next s') E e7) E s₁)->
   wpAny (model prog w) C.A (exec (.Expr (.Call (.Attribute (.Name x xp) "append" ap) [a] [] p) q) env) Q E s:=by
  intro Q E hk;refine wpAny_Expr (wpAny_Call_append rfl (by rw[hstar];rfl) (by simpa using hl) (by rw[hstar];rfl) ?_) (R7 f.sit.envOk.kind);refine wpAny_mono hname (fun D s₁ p=> ?_) fun Z Z x=>x.elim;have p2:=p.2;refine X1 p2 fun A o ys mm e1 z4r e3 e4 e5 e6=> ?_;clear p2;subst z4r;exact⟨A,ys.toArray,rfl,⟨o,mm,e3,e4.1,e4.2,e5⟩,hk _ _ p⟩
 have go: ∀{r:R V} (hr:ev g n false sc σ a=r),w4 (r.bind fun v=>X8 v vs σ x) (fun Q E s=> ∀D s₁,g5 C (Xo C oa) oa s (.olist vs) D s₁->wpAny (model prog w) C.A (eval a env) (fun y e7=>wpAny (model prog w) C.A (call (.builtin "list.append") [D,y]) (fun v s'=>match v with| .ref _=>False|_=>Q .next s') E e7) E s₁)
   (A5 W C k env sc s₀ opn oa s) (E9 C C₀ env s₀) s:=by
  intro r hr;cases r with
  |stuck=>trivial
  |err l=>
   intro D s₁ p;have:=hK (n:=n) hE hg F (f.step' p.1) a;rw[hr] at this;exact wpAny_mono this (fun Z Z x=>x.elim) fun Z Z x=>x
  |ok v=>
   show w4 (X8 v vs σ x) _ _ _ _;unfold X8;split
   ·trivial
   rename_i hz;rw[Bool.or_eq_true,not_or] at hz;have hv:v.open? =false:=by simpa using hz.1
   have hlen:vs.length<i0:=by simpa using hz.2
   intro D s₁ p;have f₁:=f.step' p.1;have:=hK (n:=n) hE hg F f₁ a;rw[hr] at this;refine wpAny_mono this (fun y e7 q=> ?_) fun Z Z x=>x;have n8:=f₁.step' q.1;have ro:=f₁.sit.keepO q.1 p.2;refine X1 ro fun A o ys mm e1 z3r e3 e4 e5 e6=> ?_;clear ro;subst z3r;have ry:=q.2.plain hv;refine BW e3 e4.1 e5 (by rw[e6.length];have:=D5;omega) fun h' o' m' kp q1 q2 q3 q4=> ?_;have key:=eE (tk:=e7.toks) F n8 hx hget e1 e3 (fun zs z=>by rw[e5] at z;injection z) kp q1 q2 (q3.trans e4.2) q4 (e6.append (.cons ry .nil)) ⟨_,_,e5⟩;exact⟨oa,key.1,(f.keeps p.1).trans ((f₁.keeps q.1).trans key.2),rfl⟩
 have key:=go (r:=ev g n false sc σ a) rfl;exact PK (fun Q E h=>rule Q E h) key
set_option tactic.hygienic true in
theorem LC (hE: ∀n,I8 W n) (hg:C5 W k C.tb g) (F:L9 W C C₀ env sc s₀) (f:j7 W C k env sc s₀ opn oa σ s) (x:Str) (xp p1 p2 p3:Pos) (kk:Nat) (e:Expr) (p:Pos) (hsw: ∀t,swapsWith e t p.line env=pure false):
  w4 (if opn=some x/\g9 sc x=true then (ev g n false sc σ e).bind fun v=>X9 (r5 g sc σ x) fun vs=>oU v vs σ x else R.stuck)
   (fun Q E s=>wpAny (model prog w) C.A (exec (.Assign [.Subscript (.Name x xp) (.UnaryOp .USub (.Constant (.int 1) kk p1) p2) p3] e p) env) Q E s) (A5 W C k env sc s₀ opn oa s) (E9 C C₀ env s₀) s:=by
 split
 case isFalse=>trivial
 rename_i hc;refine f8 hc fun hx hs=> ?_;clear hc;refine Ou.bind (F:=fun v Q E s₁=>wpAny (model prog w) C.A (eval (.Name x xp) env) (fun ov e7=>wpAny (model prog w) C.A (eval (.UnaryOp .USub (.Constant (.int 1) kk p1) p2) env) (fun iv l6=>
   wpAny (model prog w) C.A (setItem ov iv v) (fun Z=>Q .next) E l6) E e7) E s₁) (fun Q E h=>wpAny_Assign_Subscript h (hsw _)) (hK hE hg F f e) fun d v s₁ Z q=> ?_
 have f₁:=f.step' q.1;refine w4.need1 fun vs hn=> ?_;have hn:=tC hn;have hget:=pR hs hn;have hname:=O5 hg f₁.sit x xp;rw[hn] at hname;show w4 (oU d vs σ x) _ _ _ _;unfold oU;split
 ·trivial
 rename_i hz;rw[Bool.or_eq_true,not_or,Bool.or_eq_true,not_or] at hz;refine f8 hz fun z2n z3=> ?_;clear hz;refine f8 z2n fun z1 z2=> ?_;clear z2n;have hv:d.open? =false:=by simpa using z1
 refine wpAny_mono hname (fun ov e7 L8=> ?_) fun Z Z x=>x.elim;have n8:=f₁.step' L8.1;refine wpAny_UnaryOp (wpAny_Constant_int (neg_int ?_));have G8:k9 C e7 {e7 with toks:=e7.toks+1+1}:=.of_keep fun Z Z e=>e;have E3:=n8.step' G8;refine X1 L8.2 fun A o ys mm e1 z1r e3 e4 e5 e6=> ?_;subst z1r;have ry:=(f₁.sit.keepO L8.1 q.2).plain hv;have hne:ys≠[]:=by
  rintro rfl
  have:=e6.length;cases vs with
  |nil=>exact z2 rfl
  |cons=>simp at this
 refine xP (s:={e7 with toks:=e7.toks+1+1}) e3 e4.1 e5 hne fun h' o' m' kp q1 q2 q3 q4=> ?_;have key:=eE (s:={e7 with toks:=e7.toks+1+1}) (tk:=e7.toks+1+1) F E3 hx hget e1 e3 (fun zs z=>by rw[e5] at z;injection z) kp q1 q2 (q3.trans e4.2) q4 (e6.dropLast.append (.cons ry .nil)) ⟨_,_,e5⟩;exact⟨oa,key.1,(f.keeps q.1).trans ((f₁.keeps L8.1).trans ((n8.keeps G8).trans key.2)),rfl⟩
end
noncomputable def FZ (σ:d9) (x:Str):d9:=σ.filter fun p=>p.1 !=x
theorem rE (σ:d9) (x y:Str):(FZ σ x).get y=if y=x then none else σ.get y:=by
 unfold FZ d9.get;induction σ with
 |nil=>simp
 |cons p r ih=>
  obtain⟨z,u⟩:=p;rw[List.filter_cons];by_cases hz:z=x
  ·subst hz;rw[if_neg (by simp),ih,List.lookup_cons];by_cases hy:y=z
   ·rw[if_pos hy,if_pos hy]
   ·have:(y==z)=false:=by simpa using hy
    rw[this]
  ·rw[if_pos (by simpa using hz),List.lookup_cons,List.lookup_cons,ih];by_cases hy:y=z
   ·subst hy;simp[hz]
   ·have:(y==z)=false:=by simpa using hy
    rw[this]
inductive O6 (env:Env):List (Value->Sem Unit)->List Str->Prop
 |nil:O6 env [] []
 |cons {t:Value->Sem Unit} {ts:List (Value->Sem Unit)} {x:Str} {xs:List Str}:(∀(M:Model) (A:Around) (v:Value) (Q:Unit->Shared->Prop) (E:Value->Shared->Prop) (s:Shared),wpAny M A (storeName env x v) Q E s->wpAny M A (t v) Q E s)->O6 env ts xs->O6 env (t::ts) (x::xs)
theorem cW {env:Env}: ∀{ts:List Expr} {xs:List Str},G3 ts=some xs->O6 env ((assignEach ts env).map (·.2)) xs/\(assignEach ts env).length=ts.length/\(assignEach ts env).findIdx? (·.1)=none/\xs.length=ts.length
 |[],xs,h=>by injection h with h;subst h;exact⟨.nil,rfl,rfl,rfl⟩
 |t::r,xs,h=>by
  refine nJ (dS h) fun x p ys z3r hr z4r=> ?_;subst z3r;subst z4r;refine Q0 (cW (env:=env) hr) fun h1 h2 h3 h4=> ?_;refine⟨.cons (fun M A v Q E s z=>wpAny_assign_Name z) h1,congrArg Nat.succ h2,?_,congrArg Nat.succ h4⟩;show List.findIdx? _ ((false,_)::_)=none;rw[List.findIdx?_cons];simp[h3]
theorem hO {env:Env}: ∀(xs:List Str),O6 env (xs.map fun n=>bindName env n) xs
 |[]=>.nil
 |x::r=>.cons (fun M A v Q E s z=>wpAny_bindName z) (hO r)
section
variable {W:Wd} {C C₀:Cx} {X:Xs} {k:Nat} {env:Env} {sc:Scope} {oa oa' oa'':Option Addr} {σ σ':d9} {s₀ s s₁ s':Shared} {g:G} {n:Nat} {opn:Option Str} {h h' h'':Heap}
theorem j7.congr (f:j7 W C k env sc s₀ opn oa σ s) (e: ∀y,σ'.get y=σ.get y):j7 W C k env sc s₀ opn oa σ' s:=by
 refine e8 f.sit.st.vals fun m hm hv=> ?_;exact⟨f.step,⟨f.sit.wok,f.sit.ok,f.sit.wf,f.sit.sub,f.sit.xg,f.sit.live,f.sit.inv,f.sit.envOk,⟨f.sit.st.cells,m,hm,fun x v z=>hv x v ((e x).symm.trans z)⟩,f.sit.oaX⟩,f.newo,fun y v z=>f.only y v ((e y).symm.trans z)⟩
theorem kY (F:L9 W C C₀ env sc s₀) (f:j7 W C k env sc s₀ opn oa σ s) (kp:t9 C env oa s.heap oa' h'):R3 (Xo C oa) s.heap h':=fun b o e n d=>by
 refine kp.keep b o e (fun m=>n (.inl (f.sit.ok.locs b m))) (fun t=> ?_) (fun x c hc q=> ?_) fun q=>n (.inr q)
 ·refine d6 (f.sit.inv.tabNone t) fun ps z=> ?_;rw[z] at e;injection e with e;subst e;rcases d.1 with q|q|q|q<;>cases q
 ·refine r0 (f.sit.st.cells x (.inl ((F.kinds x).trans (F.cellk x c hc)))) fun c' v e1 z2t=> ?_;refine e8 z2t fun o' e2 e3=> ?_;clear z2t;rw[hc] at e1;injection e1 with e1;subst e1;rw[q,e2] at e;injection e with e;subst e;exact d.2 _ e3
noncomputable def F0 (opn:Option Str):d9->List Str->List V->R d9
 |σ,[],[]=>.ok σ
 |σ,x::xs,v::vs=>if v.open? =true/\opn≠some x then .stuck else F0 opn (σ.set x v) xs vs
 |_,_,_=>.stuck
theorem eF {opn:Option Str} {σ:d9} {x:Str} {xs:List Str} {v:V} {vs:List V}:F0 opn σ (x::xs) (v::vs)=if v.open? =true/\opn≠some x then .stuck else F0 opn (σ.set x v) xs vs:=rfl
theorem v6.keep_seq (hc:R3 X h h') (hs: ∀b o xs m,h.get? b=some o->o.data=.seq xs m->h'.get? b=some o): ∀{us:List Value} {vs:List V},v6 h X oa us vs->v6 h' X oa us vs
 |[],[],_=>trivial
 |u::us,v::vs,r=>by
  refine⟨?_,v6.keep_seq hc hs r.2⟩;rcases kA v with⟨ds,rfl⟩|q
  ·refine X1 r.1 fun b o vs n e1 e2 e3 e4 e5 e6=> ?_;exact⟨b,o,vs,n,e1,e2,hs b o _ _ e3 e5,e4,e5,e6.carry hc⟩
  ·exact B1.of ((r.1.plain q).carry hc)
noncomputable def WO (h h':Heap):Prop:= ∀b o xs m,h.get? b=some o->o.data=.seq xs m->h'.get? b=some o
theorem N4 (F:L9 W C C₀ env sc s₀) {ts:List (Value->Sem Unit)} {xs:List Str} (ht:O6 env ts xs): ∀{us:List Value} {vs:List V} {σ σ':d9} {s:Shared},j7 W C k env sc s₀ opn oa σ s->xs.all (g9 sc)=true->
  v6 s.heap (Xo C oa) oa us vs->F0 opn σ xs vs=.ok σ'->
  wpAny (model prog w) C.A (assignInOrder ts us) (fun Z s'=>j7 W C k env sc s₀ opn oa σ' s'/\t9 C env oa s.heap oa s'.heap/\WO s.heap s'.heap) (fun Z Z=>False) s:=by
 induction ht with
 |nil=>
  intro us vs σ σ' s f hs r hp;cases vs with
  |nil=>
   injection hp with hp;subst hp;cases us with
   |nil=>exact wpAny_assignInOrder_none ⟨f,.refl,fun Z Z Z Z e Z=>e⟩
   |cons=>cases r
  |cons=>injection hp
 |cons hx hr ih=>
  intro us vs σ σ' s f hs r hp;rcases vs with _|⟨v,vs⟩
  ·injection hp
  rcases us with _|⟨u,us⟩
  ·cases r
  rw[List.all_cons,Bool.and_eq_true] at hs;rw[eF] at hp;split at hp
  ·injection hp
  rename_i hv;refine wpAny_assignInOrder_more (hx _ _ _ _ _ _ (wpAny_mono (B4 F f (H0 hs.1) r.1 (fun z=>Decidable.not_not.mp fun y=>hv ⟨z,y⟩)) (fun Z s₁ q=> ?_) fun Z Z x=>x));refine n5 q fun f₁ kp ks=> ?_;clear q;exact wpAny_mono (ih f₁ hs.2 (r.2.keep_seq (kY F f kp) ks) hp) (fun Z e7 q=>⟨q.1,kp.trans q.2.1,fun b o xs m e d=>q.2.2 b o xs m (ks b o xs m e d) d⟩) fun Z Z x=>x
theorem uA (F:L9 W C C₀ env sc s₀) (f:j7 W C k env sc s₀ opn oa σ s) {x:Str} (hx:opn=some x) {us:List Value} {ds:List V} (r:Rps s.heap (Xo C oa) us ds) {tk:Nat}:
  j7 W C k env sc s₀ opn (some s.heap.objs.size) (FZ σ x) {s with heap:=s.heap.push {cls:=.type "list",data:=.seq us.toArray},toks:=tk}/\
  t9 C env oa s.heap (some s.heap.objs.size) (s.heap.push {cls:=.type "list",data:=.seq us.toArray})/\
  B1 (s.heap.push {cls:=.type "list",data:=.seq us.toArray}) (Xo C (some s.heap.objs.size)) (some s.heap.objs.size) (.ref s.heap.objs.size) (.olist ds):=by
 generalize ha:s.heap.objs.size=a;have an:s.heap.get? a=none:=A2 (by omega);have new:(s.heap.push {cls:=.type "list",data:=.seq us.toArray}).get? a=some {cls:=.type "list",data:=.seq us.toArray}:=ha▸Heap.get?_push_size _ rfl;have st:k9 C s ({s with heap:=s.heap.push {cls:=.type "list",data:=.seq us.toArray},toks:=tk}:Shared):=.of_keep fun Z Z e=>Heap.get?_push_of_some _ e;have f₁:=f.step' st;have kx: ∀b,Xo C (some a) b->Xo C oa b\/ ∀o,s.heap.get? b=some o-> ¬I7 o:=fun b q=>by
  rcases q with q|q
  ·exact .inl (.inl q)
  ·injection q with q;subst q;exact .inr fun o e=>by rw[an] at e;injection e
 have nl: ∀b,C.X b->b≠a:=fun b q z=>by
  refine f8 (f.sit.live b (.inl q)) fun Z z1t=> ?_;refine d6 z1t fun o e=> ?_;clear z1t;rw[z,an] at e;injection e
 have push: ∀X',R3 X' s.heap (s.heap.push {cls:=.type "list",data:=.seq us.toArray}):=fun Z b o e Z Z=>Heap.get?_push_of_some _ e;have r':Rps (s.heap.push {cls:=.type "list",data:=.seq us.toArray}) (Xo C (some a)) us ds:=(r.more kx).carry (push _);have s0n:s₀.heap.get? a=none:=by
  cases q:s₀.heap.get? a with
  |none=>rfl
  |some o=>
   by_cases z:C.tb/\o4 a
   ·refine d6 (f.sit.inv.tabNone z.2) fun ps e=> ?_;rw[an] at e;injection e
   ·refine d6 (f.step.gr.slots a o q z) fun sl e=> ?_;rw[an] at e;injection e
 refine⟨⟨f₁.step,⟨f₁.sit.wok,f₁.sit.ok,f₁.sit.wf,fun b q=>.inl q,fun b q=> ?_,fun b q=> ?_,f₁.sit.inv,f₁.sit.envOk,?_,fun b q=>.inr q⟩,fun b q=> ?_,fun y v e o=> ?_⟩,?_,?_⟩
 ·rcases q with q|q
  ·exact f.sit.xg b (.inl q)
  ·injection q with q;subst q;exact F.notG s0n
 ·rcases q with q|q
  ·exact f₁.sit.live b (.inl q)
  ·injection q with q;subst q;exact⟨o6 f.sit.inv.tabs an,_,new⟩
 ·refine e8 f.sit.st.vals fun m hm hv=> ?_;have cell: ∀c v,s.heap.IsCell c v->(s.heap.push {cls:=.type "list",data:=.seq us.toArray}).IsCell c v:=fun c v ⟨oc,e,d⟩=>⟨oc,Heap.get?_push_of_some _ e,d⟩;refine⟨fun y hy=> ?_,m,y6 hm fun Z Z e=>Heap.get?_push_of_some _ e,fun y v e=> ?_⟩
  ·refine r0 (f.sit.st.cells y hy) fun c v q1 q2=> ?_;exact⟨c,v,q1,cell c v q2⟩
  ·rw[rE] at e;split at e
   ·injection e
   rename_i hy;refine e8 (hv y v e) fun u hu hk=> ?_;have hno:v.open? =false:=by
    cases hz:v.open? with
    |false=>rfl
    |true=>have:=f.only y v e hz;rw[hx] at this;exact absurd (Option.some.inj this).symm hy
   refine⟨u,.of (((hu.plain hno).more kx).carry (push _)),?_⟩;rcases hk with z|⟨z,c,z1,z2⟩
   ·exact .inl z
   ·exact .inr ⟨z,c,z1,cell c _ z2⟩
 ·injection q with q;subst q;exact⟨s0n,fun z=>nl _ z rfl⟩
 ·rw[rE] at e;split at e
  ·injection e
  ·exact f.only y v e o
 ·have kp:=f.keeps st;exact⟨kp.keep,kp.live,kp.codes,.inr fun b q=>by injection q with q;subst q;exact an⟩
 ·exact⟨a,_,us,0,rfl,rfl,new,⟨rfl,rfl⟩,rfl,r'⟩
end
section
variable {W:Wd} {C C₀:Cx} {X:Xs} {k:Nat} {env:Env} {sc:Scope} {oa oa' oa'':Option Addr} {σ σ':d9} {s₀ s s₁ s':Shared} {g:G} {n:Nat} {opn:Option Str} {h h' h'':Heap}
theorem U0 {a:Addr} {base:Heap} (kp: ∀b o,b≠a->h.get? b=some o->h'.get? b=some o): ∀{l:List Env},a∉l.filterMap (·.frame)->h.FunFrames base l->h'.FunFrames base l
 |[],_,_=>trivial
 |env::r,hn,z=>by
  refine n5 z fun hk z hr=> ?_;refine cQ z fun L o hf hb ho hd=> ?_;rw[List.filterMap_cons,hf] at hn;simp only[List.mem_cons,not_or] at hn;exact⟨hk,⟨L,o,hf,hb,kp L o (Ne.symm hn.1) ho,hd⟩,U0 kp hn.2 hr⟩
theorem t9.but_new {a:Addr} (K:t9 C env oa h oa' h') (hn:h.get? a=none) (t:o3 h') (m:nM h' a) (kp: ∀b o,b≠a->h'.get? b=some o->h''.get? b=some o):t9 C env oa h oa' h'':=by
 have ne: ∀b o,h.get? b=some o->b≠a:=fun b o e q=>by rw[q,hn] at e;injection e
 refine⟨fun b o e q1 q2 q3 q4=>kp b o (ne b o e) (K.keep b o e q1 q2 q3 q4),fun b o e=> ?_,fun b o e q nc=>(K.codes b o e q nc).but t m kp,K.oaf⟩;refine d6 (K.live b o e) fun o' e'=> ?_;exact⟨o',kp b o' (ne b o e) e'⟩
noncomputable def Cx.plus (C:Cx) (a:Addr):Cx:={C with X:=fun b=>C.X b\/b=a}
theorem zM {a:Addr}:Gr (C.plus a) h h'↔Gr C h h':=⟨fun g=>⟨g.keep,g.slots,g.tabs,g.codes⟩,fun g=>⟨g.keep,g.slots,g.tabs,g.codes⟩⟩
theorem pS {a:Addr}:k9 (C.plus a) s s'↔k9 C s s':=⟨fun⟨h,t,e,g⟩=>⟨h,t,e,zM.mp g⟩,fun⟨h,t,e,g⟩=>⟨h,t,e,zM.mpr g⟩⟩
theorem uB {a:Addr}:aM W (C.plus a) h↔aM W C h:=⟨fun i=>⟨i.G,i.base,i.frames,i.tabs,i.Gl⟩,fun i=>⟨i.G,i.base,i.frames,i.tabs,i.Gl⟩⟩
theorem xR {a:Addr} (K:t9 (C.plus a) env oa h oa' h'):t9 C env oa h oa' h':=⟨K.keep,K.live,K.codes,K.oaf⟩
theorem LD {a:Addr} (o:C.Ok k):(C.plus a).Ok k:=⟨o.frames,o.handled,o.depth,o.units,fun b m=>.inl (o.locs b m),o.tab,o.loct⟩
theorem GA {a:Addr} (F:L9 W C C₀ env sc s₀):L9 W (C.plus a) C₀ env sc s₀:=⟨F.fr,F.base,F.frame,F.kinds,F.inj,F.newL,F.newC,.inl F.XL,F.base₀,F.G₀,F.tabs₀,F.nofree,F.cellk⟩
theorem E4 (f:j7 W C k env sc s₀ opn oa σ s) {a:Addr} (an:s.heap.get? a=none):s₀.heap.get? a=none:=by
 cases q:s₀.heap.get? a with
 |none=>rfl
 |some o=>
  by_cases z:C.tb/\o4 a
  ·refine d6 (f.sit.inv.tabNone z.2) fun ps e=> ?_;rw[an] at e;injection e
  ·refine d6 (f.step.gr.slots a o q z) fun sl e=> ?_;rw[an] at e;injection e
theorem BZ {a:Addr} {m:Str->Option Value} (F:L9 W C C₀ env sc s₀) (f:j7 W C k env sc s₀ opn oa σ s) (an:s.heap.get? a=none) (st:k9 C s s') (hm:s'.heap.Ns a m):j7 W (C.plus a) k env sc s₀ opn oa σ s':=by
 have f':=f.step' st;have sn:=E4 f an;have hsub: ∀b,C.X b->Xo (C.plus a) oa b:=fun b q=>.inl (.inl q);have kx: ∀b,Xo (C.plus a) oa b->Xo C oa b\/ ∀o,s.heap.get? b=some o-> ¬I7 o:=fun b q=>by
  rcases q with(q|q)|q
  ·exact .inl (.inl q)
  ·exact .inr fun o e=>by rw[q,an] at e;injection e
  ·exact .inl (.inr q)
 refine F5 (D3 hm) fun o es ep e Z=> ?_;refine⟨pS.mpr f'.step,⟨f.sit.wok,LD f.sit.ok,⟨f.sit.wf.notab⟩,fun b q=>.inl q,fun b q=> ?_,fun b q=> ?_,uB.mpr f'.sit.inv,f.sit.envOk,(f.sit.st.more kx).gr f.sit.ok f.sit.inv st.gr hsub,fun b q=>.inr q⟩,fun b q=>⟨(f.newo b q).1,fun z=> ?_⟩,f.only⟩
 ·rcases q with(q|q)|q
  ·exact f.sit.xg b (.inl q)
  ·exact q▸F.notG sn
  ·exact f.sit.xg b (.inr q)
 ·rcases q with(q|q)|q
  ·exact f'.sit.live b (.inl q)
  ·exact⟨q▸o6 f.sit.inv.tabs an,q▸⟨o,e⟩⟩
  ·exact f'.sit.live b (.inr q)
 ·rcases z with z|z
  ·exact(f.newo b q).2 z
  ·refine f8 (f.sit.live b (.inr q)) fun Z z6t=> ?_;refine d6 z6t fun o' e'=> ?_;clear z6t;rw[z,an] at e';injection e'
theorem xS {a:Addr} {m:Str->Option Value} {tk:Nat} (F:L9 W C C₀ env sc s₀) (f:j7 W (C.plus a) k env sc s₀ opn oa σ s) (sn:s₀.heap.get? a=none) (hm:s.heap.Ns a m) (kp: ∀b,b≠a->h'.get? b=s.heap.get? b)
  (hX: ¬Xo C oa a) (okC:C.Ok k) (wf:W.Fits C) (hLa:env.locals≠a):j7 W C k env sc s₀ opn oa σ {s with heap:=h',toks:=tk}:=by
 refine F5 (D3 hm) fun od es ep e d=> ?_;have mu:nM s.heap a:=⟨od,e,.inl fun vs z=>by rw[d] at z;injection z⟩;have kp': ∀b o,b≠a->s.heap.get? b=some o->h'.get? b=some o:=fun b o n q=>(kp b n).trans q;have i:=uB.mp f.sit.inv;have hloc:a∉C.locs:=fun q=>hX (.inl (okC.locs a q));refine⟨?_,⟨f.sit.wok,okC,wf,fun b q=>.inl q,fun b q=>f.sit.xg b (q.elim (fun z=>.inl (.inl z)) .inr),fun b q=> ?_,?_,f.sit.envOk,?_,fun b q=>.inr q⟩,fun b q=>⟨(f.newo b q).1,fun z=>(f.newo b q).2 (.inl z)⟩,f.only⟩
 ·refine r0 (pS.mp f.step) fun y5 n7 I4 gr=> ?_;exact⟨h',tk,by rw[I4],gr.but sn F.tabs₀ (by rw[I4] at mu;exact mu) (by rw[I4] at kp';exact kp')⟩
 ·refine f8 (f.sit.live b (q.elim (fun z=>.inl (.inl z)) .inr)) fun nt z5t=> ?_;refine d6 z5t fun o' e'=> ?_;clear z5t;exact⟨nt,o',kp' b o' (fun z=>hX (z▸q)) e'⟩
 ·exact⟨fun b o q=>kp' b o (fun z=>by rw[z,F.notG sn] at q;injection q) (i.G b o q),fun b o q=>kp' b o (fun z=>by rw[z,F.notB sn] at q;injection q) (i.base b o q),U0 kp' hloc i.frames,i.tabs.but mu kp',i.Gl⟩
 ·refine e8 f.sit.st.vals fun mm hmm hv=> ?_;have cell: ∀c v,s.heap.IsCell c v->h'.IsCell c v:=fun c v ⟨oc,q,dd⟩=>⟨oc,kp' c oc (fun z=>by rw[z,e] at q;injection q with q;subst q;rw[d] at dd;injection dd) q,dd⟩;refine⟨fun y hy=> ?_,mm,?_,fun y v q=> ?_⟩
  ·refine r0 (f.sit.st.cells y hy) fun c v q1 q2=> ?_;exact⟨c,v,q1,cell c v q2⟩
  ·refine F5 hmm fun o es' ep' q r=> ?_;clear hmm;exact⟨o,es',ep',kp' _ _ hLa q,r⟩
  ·refine e8 (hv y v q) fun u hu hk=> ?_;refine⟨u,(hu.but kp (.inl (.inl (.inr rfl))) fun o' q vs n z=>by rw[e] at q;injection q with q;subst q;rw[d] at z;injection z).more fun b z=>.inl (z.elim (fun z=>.inl (.inl z)) .inr),?_⟩;rcases hk with z|⟨z,c,z1,z2⟩
   ·exact .inl z
   ·exact .inr ⟨z,c,z1,cell c _ z2⟩
theorem kZ (hE: ∀n,I8 W n) (hg:C5 W k C.tb g) (F:L9 W C C₀ env sc s₀) (f:j7 W C k env sc s₀ opn oa σ s) (x:Str) (xp:Pos) (elt tg it:Expr) (ifs:List Expr) (csc:Scope) (lp p:Pos) (hs:g9 sc x=true) (ho:opn≠some x)
  (hsw:swapsWith (.ListComp elt [⟨tg,it,ifs,0⟩] csc lp) (some (.Name x xp)) p.line env=pure true):
  w4 ((ev g (n+1) false sc σ (.ListComp elt [⟨tg,it,ifs,0⟩] csc lp)).bind fun v=>(E7 opn σ x (.ListComp elt [⟨tg,it,ifs,0⟩] csc lp) v).map fun σ'=>(Fl.next,σ'))
   (fun Q E s=>wpAny (model prog w) C.A (exec (.Assign [.Name x xp] (.ListComp elt [⟨tg,it,ifs,0⟩] csc lp) p) env) Q E s) (A5 W C k env sc s₀ opn oa s) (E9 C C₀ env s₀) s:=by
 show w4 ((if (s9 sc csc &&X6 csc tg)=true then (ev g n false sc σ it).bind fun iv=>(s0 iv).bind fun items=>(D4 (F6 (ev g n false csc) (ev g n true csc) (i5 σ sc csc) tg elt ifs) items).map V.list else R.stuck).bind _) _ _ _ _;by_cases hc:(s9 sc csc &&X6 csc tg)=true
 case neg=>rw[if_neg hc];trivial
 rw[if_pos hc];rw[Bool.and_eq_true] at hc;refine Q0 (J6 hc.1) fun hn1 hn2 hn3 hn4=> ?_;have h1:=hK (n:=n) hE hg F f it;have rule: ∀(Q:Flow->Shared->Prop) (E:Value->Shared->Prop),ev g n false sc σ it≠.stuck->
   wpAny (model prog w) C.A (eval it env) (fun xv s₁=>wpAny (model prog w) C.A (pyIter xv) (fun it' e7=>wpAny (model prog w) C.A (newList []) (fun acc l6=>
    wpAny (model prog w) C.A (newFunctionEnv csc env.globals (F7 env csc.names []) [] env.qual none .none (some env)) (fun cenv C4=>
     codeAny (model prog w) C.A (.compStart (.ListComp elt [⟨tg,it,ifs,0⟩] csc lp) 0 it' acc {cenv with scope:=relabel csc env}) (compPost (model prog w) C.A E (some (assign (.Name x xp) env)) (fun Z s'=>Q .next s') acc cenv.locals) C4) E l6) E e7) E s₁) E s->
   wpAny (model prog w) C.A (exec (.Assign [.Name x xp] (.ListComp elt [⟨tg,it,ifs,0⟩] csc lp) p) env) Q E s:=by
  intro Q E hst hk;rw[exec_Assign_Name_used _ _ _ _ hsw];refine wpAny_bind (wpAny_standAt (wpAny_bind ?_));show wpAny _ C.A (do let _ <-comprehension (.ListComp elt [⟨tg,it,ifs,0⟩] csc lp) csc env _ (newList []) false (eval it env) (some (assign (.Name x xp) env))) _ _ s;exact wpAny_bind (wpAny_mono (wpAny_comprehension_free (use:=some (assign (.Name x xp) env)) (Q:=fun Z s'=>Q .next s') rfl (bW (g:=g) (n:=n) (sc:=sc) (σ:=σ) hst) (Y3 (R5 hc.1 f.sit.envOk f.sit.st)) hn4 hn2 hk) (fun Z s' hq=>wpAny_pure (wpAny_pure hq)) fun Z Z e=>e)
 cases hv:ev g n false sc σ it with
 |stuck=>trivial
 |err l=>
  rw[hv] at h1;exact rule _ _ (by rw[hv];exact fun z=>by injection z) (wpAny_mono h1 (fun Z Z x=>x.elim) fun Z Z x=>x)
 |ok iv=>
  rw[hv] at h1;show w4 (((s0 iv).bind fun items=>(D4 (F6 (ev g n false csc) (ev g n true csc) (i5 σ sc csc) tg elt ifs) items).map V.list).bind _) _ _ _ _;cases hi:s0 iv with
  |stuck=>trivial
  |err l=>exact absurd hi (fT _)
  |ok items=>
   show w4 (((D4 (F6 (ev g n false csc) (ev g n true csc) (i5 σ sc csc) tg elt ifs) items).map V.list).bind _) _ _ _ _;cases hp:D4 (F6 (ev g n false csc) (ev g n true csc) (i5 σ sc csc) tg elt ifs) items with
   |stuck=>trivial
   |err l=>exact absurd hp (aP (fun Z Z=>kO) _ _)
   |ok ds=>
    show w4 ((E7 opn σ x (.ListComp elt [⟨tg,it,ifs,0⟩] csc lp) (.list ds)).map fun σ'=>(Fl.next,σ')) _ _ _ _;rw[show E7 opn σ x (.ListComp elt [⟨tg,it,ifs,0⟩] csc lp) (.list ds)=.ok (σ.set x (.list ds)) by unfold E7;rw[if_neg ho];rfl];refine rule _ _ (by rw[hv];exact fun z=>by injection z) (wpAny_mono h1 (fun xv s₁ q=> ?_) fun Z Z x=>x);have f₁:=f.step' q.1;refine kQ (hE n) hg f₁.sit hc.1 hc.2 q.2 hi hp (fun acc Cc=>compPost (model prog w) C.A (fun Z Z=>False) (some (assign (.Name x xp) env)) (fun Z s'=>A5 W C k env sc s₀ opn oa s (.next,σ.set x (.list ds)) .next s') acc Cc) ?_;intro D Cc I e7 hDC sD sC sI st hn hl;refine d6 hn fun m hm=> ?_;clear hn;have sn:=E4 f₁ sC;have fp:=BZ F f₁ sC st hm;refine X0 hl fun o ys mm e1 e2 e3 e4=> ?_;clear hl;have nX: ∀b,Xo C oa b->b≠Cc:=fun b z y=>by
     refine f8 (f₁.sit.live b z) fun Z z4t=> ?_;refine d6 z4t fun o' e'=> ?_;clear z4t;rw[y,sC] at e';injection e'
    have rD:Rp e7.heap (Xo (C.plus Cc) oa) (.ref D) (.list ds):=.list (vs:=ys) e1 e2 e3 (fun z=>by
     rcases z with(z|z)|z
     ·refine f8 (f₁.sit.live D (.inl z)) fun Z z3t=> ?_;refine d6 z3t fun o' e'=> ?_;clear z3t;rw[sD] at e';injection e'
     ·exact hDC z
     ·refine f8 (f₁.sit.live D (.inr z)) fun Z z2t=> ?_;refine d6 z2t fun o' e'=> ?_;clear z2t;rw[sD] at e';injection e') (e4.less fun b z=>by
      rcases z with(z|z)|z
      ·exact .inl (.inl z)
      ·exact .inr (.inl z)
      ·exact .inl (.inr z))
    show wpAny (model prog w) C.A (assign (.Name x xp) env (.ref D)) _ _ e7;refine wpAny_assign_Name (wpAny_mono (B4 (GA F) fp (H0 hs) (.of rD) (fun z=>by injection z)) (fun Z l6 P0=> ?_) fun Z Z x=>x);refine n5 P0 fun E3 wH Z=> ?_;clear P0;have ntC: ¬o4 Cc:=o6 f₁.sit.inv.tabs sC;refine F5 (D3 hm) fun oC es ep eC dC=> ?_;have hCloc:Cc∉C.locs:=fun z=>nX Cc (.inl (f.sit.ok.locs Cc z)) rfl;have JJ:l6.heap.Ns Cc m:=by
     refine F5 hm fun o' es' ep' e' r'=> ?_;clear hm;refine⟨o',es',ep',wH.keep Cc o' e' hCloc ntC (fun y c hc q=> ?_) (fun q=>nX Cc (.inr q) rfl),r'⟩;refine r0 (fp.sit.st.cells y (.inl ((F.kinds y).trans (F.cellk y c hc)))) fun c' v y1 z1t=> ?_;refine e8 z1t fun o'' y2 y3=> ?_;clear z1t;rw[hc] at y1;injection y1 with y1;subst y1;rw[<-q,eC] at y2;injection y2 with y2;subst y2;rw[dC] at y3;injection y3
    have hLC:env.locals≠Cc:=fun z=>nX _ (.inl F.XL) z;refine⟨m,JJ,fun h' hsb=>⟨oa,xS (tk:=l6.toks) F E3 sn JJ hsb.2 (fun z=>nX Cc z rfl) f.sit.ok f.sit.wf hLC,?_,rfl⟩⟩;have UL:nM l6.heap Cc:=by
     refine F5 (D3 JJ) fun o' es' ep' e' d'=> ?_;exact⟨o',e',.inl fun vs z=>by rw[d'] at z;injection z⟩
    have cJ:t9 C env oa s₁.heap oa e7.heap:=.of_gr f₁.sit.inv.tabs st.gr;have K:t9 C env oa s₁.heap oa l6.heap:=cJ.trans (xR wH);exact(f.keeps q.1).trans (K.but_new sC E3.sit.inv.tabs UL fun b o nb e=>(hsb.2 b nb).trans e)
end
section
variable {W:Wd} {C C₀:Cx} {X:Xs} {k:Nat} {env:Env} {sc:Scope} {oa oa' oa'':Option Addr} {σ σ':d9} {s₀ s s₁ s':Shared} {g:G} {n:Nat} {opn:Option Str} {h h' h'':Heap}
theorem Z7 (hE: ∀n,I8 W n) (hg:C5 W k C.tb g) (F:L9 W C C₀ env sc s₀) (f:j7 W C k env sc s₀ opn oa σ s) (x:Str) (xp:Pos) (e:Expr) (p:Pos) (hs:g9 sc x=true) (ho:opn≠some x)
  (hsw:swapsWith e (some (.Name x xp)) p.line env=pure false):
  w4 ((ev g n false sc σ e).bind fun v=>(E7 opn σ x e v).map fun σ'=>(Fl.next,σ'))
   (fun Q E s=>wpAny (model prog w) C.A (exec (.Assign [.Name x xp] e p) env) Q E s) (A5 W C k env sc s₀ opn oa s) (E9 C C₀ env s₀) s:=by
 refine Ou.bind (fun Q E h=>wpAny_Assign_Name h hsw) (hK hE hg F f e) fun d v s₁ Z q=> ?_;have f₁:=f.step' q.1;unfold E7;rw[if_neg ho];by_cases hop:d.open? =true
 ·rw[if_pos hop];trivial
 rw[if_neg hop];refine wpAny_mono (B4 F f₁ (H0 hs) q.2 (fun z=>absurd z hop)) (fun Z e7 B8=> ?_) fun Z Z x=>x;exact⟨oa,B8.1,(f.keeps q.1).trans B8.2.1,rfl⟩
theorem zN (σ:d9) (x:Str) (v:V) (y:Str):(σ.set x v).get y=((FZ σ x).set x v).get y:=by
 rw[k7,k7,rE];split<;>rfl
theorem lA (hE: ∀n,I8 W n) (hg:C5 W k C.tb g) (F:L9 W C C₀ env sc s₀) (f:j7 W C k env sc s₀ opn oa σ s) (x:Str) (xp:Pos) (es:List Expr) (lp p:Pos) (hs:g9 sc x=true) (ho:opn=some x):
  w4 ((ev g n false sc σ (.List es lp)).bind fun v=>(E7 opn σ x (.List es lp) v).map fun σ'=>(Fl.next,σ'))
   (fun Q E s=>wpAny (model prog w) C.A (exec (.Assign [.Name x xp] (.List es lp) p) env) Q E s) (A5 W C k env sc s₀ opn oa s) (E9 C C₀ env s₀) s:=by
 cases n with
 |zero=>trivial
 |succ n=>
 have hm:=(Q3 (hE n) hg lp es f.sit).mono (E':=E9 C C₀ env s₀) (fun Z Z Z Z p=>p) fun Z Z Z Z p=>fU F f p;rw[show(ev g (n+1) false sc σ (.List es lp))=(B9 (ev g n false sc σ) es).bind fun vs=>(N1 vs).map V.list by
  show((B9 (ev g n false sc σ) es).bind N1).map V.list=_;cases B9 (ev g n false sc σ) es<;>rfl]
 rw[R.bind_assoc];refine Ou.bind (F:=fun vs Q E s₁=>vs.length<=sizeLine/\wpAny (model prog w) C.A (storeName env x (.ref s₁.heap.objs.size)) (fun Z=>Q .next) E {s₁ with heap:=s₁.heap.push {cls:=.type "list",data:=.seq vs.toArray}})
  (fun Q E h=>wpAny_Assign_Name (wpAny_List h)) hm fun ds us s₁ Z q=> ?_
 have f₁:=f.step' q.1;have sq:=jD f₁.sit q.2;cases hsq:N1 ds with
 |stuck=>trivial
 |err l=>rw[hsq] at sq;exact sq.elim
 |ok bs=>
  rw[hsq] at sq;refine n5 sq fun z6r r hz=> ?_;clear sq;subst z6r;show w4 ((E7 opn σ x (.List es lp) (.list bs)).map fun σ'=>(Fl.next,σ')) _ _ _ _;rw[show E7 opn σ x (.List es lp) (.list bs)=.ok (σ.set x (.olist bs)) by unfold E7;rw[if_pos ho];rfl];refine n5 (uA (tk:=s₁.toks) F f₁ ho r) fun n8 K ro=> ?_;refine⟨hz,?_⟩;refine wpAny_mono (B4 F n8 (H0 hs) ro (fun Z=>ho)) (fun Z e7 B8=> ?_) fun Z Z x=>x;exact⟨_,B8.1.congr fun y=>zN σ x _ y,(f.keeps q.1).trans (K.trans B8.2.1),rfl⟩
noncomputable def aS:Expr->Bool
 | .ListComp .. | .SetComp .. | .DictComp .. =>true
 |_=>false
theorem H1 {e:Expr} {t:Option Expr} {l:Nat} (h:aS e=false):swapsWith e t l env=pure false:=by
 cases e<;>first|rfl|exact absurd h.symm Bool.false_ne_true
noncomputable def PM (g:G) (e:Expr):Prop:=(∃elt gens csc lp,e=.ListComp elt gens csc lp)\/ ∀n sc σ,ev g n false sc σ e=.stuck
theorem zO {e:Expr} (h:aS e=true):PM g e:=by
 cases e<;>first|exact absurd h Bool.false_ne_true|exact .inl ⟨_,_,_,_,rfl⟩|exact .inr fun n sc σ=>by cases n<;>rfl
theorem zP {e:Expr} (h:O1 e=true): ∃es lp,e=.List es lp:=by
 cases e<;>first|exact absurd h Bool.false_ne_true|exact⟨_,_,rfl⟩
theorem GC {elt:Expr} {gens:List Comprehension} {csc:Scope} {lp:Pos} (h:ev g (n+1) false sc σ (.ListComp elt gens csc lp)≠.stuck): ∃tg it ifs,gens=[⟨tg,it,ifs,0⟩]:=by
 rcases gens with _|⟨⟨tg,it,ifs,a⟩,_|_⟩
 ·exact absurd rfl h
 ·by_cases ha:a=0
  ·exact⟨tg,it,ifs,ha▸rfl⟩
  ·refine absurd ?_ h;show(if _ then (if a=0 then _ else _) else _)=_;rw[if_neg ha,ite_self]
 ·exact absurd rfl h
theorem fV {α β γ:Type} {r:R α} {f:α->R γ} {G:Tr β} {P:γ->β->Shared->Prop} {E:Int->Value->Shared->Prop} (h:r≠.stuck->w4 (r.bind f) G P E s):w4 (r.bind f) G P E s:=by
 cases r with
 |stuck=>trivial
 |_=>exact h nofun
theorem CA (hE: ∀n,I8 W n) (hg:C5 W k C.tb g) (F:L9 W C C₀ env sc s₀) (f:j7 W C k env sc s₀ opn oa σ s) (x:Str) (xp:Pos) (e:Expr) (p:Pos):
  w4 (ex g opn sc (n+1) σ (.Assign [.Name x xp] e p)) (fun Q E s=>wpAny (model prog w) C.A (exec (.Assign [.Name x xp] e p) env) Q E s) (A5 W C k env sc s₀ opn oa s) (E9 C C₀ env s₀) s:=by
 show w4 (if g9 sc x=true/\(opn=some x->O1 e=true) then (ev g n false sc σ e).bind fun v=>(E7 opn σ x e v).map fun σ'=>(Fl.next,σ') else .stuck) _ _ _ _;refine w4.guard fun hc=> ?_;by_cases ho:opn=some x
 ·refine C0 (zP (hc.2 ho)) fun es lp z5r=> ?_;subst z5r;exact lA hE hg F f x xp es lp p hc.1 ho
 ·cases hk:aS e with
  |false=>exact Z7 (n:=n) hE hg F f x xp e p hc.1 ho (H1 hk)
  |true=>
   refine fV fun hne=> ?_;rcases zO (g:=g) hk with⟨elt,gens,csc,lp,rfl⟩|z
   ·cases n with
    |zero=>exact absurd rfl hne
    |succ n=>
     refine wQ (GC hne) fun tg it ifs z4r=> ?_;subst z4r;obtain⟨b,hsw⟩: ∃b,swapsWith (.ListComp elt [⟨tg,it,ifs,0⟩] csc lp) (some (.Name x xp)) p.line env=pure b:=⟨_,rfl⟩;cases b with
     |false=>exact Z7 hE hg F f x xp _ p hc.1 ho hsw
     |true=>exact kZ hE hg F f x xp elt tg it ifs csc lp p hc.1 ho hsw
   ·exact absurd (z _ _ _) hne
theorem eG (f:Expr->Option Str) (hf: ∀x p,f (.Name x p)=some x\/f (.Name x p)=none): ∀{ts:List Expr} {xs:List Str},G3 ts=some xs->
  (ts.filterMap f).length<=ts.length/\((ts.filterMap f).length=ts.length->ts.filterMap f=xs)
 |[],xs,h=>⟨Nat.le_refl _,fun Z=>Option.some.inj h⟩
 |t::r,xs,h=>by
  refine nJ (dS h) fun x p ys z2r hr z3r=> ?_;subst z2r;subst z3r;refine f8 (eG f hf hr) fun h1 h2=> ?_;rw[List.filterMap_cons];rcases hf x p with e|e
  ·rw[e];exact⟨Nat.succ_le_succ h1,fun q=>by rw[h2 (Nat.succ.inj q)]⟩
  ·rw[e];exact⟨Nat.le_succ_of_le h1,fun q=>absurd h1 (Nat.not_le.mpr (q▸Nat.lt_succ_self r.length))⟩
theorem xT {env:Env} {ts es:List Expr} {j j':Nat} {p p':Pos} {xs:List Str} (hn:G3 ts=some xs) (hf:aK es=true):
  swappedStores [.Tuple ts j p] (.Tuple es j' p') env=pure none\/(swappedStores [.Tuple ts j p] (.Tuple es j' p') env=pure (some xs)/\(ts.length=2\/ts.length=3)/\es.length=ts.length):=by
 unfold aK at hf;rw[Bool.or_eq_true,Bool.not_eq_true'] at hf;unfold swappedStores;dsimp only;split
 ·exact .inl rfl
 rename_i h1;rw[Bool.or_eq_true,Bool.or_eq_true,not_or,not_or] at h1;refine f8 h1 fun z1n Z=> ?_;clear h1;refine f8 z1n fun h1 h2=> ?_;clear z1n;have h2:es.length=ts.length:=by simpa using h2
 have h1:ts.length=2\/ts.length=3:=by
  have:=h1;simp at this;omega
 split
 ·exact .inl rfl
 split
 ·exact .inl rfl
 rename_i h4;rw[Bool.or_eq_true,not_or] at h4;have h4:=h4.1;split
 ·exact .inl rfl
 rename_i h5;split
 ·rename_i h6;rcases hf with z|z
  ·rw[h6] at z;injection z
  ·exact absurd z h5
 ·refine .inr ⟨congrArg (fun z=>(pure (some z):Sem (Option (List Str)))) ((eG _ (fun x p=> ?_) hn).2 (by have:=h4;rw[bne_iff_ne,ne_eq,Decidable.not_not] at this;exact this)),h1,h2⟩;dsimp only;split
  ·exact .inl rfl
  ·exact .inr rfl
end
section
variable {W:Wd} {C C₀:Cx} {X:Xs} {k:Nat} {env:Env} {sc:Scope} {oa oa' oa'':Option Addr} {σ σ':d9} {s₀ s s₁ s':Shared} {g:G} {n:Nat} {opn:Option Str} {h h' h'':Heap}
theorem cX: ∀{xs:List Str} {vs:List V} {σ σ':d9},F0 opn σ xs vs=.ok σ'->xs.length=vs.length
 |[],[],_,_,_=>rfl
 |[],_::_,_,_,h=>by injection h
 |_::_,[],_,_,h=>by injection h
 |x::xs,v::vs,σ,σ',h=>by
  rw[eF] at h;split at h
  ·injection h
  ·rw[List.length_cons,List.length_cons,cX h]
theorem aU: ∀{xs:List Str} {vs:List V} {σ σ':d9},N2 σ xs vs=.ok σ'->F0 opn σ xs vs=.ok σ'
 |[],[],_,_,h=>h
 |[],_::_,_,_,h=>by injection h
 |_::_,[],_,_,h=>by injection h
 |x::xs,v::vs,σ,σ',h=>by
  rw[tE] at h;rw[eF];split at h
  ·injection h
  ·rename_i q;rw[if_neg (fun z=>q z.1)];exact aU h
theorem aV {x:Str} {xs:List Str} {e:Expr} {es:List Expr} {v:V} {vs:List V}:U6 opn σ (x::xs) (e::es) (v::vs)=
  if opn=some x then (match v with
   | .list ds=>if O1 e &&vs.all oS then N2 (σ.set x (.olist ds)) xs vs else .stuck
   |_=>.stuck)
  else if (x::xs).any (fun y=>opn==some y) then .stuck else N2 σ (x::xs) (v::vs):=rfl
theorem eH: ∀{xs:List Str} {vs:List V} {σ:d9} {l:Int},N2 σ xs vs≠.err l:=by
 intro xs;induction xs with
 |nil=>intro vs σ l h;cases vs<;>cases h
 |cons x xs ih=>
  intro vs σ l h;cases vs with
  |nil=>injection h
  |cons v vs=>
   rw[tE] at h;split at h
   ·injection h
   ·exact ih h
theorem eJ: ∀{xs:List Str} {vs:List V} {nH σ₂ σ':d9},(∀y,nH.get y=σ₂.get y)->F0 opn nH xs vs=.ok σ'-> ∃W8,F0 opn σ₂ xs vs=.ok W8/\ ∀y,σ'.get y=W8.get y
 |[],[],_,_,_,e,h=>by injection h with h;subst h;exact⟨_,rfl,e⟩
 |[],_::_,_,_,_,_,h=>by injection h
 |_::_,[],_,_,_,_,h=>by injection h
 |x::xs,v::vs,nH,σ₂,σ',e,h=>by
  rw[eF] at h ⊢;split at h
  ·injection h
  ·rename_i q;rw[if_neg q];exact eJ (fun y=>by rw[k7,k7,e]) h
noncomputable def ZM (opn:Option Str) (x:Str) (v:V):Prop:= ¬(v.open? =true/\opn≠some x)
theorem aW {x:Str} {xs:List Str} {v:V} {vs:List V} {σ σ':d9} (h:F0 opn σ (x::xs) (v::vs)=.ok σ'):ZM opn x v/\F0 opn (σ.set x v) xs vs=.ok σ':=by
 unfold F0 at h;by_cases q:v.open? =true/\opn≠some x
 ·rw[if_pos q] at h;injection h
 ·rw[if_neg q] at h;exact⟨q,h⟩
theorem L2 {x:Str} {xs:List Str} {v:V} {vs:List V} {σ:d9} (q:ZM opn x v):F0 opn σ (x::xs) (v::vs)=F0 opn (σ.set x v) xs vs:=if_neg q
theorem eM {σ:d9} {x y:Str} {a b:V} (h:x≠y) (z:Str):((σ.set x a).set y b).get z=((σ.set y b).set x a).get z:=by
 rw[k7,k7,k7,k7];by_cases h1:z=x
 ·rw[h1,if_neg h,if_pos rfl,if_pos rfl]
 ·rw[if_neg h1,if_neg h1]
theorem uC {σ σ':d9} {x:Str} {a:V} (h: ∀z,σ.get z=σ'.get z) (z:Str):(σ.set x a).get z=(σ'.set x a).get z:=by
 rw[k7,k7,h]
theorem cY {xs:List Str} {vs:List V} {σ σ':d9} (h:F0 opn σ xs vs=.ok σ') (hn:xs.Nodup) (hl:xs.length=2\/xs.length=3): ∃W8,F0 opn σ xs.reverse vs.reverse=.ok W8/\ ∀y,σ'.get y=W8.get y:=by
 have hlen:=cX h;rcases xs with _|⟨x,_|⟨y,r⟩⟩
 ·exact hl.elim nofun nofun
 ·exact hl.elim nofun nofun
 rcases vs with _|⟨a,_|⟨b,vs⟩⟩
 ·cases hlen
 ·cases hlen
 refine f8 (aW h) fun ha h=> ?_;refine f8 (aW h) fun hb h=> ?_;refine f8 (List.nodup_cons.mp hn) fun n1 n2=> ?_;have hxy:x≠y:=fun e=>n1 (e▸.head _);rcases r with _|⟨u,_|_⟩
 ·rcases vs with _|_
  ·rw[<-v0 h];exact⟨(σ.set y b).set x a,(L2 hb).trans (L2 ha),eM hxy⟩
  ·cases hlen
 ·rcases vs with _|⟨c,_|_⟩
  ·cases hlen
  ·refine f8 (aW h) fun hc h=> ?_;rw[<-v0 h];have hxu:x≠u:=fun e=>n1 (e▸.tail _ (.head _));have hyu:y≠u:=fun e=>(List.nodup_cons.mp n2).1 (e▸.head _);exact⟨((σ.set u c).set y b).set x a,(L2 hc).trans ((L2 hb).trans (L2 ha)),fun z=>((uC (eM hxy) z).trans (eM hxu z)).trans (uC (eM hyu) z)⟩
  ·cases hlen
 ·exact hl.elim nofun nofun
theorem v6.append: ∀{us us':List Value} {vs vs':List V},v6 h X oa us vs->v6 h X oa us' vs'->v6 h X oa (us++us') (vs++vs')
 |[],_,[],_,_,b=>b
 |_::_,_,_::_,_,a,b=>⟨a.1,v6.append a.2 b⟩
theorem v6.rev {us:List Value} {vs:List V} (r:v6 h X oa us vs):v6 h X oa us.reverse vs.reverse:=by
 induction us generalizing vs with
 |nil=>cases vs with|nil=>trivial|cons=>cases r
 |cons u us ih=>
  cases vs with
  |nil=>cases r
  |cons v vs=>
   rw[List.reverse_cons,List.reverse_cons];exact(ih r.2).append ⟨r.1,trivial⟩
theorem v6.len: ∀{us:List Value} {vs:List V},v6 h X oa us vs->us.length=vs.length
 |[],[],_=>rfl
 |_::_,_::_,r=>by rw[List.length_cons,List.length_cons,v6.len r.2]
theorem LE {u:Value} {v:V} {X':Xs} {JK:Option Addr} (hf:oS v=true) (r:B1 h X oa u v):B1 h' X' JK u v:=by
 cases v with
 |none=>rw[bT r];exact .none
 |bool _=>rw[M1 r];exact .bool _
 |int _=>refine d6 (A1 r) fun Z e=> ?_;rw[e];exact .int _ _
 |str _=>refine d6 (s6 r) fun Z e=> ?_;rw[e];exact .str _ _
 |bytes _=>refine f8 (R4 r) fun z5n q=> ?_;refine d6 z5n fun Z e=> ?_;clear z5n;rw[e];exact .bytes _ _ q
 |_=>exact absurd hf Bool.false_ne_true
theorem uD {X':Xs} {JK:Option Addr}: ∀{us:List Value} {vs:List V},vs.all oS=true->v6 h X oa us vs->v6 h' X' JK us vs
 |[],[],_,_=>trivial
 |_::_,_::_,hf,r=>by
  rw[List.all_cons,Bool.and_eq_true] at hf;exact⟨LE hf.1 r.1,uD hf.2 r.2⟩
theorem pU (F:L9 W C C₀ env sc s₀) {ts:List Expr} {j:Nat} {tp:Pos} {xs:List Str} (hn:G3 ts=some xs) {T:Addr} {us:List Value} (f:j7 W C k env sc s₀ opn oa σ s) (hT:IsTup s.heap T us.toArray) (hlen:us.length=xs.length):
  (∀{Q:Flow->Shared->Prop} {E:Value->Shared->Prop},(∀h' rts,O6 env rts xs->(∀b o,s.heap.get? b=some o->h'.get? b=some o)->wpAny (model prog w) C.A (assignInOrder rts us) (fun Z=>Q .next) E {s with heap:=h'})->
   wpAny (model prog w) C.A (assign (.Tuple ts j tp) env (.ref T)) (fun Z=>Q .next) E s)/\
  (∀{Q:Flow->Shared->Prop} {E:Value->Shared->Prop},(∀h' rts,O6 env rts xs.reverse->(∀b o,s.heap.get? b=some o->h'.get? b=some o)->wpAny (model prog w) C.A (assignInOrder rts us.reverse) (fun Z=>Q .next) E {s with heap:=h'})->
   wpAny (model prog w) C.A (unpackItems (.ref T) xs.length none) (fun items e7=>wpAny (model prog w) C.A (assignInOrder (xs.reverse.map fun n=>bindName env n) items.reverse) (fun Z=>Q .next) E e7) E s):=by
 refine Q0 (cW (env:=env) hn) fun t1 t2 t3 t4=> ?_;refine⟨fun {Q E} hk=> ?_,fun {Q E} hk=> ?_⟩
 ·refine wpAny_assign_Tuple f.sit.ok.handled (w9 hT) (by rw[t2];simp;omega) t3 fun h' he=> ?_;exact hk h' _ t1 fun b o e=>he b o (Nat.ne_of_lt (Heap.lt_size e)) e
 ·have:=wpAny_unpackItems_tuple (prog:=prog) (w:=w) (A:=C.A) (E:=E) (s:=s) (Q:=fun items e7=>wpAny (model prog w) C.A (assignInOrder (xs.reverse.map fun n=>bindName env n) items.reverse) (fun Z=>Q .next) E e7) f.sit.ok.handled (w9 hT)
   fun h' he=>hk h' _ (hO _) fun b o e=>he b o (Nat.ne_of_lt (Heap.lt_size e)) e
  rw[show us.toArray.size=xs.length by simp;omega] at this;exact this
noncomputable def TE (W:Wd) (C:Cx) (k:Nat) (env:Env) (sc:Scope) (s₀:Shared) (opn:Option Str) (xs:List Str) (Q:Flow->Shared->Prop) (E:Value->Shared->Prop) (us:List Value) (s₁:Shared):Prop:=
 us.length<=sizeLine/\us.length=xs.length/\(∃oa' σ',j7 W C k env sc s₀ opn oa' σ' s₁)/\
  ∀i8 rts,(∀b o,(s₁.heap.push {cls:=.type "tuple",data:=.seq us.toArray}).get? b=some o->i8.get? b=some o)->
   (O6 env rts xs->wpAny (model prog w) C.A (assignInOrder rts us) (fun Z=>Q .next) E {s₁ with heap:=i8})/\
   (O6 env rts xs.reverse->(xs.length=2\/xs.length=3)->wpAny (model prog w) C.A (assignInOrder rts us.reverse) (fun Z=>Q .next) E {s₁ with heap:=i8})
section
variable {xs:List Str} {ts es:List Expr} {j j':Nat} {tp ep p:Pos}
theorem Y6 (F:L9 W C C₀ env sc s₀) (hn:G3 ts=some xs) (hfo:aK es=true) (Q:Flow->Shared->Prop) (E:Value->Shared->Prop)
  (hk:wpAny (model prog w) C.A (spliced (backTo ep (starEach es env))) (TE W C k env sc s₀ opn xs Q E) E s):wpAny (model prog w) C.A (exec (.Assign [.Tuple ts j tp] (.Tuple es j' ep) p) env) Q E s:=by
 have tl:=(cW (env:=env) hn).2.2.2;rcases xT (env:=env) (j:=j) (j':=j') (p:=tp) (p':=ep) hn hfo with sw|⟨sw,s2,s3⟩
 ·refine Assign_Tuple (wpAny_Tuple (wpAny_mono hk (fun us s₁ q=> ?_) fun Z Z x=>x)) rfl sw;refine Q0 q fun q1 q2 z4n q4=> ?_;clear q;refine C0 z4n fun oa' σ' f₁=> ?_;clear z4n;have n8:=f₁.step' (s₁:={s₁ with heap:=s₁.heap.push {cls:=.type "tuple",data:=.seq us.toArray}}) (.of_keep fun Z Z e=>Heap.get?_push_of_some _ e);exact⟨q1,(pU (tp:=tp) (j:=j) F hn n8 ⟨_,Heap.get?_push_size _ rfl,rfl,0,rfl⟩ q2).1 fun h' rts ht kp=>(q4 h' rts kp).1 ht⟩
 ·refine Assign_Tuple_swapped (wpAny_Tuple (wpAny_mono hk (fun us s₁ q=> ?_) fun Z Z x=>x)) rfl sw;refine Q0 q fun q1 q2 z3n q4=> ?_;clear q;refine C0 z3n fun oa' σ' f₁=> ?_;clear z3n;have n8:=f₁.step' (s₁:={s₁ with heap:=s₁.heap.push {cls:=.type "tuple",data:=.seq us.toArray}}) (.of_keep fun Z Z e=>Heap.get?_push_of_some _ e);exact⟨q1,(pU (tp:=tp) (j:=j) F hn n8 ⟨_,Heap.get?_push_size _ rfl,rfl,0,rfl⟩ q2).2 fun h' rts ht kp=>(q4 h' rts kp).2 ht (tl▸s2)⟩
theorem pV (F:L9 W C C₀ env sc s₀) (hnd:xs.Nodup) (hst:xs.all (g9 sc)=true) (h8:xs.length<=8) {us:List Value} {vsb:List V} {ZU AO σ':d9} {wP:Option Addr} {s₁:Shared} (f₁:j7 W C k env sc s₀ opn wP ZU s₁)
  (K:t9 C env oa s.heap wP s₁.heap) (r:v6 s₁.heap (Xo C wP) wP us vsb) (hq:F0 opn ZU xs vsb=.ok AO) (he: ∀y,σ'.get y=AO.get y):
  TE W C k env sc s₀ opn xs (A5 W C k env sc s₀ opn oa s (.next,σ')) (fun Z Z=>False) us s₁:=by
 have hul:us.length=xs.length:=r.len.trans (cX hq).symm;refine⟨hul▸Nat.le_trans h8 (by decide),hul,⟨_,_,f₁⟩,fun i8 rts kp=> ?_⟩;have st:k9 C s₁ ({s₁ with heap:=i8}:Shared):=⟨i8,s₁.toks,rfl,.of_keep fun b o e=>kp b o (Heap.get?_push_of_some _ e)⟩;have n8:=f₁.step' st;have aE:=f₁.sit.keepsO st r;have cJ:=K.trans (f₁.keeps st);refine⟨fun ht=> ?_,fun ht hl=> ?_⟩
 ·exact wpAny_mono (N4 F ht n8 hst aE hq) (fun Z l6 q=>⟨wP,q.1.congr he,cJ.trans q.2.1,rfl⟩) fun Z Z x=>x
 ·refine e8 (cY hq hnd hl) fun W8 hq' he'=> ?_;exact wpAny_mono (N4 F ht n8 (List.all_reverse.trans hst) aE.rev hq') (fun Z l6 q=>⟨wP,q.1.congr fun y=>(he y).trans (he' y),cJ.trans q.2.1,rfl⟩) fun Z Z x=>x
variable (hE: ∀n,I8 W n) (hg:C5 W k C.tb g) (F:L9 W C C₀ env sc s₀) (f:j7 W C k env sc s₀ opn oa σ s) (hn:G3 ts=some xs) (hc:xs.Nodup/\aK es=true/\xs.all (g9 sc)=true/\xs.length<=8)
include hE hg F f hn hc
theorem U1 (hP: ∀vs,U6 opn σ xs es vs=.stuck\/U6 opn σ xs es vs=N2 σ xs vs):w4 ((B9 (ev g n false sc σ) es).bind fun vs=>(U6 opn σ xs es vs).map fun σ'=>(Fl.next,σ'))
  (fun Q E s=>wpAny (model prog w) C.A (exec (.Assign [.Tuple ts j tp] (.Tuple es j' ep) p) env) Q E s) (A5 W C k env sc s₀ opn oa s) (E9 C C₀ env s₀) s:=by
 have hm:=(Q3 (hE n) hg ep es f.sit).mono (E':=E9 C C₀ env s₀) (fun Z Z Z Z p=>p) fun Z Z Z Z p=>fU F f p;refine Ou.bind (fun Q E h=>Y6 (k:=k) (opn:=opn) F hn hc.2.1 Q E h) hm fun vs us s₁ Z q=> ?_;rcases hP vs with e|e
 ·rw[e];trivial
 rw[e];cases hp:N2 σ xs vs with
 |stuck=>trivial
 |err l=>exact absurd hp eH
 |ok σ'=>exact pV F hc.1 hc.2.2.1 hc.2.2.2 (f.step' q.1) (f.keeps q.1) q.2 (aU hp) fun Z=>rfl
end
theorem CB {aA es:List Expr} {lp:Pos} {K:List V->R (Fl×d9)}:(B9 (ev g (n+1) false sc σ) (.List aA lp::es)).bind K=
  (B9 (ev g n false sc σ) aA).bind fun ds=>(N1 ds).bind fun ds=>(B9 (ev g (n+1) false sc σ) es).bind fun vs=>K (.list ds::vs):=by
 show((((B9 (ev g n false sc σ) aA).bind N1).map V.list).bind fun y=>(B9 (ev g (n+1) false sc σ) es).map (y:: ·)).bind _=_;cases B9 (ev g n false sc σ) aA with
 |ok ds=>
  show(((N1 ds).map V.list).bind fun y=>(B9 (ev g (n+1) false sc σ) es).map (y:: ·)).bind _=(N1 ds).bind _;cases N1 ds with
  |ok ds=>
   show((B9 (ev g (n+1) false sc σ) es).map (V.list ds:: ·)).bind _=(B9 (ev g (n+1) false sc σ) es).bind _;cases B9 (ev g (n+1) false sc σ) es<;>rfl
  |_=>rfl
 |_=>rfl
theorem xU {x:Str} {xs:List Str} {ts aA es:List Expr} {j j':Nat} {tp ep p lp:Pos} (hE: ∀n,I8 W n) (hg:C5 W k C.tb g) (F:L9 W C C₀ env sc s₀) (f:j7 W C k env sc s₀ opn oa σ s) (hn:G3 ts=some (x::xs))
  (hc:(x::xs).Nodup/\aK (.List aA lp::es)=true/\(x::xs).all (g9 sc)=true/\(x::xs).length<=8) (ho:opn=some x):w4 ((B9 (ev g (n+1) false sc σ) (.List aA lp::es)).bind fun vs=>(U6 opn σ (x::xs) (.List aA lp::es) vs).map fun σ'=>(Fl.next,σ'))
  (fun Q E s=>wpAny (model prog w) C.A (exec (.Assign [.Tuple ts j tp] (.Tuple (.List aA lp::es) j' ep) p) env) Q E s) (A5 W C k env sc s₀ opn oa s) (E9 C C₀ env s₀) s:=by
 have h0:=(Q3 (hE n) hg lp aA f.sit).mono (E':=E9 C C₀ env s₀) (fun Z Z Z Z p=>p) fun Z Z Z Z p=>fU F f p;rw[CB];refine Ou.bind (fun Q E h=>Y6 (k:=k) (opn:=opn) F hn hc.2.1 Q E (Calls.spliced_cons (wpAny_List h))) h0 fun ds us s₁ Z q=> ?_;have f₁:=f.step' q.1;have sq:=jD f₁.sit q.2;cases hsq:N1 ds with
 |stuck=>trivial
 |err l=>rw[hsq] at sq;exact sq.elim
 |ok bs=>
  rw[hsq] at sq;refine n5 sq fun z2r r hz=> ?_;clear sq;subst z2r;refine n5 (uA (tk:=s₁.toks) F f₁ ho r) fun n8 cJ ro=> ?_;have f':=f₁.step' (s₁:={s₁ with heap:=s₁.heap.push {cls:=.type "list",data:=.seq us.toArray}}) (.of_keep fun Z Z e=>Heap.get?_push_of_some _ e);have hm:=(Q3 (hE (n+1)) hg ep es f'.sit).mono (E':=E9 C C₀ env s₀) (fun Z Z Z Z p=>p) fun Z Z Z Z p=>fU F f' p;cases hr:B9 (ev g (n+1) false sc σ) es with
  |stuck=>trivial
  |err l=>rw[hr] at hm;exact⟨hz,wpAny_mono hm (fun Z Z x=>x.elim) fun Z Z x=>x⟩
  |ok vs=>
   rw[hr] at hm;show w4 ((U6 opn σ (x::xs) (.List aA lp::es) (.list bs::vs)).map fun σ'=>(Fl.next,σ')) _ _ _ _;rw[aV,if_pos ho];show w4 ((if (true &&vs.all oS)=true then N2 (σ.set x (.olist bs)) xs vs else .stuck).map _) _ _ _ _;by_cases hfl:(true &&vs.all oS)=true
   case neg=>rw[if_neg hfl];trivial
   rw[if_pos hfl];cases hp:N2 (σ.set x (.olist bs)) xs vs with
   |stuck=>trivial
   |err l=>exact absurd hp eH
   |ok σ'=>
    refine e8 (eJ (opn:=opn) (σ₂:=(FZ σ x).set x (.olist bs)) (fun y=>zN σ x _ y) (aU hp)) fun AO hq he=> ?_;refine⟨hz,wpAny_mono hm (fun us' e7 B8=> ?_) fun Z Z x=>x.elim⟩;exact pV F hc.1 hc.2.2.1 hc.2.2.2 (vsb:=.olist bs::vs) (n8.step' B8.1) ((f.keeps q.1).trans (cJ.trans (n8.keeps B8.1))) (And.intro (n8.sit.keepO B8.1 ro) (uD hfl B8.2)) ((L2 fun z=>z.2 ho).trans hq) he
theorem iO (hE: ∀n,I8 W n) (hg:C5 W k C.tb g) (F:L9 W C C₀ env sc s₀) (f:j7 W C k env sc s₀ opn oa σ s) (ts es:List Expr) (j j':Nat) (tp ep p:Pos):
  w4 (ex g opn sc (n+1) σ (.Assign [.Tuple ts j tp] (.Tuple es j' ep) p)) (fun Q E s=>wpAny (model prog w) C.A (exec (.Assign [.Tuple ts j tp] (.Tuple es j' ep) p) env) Q E s) (A5 W C k env sc s₀ opn oa s) (E9 C C₀ env s₀) s:=by
 show w4 (needR (G3 ts) fun xs=>if xs.Nodup/\aK es=true/\xs.all (g9 sc)=true/\xs.length<=8 then (B9 (ev g n false sc σ) es).bind fun vs=>(U6 opn σ xs es vs).map fun σ'=>(Fl.next,σ') else .stuck) _ _ _ _;refine w4.need1 fun xs hn=>w4.guard fun hc=> ?_;rcases xs with _|⟨x,xs⟩
 ·exact U1 hE hg F f hn hc fun vs=>.inl rfl
 rcases es with _|⟨e,es⟩
 ·exact U1 hE hg F f hn hc fun vs=>.inl rfl
 by_cases ho:opn=some x
 ·by_cases hle:O1 e=true
  ·refine C0 (zP hle) fun aA lp z1r=> ?_;subst z1r;cases n with
   |zero=>trivial
   |succ n=>exact xU hE hg F f hn hc ho
  ·refine U1 hE hg F f hn hc fun vs=>.inl ?_;rcases vs with _|⟨v,vs⟩
   ·rfl
   ·rw[aV,if_pos ho];cases v with
    |list ds=>exact if_neg fun z=>hle (Bool.and_eq_true_iff.mp z).1
    |_=>rfl
 ·refine U1 hE hg F f hn hc fun vs=> ?_;rcases vs with _|⟨v,vs⟩
  ·exact .inl rfl
  ·rw[aV,if_neg ho];by_cases q:(x::xs).any (fun y=>opn==some y)=true
   ·exact .inl (if_pos q)
   ·exact .inr (if_neg q)
end
section
variable {W:Wd} {C C₀:Cx} {X:Xs} {k:Nat} {env:Env} {sc:Scope} {oa oa' oa'':Option Addr} {σ σ':d9} {s₀ s s₁ s':Shared} {g:G} {n:Nat} {opn:Option Str} {h h' h'':Heap}
noncomputable def NR {α β:Type} (r:R α) (P:α->β->Shared->Prop):β->Shared->Prop:=fun b s=>match r with| .ok a=>P a b s|_=>False
noncomputable def PN {α:Type} (r:R α) (E:Int->Value->Shared->Prop):Value->Shared->Prop:=fun e s=>match r with| .err l=>E l e s|_=>False
theorem w4.of {α β:Type} {r:R α} {F:Tr β} {P:α->β->Shared->Prop} {E:Int->Value->Shared->Prop} (h:r≠.stuck->F (NR r P) (PN r E) s):w4 r F P E s:=by
 cases r with
 |stuck=>trivial
 |err l=>exact h fun z=>by injection z
 |ok a=>exact h fun z=>by injection z
theorem lB {α:Type} (r:R α):PassesOwn (model prog w) C.A env (PN r (E9 C C₀ env s₀)):=by
 cases r with
 |stuck=>exact PassesOwn.never
 |ok a=>exact PassesOwn.never
 |err l=>exact PassesOwn.leaving
theorem GD (hE: ∀n,I8 W n) (ih: ∀m,m<=n->xQ W m) (hg:C5 W k C.tb g) (F:L9 W C C₀ env sc s₀) (f:j7 W C k env sc s₀ opn oa σ s) (t:Expr) (b:List Stmt) (p:Pos):
  w4 (ex g opn sc (n+1) σ (.While t b [] p)) (fun Q E s=>wpAny (model prog w) C.A (exec (.While t b [] p) env) Q E s) (A5 W C k env sc s₀ opn oa s) (E9 C C₀ env s₀) s:=by
 refine w4.of fun hr=> ?_;generalize hR:ex g opn sc (n+1) σ (.While t b [] p)=r at hr ⊢;have pas:=lB (C:=C) (C₀:=C₀) (env:=env) (s₀:=s₀) r;have qn: ∀{fl:Fl} {σ':d9} {fv:Flow} {s':Shared},r=.ok (fl,σ')->A5 W C k env sc s₀ opn oa s (fl,σ') fv s'->NR r (A5 W C k env sc s₀ opn oa s) fv s':=fun e h=>by rw[e];exact h
 have qe: ∀{l:Int},r=.err l-> ∀e s',E9 C C₀ env s₀ l e s'->PN r (E9 C C₀ env s₀) e s':=fun e x s' h=>by rw[e];exact h
 generalize NR r (A5 W C k env sc s₀ opn oa s)=Q at qn ⊢;generalize PN r (E9 C C₀ env s₀)=E at pas qe ⊢;refine wpAny_While (codeAny_whileLoop (fun m s'=>m<=n+1/\ ∃σ' oa',j7 W C k env sc s₀ opn oa' σ' s'/\t9 C env oa s.heap oa' s'.heap/\ex g opn sc m σ' (.While t b [] p)=r) (fun m s' hI=> ?_) (n+1) ⟨Nat.le_refl _,σ,oa,f,.refl,hR⟩);refine f8 hI fun hm hJ=> ?_;clear hI;refine v8 hJ fun σ' oa' f' K hx=> ?_;clear hJ;cases m with
 |zero=>exact absurd hx.symm hr
 |succ m=>
 have hx:(((ev g m true sc σ' t).bind l7).bind fun c=>if c then (D1 (ex g opn sc m) σ' b).bind (oR fun σ'=>ex g opn sc m σ' (.While t b [] p)) else .ok (.next,σ'))=r:=hx;have ht:=zL (n:=m) hE hg F f' t;have noted: ∀{l:Int},r=.err l-> ∀e s',E9 C C₀ env s₀ l e s'->notedBy (model prog w) C.A env (fun e s'=>cameBackBy (model prog w) C.A env E e s') e s':=fun hl e s' h=>pas e s' (qe hl e s' h);cases hc:(ev g m true sc σ' t).bind l7 with
 |stuck=>rw[hc] at hx;exact absurd hx.symm hr
 |err l=>
  rw[hc] at hx ht;exact wpAny_mono ht (fun Z Z x=>x.elim) (noted hx.symm)
 |ok c=>
  rw[hc] at hx ht;refine wpAny_mono ht (fun c' e7 q=> ?_) fun Z Z x=>x.elim;refine f8 q fun st z1r=> ?_;clear q;subst z1r;have n8:=f'.step' st;have cJ:=K.trans (f'.keeps st);cases c' with
  |false=>
   have hx:R.ok (Fl.next,σ')=r:=hx;rw[if_neg (by decide)];exact wpAny_execs_nil (qn hx.symm ⟨oa',n8,cJ,rfl⟩)
  |true=>
   rw[if_pos rfl];have hx:(D1 (ex g opn sc m) σ' b).bind (oR fun σ'=>ex g opn sc m σ' (.While t b [] p))=r:=hx;have hb:=R6 (ih m (by omega)) hg F b n8;cases hs:D1 (ex g opn sc m) σ' b with
   |stuck=>rw[hs] at hx;exact absurd hx.symm hr
   |err l=>
    rw[hs] at hx hb;exact wpAny_mono hb (fun Z Z x=>x.elim) (noted hx.symm)
   |ok q=>
    rw[hs] at hx hb;obtain⟨fl,W8⟩:=q;refine wpAny_mono hb (fun E3 l6 q=> ?_) fun Z Z x=>x.elim;refine r6 q fun oa'' RE wH fw=> ?_;clear q;have JL:=cJ.trans wH;cases fl with
    |next=>
     rw[show E3=.next from fw];exact⟨m,by omega,by omega,W8,oa'',RE,JL,hx⟩
    |brk=>
     have hx:R.ok (Fl.next,W8)=r:=hx;rw[show E3=.brk from fw];exact qn hx.symm ⟨oa'',RE,JL,rfl⟩
    |ret v=>
     refine e8 fw fun u e hu=> ?_;clear fw;have hx:R.ok (Fl.ret v,W8)=r:=hx;rw[e];exact qn hx.symm ⟨oa'',RE,JL,u,rfl,hu⟩
end
section
variable {W:Wd} {C C₀:Cx} {X:Xs} {k:Nat} {env:Env} {sc:Scope} {oa oa' oa'':Option Addr} {σ σ':d9} {s₀ s s₁ s':Shared} {g:G} {n:Nat} {opn:Option Str} {h h' h'':Heap}
theorem j7.other {a:Addr} {tk:Nat} (F:L9 W C C₀ env sc s₀) (f:j7 W C k env sc s₀ opn oa σ s) (hn:s₀.heap.get? a=none) (m:nM s.heap a) (ha: ∃o,s.heap.get? a=some o/\(∃vs,o.data=.fields vs)/\ ¬I7 o)
  (hX: ¬Xo C oa a) (kp: ∀b o,b≠a->s.heap.get? b=some o->h'.get? b=some o):j7 W C k env sc s₀ opn oa σ {s with heap:=h',toks:=tk}:=by
 refine r6 ha fun o e z10n nd=> ?_;clear ha;obtain⟨vs,d⟩:=z10n;have hloc:a∉C.locs:=fun q=>hX (.inl (f.sit.ok.locs a q));have i:=f.sit.inv;have car: ∀X',R3 X' s.heap h':=fun X' b o' e' Y dt=>kp b o' (fun z=>by rw[z,e] at e';injection e' with e';subst e';exact nd dt) e';have ns: ∀b m,s.heap.Ns b m->h'.Ns b m:=fun b m ⟨o',es,ep,e',d',r⟩=>⟨o',es,ep,kp b o' (fun z=>by rw[z,e] at e';injection e' with e';subst e';rw[d] at d';injection d') e',d',r⟩;have cell: ∀c v,s.heap.IsCell c v->h'.IsCell c v:=fun c v ⟨o',e',d'⟩=>⟨o',kp c o' (fun z=>by rw[z,e] at e';injection e' with e';subst e';rw[d] at d';injection d') e',d'⟩;refine⟨?_,⟨f.sit.wok,f.sit.ok,f.sit.wf,f.sit.sub,f.sit.xg,fun b x=> ?_,?_,f.sit.envOk,?_,f.sit.oaX⟩,f.newo,f.only⟩
 ·refine r0 f.step fun y5 n7 I4 gr=> ?_;exact⟨h',tk,by rw[I4],gr.but hn F.tabs₀ (by rw[I4] at m;exact m) (by rw[I4] at kp;exact kp)⟩
 ·refine f8 (f.sit.live b x) fun nt z9t=> ?_;refine d6 z9t fun o' e'=> ?_;clear z9t;exact⟨nt,o',kp b o' (fun z=>hX (z▸x)) e'⟩
 ·exact⟨fun b o q=>kp b o (fun z=>by rw[z,F.notG hn] at q;injection q) (i.G b o q),fun b o q=>kp b o (fun z=>by rw[z,F.notB hn] at q;injection q) (i.base b o q),U0 kp hloc i.frames,i.tabs.but m kp,i.Gl⟩
 ·refine e8 f.sit.st.vals fun mm hm hv=> ?_;refine⟨fun y hy=>r0 (f.sit.st.cells y hy) fun c v q1 q2=>⟨c,v,q1,cell c v q2⟩,mm,ns _ _ hm,fun y v q=> ?_⟩;refine e8 (hv y v q) fun u hu hk=> ?_;refine⟨u,?_,hk.imp id fun⟨z,c,z1,z2⟩=>⟨z,c,z1,cell c _ z2⟩⟩;cases v with
  |olist ds=>
   refine X1 hu fun b o' vs' n e1 e2 e3 e4 e5 e6=> ?_;clear hu;exact⟨b,o',vs',n,e1,e2,kp b o' (fun z=>by rw[z,e] at e3;rw[<-Option.some.inj e3,d] at e5;injection e5) e3,e4,e5,e6.carry (car _)⟩
  |_=>exact Rp.carry (car _) hu
theorem LF (F:L9 W C C₀ env sc s₀) (f:j7 W C k env sc s₀ opn oa σ s) {t:Expr} (ht:dP sc opn t=true) {u:Value} {v:V} (r:Rp s.heap (Xo C oa) u v) (hb:s5 σ t v=.ok σ'):
  wpAny (model prog w) C.A (assign t env u) (fun Y s'=>j7 W C k env sc s₀ opn oa σ' s'/\t9 C env oa s.heap oa s'.heap) (fun Y Y=>False) s:=by
 rcases jZ (V7 hb) with⟨x,p,rfl,e⟩|⟨x,px,y,py,j,p,a,b,rfl,rfl,e⟩
 ·rw[<-v0 (e.symm.trans hb)];exact wpAny_assign_Name (wpAny_mono (B4 F f (H0 (Bool.and_eq_true_iff.mp ht).1) (.of r) (fun z=>absurd (r.not_open.symm.trans z) Bool.false_ne_true)) (fun Y s' q=>⟨q.1,q.2.1⟩) fun Y Y x=>x)
 ·rw[<-v0 (e.symm.trans hb)];refine f8 (Bool.and_eq_true_iff.mp ht) fun ht Y=> ?_;refine f8 (Bool.and_eq_true_iff.mp ht) fun ht Y=> ?_;refine v8 (Q2 r) fun T zs z8r hT hr=> ?_;subst z8r;obtain⟨ua,zs',rfl,ra,hr⟩:=D2 hr;obtain⟨ub,zs',rfl,rb,hr⟩:=D2 hr;obtain rfl:=K2 hr;refine wpAny_assign_Tuple f.sit.ok.handled (w9 hT) rfl rfl fun y5 he=> ?_;have st:k9 C s ({s with heap:=y5}:Shared):=⟨y5,s.toks,rfl,.of_keep fun b o e=>he b o (Nat.ne_of_lt (Heap.lt_size e)) e⟩;have hq:F0 opn σ [x,y] [a,b]=.ok ((σ.set x a).set y b):=(L2 fun z=>absurd (ra.not_open.symm.trans z.1) Bool.false_ne_true).trans (L2 fun z=>absurd (rb.not_open.symm.trans z.1) Bool.false_ne_true);have rr:v6 y5 (Xo C oa) oa [ua,ub] [a,b]:=f.sit.keepsO st (v6.of (.cons ra (.cons rb .nil)));exact wpAny_mono (N4 (xs:=[x,y]) F (.cons (fun M A v Q E s z=>wpAny_assign_Name z) (.cons (fun M A v Q E s z=>wpAny_assign_Name z) .nil)) (f.step' st) (by rw[List.all_cons,List.all_cons];exact Bool.and_eq_true_iff.mpr ⟨(Bool.and_eq_true_iff.mp ht).1,Bool.and_eq_true_iff.mpr ⟨(Bool.and_eq_true_iff.mp ht).2,rfl⟩⟩) rr hq)
   (fun Y s' q=>⟨q.1,(f.keeps st).trans q.2.1⟩) fun Y Y x=>x
noncomputable def rF (g:G) (opn:Option Str) (sc:Scope) (n:Nat) (t:Expr) (b:List Stmt):d9->List V->R (Fl×d9):=tB fun σ v=>(s5 σ t v).bind fun σ'=>D1 (ex g opn sc n) σ' b
structure iQ (W:Wd) (C C₀:Cx) (k:Nat) (env:Env) (sc:Scope) (s₀:Shared) (opn:Option Str) (oa:Option Addr) (σ:d9) (s₁ e7:Shared) (I:Addr) (fp:List Addr) (items:List V) (P:Nat->Value->Prop) (St:Nat->Heap->Prop):Prop where
 F:L9 W C C₀ env sc s₀
 f₁:j7 W C k env sc s₀ opn oa σ s₁
 st₂:k9 C s₁ e7
 itn:DR (Xo C oa) I fp items P St e7.heap
 sI:s₁.heap.get? I=none
structure FJ (W:Wd) (C:Cx) (k:Nat) (env:Env) (sc:Scope) (s₀:Shared) (opn:Option Str) (oa:Option Addr) (s₁ e7:Shared) (I:Addr) (St:Nat->Heap->Prop) (i:Nat) (σ':d9) (oa':Option Addr) (s':Shared):Prop where
 f:j7 W C k env sc s₀ opn oa' σ' s'
 K:t9 C env oa s₁.heap oa' s'.heap
 st:St i s'.heap
 nc:u9 s'.heap I
 car:R3 (Xo C oa) e7.heap s'.heap
 lv: ∀a o,e7.heap.get? a=some o-> ∃o',s'.heap.get? a=some o'
 oaf:oa'=oa\/ ∀a,oa'=some a->e7.heap.get? a=none
section
variable {e7 s'':Shared} {I:Addr} {fp:List Addr} {items:List V} {P:Nat->Value->Prop} {St:Nat->Heap->Prop} (Z:iQ W C C₀ k env sc s₀ opn oa σ s₁ e7 I fp items P St) {i i':Nat} {σ₂:d9} {i8:Heap} {tk:Nat}
include Z
theorem iQ.ntI: ¬o4 I:=o6 Z.f₁.sit.inv.tabs Z.sI
theorem iQ.nXo {b:Addr} (z:Xo C oa b) (y:b=I):False:=by
 refine f8 (Z.f₁.sit.live b z) fun Y z5t=> ?_;refine d6 z5t fun o' e'=> ?_;clear z5t;exact no (Z.sI.symm.trans (y▸e'))
theorem iQ.at_ {h:Heap} (st:St i h): ∃o,h.get? I=some o/\(∃vs,o.data=.fields vs)/\ ¬I7 o:=DU (Z.itn.live _ _ st) fun o e Y Y d n=>⟨o,e,d,n⟩
theorem iQ.nX' (h:oa'=oa\/ ∀a,oa'=some a->e7.heap.get? a=none) (z:Xo C oa' I):False:=by
 rcases z with z|z
 ·exact Z.nXo (.inl z) rfl
 ·rcases h with y|y
  ·exact Z.nXo (.inr (y▸z)) rfl
  ·refine e8 (Z.at_ Z.itn.st) fun o e Y=> ?_;exact no ((y I z).symm.trans e)
theorem iQ.mut {h:Heap} (st:St i h) (nc:u9 h I):nM h I:=iJ (Z.itn.live _ _ st) fun o e c1 c2 Y=>⟨o,e,.inr ⟨c1,c2,nc⟩⟩
theorem iQ.but (J:FJ W C k env sc s₀ opn oa s₁ e7 I St i σ' oa' s') (hst:St i' i8) (kp: ∀b o,b≠I->s'.heap.get? b=some o->i8.get? b=some o):FJ W C k env sc s₀ opn oa s₁ e7 I St i' σ' oa' {s' with heap:=i8,toks:=tk}:=by
 have mI:=Z.mut J.st J.nc;refine⟨J.f.other (tk:=tk) Z.F (E4 Z.f₁ Z.sI) mI (Z.at_ J.st) (Z.nX' J.oaf) kp,J.K.but_new Z.sI J.f.sit.inv.tabs mI kp,hst,J.nc.but J.f.sit.inv.tabs mI kp,fun b o e nx dt=>kp b o (fun z=> ?_) (J.car b o e nx dt),fun a o e=> ?_,J.oaf⟩
 ·refine r6 (Z.at_ Z.itn.st) fun oI eI Y nI=> ?_;exact nI (Option.some.inj (eI.symm.trans (z▸e))▸dt)
 ·by_cases z:a=I
  ·refine e8 (Z.at_ hst) fun o e Y=> ?_;exact⟨o,z▸e⟩
  ·refine d6 (J.lv a o e) fun o' e'=> ?_;exact⟨o',kp a o' z e'⟩
theorem iQ.keepI (J:FJ W C k env sc s₀ opn oa s₁ e7 I St i σ' oa' s') (KK:t9 C env oa' s'.heap oa'' s''.heap) {b:Addr} (hb:b∈fp) {o:Obj} (e:s'.heap.get? b=some o):s''.heap.get? b=some o:=by
 have cells: ∀x c,env.cells.lookup x=some c->b=c->(∃v,o.data=.cell v):=fun x c hc z=>by
  refine r0 (J.f.sit.st.cells x (.inl ((Z.F.kinds x).trans (Z.F.cellk x c hc)))) fun c' v e1 z4t=> ?_;refine e8 z4t fun oc e2 d=> ?_;clear z4t;rw[hc] at e1;rw[<-Option.some.inj e1,<-z,e] at e2;exact⟨v,Option.some.inj e2▸d⟩
 by_cases hbI:b=I
 ·subst hbI;refine r6 (Z.at_ J.st) fun o' e' z3n Y=> ?_;obtain⟨vs,dd⟩:=z3n;rw[<-Option.some.inj (e.symm.trans e')] at dd;refine KK.keep b o e (fun z=>Z.nXo (.inl (Z.f₁.sit.ok.locs b z)) rfl) Z.ntI (fun x c hc z=> ?_) fun z=>Z.nX' J.oaf (.inr z);refine d6 (cells x c hc z) fun v d=> ?_;cases dd.symm.trans d
 ·rcases Z.itn.fps b hb with z|⟨ol,el,cl,⟨vs,nn,dl⟩,nx⟩
  ·exact absurd z hbI
  ·have q:=J.car b ol el nx ⟨.inl cl,fun v z=>nomatch dl.symm.trans z⟩;obtain rfl:=Option.some.inj (e.symm.trans q);refine KK.keep b o e (fun z=>nx (.inl (Z.f₁.sit.ok.locs b z))) (fun z=> ?_) (fun x c hc z=> ?_) fun z=> ?_
   ·refine d6 ((Z.f₁.step' Z.st₂).sit.inv.tabNone z) fun ps y=> ?_;rw[Option.some.inj (el.symm.trans y)] at cl;injection cl
   ·refine d6 (cells x c hc z) fun v d=> ?_;cases dl.symm.trans d
   ·rcases J.oaf with y|y
    ·exact nx (.inr (y▸z))
    ·exact no ((y b z).symm.trans el)
theorem iQ.goes (J:FJ W C k env sc s₀ opn oa s₁ e7 I St i σ' oa' s') (f:j7 W C k env sc s₀ opn oa'' σ₂ s'') (KK:t9 C env oa' s'.heap oa'' s''.heap):FJ W C k env sc s₀ opn oa s₁ e7 I St i σ₂ oa'' s'':=by
 refine⟨f,J.K.trans KK,(Z.itn.walks _ Z.f₁.sit.ok.handled).frame _ _ _ J.st fun b hb o e=>Z.keepI J KK hb e,?_,fun b o e nx dt=>kY Z.F J.f KK b o (J.car b o e nx dt) (fun z=> ?_) dt,fun a o e=> ?_,?_⟩
 ·refine e8 (Z.at_ J.st) fun o e Y=> ?_;exact KK.codes I o e Z.ntI J.nc
 ·rcases z with z|z
  ·exact nx (.inl z)
  ·rcases J.oaf with y|y
   ·exact nx (.inr (y▸z))
   ·exact no ((y b z).symm.trans e)
 ·refine d6 (J.lv a o e) fun o' e'=> ?_;exact KK.live a o' e'
 ·rcases KK.oaf with y|y
  ·rw[y];exact J.oaf
  ·refine .inr fun a z=> ?_;cases e:e7.heap.get? a with
   |none=>rfl
   |some o=>
    refine d6 (J.lv a o e) fun o' e'=> ?_;exact no ((y a z).symm.trans e')
theorem iQ.item (J:FJ W C k env sc s₀ opn oa s₁ e7 I St i σ' oa' s') {v:Value} {d:V} (rd:Rp e7.heap (Xo C oa) v d):Rp s'.heap (Xo C oa') v d:=by
 have kx: ∀c,(Xo C oa c\/Xo C oa' c)->Xo C oa c\/ ∀o,e7.heap.get? c=some o-> ¬I7 o:=fun c z=>by
  rcases z with z|z|z
  ·exact .inl z
  ·exact .inl (.inl z)
  ·rcases J.oaf with y|y
   ·exact .inl (.inr (y▸z))
   ·exact .inr fun o e=>no ((y c z).symm.trans e)
 exact((rd.more (X':=fun c=>Xo C oa c\/Xo C oa' c) kx).carry fun b o e nx dt=>J.car b o e (fun z=>nx (.inl z)) dt).less fun c z=>.inr z
theorem GE (ih:xQ W n) (hg:C5 W k C.tb g) {t:Expr} {b:List Stmt} (htg:dP sc opn t=true) (J:FJ W C k env sc s₀ opn oa s₁ e7 I St i σ' oa' s') (hlt:i<items.length) {v:Value} (hv:P i v) (hst:St (i+1) i8)
  (kp: ∀b o,b≠I->s'.heap.get? b=some o->i8.get? b=some o) {r:R (Fl×d9)} (hr:r≠.stuck) (hx:rF g opn sc n t b σ' (items.drop i)=r) {Q:Flow->Shared->Prop} {N:Value->Shared->Prop}
  (hN: ∀l,r=.err l-> ∀e s'',E9 C C₀ env s₀ l e s''->N e s'') (h1: ∀σ₂ aC C8,FJ W C k env sc s₀ opn oa s₁ e7 I St (i+1) σ₂ aC C8->rF g opn sc n t b σ₂ (items.drop (i+1))=r->Q .next C8)
  (h2: ∀σ₂ aC C8,FJ W C k env sc s₀ opn oa s₁ e7 I St (i+1) σ₂ aC C8->R.ok (Fl.next,σ₂)=r->Q .brk C8)
  (h3: ∀σ₂ aC C8 u v,FJ W C k env sc s₀ opn oa s₁ e7 I St (i+1) σ₂ aC C8->R.ok (Fl.ret v,σ₂)=r->Rp C8.heap C.X u v->Q (.ret u) C8):
  wpAny (model prog w) C.A (letOwnedTupleGo t (.ref I) v) (fun Y UM=>wpAny (model prog w) C.A (assign t env v) (fun Y e7=>wpAny (model prog w) C.A (execs b env) Q N e7) N UM) N {s' with heap:=i8,toks:=tk}:=by
 rw[List.drop_eq_getElem_cons hlt] at hx;have hx:((s5 σ' t items[i]).bind fun σ'=>D1 (ex g opn sc n) σ' b).bind (oR fun σ'=>rF g opn sc n t b σ' (items.drop (i+1)))=r:=hx;have W7:=Z.but (tk:=tk) J hst kp;refine e8 (Z.itn.vals i v hlt hv) fun d hd rd=> ?_;obtain rfl:=Option.some.inj ((List.getElem?_eq_getElem hlt).symm.trans hd);have sh:NL t:=EI htg;refine Z.itn.go _ _ (i+1) _ v t _ sh hst ?_;cases hb:s5 σ' t items[i] with
 |stuck=>rw[hb] at hx;exact absurd hx.symm hr
 |err l=>exact(gX hb).elim
 |ok nH=>
  rw[hb] at hx;have hx:(D1 (ex g opn sc n) nH b).bind (oR fun σ'=>rF g opn sc n t b σ' (items.drop (i+1)))=r:=hx;refine wpAny_mono (LF Z.F W7.f htg (Z.item W7 rd) hb) (fun Y C4 O0=> ?_) fun Y Y x=>x.elim;have nE:=Z.goes W7 O0.1 O0.2;have hbody:=R6 ih hg Z.F b O0.1;cases hs:D1 (ex g opn sc n) nH b with
  |stuck=>rw[hs] at hx;exact absurd hx.symm hr
  |err l=>
   rw[hs] at hx hbody;exact wpAny_mono hbody (fun Y Y x=>x.elim) (hN l hx.symm)
  |ok fG=>
   rw[hs] at hx hbody;obtain⟨fl,σ₂⟩:=fG;refine wpAny_mono hbody (fun NZ C8 fG=> ?_) fun Y Y x=>x.elim;refine r6 fG fun aC bR RF fw=> ?_;clear fG;have Z5:=Z.goes nE bR RF;cases fl with
   |next=>rw[show NZ=.next from fw];exact h1 _ _ _ Z5 hx
   |brk=>rw[show NZ=.brk from fw];exact h2 _ _ _ Z5 hx
   |ret v=>
    refine e8 fw fun u e hu=> ?_;clear fw;rw[e];exact h3 _ _ _ _ _ Z5 hx hu
end
theorem uE (ih:xQ W n) (hg:C5 W k C.tb g) (F:L9 W C C₀ env sc s₀) (f₁:j7 W C k env sc s₀ opn oa σ s₁) {t:Expr} {b:List Stmt} (htg:dP sc opn t=true) {xv:Value} {iv:V} {items:List V} (r:B1 s₁.heap (Xo C oa) oa xv iv) (hi:s0 iv=.ok items) (K:t9 C env oa s.heap oa s₁.heap):
  w4 (rF g opn sc n t b σ items) (fun Q E s₁=>wpAny (model prog w) C.A (pyIter xv) (fun it' e7=>codeAny (model prog w) C.A (.forLoop t it' b [] env) (fun r s'=>match r with| .ok f=>Q f s'| .error e=>cameBackBy (model prog w) C.A env E e s') e7) E s₁)
   (A5 W C k env sc s₀ opn oa s) (E9 C C₀ env s₀) s₁:=by
 refine w4.of fun hr=> ?_;generalize hR:rF g opn sc n t b σ items=rr at hr ⊢;have pas:=lB (C:=C) (C₀:=C₀) (env:=env) (s₀:=s₀) rr;refine wpAny_mono (jF f₁.sit.ok f₁.sit.xn r hi) (fun it' e7 B8=> ?_) fun Y Y x=>x.elim;refine X0 B8 fun fp P St z2r st₂ V4 itn=> ?_;clear B8;subst z2r;generalize hI:s₁.heap.objs.size=I at itn ⊢;have Z:iQ W C C₀ k env sc s₀ opn oa σ s₁ e7 I fp items P St:=⟨F,f₁,st₂,itn,A2 (Nat.le_of_eq hI)⟩;refine codeAny_forLoop_any (fun m s'=> ∃i σ' oa',m=items.length+1-i/\i<=items.length/\FJ W C k env sc s₀ opn oa s₁ e7 I St i σ' oa' s'/\rF g opn sc n t b σ' (items.drop i)=rr) (fun m s' hJ=> ?_) (items.length+1)
  ⟨0,σ,oa,rfl,Nat.zero_le _,⟨f₁.step' st₂,f₁.keeps st₂,itn.st,(u9.new f₁.sit.inv.tabs Z.sI).keeps f₁.sit.inv.tabs V4,fun Y Y e Y Y=>e,(fun Y o e=>⟨o,e⟩),.inl rfl⟩,hR⟩
 refine X0 hJ fun i σ' oa' z1r hile J hx=> ?_;clear hJ;subst z1r;by_cases hlt:i<items.length
 ·refine(itn.walks _ f₁.sit.ok.handled).item i s' _ _ hlt J.st fun v i8 tk hv bQ T0=> ?_;exact GE Z ih hg htg J hlt hv bQ (fun b o nb e=>T0 b o (fun q=>nb (List.mem_singleton.mp q)) e) hr hx (fun l hl e s' h=>pas e s' (by rw[hl];exact h))
   (fun σ₂ aC C8 Z5 hx=>⟨items.length+1-(i+1),by omega,i+1,σ₂,aC,rfl,hlt,Z5,hx⟩)
   (fun σ₂ aC C8 Z5 hx=>hx▸⟨aC,Z5.f,K.trans Z5.K,rfl⟩) fun σ₂ aC C8 u v Z5 hx hu=>hx▸⟨aC,Z5.f,K.trans Z5.K,u,rfl,hu⟩
 ·rw[List.drop_eq_nil_of_le (Nat.not_lt.mp hlt)] at hx;have hx:R.ok (Fl.next,σ')=rr:=hx;refine(itn.walks _ f₁.sit.ok.handled).done s' _ _ (by rw[show items.length=i by omega];exact J.st) fun i8 tk T0=>wpAny_execs_nil ?_;have mI:=Z.mut J.st J.nc;have kp: ∀b o,b≠I->s'.heap.get? b=some o->i8.get? b=some o:=fun b o nb e=>T0 b o (fun q=>nb (List.mem_singleton.mp q)) e;exact hx▸⟨oa',J.f.other (tk:=tk) F (E4 f₁ Z.sI) mI (Z.at_ J.st) (Z.nX' J.oaf) kp,K.trans (J.K.but_new Z.sI J.f.sit.inv.tabs mI kp),rfl⟩
theorem PO (hE: ∀n,I8 W n) (ih:xQ W n) (hg:C5 W k C.tb g) (F:L9 W C C₀ env sc s₀) (f:j7 W C k env sc s₀ opn oa σ s) (t it:Expr) (b:List Stmt) (p:Pos):
  w4 (ex g opn sc (n+1) σ (.For t it b [] p)) (fun Q E s=>wpAny (model prog w) C.A (exec (.For t it b [] p) env) Q E s) (A5 W C k env sc s₀ opn oa s) (E9 C C₀ env s₀) s:=by
 show w4 (if dP sc opn t=true then (ev g n false sc σ it).bind fun iv=>(s0 iv).bind fun items=>rF g opn sc n t b σ items else R.stuck) _ _ _ _;refine w4.guard fun htg=>fV fun hst=> ?_;refine Ou.bind (F:=fun xv Q E s₁=>wpAny (model prog w) C.A (pyIter xv) (fun it' e7=>codeAny (model prog w) C.A (.forLoop t it' b [] env) (fun r s'=>match r with| .ok f=>Q f s'| .error e=>cameBackBy (model prog w) C.A env E e s') e7) E s₁)
  (fun Q E h=>wpAny_For h (bW (env:=env) hst)) (hK (n:=n) hE hg F f it) fun iv xv s₁ Y q=> ?_
 cases hi:s0 iv with
 |stuck=>trivial
 |err l=>exact absurd hi (fT _)
 |ok items=>
 exact uE ih hg F (f.step' q.1) htg q.2 hi (f.keeps q.1)
end
section
variable (W:Wd)
noncomputable def rG:Prop:= ∀(n:Nat) (g:G) (C C₀:Cx) (k:Nat) (env:Env) (sc:Scope) (s₀:Shared) (opn:Option Str) (oa:Option Addr) (σ:d9) (s:Shared),
 C5 W k C.tb g->L9 W C C₀ env sc s₀->j7 W C k env sc s₀ opn oa σ s-> ∀f fp l lp c kk cp p q,
 w4 (ex g opn sc (n+1) σ (.Raise (some (.Call (.Name f fp) [.Name l lp,.Constant (.str c) kk cp] [] p)) none q)) (fun Q E s=>wpAny (model prog w) C.A (exec (.Raise (some (.Call (.Name f fp) [.Name l lp,.Constant (.str c) kk cp] [] p)) none q) env) Q E s)
  (A5 W C k env sc s₀ opn oa s) (E9 C C₀ env s₀) s
end
section
variable {W:Wd} {C C₀:Cx} {X:Xs} {k:Nat} {env:Env} {sc:Scope} {oa oa' oa'':Option Addr} {σ σ':d9} {s₀ s s₁ s':Shared} {g:G} {n:Nat} {opn:Option Str} {h h' h'':Heap}
variable (W C C₀ k env sc oa σ s₀ s g n opn) in
noncomputable def VB (st:Stmt):Prop:=w4 (ex g opn sc (n+1) σ st) (fun Q E s=>wpAny (model prog w) C.A (exec st env) Q E s) (A5 W C k env sc s₀ opn oa s) (E9 C C₀ env s₀) s
theorem LG (hE: ∀n,I8 W n) (hg:C5 W k C.tb g) (F:L9 W C C₀ env sc s₀) (f:j7 W C k env sc s₀ opn oa σ s) (e:Expr) (q:Pos):VB W C C₀ k env sc oa σ s₀ s g n opn (.Expr e q):=by
 cases h:yT e with
 |none=>show w4 (needR (yT e) _) _ _ _ _;rw[h];trivial
 |some z=>
  obtain⟨x,m,ap,a,p⟩:=z;refine d6 (xE h) fun xp z4r=> ?_;subst z4r;exact BY hE hg F f x xp m ap a p q
theorem TF {e:Expr} (h:dQ e=false) (hst:ev g n false sc σ e≠.stuck) (t:Option Expr) (l:Nat) (env:Env):swapsWith e t l env=pure false:=by
 cases hk:aS e with
 |false=>exact H1 hk
 |true=>
  rcases zO (g:=g) hk with⟨_,_,_,_,rfl⟩|z
  ·injection h
  ·exact absurd (z _ _ _) hst
theorem xV (hE: ∀n,I8 W n) (hg:C5 W k C.tb g) (F:L9 W C C₀ env sc s₀) (f:j7 W C k env sc s₀ opn oa σ s) (t e:Expr) (p:Pos):VB W C C₀ k env sc oa σ s₀ s g n opn (.Assign [t] e p):=by
 cases t with
 |Name x xp=>exact CA hE hg F f x xp e p
 |Tuple ts j tp=>
  cases e with
  |Tuple es j' ep=>exact iO hE hg F f ts es j j' tp ep p
  |_=>trivial
 |Subscript o i p3=>
  show w4 (needR (X5 o) fun x=>if EE i=true/\dQ e=false/\opn=some x/\g9 sc x=true then (ev g n false sc σ e).bind fun v=>X9 (r5 g sc σ x) fun vs=>oU v vs σ x else R.stuck) _ _ _ _;refine w4.need1 fun x hx=>w4.guard fun hc=>fV fun hst=> ?_;refine d6 (G9 hx) fun xp z3r=> ?_;subst z3r;refine wQ (JZ hc.1) fun kk p1 p2 z2r=> ?_;subst z2r;have key:=LC (n:=n) hE hg F f x xp p1 p2 p3 kk e p fun t=>TF hc.2.1 hst _ _ _;rw[if_pos hc.2.2] at key;exact key
 |_=>trivial
theorem GF (hR:rG W) (hg:C5 W k C.tb g) (F:L9 W C C₀ env sc s₀) (f:j7 W C k env sc s₀ opn oa σ s) (x c:Option Expr) (q:Pos):VB W C C₀ k env sc oa σ s₀ s g n opn (.Raise x c q):=by
 cases c with
 |some _=>trivial
 |none=>
  cases x with
  |none=>trivial
  |some x=>
   cases h:jA x with
   |none=>show w4 (needR (jA x) _) _ _ _ _;rw[h];trivial
   |some z=>
    refine VS (qR h) fun fp lp c' kk cp p z1r Z=> ?_;subst z1r;exact hR n g C C₀ k env sc s₀ opn oa σ s hg F f _ fp _ lp c' kk cp p q
theorem GG (hE: ∀n,I8 W n) (hR:rG W) (ih: ∀m,m<=n->xQ W m):xQ W (n+1):=by
 intro g C C₀ k env sc s₀ opn oa σ st s hg F f;show VB W C C₀ k env sc oa σ s₀ s g n opn st;cases st with
 |Expr e q=>exact LG hE hg F f e q
 |Assign ts e p=>
  rcases ts with _|⟨t,_|_⟩
  ·trivial
  ·exact xV hE hg F f t e p
  ·trivial
 |AugAssign t op e p=>
  cases op with
  |Add=>cases t with
   |Name x xp=>exact PL hE hg F f x xp e p
   |_=>trivial
  |_=>trivial
 |If t b o p=>exact TD hE (ih n (Nat.le_refl _)) hg F f t b o p
 |While t b o p=>
  cases o with
  |nil=>exact GD hE ih hg F f t b p
  |cons=>trivial
 |For t it b o p=>
  cases o with
  |nil=>exact PO hE (ih n (Nat.le_refl _)) hg F f t it b p
  |cons=>trivial
 |Return e p=>
  cases e with
  |none=>trivial
  |some e=>exact BX hE hg F f e p
 |Break p=>exact FW f p
 |Raise x c q=>exact GF hR hg F f x c q
 |_=>trivial
theorem LH (hE: ∀n,I8 W n) (hR:rG W): ∀n m,m<=n->xQ W m:=by
 intro n;induction n with
 |zero=>
  intro m hm;have:m=0:=by omega
  subst this;exact fun Z Z Z Z Z Z Z Z Z Z Z Z Z Z Z=>trivial
 |succ n ih=>
  intro m hm;by_cases h:m<=n
  ·exact ih m h
  ·have:m=n+1:=by omega
   subst this;exact GG hE hR ih
end
theorem pW {kindOf:Str->Option NameKind}: ∀{binds:List (Str×Value)} {m:Str->Option Value} {x:Str} {v:Value},(binds.map (·.1)).Nodup->(binds.lookup x=some v\/(x∉binds.map (·.1)/\m x=some v))->kindOf x=some .local->bindL kindOf binds m x=some v
 |[],m,x,v,_,h,_=>by
  rcases h with h|h
  ·injection h
  ·exact h.2
 |(n,u)::r,m,x,v,hn,h,hk=>by
  rw[List.map_cons,List.nodup_cons] at hn;unfold bindL;refine pW hn.2 ?_ hk;by_cases hx:x=n
  ·subst hx;refine .inr ⟨hn.1,?_⟩;rw[if_pos hk];rcases h with h|h
   ·rw[List.lookup_cons,beq_self_eq_true] at h;simpa using h
   ·exact absurd (by rw[List.map_cons];exact List.mem_cons_self) h.1
  ·have hb:(x==n)=false:=by simpa using hx
   rcases h with h|h
   ·rw[List.lookup_cons,hb] at h;exact .inl h
   ·rw[List.map_cons,List.mem_cons,not_or] at h;refine .inr ⟨h.1.2,?_⟩;split
    ·show(if x=n then some u else m x)=_;rw[if_neg hx];exact h.2
    ·exact h.2
theorem pX {kindOf:Str->Option NameKind}: ∀{binds:List (Str×Value)} {m:Str->Option Value} {x:Str} {v:Value},(binds.map (·.1)).Nodup->(binds.lookup x=some v\/(x∉binds.map (·.1)/\m x=some v))->kindOf x≠some .local->bindC kindOf binds m x=some v
 |[],m,x,v,_,h,_=>by
  rcases h with h|h
  ·injection h
  ·exact h.2
 |(n,u)::r,m,x,v,hn,h,hk=>by
  rw[List.map_cons,List.nodup_cons] at hn;unfold bindC;refine pX hn.2 ?_ hk;by_cases hx:x=n
  ·subst hx;refine .inr ⟨hn.1,?_⟩;rw[if_neg hk];rcases h with h|h
   ·rw[List.lookup_cons,beq_self_eq_true] at h;simpa using h
   ·exact absurd (by rw[List.map_cons];exact List.mem_cons_self) h.1
  ·have hb:(x==n)=false:=by simpa using hx
   rcases h with h|h
   ·rw[List.lookup_cons,hb] at h;exact .inl h
   ·rw[List.map_cons,List.mem_cons,not_or] at h;refine .inr ⟨h.1.2,?_⟩;split
    ·exact h.2
    ·show(if x=n then some u else m x)=_;rw[if_neg hx];exact h.2
theorem U8: ∀{names:List (Str×NameKind)} {n:Nat} {acc:List (Str×Addr)} {x:Str} {c:Addr},(x,c)∈cellsFrom n names acc->(x,c)∈acc\/(x,NameKind.cell)∈names
 |[],_,_,_,_,h=>.inl h
 |(y,kd)::r,n,acc,x,c,h=>by
  unfold cellsFrom at h;split at h
  ·rename_i hk;have hk:kd=.cell:=by simpa using hk
   rcases U8 h with q|q
   ·rcases List.mem_cons.mp q with z|z
    ·injection z with z z2;subst z;subst z2;subst hk;exact .inr List.mem_cons_self
    ·exact .inl z
   ·exact .inr (List.mem_cons_of_mem _ q)
  ·rcases U8 h with q|q
   ·exact .inl q
   ·exact .inr (List.mem_cons_of_mem _ q)
theorem J7: ∀{names:List (Str×NameKind)} {n:Nat} {acc:List (Str×Addr)} {x:Str},((x,NameKind.cell)∈names\/(acc.lookup x).isSome=true)->((cellsFrom n names acc).lookup x).isSome=true
 |[],_,_,_,h=>by
  rcases h with h|h
  ·cases h
  ·exact h
 |(y,kd)::r,n,acc,x,h=>by
  unfold cellsFrom;split
  ·rename_i hk;have hk:kd=.cell:=by simpa using hk
   subst hk;refine J7 ?_;rcases h with h|h
   ·rcases List.mem_cons.mp h with z|z
    ·cases z;right;rw[List.lookup_cons,beq_self_eq_true];rfl
    ·exact .inl z
   ·right
    rw[List.lookup_cons];cases x==y<;>first|rfl|exact h
  ·rename_i hk;refine J7 ?_;rcases h with h|h
   ·rcases List.mem_cons.mp h with z|z
    ·injection z with z z2;subst z;subst z2;exact absurd rfl hk
    ·exact .inl z
   ·exact .inr h
structure Z8 (W:Wd) (f:Str) (ps:List Str) (body:List Stmt) (a:Addr) (o:Obj) (fd:FuncData):Prop where
 name:W.mg f=some (.ref a)
 obj:W.G.get? a=some o
 data:o.data=.func fd
 code:W.G.CodeRec fd.code fd.qualname
 body:fd.body=.stmts body
 bind: ∀us:List Value,us.length=ps.length->bindArgs fd ⟨us,[]⟩=pure (ps.zip us)
 clo:fd.closure=[]
 glob:fd.globals=mainGlobals
 bis:fd.builtins=builtinsNs
 nodup:ps.Nodup
 pars: ∀x∈ps,fd.scope.names.lookup x=some .local\/fd.scope.names.lookup x=some .cell
 cells: ∀x,(x,NameKind.cell)∈fd.scope.names->fd.scope.names.lookup x=some .cell
 nofree: ∀x,fd.scope.names.lookup x≠some .free
 co:fd.scope.isCoroutine=false
 gen:fd.scope.isGenerator=false
 kind:fd.scope.kind=.function
 told:fd.scope.names.lookup ("_law_told":Str)=some .globalImplicit-> ∃x∈E8,fd.code=.ref x.1/\fd.qualname++(".<locals>.":Str)++("<lambda>":Str)=x.2.2
section
variable {W:Wd} {k:Nat} {tb:Prop} {g:G}
theorem cZ: ∀{ps:List Str} {us:List Value} {vs:List V} {h:Heap} {X:Xs} {x:Str} {v:V},us.length=ps.length->Rps h X us vs->(ps.zip vs).lookup x=some v-> ∃u,(ps.zip us).lookup x=some u/\Rp h X u v/\x∈ps
 |[],_,_,_,_,_,_,_,_,e=>by simp at e
 |p::ps,[],_,_,_,_,_,hl,_,_=>by simp at hl
 |p::ps,u::us,[],h,X,x,v,hl,r,e=>r.inv.elim
 |p::ps,u::us,d::ds,h,X,x,v,hl,r,e=>by
  refine f8 r.inv fun a r=> ?_;rw[List.zip_cons_cons,List.lookup_cons] at e ⊢;cases hx:x==p with
  |true=>
   rw[hx] at e;injection e with e;subst e;exact⟨u,rfl,a,by rw[beq_iff_eq.mp hx];exact List.mem_cons_self⟩
  |false=>
   rw[hx] at e;refine r6 (cZ (by simpa using hl) r e) fun u' h1 h2 h3=> ?_;exact⟨u',h1,h2,List.mem_cons_of_mem _ h3⟩
theorem lC: ∀{ps:List Str} {us:List Value},us.length=ps.length->(ps.zip us).map (·.1)=ps
 |[],_,_=>by simp
 |p::ps,[],h=>by simp at h
 |p::ps,u::us,h=>by rw[List.zip_cons_cons,List.map_cons,lC (by simpa using h)]
set_option backward.match.sparseCases true in
noncomputable def PP (Q E:Value->Shared->Prop) (r:Result) (s:Shared):Prop:=match r with| .ok (.ret v)=>Q v s| .ok _=>False| .error x=>E x s
set_option backward.match.sparseCases true in
noncomputable def TH (Q:Value->Shared->Prop):Flow->Shared->Prop
 | .ret u,s=>Q u s
 | .next,s=>Q .none s
 |_,_=>False
theorem L9.back {C C':Cx} {env:Env} {sc:Scope} {s₀ s':Shared} (F:L9 W C' C env sc s₀) (htb:C'.tb=C.tb) (st:k9 C' s₀ s'):k9 C s₀ s':=by
 refine r0 st fun h' t' e' gr=> ?_;clear st;refine⟨h',t',e',⟨fun b o e n m=>gr.keep b o e (htb▸n) fun z=> ?_,fun b o e n=>gr.slots b o e (htb▸n),gr.tabs,gr.codes⟩⟩;unfold Cx.locs at z;rw[F.fr,List.filterMap_cons,F.frame] at z;rcases List.mem_cons.mp z with z|z
 ·rw[z,F.newL] at e;injection e
 ·exact m z
theorem uF {f:Str} {ps:List Str} {body:List Stmt} {a:Addr} {o:Obj} {fd:FuncData} {C:Cx} {X:Xs} {s₀ s:Shared} {us:List Value} {σ:d9} {opn:Option Str} {oa:Option Addr} {Q E:Value->Shared->Prop}
  (wok:W.Ok) (D:Z8 W f ps body a o fd) (ok:C.Ok (k+1)) (wf:W.Fits C) (hsub: ∀a,C.X a->X a) (hxg: ∀a,X a->W.G.get? a=none) (hlive: ∀a,X a-> ¬o4 a/\ ∃o,s.heap.get? a=some o)
  (inv:aM W C s.heap) (hs: ∃h t,s={s₀ with heap:=h,toks:=t}) (hk: ∀b o,s₀.heap.get? b=some o->s.heap.get? b=some o) (hB:C.base.StaysIn s₀.heap) (hG: ∀b o,W.G.get? b=some o->s₀.heap.get? b=some o) (hT:o3 s₀.heap)
  (hoa: ∀a,oa=some a->s₀.heap.get? a=none/\ ¬X a/\ ∃o,s.heap.get? a=some o) (hul:us.length=ps.length)
  (hσ: ∀x v,σ.get x=some v-> ∃u,(ps.zip us).lookup x=some u/\x∈ps/\B1 s.heap (fun b=>X b\/oa=some b) oa u v) (hon: ∀y v,σ.get y=some v->v.open? =true->opn=some y)
  (hbody: ∀env C' s₁,C'.X=(fun b=>X b\/b=env.locals)->C'.tb=C.tb->C'.A=C.A.deeper env->(∀b o,s.heap.get? b=some o->s₁.heap.get? b=some o)->L9 W C' C env fd.scope s₀->j7 W C' k env fd.scope s₀ opn oa σ s₁->
   wpAny (model prog w) C'.A (execs body env) (TH Q) (fun e s'=>wpAny (model prog w) C'.A (leaving env e) (fun Z s''=>E e s'') (fun Z Z=>False) s') s₁):
  codeAny (model prog w) C.A (.call (.ref a) ⟨us,[]⟩) (PP Q E) s:=by
 let env:=callEnvC fd s.heap.objs.size a;let C':Cx:={A:=C.A.deeper env,fr:=env::C.fr,base:=C.base,X:=fun b=>X b\/b=env.locals,tb:=C.tb};have back: ∀{b:Addr},s.heap.get? b=none->s₀.heap.get? b=none:=fun {b} e=>by
  cases q:s₀.heap.get? b with
  |none=>rfl
  |some o=>rw[hk _ _ q] at e;injection e
 have sLn:s.heap.get? s.heap.objs.size=none:=A2 (Nat.le_refl _);have hfr:env.frame=some env.locals:=rfl;have hloc:C'.locs=env.locals::C.locs:=by
  show(env::C.fr).filterMap (·.frame)=_;rw[List.filterMap_cons,hfr];rfl
 have ok':C'.Ok k:=by
  refine⟨?_,ok.handled,?_,?_,fun b m=> ?_,ok.tab,fun b m=> ?_⟩
  ·show C.A.frames.map (env:: ·)=some (env::C.fr);rw[ok.frames];rfl
  ·have:=ok.depth;show C.A.depth+1+k+10<_;omega
  ·have:=ok.units;show C.A.units+3+8*k+40<_;omega
  ·rw[hloc] at m;exact(List.mem_cons.mp m).elim .inr fun z=>.inl (hsub b (ok.locs b z))
  ·rw[hloc] at m;exact(List.mem_cons.mp m).elim (fun z=>z▸o6 inv.tabs sLn) (ok.loct b)
 refine codeAny_call_cells (R:=PP Q E) (fd:=fd) (body:=body) (by have:=ok.depth;omega) (inv.G _ _ D.obj) D.data (wok.nolimit.keeps inv.G) (D.code.keeps inv.G) D.body (D.bind us hul) D.clo (fun x hx=> ?_) (fun s₁ hI=> ?_) D.co D.gen D.kind
 ·have:x.1∈ps:=by rw[<-lC hul];exact List.mem_map_of_mem hx
  rcases D.pars x.1 this with z|z
  ·exact .inl z
  ·exact .inr ⟨z,J7 (.inl (mem_of_lookup z))⟩
 ·refine C0 hI.toInCall.same fun y5 OA I4=> ?_;have keep:=hI.toInCall.keep;have ns:=hI.toInCall.ns;have hLc: ∀x c,env.cells.lookup x=some c->s.heap.objs.size<c:=fun x c hc=>hI.above x c (mem_of_lookup hc);have F:L9 W C' C env fd.scope s₀:=⟨rfl,rfl,rfl,fun Z=>rfl,fun x y c hx hy=>name_of_addr hI.apart (mem_of_lookup hx) (mem_of_lookup hy),back sLn,fun x c hc=>back (A2 (Nat.le_of_lt (hLc x c hc))),.inr rfl,hB,hG,hT,D.nofree,
   fun x c hc=>D.cells x ((U8 (mem_of_lookup hc)).resolve_left fun z=>nomatch z)⟩
  refine F5 (D3 ns) fun oL esL epL eL dL=> ?_;have step:k9 C' s₀ s₁:=by
   refine C0 hs fun h t e=> ?_;clear hs;refine⟨y5,OA,by rw[I4,e],.of_keep fun b o q=> ?_⟩;have:=keep b o (hk b o q);rw[I4] at this;exact this
  have hxL: ∀b,Xo C' oa b->(X b\/oa=some b)\/b=env.locals:=fun b z=>z.elim (fun z=>z.elim (fun z=>.inl (.inl z)) .inr) fun z=>.inl (.inr z);have hoG: ∀b,oa=some b->W.G.get? b=none:=fun b z=>by
   cases q:W.G.get? b with
   |none=>rfl
   |some o=>have:=hG _ _ q;rw[(hoa b z).1] at this;injection this
  have up: ∀{u:Value} {v:V},B1 s.heap (fun b=>X b\/oa=some b) oa u v->B1 s₁.heap (Xo C' oa) oa u v:=fun {u v} r=>(r.more fun b z=>(hxL b z).imp id fun z o q=>by rw[show b=s.heap.objs.size from z,sLn] at q;injection q).keep keep;have f:j7 W C' k env fd.scope s₀ opn oa σ s₁:=by
   refine⟨step,⟨wok,ok',⟨wf.notab⟩,fun b z=>.inl z,fun b z=> ?_,fun b z=> ?_,⟨fun b o e=>keep b o (inv.G b o e),fun b o e=>keep b o (inv.base b o e),⟨?_,⟨s.heap.objs.size,oL,rfl,F.notB (back sLn),eL,fun vs z=>by rw[dL] at z;injection z⟩,inv.frames.of_keeps fun b o e Z=>⟨o,keep b o e,rfl⟩⟩,inv.tabs.keeps keep,fun b z=> ?_⟩,
    ⟨D.kind,D.glob,D.bis,fun x kd e=>.inl e,D.told⟩,⟨fun x hx=> ?_,_,ns,fun x v e=> ?_⟩,fun b z=>.inr z⟩,fun b z=>⟨(hoa b z).1,fun q=> ?_⟩,hon⟩
   ·rcases hxL b z with(z|z)|z
    ·exact hxg b z
    ·exact hoG b z
    ·exact z▸F.notG (back sLn)
   ·rcases hxL b z with(z|z)|z
    ·refine f8 (hlive b z) fun nt z3t=> ?_;refine d6 z3t fun o e=> ?_;clear z3t;exact⟨nt,o,keep b o e⟩
    ·refine n5 (hoa b z) fun n0 Z z2t=> ?_;refine d6 z2t fun o e=> ?_;clear z2t;exact⟨o6 hT n0,o,keep b o e⟩
    ·exact⟨z▸o6 inv.tabs sLn,z▸⟨oL,eL⟩⟩
   ·show fd.scope.kind≠.module;rw[D.kind];exact fun z=>by injection z
   ·rw[hloc] at z;exact(List.mem_cons.mp z).elim (fun z=>z▸F.notG (back sLn)) (inv.Gl b)
   ·rcases hx with hx|hx
    ·have:=J7 (n:=s.heap.objs.size+1) (acc:=[]) (.inl (mem_of_lookup hx));refine d6 (Option.isSome_iff_exists.mp this) fun c hc=> ?_;exact⟨c,_,hc,hI.cell x c hc⟩
    ·exact absurd hx (D.nofree x)
   ·refine r6 (hσ x v e) fun u h1 h3 h2=> ?_;refine⟨u,up h2,?_⟩;have nd:((ps.zip us).map (·.1)).Nodup:=by rw[lC hul];exact D.nodup
    rcases D.pars x h3 with z|z
    ·exact .inl ⟨z,pW nd (.inl h1) z⟩
    ·have:=J7 (n:=s.heap.objs.size+1) (acc:=[]) (.inl (mem_of_lookup z));refine d6 (Option.isSome_iff_exists.mp this) fun c hc=> ?_;refine .inr ⟨.inl z,c,hc,?_⟩;have hcell:=hI.cell x c hc;rw[pX nd (.inl h1) (fun y=>by have y:fd.scope.names.lookup x=_:=y;rw[z] at y;cases y)] at hcell;exact hcell
   ·rcases q with q|q
    ·exact(hoa b z).2.1 q
    ·refine n5 (hoa b z) fun Z Z z1t=> ?_;refine d6 z1t fun o e=> ?_;clear z1t;have q:b=s.heap.objs.size:=q;rw[q,sLn] at e;injection e
  refine wpAny_mono (hbody env C' s₁ rfl rfl rfl keep F f) (fun fl s' q=> ?_) fun e s' q=>wpAny_mono q (fun Z Z x=>x) fun Z Z x=>x.elim;cases fl<;>first|exact q|exact q.elim
theorem GH {f:Str} {ps:List Str} {body:List Stmt} {a:Addr} {o:Obj} {fd:FuncData} (wok:W.Ok) (D:Z8 W f ps body a o fd) (hS: ∀n,xQ W n) (hg:C5 W k tb g) (opn:Option Str) (n:Nat):
  dY W (k+1) tb f (wY g opn fd.scope ps body n):=by
 refine⟨a,o,fd,D.name,D.obj,D.data,fun C X s us vs ok wf htb hsub hxg hlive inv hr=> ?_⟩;unfold wY;by_cases hlen:vs.length=ps.length
 case neg=>rw[if_neg hlen];trivial
 rw[if_pos hlen];have hul:us.length=ps.length:=hr.length.trans hlen;refine w4.of fun hr'=> ?_;generalize hR:((D1 (ex g opn fd.scope n) (ps.zip vs) body).bind fun q=>match q with|(.ret v,_)=>.ok v|(.next,_)=>.ok .none|_=>.stuck)=r at hr' ⊢;refine wpAny_call (uF (s₀:=s) (σ:=ps.zip vs) (opn:=opn) (oa:=none) wok D ok wf hsub hxg hlive inv ⟨_,_,rfl⟩ (fun Z Z e=>e) inv.base inv.G inv.tabs (fun b z=>by injection z) hul (fun x v e=> ?_) (fun x v e z=> ?_) fun env C' s₁ hX htb' Z Z F f=> ?_)
 ·refine r6 (cZ hul hr e) fun u h1 h2 h3=> ?_;exact⟨u,h1,h3,.of (h2.less fun b z=>z.elim id fun z=>by injection z)⟩
 ·refine r6 (cZ hul hr e) fun u h1 h2 h3=> ?_;rw[h2.not_open] at z;injection z
 ·have hg':C5 W k C'.tb g:=by
   have:C'.tb=tb:=htb'.trans (propext htb);rw[this];exact hg
  have hb:=R6 (hS n) hg' F body f;cases hs:D1 (ex g opn fd.scope n) (ps.zip vs) body with
  |stuck=>rw[hs] at hR;exact absurd hR.symm hr'
  |err l=>
   rw[hs] at hR hb;subst hR;exact wpAny_mono hb (fun Z Z x=>x.elim) fun e s' q=>q
  |ok q=>
   rw[hs] at hR hb;obtain⟨fl,σ'⟩:=q;refine wpAny_mono hb (fun fl' s' q=> ?_) fun Z Z x=>x.elim;refine r6 q fun oa' f' K fw=> ?_;clear q;cases fl with
   |next=>
    rw[show fl'=.next from fw];rw[<-show R.ok V.none=r from hR];exact⟨F.back htb' f'.step,.none⟩
   |brk=>exact absurd hR.symm hr'
   |ret v=>
    refine e8 fw fun u e hu=> ?_;clear fw;rw[e,<-show R.ok v=r from hR];refine⟨F.back htb' f'.step,.of (hu.less fun b z=>by rw[hX];exact .inl z)⟩
end
noncomputable abbrev W0:List Value:=[.type "ValueError",.type "Exception",.type "BaseException",.type "object"]
structure Xc where
 nm:Str
 q:Str
 bs:List Value
 sn:List Str
 sub:List Value
 col:Option Bool
 dd:Option Addr
 k0:Option Value
 k1:Option Value
 k2:Option Value
 k3:Option Value
 k5:Option Value
noncomputable abbrev TI (x:Xc):Obj:=excClassObj x.nm x.q 52 51 x.bs (.ref 32::W0) true x.sn x.sub false x.col x.dd x.k0 x.k1 x.k2 x.k3 x.k5 "ValueError.__new__"
structure G4 (h:Heap) (mC mB:Str->Option Value):Prop where
 c: ∃x:Xc,h.get? 52=some (TI x)
 b: ∃o cd,h.get? 32=some o/\o.data=.cls cd/\cd.ns=31
 nc:h.Ns 51 mC
 nb:h.Ns 31 mB
theorem G4.keeps {h h':Heap} {mC mB:Str->Option Value} (x:G4 h mC mB) (k: ∀b o,h.get? b=some o->h'.get? b=some o):G4 h' mC mB:=by
 obtain⟨⟨z,c⟩,⟨o,cd,b,d,e⟩,nc,nb⟩:=x;exact⟨⟨z,k _ _ c⟩,⟨o,cd,k _ _ b,d,e⟩,nc.keeps k,nb.keeps k⟩
section
variable {M:Model} {A:Around} {E:Value->Shared->Prop} {h:Heap} {g:Array GenState} {d:Drawn} {t:Nat} {os:OsState} {mC mB:Str->Option Value}
theorem W1 {name:Str} {y:Option Value} {Q:Option Value->Shared->Prop} (x:G4 h mC mB) (hB:typeLookup (.type "ValueError") name=pure y)
  (hq:Q (match mC name with|some v=>some v|none=>match mB name with|some v=>some v|none=>y) ⟨h,g,d,t,os⟩):wpAny M A (typeLookup (.ref 52) name) Q E ⟨h,g,d,t,os⟩:=by
 obtain⟨⟨z,c⟩,⟨ob,cd,b,hcd,e⟩,nc,nb⟩:=x;have hrest:lookupAlong W0 name=pure y:=by rw[typeLookup_eq,PySem.F.excBase_ValueError.mroIs] at hB;exact hB
 rw[typeLookup_eq];refine wpAny_bind (wpAny_mroOf_exc c ?_);rw[lookupAlong_cons];refine wpAny_bind (wpAny_classOwn_exc c nc ?_);cases hv:mC name with
 |some v=>rw[hv] at hq;exact wpAny_pure hq
 |none=>
  rw[hv] at hq;show wpAny M A (lookupAlong (.ref 32::W0) name) Q E _;rw[lookupAlong_cons];obtain⟨oc,odi,ZI,osl⟩:=ob;cases hcd;refine wpAny_bind (wpAny_classOwn_cls b (e▸nb) ?_);cases hw:mB name with
  |some v=>rw[hw] at hq;exact wpAny_pure hq
  |none=>rw[hw] at hq;show wpAny M A (lookupAlong W0 name) Q E _;rw[hrest];exact wpAny_pure hq
end
section
variable {A:Around} {E:Value->Shared->Prop} {h:Heap} {g:Array GenState} {d:Drawn} {t:Nat} {os:OsState} {mC mB:Str->Option Value}
theorem nQ {M:Model} {rest:List Value} {Q:Unit->Shared->Prop} (x:G4 h mC mB) (hq:Q () ⟨h,g,d,t,os⟩):
  wpAny M A (checkBuiltinCall "ValueError.__new__" ⟨.ref 52::rest,[]⟩) Q E ⟨h,g,d,t,os⟩:=by
 obtain⟨⟨xc,hC⟩,-,-,-⟩:=x;have F:=PySem.F.excBase_ValueError;have hcont:(Value.ref 52::.ref 32::W0).contains (.type "ValueError")=true:=by decide+kernel
 have hstar:=F.noStar;simp only[checkBuiltinCall,F.newKind,F.newSplit,F.newRow];repeat (first|refine wpAny_loadPart_at hC ?_|(refine wpAny_isSubtype_exc hC ?_;rw[hcont])|refine wpAny_staticBase_exc hC ?_|refine wpAny_madeBy_exc hC ?_|simp only[bne_self_eq_false,Bool.false_eq_true,if_false]|wp_step)
 exact hq
theorem LI {R:Result->Shared->Prop} {rest:List Value} (x:G4 h mC mB)
  (hq:R (.ok (.ret (.ref (h.objs.size+1)))) ⟨(h.push {cls:=.type "tuple",data:=.seq rest.toArray}).push
   {cls:=.ref 52,data:=.fields #[.ref h.objs.size,.none,.none,.none,.bool false,.none]},g,d,t,os⟩) (hrest:rest.length<=sizeLine):
  codeAny (model prog w) A (.builtin "ValueError.__new__" ⟨.ref 52::rest,[]⟩) R ⟨h,g,d,t,os⟩:=by
 obtain⟨⟨xc,hC⟩,-,-,-⟩:=x;have F:=PySem.F.excBase_ValueError;have hends:=F.ends;have hcB:(Value.ref 52::.ref 32::W0).contains (.type "ValueError")=true:=by decide+kernel
 have hcA:(Value.ref 52::.ref 32::W0).contains (.type "AttributeError")=false:=by decide+kernel
 have hcN:(Value.ref 52::.ref 32::W0).contains (.type "NameError")=false:=by decide+kernel
 refine codeAny_builtinAt F.entry ?_;unfold Builtin.«BaseException.__new__»;refine PySem.wpAt_bind ?_;show PySem.wpAt _ _ _ (stack>>=_) _ _ _;refine PySem.wpAt_bind (PySem.wpAt_stack fun p below=>PySem.wpAt_of_wpAny ?_);wp_walk
 refine PySem.wpAt_of_wpAny ?_;rw[F.owner];repeat (first|with_reducible refine wpAny_madeHere_exc F.canon hC ?_|with_reducible refine wpAny_loadPart_at hC ?_|(with_reducible refine wpAny_isSubtype_exc hC ?_;first|rw[hcB]|rw[hcA]|rw[hcN])|wp_step)
 show R _ _;rw[Heap.size_push];exact hq
end
section
variable {A:Around} {E:Value->Shared->Prop} {h:Heap} {g:Array GenState} {d:Drawn} {t:Nat} {os:OsState} {mC mB:Str->Option Value}
theorem nR {rest:List Value} {fI:Addr} {oI:Obj} {Q:Fin->Shared->Prop} (x:G4 h mC mB) (hi:mC "__init__"=some (.ref fI))
  (hfI:h.get? fI=some oI) (hfc:oI.cls=.type "function")
  (hq: ∀h' e,Heap.MadeExcOf h h' e (.ref 52) rest->
   wpAny (model prog w) A (call (.ref fI) (.ref e::rest)) (fun r s'=>r=.none/\Q (.done (.ret (.ref e))) s') E ⟨h',g,d,t,os⟩) (hrest:rest.length<=sizeLine):
  wpAny (model prog w) A (Builtin.«type.__call__» ⟨.ref 52::rest,[]⟩) Q E ⟨h,g,d,t,os⟩:=by
 have F:=PySem.F.excBase_ValueError;have x':=x;obtain⟨⟨xc,hC⟩,-,hn,-⟩:=x';repeat (first|with_reducible refine wpAny_loadPart_at hC ?_|with_reducible refine wpAny_madeBy_exc hC ?_|wp_step)
 refine codeAny_call_builtin_code (Code.quiet_builtin _ F.quiet) (nQ x ?_);refine LI x ?_ hrest;show wpAny _ _ _ _ _ _;have kp: ∀b o,h.get? b=some o->((h.push {cls:=.type "tuple",data:=.seq rest.toArray}).push {cls:=.ref 52,data:=.fields #[.ref h.objs.size,.none,.none,.none,.bool false,.none]}).get? b=some o:=
  fun b o e=>Heap.get?_push_of_some _ (Heap.get?_push_of_some _ e)
 have UN:=kp _ _ hC;have RG:=kp _ _ hfI;have YR:=x.keeps kp;have hget:((h.push {cls:=.type "tuple",data:=.seq rest.toArray}).push
   {cls:=.ref 52,data:=.fields #[.ref h.objs.size,.none,.none,.none,.bool false,.none]}).get? (h.objs.size+1)=some
   {cls:=.ref 52,data:=.fields #[.ref h.objs.size,.none,.none,.none,.bool false,.none]}:=by heap_get
 have hcC:(Value.ref 52::.ref 32::W0).contains (.ref 52)=true:=by decide+kernel
 unfold isInstance;repeat (first|with_reducible refine wpAny_loadPart_at hget ?_|(with_reducible refine wpAny_isSubtype_exc UN ?_;rw[hcC])|wp_step)
 show wpAny _ _ (typeLookup (.ref 52) _) _ _ _;refine W1 YR F.init.lookup ?_;rw[hi];refine wpAny_holding (wpAny_bind ?_);unfold bindSpecial;refine wpAny_bind (wpAny_typeOf (T:="function") ⟨_,RG,hfc⟩ ?_);rw[if_pos (by decide)];refine wpAny_pure (wpAny_bind (wpAny_mono (hq _ (h.objs.size+1) ⟨kp,Heap.get?_none_of_le (Nat.le_succ _),h.objs.size,hget,Heap.get?_none_of_le (Nat.le_refl _),?_⟩) (fun r s' hr=> ?_) fun Z Z x=>x))
 ·exact Heap.get?_push_of_some _ (Heap.get?_push_at rfl rfl)
 ·refine f8 hr fun z1r hQ=> ?_;clear hr;subst z1r;wp_walk
  exact hQ
end
section
variable {A:Around} {E:Value->Shared->Prop} {h:Heap} {g:Array GenState} {d:Drawn} {t:Nat} {os:OsState} {mC mB:Str->Option Value}
theorem GI {rest:List Value} {fI:Addr} {oI:Obj} {Q:Value->Shared->Prop} (x:G4 h mC mB) (hi:mC "__init__"=some (.ref fI))
  (hfI:h.get? fI=some oI) (hfc:oI.cls=.type "function")
  (hq: ∀h' e,Heap.MadeExcOf h h' e (.ref 52) rest->
   wpAny (model prog w) (A.under (.builtin "type.__call__" ⟨.ref 52::rest,[]⟩)) (call (.ref fI) (.ref e::rest)) (fun r s'=>r=.none/\Q (.ref e) s') E ⟨h',g,d,t,os⟩) (hrest:rest.length<=sizeLine):
  wpAny (model prog w) A (call (.ref 52) rest) Q E ⟨h,g,d,t,os⟩:=by
 have x':=x;obtain⟨⟨xc,hC⟩,-,hn,-⟩:=x';have f1:=tc_lookup;have f2:=PySem.tc_bind (.ref 52);have hT:(⟨h,g,d,t,os⟩:Shared).TypeIs (.ref 52) "type":=⟨_,hC,rfl⟩;refine wpAny_call (codeAny_of_tree ?_);show wpAny _ _ (callAny (.ref 52) _) _ _ _;repeat (any_goals (first|assumption|with_reducible refine wpAny_loadPart_at hC ?_|wp_step))
 refine⟨rfl,?_⟩;refine codeAny_call_builtin_at (Code.quiet_builtin _ (by decide+kernel)) entry_typeCall (wpAny_check_type_call_sub hC (nR (hrest:=hrest) x hi hfI hfc fun h' e hm=> ?_));exact hq h' e hm
end
end
section
open PySem PySem.W PyProof.Rows Builtin Builtin.ObjectAttr
section
variable {A:Around} {E:Value->Shared->Prop} {h:Heap} {g:Array GenState} {d:Drawn} {t:Nat} {os:OsState} {mC mB mA:Str->Option Value} {x:Addr} {name:Str} {v:Value}
theorem iT {tk:Tok} {Q:Fin->Shared->Prop} {ns:List Str} (X:G4 h mC mB) (hna:mC name=none) (hnb:mB name=none)
  (hB:typeLookup (.type "ValueError") name=pure none) (hxC:x≠52) (I:h.Inst x 52 mA)
  (hq: ∀h' tk',h'.Inst x 52 (fun y=>if y=name then some v else mA y)->
   (∀b o,b≠x->(∀L1 dx,h.get? x=some L1->L1.dict=some dx->b≠dx)->h.get? b=some o->h'.get? b=some o)->
   (∀L1,h.get? x=some L1-> ∃K9,h'.get? x=some K9/\K9.cls=L1.cls/\K9.data=L1.data/\K9.slots=L1.slots/\ ∀dx,L1.dict=some dx->K9.dict=some dx)->
   (∀L1,h.get? x=some L1->L1.dict=none-> ∀K9 dN,h'.get? x=some K9->K9.dict=some dN->h.get? dN=none)->Q (.done (.ret .none)) ⟨h',g,d,tk',os⟩) (hw:Within mA ns:=by within_ways) (hsz:ns.length<=sizeLine:=by size_fits):
  wpAny (model prog w) A (Builtin.«object.__setattr__» ⟨[.ref x,.str name tk,v],[]⟩) Q E ⟨h,g,d,t,os⟩:=by
 refine iJ I fun o hx hc hnc hd=> ?_;clear I;have SF:=PySem.F.store_ValueError;have hpass:=SF.passes (.ref x);have X':=X;obtain⟨⟨xc,hC⟩,-,-,-⟩:=X';unfold Builtin.«object.__setattr__»;repeat (first|rw[refuse_eq]|(rw[refuseLoop_ref,refuseLoop_ref,hpass])|(with_reducible refine wpAny_loadPart_at hx ?_;rw[hc])|with_reducible refine wpAny_mroOf_exc hC ?_|(with_reducible refine W1 X hB ?_;rw[hna,hnb])|wp_step)
 rcases hd with⟨hdn,hmA⟩|⟨dx,hdx,hne,hns⟩
 ·
  rw[hdn,if_neg (by simp[typeHasDict])];split
  ·rename_i hcd;injection hcd
  split
  ·rename_i c hcd;exact absurd hcd (hnc c)
  ·have OB:(h.push {cls:=.type "dict",data:=.dict #[]}).get? x=some o:=Heap.get?_push_of_some _ hx;have hxs:x≠h.objs.size:=Nat.ne_of_lt (Heap.lt_size hx);refine wpAny_bind (wpAny_alloc' ?_);refine wpAny_bind (wpAny_update' OB ?_);refine wpAny_pure ?_;have hgd:((h.push {cls:=.type "dict",data:=.dict #[]}).update x fun o=>{cls:=o.cls,dict:=some h.objs.size,data:=o.data,slots:=o.slots}).get? h.objs.size
     =some {cls:=.type "dict",data:=.dict #[]}:=
    (Heap.get?_update_ne _ _ _ _ hxs.symm).trans (Heap.get?_push_at rfl rfl)
   have hnd:((h.push {cls:=.type "dict",data:=.dict #[]}).update x fun o=>{cls:=o.cls,dict:=some h.objs.size,data:=o.data,slots:=o.slots}).Ns h.objs.size (fun Z=>none):=
    ⟨_,#[],_,hgd,rfl,fun e he=>absurd he (by simp),fun Z=>rfl⟩
   show wpAny _ _ (storeInDict h.objs.size (.str name tk) name v) _ _ _;unfold storeInDict newKeyGuard;refine wpAny_bind (wpAny_pure (wpAny_bind (wpAny_nsSet1 (Heap.Ns1.of_empty hnd) fun h' hn' hs=> ?_)));refine nJ (hn'.count (Within.cons name v Within.nil)) fun oD esD epD hoD hdD hcD=> ?_;refine wpAny_bind (wpAny_lookBehind hoD (by rw[hdD];exact pastItsLine_dict (Nat.le_trans hcD (by rw[List.length_cons,List.length_nil,sizeLine_eq];omega))) ?_);wp_walk
   have hx':h'.get? x=some {cls:=o.cls,dict:=some h.objs.size,data:=o.data,slots:=o.slots}:= ?_;refine hq h' _ ⟨{cls:=o.cls,dict:=some h.objs.size,data:=o.data,slots:=o.slots},hx',hc,hnc,.inr ⟨h.objs.size,rfl,hxs.symm,?_⟩⟩ (fun b ob hbx Z hb=> ?_)
    (fun L1 h₀=>by obtain rfl:o=L1:=Option.some.inj (hx.symm.trans h₀);exact⟨_,hx',rfl,rfl,rfl,fun dx e=>by rw[hdn] at e;injection e⟩)
    (fun L1 h₀ Z K9 dN I4 oO=>by obtain rfl:=Option.some.inj (hx'.symm.trans I4);obtain rfl:h.objs.size=dN:=Option.some.inj oO;exact Heap.get?_none_of_le (Nat.le_refl _))
   ·refine OG hn' fun o' es ep e1 e2 e3 eu e4=> ?_;clear hn';exact⟨o',es,ep,e1,e2,e3,eu,fun y=>by rw[e4 y];by_cases hy:y=name<;>simp[hy,hmA]⟩
   ·exact(hs.2 b (Nat.ne_of_lt (Heap.lt_size hb))).trans ((Heap.get?_update_ne _ _ _ _ hbx).trans (Heap.get?_push_of_some _ hb))
   ·refine(hs.2 x hxs).trans (Heap.get?_update_self _ OB ?_);have hfr:=(Heap.get?_some_iff.mp hx).2;obtain⟨oc,od,odt,osl⟩:=o;cases odt<;>first|rfl|exact hfr
 ·
  rw[hdx];refine wpAny_pure ?_;show wpAny _ _ (storeInDict dx (.str name tk) name v) _ _ _;unfold storeInDict newKeyGuard;refine wpAny_bind (wpAny_pure (wpAny_bind (wpAny_nsSet1 hns fun h' hn' hs=> ?_)));refine nJ (hn'.count (Within.cons name v hw)) fun oD esD epD hoD hdD hcD=> ?_;refine wpAny_bind (wpAny_lookBehind hoD (by rw[hdD];exact pastItsLine_dict (Nat.le_trans hcD (by rw[List.length_cons];omega))) ?_);wp_walk
  refine hq h' _ ⟨o,(hs.2 x hne.symm).trans hx,hc,hnc,.inr ⟨dx,hdx,hne,hn'⟩⟩ (fun b ob Z hbd hb=> ?_)
   (fun L1 h₀=>⟨L1,(hs.2 x hne.symm).trans h₀,rfl,rfl,rfl,fun Z e=>e⟩)
   (fun L1 h₀ sT=>by obtain rfl:=Option.some.inj (hx.symm.trans h₀);rw[hdx] at sT;injection sT)
  exact(hs.2 b (hbd o dx hx hdx)).trans hb
end
section
variable {A:Around} {E:Value->Shared->Prop} {h:Heap} {g:Array GenState} {d:Drawn} {t:Nat} {os:OsState} {mC mB mA:Str->Option Value} {x:Addr} {name:Str} {v:Value}
theorem rH {M:Model} {o:Obj} {r5:Value} {Q:Unit->Shared->Prop} (X:G4 h mC mB) (hx:h.get? x=some o) (hc:o.cls=.ref 52) (hq:Q () ⟨h,g,d,t,os⟩):
  wpAny M A (checkBuiltinCall "object.__setattr__" ⟨[.ref x,r5,v],[]⟩) Q E ⟨h,g,d,t,os⟩:=by
 have SF:=PySem.F.store_ValueError;obtain⟨⟨xc,hC⟩,-,-,-⟩:=X;have hcB:(Value.ref 52::.ref 32::W0).contains (.type "object")=true:=by decide+kernel
 have ha:=SF.args (.ref x) r5 v;simp only[checkBuiltinCall,SF.kind,SF.split];refine wpAny_bind ?_
 ·unfold isInstance;repeat (first|(with_reducible refine wpAny_loadPart_at hx ?_;rw[hc])|(with_reducible refine wpAny_isSubtype_exc hC ?_;rw[hcB])|wp_step)
  exact hq
theorem hV {Q:Unit->Shared->Prop} {ns:List Str} (X:G4 h mC mB) (hsC:mC "__setattr__"=none) (hsB:mB "__setattr__"=none) (hna:mC name=none) (hnb:mB name=none)
  (hB:typeLookup (.type "ValueError") name=pure none) (hxC:x≠52) (I:h.Inst x 52 mA)
  (hq: ∀h' tk',h'.Inst x 52 (fun y=>if y=name then some v else mA y)->
   (∀b o,b≠x->(∀L1 dx,h.get? x=some L1->L1.dict=some dx->b≠dx)->h.get? b=some o->h'.get? b=some o)->
   (∀L1,h.get? x=some L1-> ∃K9,h'.get? x=some K9/\K9.cls=L1.cls/\K9.data=L1.data/\K9.slots=L1.slots/\ ∀dx,L1.dict=some dx->K9.dict=some dx)->
   (∀L1,h.get? x=some L1->L1.dict=none-> ∀K9 dN,h'.get? x=some K9->K9.dict=some dN->h.get? dN=none)->Q () ⟨h',g,d,tk',os⟩) (hw:Within mA ns) (hsz:ns.length<=sizeLine):
  wpAny (model prog w) A (setAttr (.ref x) name v) Q E ⟨h,g,d,t,os⟩:=by
 have SF:=PySem.F.store_ValueError;refine r6 (id I) fun o hx hc Z=> ?_;have f3:=SF.slot.bind (.ref x);unfold setAttr callSpecial? specialOf;repeat (any_goals (first|assumption|(with_reducible refine wpAny_loadPart_at hx ?_;rw[hc])|(with_reducible refine W1 X SF.slot.lookup ?_;rw[hsC,hsB])|wp_step))
 refine codeAny_call_builtin SF.slot.plain SF.entry (rH X hx hc (iT X hna hnb hB hxC I (fun h' tk' I' hk hsame hfr=> ?_) hw hsz));repeat (any_goals (first|assumption|wp_step))
 exact hq h' tk' I' hk hsame hfr
end
section
variable {A:Around} {E:Value->Shared->Prop} {h:Heap} {g:Array GenState} {d:Drawn} {t:Nat} {os:OsState} {mC mB m:Str->Option Value} {x dx:Addr} {name:Str} {v:Value} {o:Obj} {vs:Array Value}
theorem rI {M:Model} {r5:Value} {Q:Unit->Shared->Prop} (X:G4 h mC mB) (hx:h.get? x=some o) (hc:o.cls=.ref 52) (hq:Q () ⟨h,g,d,t,os⟩):
  wpAny M A (checkBuiltinCall "BaseException.__getattribute__" ⟨[.ref x,r5],[]⟩) Q E ⟨h,g,d,t,os⟩:=by
 obtain⟨⟨xc,hC⟩,-,-,-⟩:=X;have hk:builtinKind "BaseException.__getattribute__"=some .slot:=by decide+kernel
 have hsplit:splitId "BaseException.__getattribute__"=some ("BaseException","__getattribute__"):=by decide+kernel
 have hcB:(Value.ref 52::.ref 32::W0).contains (.type "BaseException")=true:=by decide+kernel
 have ha:=F.args_bexc_ga (.ref x) r5;simp only[checkBuiltinCall,hk,hsplit];refine wpAny_bind ?_
 ·unfold isInstance;repeat (first|(with_reducible refine wpAny_loadPart_at hx ?_;rw[hc])|(with_reducible refine wpAny_isSubtype_exc hC ?_;rw[hcB])|wp_step)
  exact hq
theorem rJ {tk:Tok} {Q:Fin->Shared->Prop} (X:G4 h mC mB) (cn:mC name=none) (bn:mB name=none) (hB:typeLookup (.type "ValueError") name=pure none) (hx:h.get? x=some o) (hc:o.cls=.ref 52)
  (hdt:o.data=.fields vs) (hd:o.dict=some dx) (hn:h.Ns dx m) (hm:m name=some v) (hq:Q (.done (.ret v)) ⟨h,g,d,t,os⟩):
  wpAny (model prog w) A (Builtin.«object.__getattribute__» ⟨[.ref x,.str name tk],[]⟩) Q E ⟨h,g,d,t,os⟩:=by
 repeat (any_goals (first|assumption|(with_reducible refine wpAny_loadPart_at hx ?_;rw[hc])|(with_reducible refine W1 X hB ?_;rw[cn,bn])|wp_step))
 rw[hdt];show wpAny _ _ (instanceDict x false) _ _ _;unfold instanceDict;repeat (any_goals (first|assumption|(with_reducible refine wpAny_loadPart_at hx ?_;rw[hd])|wp_step))
 rw[hc];obtain⟨⟨xc,hC⟩,-,-,-⟩:=id X;repeat (any_goals (first|assumption|with_reducible refine wpAny_loadPart_at hC ?_|(with_reducible refine wpAny_nsGet hn ?_;rw[hm])|wp_step))
theorem uG {expr:Bool} {Q:Value->Shared->Prop} (X:G4 h mC mB) (cg:mC "__getattribute__"=none) (bg:mB "__getattribute__"=none) (ch:mC "__getattr__"=none) (bh:mB "__getattr__"=none) (cn:mC name=none) (bn:mB name=none)
  (hB:typeLookup (.type "ValueError") name=pure none) (hx:h.get? x=some o) (hc:o.cls=.ref 52) (hdt:o.data=.fields vs) (hd:o.dict=some dx) (hn:h.Ns dx m) (hm:m name=some v) (hv:handedOut v=pure v) (hq:Q v ⟨h,g,d,t+1,os⟩):
  wpAny (model prog w) A (getAttr (.ref x) name expr) Q E ⟨h,g,d,t,os⟩:=by
 have FB:=PySem.F.attr_ValueError;have f3:=FB.ga.bind (.ref x);have hx0:(expr &&onTheHeap (Value.builtin "BaseException.__getattribute__"))=false:=by cases expr<;>rfl
 have hx2:(Value.builtin "BaseException.__getattribute__"==Value.builtin "object.__getattribute__")=false:=by decide+kernel
 have hx1:(onTheHeap (Value.ref 52) &&Value.builtin "BaseException.__getattribute__"==Value.builtin "object.__getattribute__")=false:=by rw[hx2];rfl
 unfold getAttr;repeat (any_goals (first|assumption|(with_reducible refine wpAny_loadPart_at hx ?_;rw[hc])|(with_reducible refine W1 X FB.ga.lookup ?_;rw[cg,bg])|(with_reducible refine W1 X PySem.F.attrBase_ValueError.noGetattr ?_;rw[ch,bh])|wp_step))
 refine codeAny_call_builtin FB.ga.plain F.entry_bexc_ga (rI X hx hc (rJ X cn bn hB hx hc hdt hd hn hm ?_));repeat (any_goals (first|assumption|wp_step))
end
end
section
open PySem PySem.W PyProof.Rows
section
variable {A:Around} {E:Value->Shared->Prop} {s:Shared} {env:Env}
theorem hW {M:Model} {x name:Str} {np apos pos:Pos} {args:List Expr} {Q:Value->Shared->Prop} (hn:args.length<30) (hp:args.any Q1=false) (hl:(apos.endLine==pos.line)=true)
  (h:wpAny M A (eval (.Name x np) env) (fun ov s₁=>wpAny M A (getMethod ov name (do return (<-importBound (.Name x np) env).getD true)) (fun fx e7=>wpAny M A (callWith pos fx.1 fx.2 (backTo pos (starEach args env)) []) Q E e7) E s₁) E s):
  wpAny M A (eval (.Call (.Attribute (.Name x np) name apos) args [] pos) env) Q E s:=by
 rw[arm_eval_Call];have hform:methodCallForm (args.length+([]:List Keyword).length) (backTo pos (starEach args env)) (backToKw pos (keywordEach [] env))=true:=by
  unfold methodCallForm;rw[Bool.and_eq_true,Bool.and_eq_true];refine⟨⟨?_,rfl⟩,by show decide (args.length+0+0<30)=true;simpa using hn⟩;have:=(Y2 (env:=env) pos hp).1;rw[List.all_eq_not_any_not];simpa using this
 have hpos:methodCallPos true (.Name x np) env apos pos=pure pos:=by unfold methodCallPos;simp[hl]
 refine wpAny_bind (wpAny_mono h (fun ov s₁ y5=> ?_) fun Z Z e=>e);refine wpAny_bind (wpAny_standAt ?_);unfold methodCall;rw[hform];refine wpAny_bind (wpAny_holding ?_);show wpAny _ _ (getMethod ov name (do return (<-importBound (.Name x np) env).getD true)) _ _ _;exact wpAny_mono y5 (fun fx e7 i8=>wpAny_bind (wpAny_of_eq hpos i8)) fun Z Z e=>e
theorem LJ {pl:Sem Bool} {Q:Value×List Value->Shared->Prop} (h:Q (.builtin "ValueError.__init__",[]) {s with toks:=s.toks+1}):
  wpAny (model prog w) A (getMethod (.type "ValueError") "__init__" pl) Q E s:=by
 have X:Frag.In [] s.heap:=fun a o e=>by injection e
 have ht:typeOf (.type "ValueError")=pure (.type "type"):=by first|rfl|kernel_rfl
 have hstub:opaqueClassAbove (.type "ValueError")=pure none:=by unfold opaqueClassAbove;dsimp only;rw[show Manifest.isStub "ValueError"=false by decide+kernel];rfl
 have L0:Looks (model prog w) s.heap (typeOf (.type "ValueError")) (.type "type"):=Looks.of_pure ht;unfold getMethod specialOf;refine wpAny_bind (wpAny_bind (L0.here ((looks_findIn X type_tga).here ?_)));dsimp only;rw[if_pos canon_tga];refine wpAny_bind (wpAny_mono (Q:=fun v=>Q (v,[])) (E:=E) ?_ (fun Z Z z=>wpAny_pure z) fun Z Z z=>z);have LO:Looks (model prog w) s.heap (opaqueClassAbove (.type "ValueError")) none:=Looks.of_pure hstub;have hh:handedIn (.builtin "ValueError.__init__")=true:=by decide+kernel
 refine cls_open (r:=.val (.builtin "ValueError.__init__")) X LO L0 type_tga (looks_hook X (r:=none) (by rfl)) (by show subIn [] _ _=_;rfl) (by kernel_rfl)
  (wpAny_pure (by show wpAny _ _ (handedOut (.builtin "ValueError.__init__")) _ _ _;rw[handedOut_of hh];exact wpAny_pure h))
theorem GJ {K:Frag} {D fB:Addr} {pl:Sem Bool} {Q:Value×List Value->Shared->Prop} (X:K.In s.heap) (hs:specialIn K (.ref D) "__getattribute__"=some (some (.builtin "type.__getattribute__")))
  (hr:readsIn K D (.type "type")=true) (hf:findCls K (.ref D) (.type "type") "__init__"=some (.val (.ref fB))) (h:Q (.ref fB,[]) {s with toks:=s.toks+1}):
  wpAny (model prog w) A (getMethod (.ref D) "__init__" pl) Q E s:=
 method_cls X hs (cls_value X hr hf rfl h)
end
section
variable {A:Around} {E:Value->Shared->Prop} {h:Heap} {g:Array GenState} {d:Drawn} {t:Nat} {os:OsState} {mC mB:Str->Option Value}
theorem lE {M:Model} {e:Addr} {oe:Obj} {rest:List Value} {Q:Unit->Shared->Prop} (x:G4 h mC mB) (he:h.get? e=some oe) (hcls:oe.cls=.ref 52) (hq:Q () ⟨h,g,d,t,os⟩):
  wpAny M A (checkBuiltinCall "ValueError.__init__" ⟨.ref e::rest,[]⟩) Q E ⟨h,g,d,t,os⟩:=by
 have F:=PySem.F.excBase_ValueError;obtain⟨⟨xc,hC⟩,-,-,-⟩:=x;have hcB:(Value.ref 52::.ref 32::W0).contains (.type "ValueError")=true:=by decide+kernel
 have hshort:=F.noStar;simp only[checkBuiltinCall,F.initKind,F.initSplit,F.initRow];repeat (first|(with_reducible refine wpAny_loadPart_at he ?_;rw[hcls])|with_reducible refine wpAny_loadPart_at hC ?_|(with_reducible refine wpAny_isSubtype_exc hC ?_;rw[hcB])|wp_step)
 refine wpAny_onRaise ?_;rw[show ∀(a b:String) (n:Nat),Bind.check ⟨.positional,"*","ValueError",.self,[⟨"args",.varPos,false⟩]⟩ a b n (List.map (fun x=>x.fst) ({pos:=Value.ref e::rest}:Args).kw)=pure () from
  fun a b n=>check_star_args _ _ _ _ _ _]
 exact wpAny_pure hq
theorem CC {e t0:Addr} {r:Value} {Q:Value->Shared->Prop} (x:G4 h mC mB)
  (he:h.get? e=some {cls:=.ref 52,data:=.fields #[.ref t0,.none,.none,.none,.bool false,.none]})
  (hq: ∀h',(∀b o,b≠e->h.get? b=some o->h'.get? b=some o)->h'.get? e=some {cls:=.ref 52,data:=.fields #[.ref h.objs.size,.none,.none,.none,.bool false,.none]}->
   Q .none ⟨h',g,d,t,os⟩):
  wpAny (model prog w) A (call (.builtin "ValueError.__init__") [.ref e,r]) Q E ⟨h,g,d,t,os⟩:=by
 have F:=PySem.F.excBase_ValueError;refine wpAny_call (codeAny_call_builtin F.init.plain F.initEntry (lE x he rfl ?_));wp_walk
 refine hq _ (fun b o hb h0=> ?_) ?_
 ·rw[Heap.get?_update_other _ _ (Ne.symm hb)];exact Heap.get?_push_of_some _ h0
 ·rw[Heap.get?_update_self _ (Heap.get?_push_of_some _ he) rfl];rfl
end
structure lF (h:Heap) (gl a:Addr) (ps:List Str) (gn:Str) (body:List Stmt) (fd:FuncData):Prop where
 obj: ∃o,h.get? a=some o/\o.data=.func fd/\o.cls=.type "function"
 code:h.CodeRec fd.code fd.qualname
 body:fd.body=.stmts body
 bind: ∀(s:Shared) (us:List Value),(∀b o,h.get? b=some o->s.heap.get? b=some o)->us.length=ps.length->BindsTo s fd ⟨us,[]⟩ (ps.zip us)
 glob:fd.globals=gl
 bis:fd.builtins=builtinsNs
 loc: ∀x∈ps,fd.scope.names.lookup x=some .local
 gn:fd.scope.names.lookup gn=some .globalImplicit
 cells: ∀x∈fd.scope.names,x.2≠.cell
 co:fd.scope.isCoroutine=false
 gen:fd.scope.isGenerator=false
 kind:fd.scope.kind=.function
noncomputable def pB (n:Nat):Pos:=([⟨5,8,5,18⟩,⟨5,8,5,27⟩,⟨5,28,5,32⟩,⟨5,34,5,40⟩,⟨5,8,5,41⟩,⟨5,8,5,41⟩,⟨6,8,6,12⟩,⟨6,8,6,19⟩,⟨6,22,6,28⟩,⟨6,8,6,28⟩]:List Pos).getD (n-1) ⟨0,0,0,0⟩
noncomputable def pC (n:Nat):Pos:=([⟨10,8,10,18⟩,⟨10,8,10,27⟩,⟨10,28,10,32⟩,⟨10,34,10,58⟩,⟨10,8,10,59⟩,⟨10,8,10,59⟩,⟨11,8,11,12⟩,⟨11,8,11,17⟩,⟨11,20,11,24⟩,⟨11,8,11,24⟩,⟨10,36,10,41⟩,⟨10,42,10,46⟩,⟨10,41,10,47⟩,⟨10,47,10,49⟩,⟨10,50,10,56⟩,⟨10,49,10,57⟩]:List Pos).getD (n-1) ⟨0,0,0,0⟩
noncomputable def zQ:List Stmt:=
 [.Expr (.Call (.Attribute (.Name "ValueError" (pB 1)) "__init__" (pB 2)) [.Name "self" (pB 3),.Name "reason" (pB 4)] [] (pB 5)) (pB 6),
  .Assign [.Attribute (.Name "self" (pB 7)) "reason" (pB 8)] (.Name "reason" (pB 9)) (pB 10)]
noncomputable def zR:List Stmt:=
 [.Expr (.Call (.Attribute (.Name "BoardError" (pC 1)) "__init__" (pC 2)) [.Name "self" (pC 3),.JoinedStr [.Constant (.str "line ") 0 (pC 11),.FormattedValue (.Name "line" (pC 12)) (-1) none (pC 13),.Constant (.str ": ") 0 (pC 14),.FormattedValue (.Name "reason" (pC 15)) (-1) none (pC 16)] (pC 4)] [] (pC 5)) (pC 6),
  .Assign [.Attribute (.Name "self" (pC 7)) "line" (pC 8)] (.Name "line" (pC 9)) (pC 10)]
structure CD (W:Wd) (K:Frag) (mC mB mE:Str->Option Value) (fdC fdB:FuncData):Prop where
 at_:G4 W.G mC mB
 kin:K.In W.G
 E:W.G.Ns 3 mE
 eB:mE "BoardError"=some (.ref 32)
 eV:mE "ValueError"=none
 main:W.mg "BadText"=some (.ref 52)
 c1:mC "__setattr__"=none
 c2:mC "line"=none
 c3:mC "reason"=none
 b1:mB "__setattr__"=none
 b2:mB "line"=none
 b3:mB "reason"=none
 ci:mC "__init__"=some (.ref 49)
 rd:readsIn K 32 (.type "type")=true
 fc:findCls K (.ref 32) (.type "type") "__init__"=some (.val (.ref 29))
 sp:specialIn K (.ref 32) "__getattribute__"=some (some (.builtin "type.__getattribute__"))
 IC:lF W.G 3 49 ["self","line","reason"] "BoardError" zR fdC
 IB:lF W.G 3 29 ["self","reason"] "ValueError" zQ fdB
noncomputable def GK (t:Addr) (dx:Option Addr):Obj:={cls:=.ref 52,dict:=dx,data:=.fields #[.ref t,.none,.none,.none,.bool false,.none]}
structure NS (h h':Heap) (e:Addr) (m:Str->Option Value):Prop where
 keep: ∀b o,b≠e->h.get? b=some o->h'.get? b=some o
 inst:h'.Inst e 52 m
 obj: ∃o t,h'.get? e=some o/\o.cls=.ref 52/\o.data=.fields #[.ref t,.none,.none,.none,.bool false,.none]
 fresh: ∀o d,h'.get? e=some o->o.dict=some d->h.get? d=none
section
variable {W:Wd} {A:Around} {E:Value->Shared->Prop} {s:Shared} {K:Frag} {mC mB mE:Str->Option Value} {fdC fdB:FuncData}
set_option backward.match.sparseCases true in
noncomputable def PQ (Q:Value->Shared->Prop) (E:Value->Shared->Prop) (r:Result) (s:Shared):Prop:=match r with| .ok (.ret v)=>Q v s| .ok _=>False| .error x=>E x s
theorem GM {h h':Heap} {L e:Addr} {m:Str->Option Value} (n:h.Ns L m) (k: ∀b o,b≠e->h.get? b=some o->h'.get? b=some o) (hne:L≠e):h'.Ns L m:=
 F5 (n) fun o es ep ho r=>⟨o,es,ep,k _ _ hne ho,r⟩
theorem TK {e t:Addr} {r:Value} {Q:Value->Shared->Prop} (wok:W.Ok) (B:CD W K mC mB mE fdC fdB) (hroom:A.depth<recursionLimit)
  (keep: ∀b o,W.G.get? b=some o->s.heap.get? b=some o) (heG:W.G.get? e=none) (he:s.heap.get? e=some (GK t none))
  (hq: ∀h' tk,NS s.heap h' e (fun y=>if y="reason" then some r else none)->Q .none {s with heap:=h',toks:=tk}):
  wpAny (model prog w) A (call (.ref 29) [.ref e,r]) Q E s:=by
 have I:=B.IB;refine r6 I.obj fun o ho hd hcl=> ?_;refine wpAny_call (codeAny_call_def (R:=PQ Q E) hroom (keep _ _ ho) hd (wok.nolimit.keeps keep) (I.code.keeps keep) I.body (I.bind s [.ref e,r] keep rfl) I.cells (fun x hx=> ?_) (fun h₀ hns hk=> ?_) I.co I.gen I.kind)
 ·have:x.1∈(["self","reason"]:List Str):=by
   rcases hx with _|⟨_,_|⟨_,hx⟩⟩
   ·exact List.mem_cons_self
   ·exact List.mem_cons_of_mem _ List.mem_cons_self
   ·cases hx
  exact I.loc _ this
 have kG: ∀b o,W.G.get? b=some o->h₀.get? b=some o:=fun b o x=>hk b o (keep b o x);have bG: ∀{h':Heap},(∀b o,b≠e->h₀.get? b=some o->h'.get? b=some o)-> ∀b o,W.G.get? b=some o->h'.get? b=some o:=fun z b o x=>z b o (fun q=>by rw[q,heG] at x;injection x) (kG b o x);have heL:e≠s.heap.objs.size:=Nat.ne_of_lt (Heap.lt_size he);unfold zQ;refine wpAny_execs_cons ?_;refine wpAny_Expr ?_ (R7 I.kind);refine hW (by simp) rfl rfl ?_;refine Calls.Name_function_global I.kind I.gn (Calls.loadGlobal_builtin (mg:=mE) (mb:=W.mb) ?_ B.eV ?_ (wok.boot "ValueError" (by decide)) ?_) (by decide)
 ·show h₀.Ns fdB.globals mE;rw[I.glob];exact y6 B.E kG
 ·show h₀.Ns fdB.builtins W.mb;rw[I.bis];exact y6 wok.b kG
 refine LJ ?_;refine Calls.callWith_builtin rfl ?_;refine Calls.evalArgs_plain (Calls.spliced_cons (ldc I.kind (I.loc _ List.mem_cons_self) hns (by rfl) (Calls.spliced_cons (ldc I.kind (I.loc _ (List.mem_cons_of_mem _ List.mem_cons_self)) hns (by rfl) (Calls.spliced_nil ?_)))));refine CC (B.at_.keeps kG) (hk _ _ he) fun y5 MV wI=> ?_;have wJ:=GM hns MV heL.symm;refine wpAny_execs_cons ?_;refine plainObj_wpAny_Assign_Attribute (ldc I.kind (I.loc _ (List.mem_cons_of_mem _ List.mem_cons_self)) wJ (by rfl) (ldc I.kind (I.loc _ List.mem_cons_self) wJ (by rfl) ?_)) rfl;have hne:e≠52:=fun q=>by
  refine d6 B.at_.c fun xc hC=> ?_;rw[q,hC] at heG;injection heG
 have YS:y5.Inst e 52 (fun Z=>none):=⟨_,wI,rfl,fun c q=>(by injection q),.inl ⟨rfl,fun Z=>rfl⟩⟩;refine hV (ns:=[]) (B.at_.keeps (bG MV)) B.c1 B.b1 B.c3 B.b3 (by rw[typeLookup_type,builtinLookup_eq_fast];kernel_rfl) hne YS (fun h' tk' I' kp hsame hfr=> ?_) Within.nil (by simp);refine wpAny_execs_nil ?_;refine hq h' tk' ⟨fun b o hb h0=>kp b o hb (fun L1 dx sT ed=>by rw[wI] at sT;injection sT with sT;subst sT;injection ed) (MV b o hb (hk b o h0)),I',?_,fun K9 dN I4 ed=> ?_⟩
 ·refine iJ (hsame _ wI) fun K9 I4 RH UO Z=> ?_;exact⟨K9,_,I4,RH,UO⟩
 ·have hn:=hfr _ wI rfl K9 dN I4 ed;cases hz:s.heap.get? dN with
  |none=>rfl
  |some oz=>
   by_cases hb:dN=e
   ·rw[hb,wI] at hn;injection hn
   ·rw[MV _ _ hb (hk _ _ hz)] at hn;injection hn
end
section
variable {W:Wd} {A:Around} {E:Value->Shared->Prop} {s:Shared} {K:Frag} {mC mB mE:Str->Option Value} {fdC fdB:FuncData}
theorem TL {e t:Addr} {l:Int} {lt rt:Tok} {r:Str} {Q:Value->Shared->Prop} (wok:W.Ok) (B:CD W K mC mB mE fdC fdB) (hroom:A.depth+1<recursionLimit) (hl:l.natAbs<1000000) (hr:r.length<=1000)
  (keep: ∀b o,W.G.get? b=some o->s.heap.get? b=some o) (heG:W.G.get? e=none) (he:s.heap.get? e=some (GK t none))
  (hq: ∀h' tk m,NS s.heap h' e m->m "line"=some (.int l lt)->Q .none {s with heap:=h',toks:=tk}):
  wpAny (model prog w) A (call (.ref 49) [.ref e,.int l lt,.str r rt]) Q E s:=by
 have I:=B.IC;refine r6 I.obj fun o ho hd hcl=> ?_;refine wpAny_call (codeAny_call_def (R:=PQ Q E) (by omega) (keep _ _ ho) hd (wok.nolimit.keeps keep) (I.code.keeps keep) I.body (I.bind s [.ref e,.int l lt,.str r rt] keep rfl) I.cells (fun x hx=> ?_) (fun h₀ hns hk=> ?_) I.co I.gen I.kind)
 ·have:x.1∈(["self","line","reason"]:List Str):=by
   rcases hx with _|⟨_,_|⟨_,_|⟨_,hx⟩⟩⟩
   ·exact List.mem_cons_self
   ·exact List.mem_cons_of_mem _ List.mem_cons_self
   ·exact List.mem_cons_of_mem _ (List.mem_cons_of_mem _ List.mem_cons_self)
   ·cases hx
  exact I.loc _ this
 have kG: ∀b o,W.G.get? b=some o->h₀.get? b=some o:=fun b o x=>hk b o (keep b o x);have bG: ∀{h':Heap},(∀b o,b≠e->h₀.get? b=some o->h'.get? b=some o)-> ∀b o,W.G.get? b=some o->h'.get? b=some o:=fun z b o x=>z b o (fun q=>by rw[q,heG] at x;injection x) (kG b o x);have heL:e≠s.heap.objs.size:=Nat.ne_of_lt (Heap.lt_size he);have hlog:l.natAbs.log2<20:=by
  rcases Nat.eq_zero_or_pos l.natAbs with q|q
  ·rw[q];decide
  ·exact(Nat.log2_lt (by omega)).mpr (Nat.lt_of_lt_of_le hl (by decide))
 have hlen:(Str.ofString (toString l)).length<=21:=by rw[PySem.ofString_length];exact int_text_length_le (k:=20) (by decide) hlog
 unfold zR;refine wpAny_execs_cons ?_;refine wpAny_Expr ?_ (R7 I.kind);refine hW (by simp) rfl rfl ?_;refine Calls.Name_function_global I.kind I.gn (Calls.loadGlobal_global (mg:=mE) ?_ B.eB ?_) (by decide)
 ·show h₀.Ns fdC.globals mE;rw[I.glob];exact y6 B.E kG
 refine GJ (B.kin.keeps kG) B.sp B.rd B.fc ?_;have IB:=B.IB;refine r6 IB.obj fun oB hoB hdB Z=> ?_;refine Calls.callWith_function (o:=oB) (fd:=fdB) ?_;refine Calls.evalArgs_plain (Calls.spliced_cons (ldc I.kind (I.loc _ List.mem_cons_self) hns (by rfl) (Calls.spliced_cons ?_)));have joined: ∀OC:Nat,wpAny (model prog w) (A.deeper (callEnv fdC s.heap.objs.size 49)) (eval (.JoinedStr [.Constant (.str "line ") 0 (pC 11),.FormattedValue (.Name "line" (pC 12)) (-1) none (pC 13),.Constant (.str ": ") 0 (pC 14),.FormattedValue (.Name "reason" (pC 15)) (-1) none (pC 16)] (pC 4)) (callEnv fdC s.heap.objs.size 49))
   (fun v s'=> ∃out tk tk',v=.str out tk/\s'={s with heap:=h₀,toks:=tk'}) (fun Z Z=>False) {s with heap:=h₀,toks:=OC}:=by
  intro OC;refine wpAny_JoinedStr ?_;refine Calls.Constant_str ⟨_,_,rfl,(by decide),?_⟩;refine wpAny_FormattedValue_plain (ldc I.kind (I.loc _ (List.mem_cons_of_mem _ List.mem_cons_self)) hns (by rfl) (wpAny_formatField_int (by omega) ⟨_,_,rfl,?_,?_⟩))
  ·rw[strLen_append];have:(Str.empty++Str.ofString "line ").length=5:=by decide
   rw[this,sizeLine_eq];omega
  refine Calls.Constant_str ⟨_,_,rfl,?_,?_⟩
  ·rw[strLen_append,strLen_append];have:(Str.empty++Str.ofString "line ").length=5:=by decide
   have:(Str.ofString ": ").length=2:=by decide
   rw[sizeLine_eq];omega
  have z:((Str.empty++Str.ofString "line "++Str.ofString (toString l)++Str.ofString ": ")++r).length<=sizeLine:=by
   rw[strLen_append,strLen_append,strLen_append];have:(Str.empty++Str.ofString "line ").length=5:=by decide
   have:(Str.ofString ": ").length=2:=by decide
   rw[sizeLine_eq];omega
  refine wpAny_FormattedValue_plain (ldc I.kind (I.loc _ (List.mem_cons_of_mem _ (List.mem_cons_of_mem _ List.mem_cons_self))) hns (by rfl) (wpAny_formatField_str ⟨_,_,rfl,z,z,_,_,_,rfl,rfl⟩ ⟨_,_,rfl,z,z,_,_,_,rfl,rfl⟩ (by rw[sizeLine_eq];omega)))
 rw[if_neg (show ¬(false=true) by decide)];refine wpAny_mono (joined _) (fun v s₁ hv=> ?_) fun _ _ (x:False)=>x.elim;refine F5 hv fun out tk tk' z1r z2r=> ?_;clear hv;subst z1r;subst z2r;refine Calls.spliced_nil ⟨⟨kG _ _ hoB,hdB⟩,?_⟩;refine TK (s:={s with heap:=h₀,toks:=tk'}) wok B (by show A.depth+1<_;exact hroom) kG heG (hk _ _ he) fun y5 OA yQ=> ?_;show wpAny _ _ _ _ _ _;have wJ:=GM hns yQ.keep heL.symm;refine wpAny_execs_cons ?_;refine plainObj_wpAny_Assign_Attribute (ldc I.kind (I.loc _ (List.mem_cons_of_mem _ List.mem_cons_self)) wJ (by rfl) (ldc I.kind (I.loc _ List.mem_cons_self) wJ (by rfl) ?_)) rfl;have hne:e≠52:=fun q=>by
  refine d6 B.at_.c fun xc hC=> ?_;rw[q,hC] at heG;injection heG
 refine hV (ns:=["reason"]) (B.at_.keeps (bG yQ.keep)) B.c1 B.b1 B.c2 B.b2 (by rw[typeLookup_type,builtinLookup_eq_fast];kernel_rfl) hne yQ.inst (fun h' tk' I' kp hsame hfr=> ?_) (fun y hy=> ?_) (by decide)
 ·refine wpAny_execs_nil ?_;refine v8 yQ.obj fun K9 n7 I4 RH dN=> ?_;refine DU (hsame _ I4) fun RC oO YT RD Z e7=> ?_;have hdx: ∃dx,K9.dict=some dx:=by
   refine iJ yQ.inst fun o' e' Z Z hd'=> ?_;obtain rfl:=Option.some.inj (I4.symm.trans e');rcases hd' with⟨_,hz⟩|⟨dx,h1,_⟩
   ·have:=hz "reason";cases (if_pos rfl).symm.trans this
   ·exact⟨dx,h1⟩
  refine d6 hdx fun dx hdx=> ?_;have nG:=yQ.fresh _ _ I4 hdx;have frs:s.heap.get? dx=none:=by
   cases hz:s.heap.get? dx with
   |none=>rfl
   |some oz=>
    have:=hk _ _ hz;rw[show h₀.get? dx=none from nG] at this;injection this
  refine hq h' tk' _ ⟨fun b o hb h0=>kp b o hb (fun L1 d' sT ed=> ?_) (yQ.keep b o hb (hk b o h0)),I',⟨RC,n7,oO,YT.trans RH,RD.trans dN⟩,fun aL2 aL3 JH ed=> ?_⟩ (if_pos rfl)
  ·obtain rfl:=Option.some.inj (I4.symm.trans sT);rw[hdx] at ed;injection ed with ed;subst ed;intro q;rw[q,frs] at h0;injection h0
  ·obtain rfl:=Option.some.inj (oO.symm.trans JH);have:=e7 dx hdx;rw[this] at ed;injection ed with ed;subst ed;exact frs
 ·have hy:(if y="reason" then some (Value.str out tk) else none)≠none:=hy;by_cases q:y="reason"
  ·rw[q];exact List.mem_cons_self
  ·rw[if_neg q] at hy;exact absurd rfl hy
end
section
variable {M:Model} {A:Around} {E:Value->Shared->Prop} {env:Env} {mC mB:Str->Option Value}
theorem nS {s:Shared} {x:Sem Value} {Q:Flow->Shared->Prop} (hh:A.handled=none)
  (h:wpAny M A x (fun v s₁=> ∃e o t,v=.ref e/\G4 s₁.heap mC mB/\s₁.heap.get? e=some o/\o.cls=.ref 52/\o.data=.fields #[.ref t,.none,.none,.none,.bool false,.none]/\E (.ref e) s₁) E s):
  wpAny M A (raiseStmt env (some x) none) Q E s:=by
 have hcB:(Value.ref 52::.ref 32::W0).contains (.type "BaseException")=true:=by decide+kernel
 unfold raiseStmt;refine wpAny_bind (wpAny_mono h (fun v s₁ y5=> ?_) fun Z Z x=>x);refine VR y5 fun e z1n t z2r X he hcls hdt hE=> ?_;clear y5;obtain⟨oc,od,odt,osl⟩:=z1n;subst z2r;dsimp only at hcls hdt;subst hcls hdt;obtain⟨⟨xc,hC⟩,-,-,-⟩:=X;obtain⟨hp,g,d,tk,os⟩:=s₁;repeat (first|with_reducible refine wpAny_loadPart_at he ?_|with_reducible refine wpAny_loadPart_at hC ?_|(with_reducible refine wpAny_isSubtype_exc hC ?_;rw[hcB])|wp_step)
 exact wpAny_raiseNew_none hh hE
end
section
variable {W:Wd} {K:Frag} {mC mB mE:Str->Option Value} {fdC fdB:FuncData}
theorem uH {g:G} {sc:Scope} {σ:d9} {x:Str} {l:Int}:r5 g sc σ x≠.err l:=by
 unfold r5;split
 ·exact fun z=>by injection z
 split;all_goals first|(split<;>exact fun z=>by cases z)|exact fun z=>by injection z
theorem rK {C C₀:Cx} {k:Nat} {env:Env} {sc:Scope} {s₀ s₁ e7:Shared} {opn:Option Str} {oa:Option Addr} {σ:d9} {e t0:Addr} {o:Obj} {i:Int} (F:L9 W C C₀ env sc s₀) (f:j7 W C k env sc s₀ opn oa σ s₁)
  (st:k9 C s₁ e7) (new:s₁.heap.get? e=none) (he:e7.heap.get? e=some o) (hcls:o.cls=.ref 52) (hd:o.data=.fields #[.ref t0,.none,.none,.none,.bool false,.none]) (hl:Y0 e7.heap e i):
  E9 C C₀ env s₀ i (.ref e) e7:=by
 have wK:=f.sit.inv.gr f.sit.ok f.sit.wf st.gr;have hen:C.base.get? e=none:=by
  cases hq:C.base.get? e with
  |none=>rfl
  |some o'=>have:=f.sit.inv.base e o' hq;rw[new] at this;injection this
 have s02:=f.step.trans st;have key:=(hH (.ref e) env).any (wpAny_leaving_firstW (M:=model prog w) (A:=C.A) (E:=fun Z Z=>False) (s:=e7) (base:=C.base) (env:=env) (outer:=C₀.fr) (e:=e) (Q:=fun Z s''=> ∃h'',s''={e7 with heap:=h''}/\Heap.FlyingW C.base C₀.fr e (.ref 52) (.ref t0) h''/\e7.heap.UpToSlots h'')
  (by rw[f.sit.ok.frames,F.fr]) (by rw[<-F.fr];exact wK.frames) F.frame he wK.base hen hd rfl rfl fun h' hL=>by
   refine Q0 hL fun k1 z5n k3 k4=> ?_;clear hL;refine n5 z5n fun Z Z k2=> ?_;clear z5n;rw[hcls] at k3;exact⟨h',rfl,⟨k1,hen,k2,k3⟩,k4⟩)
 unfold E9;refine wpAny_mono key (fun Z s'' q=> ?_) fun Z Z x=>x.1;refine f8 q fun z4n dk=> ?_;clear q;refine r6 z4n fun h'' z1r fl u=> ?_;clear z4n;subst z1r;refine r0 s02 fun i8 dJ z3r gr=> ?_;clear s02;subst z3r;exact⟨e,.ref t0,h'',dJ,rfl,rfl,F.base▸fl,(gr.upTo (.inr F.tabs₀)).trans u,hl.goes dk u⟩
theorem CD.oC (B:CD W K mC mB mE fdC fdB): ∃o,W.G.get? 49=some o/\o.cls=.type "function":=r6 (B.IC.obj) fun o h Z c=>⟨o,h,c⟩
theorem xW {M:Model} {A:Around} {E:Value->Shared->Prop} {h:Heap} {g:Array GenState} {d:Drawn} {t:Nat} {os:OsState} {Q:Keeper->Shared->Prop} (x:G4 h mC mB) (hq:Q .machine ⟨h,g,d,t,os⟩):wpAny M A (keeperOf (.ref 52)) Q E ⟨h,g,d,t,os⟩:=
 d6 (x.c) fun Z hC=>wpAny_keeperOf_exc hC hq
set_option tactic.hygienic true in
theorem PR (B:CD W K mC mB mE fdC fdB):rG W:=by
 intro n g C C₀ k env sc s₀ opn oa σ s hg F f fn fp l lp c kk cp p q;show w4 (needR (if c.length<=1000 then some (fn,l) else none) _) _ _ _ _;by_cases hc:c.length<=1000
 case neg=>rw[if_neg hc];trivial
 rw[if_pos hc];show w4 (if fn="BadText"/\sc.names.lookup fn=some .globalImplicit then (r5 g sc σ l).bind JW else .stuck) _ _ _ _;by_cases hf:fn="BadText"/\sc.names.lookup fn=some .globalImplicit
 case neg=>rw[if_neg hf];trivial
 rw[if_pos hf];refine f8 hf fun z2r hk=> ?_;clear hf;subst z2r;have hname:=O5 hg f.sit l lp;cases hv:r5 g sc σ l with
 |stuck=>trivial
 |err l=>exact absurd hv uH
 |ok v=>
  show w4 (JW v) _ _ _ _;unfold JW;cases v<;>try trivial
  rename_i i;dsimp only;by_cases hi:i.natAbs<1000000
  case neg=>rw[if_neg hi];trivial
  rw[if_pos hi];rw[hv] at hname;show wpAny _ _ _ (fun Z Z=>False) (E9 C C₀ env s₀ i) s;rw[arm_exec_Raise];refine wpAny_bind (wpAny_standAt (nS (mC:=mC) (mB:=mB) f.sit.ok.handled ?_));refine wpAny_bind (wpAny_mono (wpAny_Call_ofName ?_) (fun v l6 dK=>wpAny_bind (wpAny_standAt (wpAny_pure dK))) fun Z Z x=>x);refine Calls.Name_function_global f.sit.envOk.kind ((F.kinds _).trans hk) (Calls.loadGlobal_global (mg:=W.mg) ?_ B.main ?_) (by decide)
  ·rw[f.sit.envOk.globals];exact y6 f.sit.wok.g f.sit.inv.G
  unfold callWith;refine wpAny_bind (wpAny_holding (wpAny_mono (Q:=fun a e7=> ∃t u,a=⟨[.int i t,.str c u],[]⟩/\k9 C s e7) (E:=fun Z Z=>False) ?_ (fun a e7 i8=>wpAny_bind (wpAny_standAt ?_)) fun Z Z x=>x.elim))
  ·refine Calls.evalArgs_plain (Calls.spliced_cons (wpAny_mono hname (fun u s₁ z=> ?_) fun Z Z x=>x));refine f8 z fun st hu=> ?_;clear z;cases hu.plain rfl;rename_i t;exact Calls.spliced_cons (Calls.Constant_str (k:=kk) (pos:=cp) (Calls.spliced_nil ⟨t,_,rfl,st.trans (.of_keep fun Z Z e=>e)⟩))
  refine r0 i8 fun t u z1r st=> ?_;clear i8;subst z1r;have wK:=f.sit.inv.gr f.sit.ok f.sit.wf st.gr;have RI:=B.at_.keeps wK.G;refine e8 B.oC fun oI hoI hcI=> ?_;obtain⟨hp,gn,d,tk,os⟩:=e7;have hplain:(backTo p (starEach [.Name l lp,.Constant (.str c) kk cp] env)).any (·.1)=false:=rfl;simp only[hplain];refine wpAny_bind (xW RI ?_);refine wpAny_bind (GI RI B.ci (wK.G _ _ hoI) hcI (fun h' e hm=> ?_) (by show 2<=sizeLine;decide));have kp: ∀b o,W.G.get? b=some o->h'.get? b=some o:=fun b o z=>hm.keeps _ _ (wK.G b o z);refine r6 hm.there fun t0 he Z Z=> ?_;have heG:W.G.get? e=none:=by
   cases hq:W.G.get? e with
   |none=>rfl
   |some o'=>have:=wK.G e o' hq;rw[show hp.get? e=none from hm.new] at this;injection this
  have dep:=f.sit.ok.depth;have hdep:(C.A.under (.builtin "type.__call__" ⟨.ref 52::([]++[.int i t,.str c u]),[]⟩)).depth=C.A.depth+1:=rfl;refine TL (s:=⟨h',gn,d,tk,os⟩) f.sit.wok B (by rw[hdep];omega) hi hc kp heG he fun h'' tk' m M hm'=>⟨rfl,?_⟩;refine wpAny_bind (wpAny_holding (wpAny_point (wpAny_pure ?_)));refine v8 M.obj fun o t1 e1 c1 d1=> ?_;have keep2: ∀b o,hp.get? b=some o->h''.get? b=some o:=fun b o z=>M.keep b o (fun q=>by rw[q,show hp.get? e=none from hm.new] at z;injection z) (hm.keeps _ _ z);have st2:k9 C ⟨hp,gn,d,tk,os⟩ ⟨h'',gn,d,tk',os⟩:=⟨h'',tk',rfl,.of_keep keep2⟩;refine⟨e,o,t1,rfl,RI.keeps keep2,e1,c1,d1,?_⟩;have hnew:s.heap.get? e=none:=by
   cases hq:s.heap.get? e with
   |none=>rfl
   |some o'=>
    by_cases ht:C.tb/\o4 e
    ·refine d6 (wK.tabNone ht.2) fun ps z=> ?_;rw[show hp.get? e=none from hm.new] at z;injection z
    ·refine d6 (st.gr.slots e o' hq ht) fun sl z=> ?_;rw[show hp.get? e=none from hm.new] at z;injection z
  refine rK F f (st.trans st2) hnew e1 c1 d1 ?_;refine iJ M.inst fun o' e' Z Z hd'=> ?_;rcases hd' with⟨_,z⟩|⟨dx,h1,_,h2⟩
  ·rw[z] at hm';injection hm'
  ·exact⟨o',dx,m,t,e',h1,h2.ns,hm'⟩
end
theorem aY {pos:Pos} {a b:Int} {c cv:Value} (l:List Value) (h:TriplesOk l) (e:codeAmong pos (l++[rawInt a,rawInt b,c])=some cv):codeAmong pos l=some cv\/cv=c:=by
 fun_induction TriplesOk l with
 |case1=>
  simp only[List.nil_append,rawInt,codeAmong] at e;split at e
  ·exact .inr (Option.some.inj e).symm
  ·injection e
 |case2 a t b u x rest ih=>
  simp only[List.cons_append,codeAmong] at e ⊢;split at e
  ·rename_i q;rw[if_pos q];exact .inl e
  ·rename_i q;rw[if_neg q];exact ih h e
 |case3=>exact h.elim
theorem uI {x y:Addr×Addr×Str} (hx:x∈E8) (hy:y∈E8) (e:y.2.1=x.2.1):y=x:=by
 simp only[E8,List.mem_cons,List.not_mem_nil,or_false] at hx hy;rcases hx with rfl|rfl|rfl<;>rcases hy with rfl|rfl|rfl<;>first|rfl|(exact absurd e (by decide))
theorem lG {x:Addr×Addr×Str} (hx:x∈E8):o4 x.2.1:=by
 simp only[E8,List.mem_cons,List.not_mem_nil,or_false] at hx;rcases hx with rfl|rfl|rfl
 ·exact .inl rfl
 ·exact .inr (.inl rfl)
 ·exact .inr (.inr rfl)
section
variable {h h':Heap}
theorem CE {x:Addr×Addr×Str} {ps:Array Value} {a b:Int} {c':Addr} (hx:x∈E8) (t:o3 h) (hP:h.get? x.2.1=some (tabObj ps)) (ht:TriplesOk ps.toList)
  (k: ∀b o,b≠x.2.1->h.get? b=some o->h'.get? b=some o) (hP':h'.get? x.2.1=some (tabObj (ps++ #[rawInt a,rawInt b,.ref c']))) (hc:h'.CodeRec (.ref c') x.2.2):o3 h':=fun y hy=>by
 refine f8 (t y hy) fun z5n z6t=> ?_;refine r6 z6t fun ps' p1 p2 p3=> ?_;clear z6t;refine VU z5n fun oc vs a1 a2 a3 a4 a5 a6 a7 c1 c2 cr=> ?_;clear z5n;have hcP:y.1≠x.2.1:=fun q=>by rw[q,hP] at c1;injection c1 with c1;subst c1;injection c2
 have recs: ∀cv,h.CodeRec cv y.2.2->h'.CodeRec cv y.2.2:=fun cv z=>sX z fun c o vs' tq e1 e2 e3 e4=>
  ⟨c,o,vs',tq,e1,k _ _ (fun q=>by
   rw[q,hP] at e2;injection e2 with e2;subst e2;injection e3 with e3;subst e3;rw[<-Array.getElem?_toList] at e4;exact triples_no_str ht _ _ e4) e2,e3,e4⟩
 refine⟨⟨oc,vs,a1,a2,a3,a4,a5,a6,a7,k _ _ hcP c1,c2,cr⟩,?_⟩;by_cases q:y.2.1=x.2.1
 ·have:=uI hx hy q;subst this;rw[hP] at p1;injection p1 with p1;injection p1 with _ _ p1 _;injection p1 with p1;subst p1;refine⟨_,hP',?_,fun pos cv e=> ?_⟩
  ·simpa using TriplesOk_snoc a b (.ref c') ps.toList ht
  ·have e:codeAmong pos (ps.toList++[rawInt a,rawInt b,.ref c'])=some cv:=by simpa using e
   rcases aY _ ht e with z|rfl
   ·exact recs cv (p3 pos cv z)
   ·exact hc
 ·exact⟨ps',k _ _ q p1,p2,fun pos cv e=>recs cv (p3 pos cv e)⟩
theorem uJ {x:Addr×Addr×Str} {ps:Array Value} {a b:Int} {c' d:Addr} (hx:x∈E8) (t:o3 h) (hP:h.get? x.2.1=some (tabObj ps)) (ht:TriplesOk ps.toList)
  (k: ∀b o,b≠x.2.1->h.get? b=some o->h'.get? b=some o) (hP':h'.get? x.2.1=some (tabObj (ps++ #[rawInt a,rawInt b,.ref c']))) (hd:d≠c') (n:u9 h d):u9 h' d:=fun y hy ps' e=>by
 by_cases q:y.2.1=x.2.1
 ·have:=uI hx hy q;subst this;rw[hP'] at e;injection e with e;injection e with _ _ e _;injection e with e;subst e;intro pos z;have z:codeAmong pos (ps.toList++[rawInt a,rawInt b,.ref c'])=some (.ref d):=by simpa using z
  rcases aY _ ht z with z|z
  ·exact n y hy ps hP pos z
  ·injection z with z;subst z;exact hd rfl
 ·refine f8 (t y hy) fun Z z4t=> ?_;refine e8 z4t fun ZV p1 Z=> ?_;clear z4t;have:=k _ _ q p1;rw[e] at this;injection this with this;injection this with _ _ this _;injection this with this;subst this;exact n y hy ps' p1
end
section
variable {W:Wd} {C:Cx} {X:Xs} {k:Nat} {env:Env} {sc:Scope} {oa:Option Addr} {σ:d9} {s s₁:Shared} {g:G} {n:Nat}
theorem uK (t:J2 W C X k env sc oa σ s.heap) (htb:C.tb) {as:Arguments} {body:Expr} {lsc:Scope} {lp:Pos} (hla:aH as lsc=true) (hco:s9 sc lsc=true) {x:Addr×Addr×Str} (hx:x∈E8)
  (hcode:env.code=.ref x.1) (hq:env.qual++("<lambda>":Str)=x.2.2):
  wpAny (model prog w) C.A (eval (.Lambda as body lsc lp) env) (fun v s'=> ∃f c' ctv pm,v=.ref f/\k9 C s s'/\s.heap.get? f=none/\
   s'.heap.get? f=some (kla_obj "<lambda>" x.2.2 as body lsc (F7 env lsc.names []) pm c' ctv)/\s'.heap.CodeRec (.ref c') x.2.2) (fun Z Z=>False) s:=by
 refine f8 (t.inv.tabs x hx) fun hCd z3t=> ?_;refine r6 z3t fun ps hP ht hrec=> ?_;clear z3t;have hcl:closureFor lsc env=pure (F7 env lsc.names []):=by
  simp only[closureFor];rw[kL env _ lsc.names [] (R5 hco t.envOk t.st) (fun n kd acc=>by cases kd<;>rfl)];rfl
 have hdef:defaultsOf as env=([],[]):=by
  unfold aH at hla;simp only[Bool.and_eq_true,List.isEmpty_iff] at hla;refine f8 hla fun z2n Z=> ?_;clear hla;refine f8 z2n fun z1n Z=> ?_;clear z2n;obtain⟨⟨⟨⟨⟨⟨⟨z1,z2⟩,z3⟩,z4⟩,z5⟩,z6⟩,z7⟩,_⟩:=z1n;obtain⟨p1,p2,p3,p4,p5,p6,p7⟩:=as;dsimp only at z5 z7;subst z5 z7;rfl
 have hgs:=y6 t.wok.g t.inv.G;have hbm:s.heap.BuiltinsAt W.mg x.2.1:=by
  refine OF (t.wok.bm x.2.1 (lG hx)) fun bm ob b1 b2 b3 b4 b5 b6=> ?_;exact⟨bm,ob,b1,b2,b3,b4,t.inv.G _ _ b5,b6⟩
 refine kla_eval hdef ?_;rw[hq];cases hca:codeAmong lp ps.toList with
 |none=>
  have hgP:mainGlobals≠x.2.1:=fun q=>by
   refine nJ hgs fun o es ep e hd Z=> ?_;clear hgs;rw[q,hP] at e;injection e with e;subst e;injection hd
  refine kla_makeFunction (mg:=W.mg) hcl t.envOk.globals hgs hcode hCd hP ht hca hgP hbm fun c' ctv h' tk hx' hge hlt hr htab=> ?_;have kp: ∀b o,b≠x.2.1->s.heap.get? b=some o->(h'.push (kla_obj "<lambda>" x.2.2 as body lsc (F7 env lsc.names []) ((W.mg "__name__").getD .none) c' ctv)).get? b=some o:=fun b o n e=>Heap.get?_push_of_some _ (hx' b o n e);have hP':=Heap.get?_push_of_some (kla_obj "<lambda>" x.2.2 as body lsc (F7 env lsc.names []) ((W.mg "__name__").getD .none) c' ctv) htab;have hr':=hr.push (kla_obj "<lambda>" x.2.2 as body lsc (F7 env lsc.names []) ((W.mg "__name__").getD .none) c' ctv);refine⟨_,c',ctv,_,rfl,⟨_,tk,rfl,⟨fun b o e nt Z=>kp b o (fun q=>nt ⟨htb,q▸lG hx⟩) e,fun b o e nt=>⟨o.slots,kp b o (fun q=>nt ⟨htb,q▸lG hx⟩) e⟩,
   fun tt=>CE hx tt hP ht kp hP' hr',fun tt a o e Z nc=>uJ hx tt hP ht kp hP' (fun q=>absurd (Heap.lt_size e) (Nat.not_lt.mpr (q▸hge))) nc⟩⟩,Heap.get?_none_of_le (Nat.le_of_lt (Nat.lt_of_le_of_lt hge hlt)),Heap.get?_push_size _ rfl,hr'⟩
 |some cv=>
  have hr:=hrec lp cv hca;refine sX (id hr) fun c' o' vs' tq z1r e2 e3 e4=> ?_;subst z1r;refine kla_makeFunctionHit (mg:=W.mg) hcl t.envOk.globals hgs hcode hCd hP ht hca hbm fun ctv h' tk hk hsz=> ?_;refine⟨_,c',ctv,_,rfl,⟨_,tk,rfl,.of_keep fun b o e=>Heap.get?_push_of_some _ (hk b o e)⟩,Heap.get?_none_of_le hsz,Heap.get?_push_size _ rfl,hr.keeps fun b o e=>Heap.get?_push_of_some _ (hk b o e)⟩
end
section
variable {W:Wd} {C:Cx} {X:Xs} {k:Nat} {env:Env} {sc:Scope} {oa:Option Addr} {σ:d9} {s s₁:Shared} {g:G} {n:Nat}
set_option backward.match.sparseCases true in
theorem uL (hE:I8 W n) (hg:C5 W k C.tb g) (t:J2 W C X (k+1) env sc oa σ s.heap) {as:Arguments} {body:Expr} {lsc:Scope} {nm q:Str} (hla:aH as lsc=true) (hco:s9 sc lsc=true)
  {f c':Addr} {pm ctv:Value} (hf:s.heap.get? f=some (kla_obj nm q as body lsc (F7 env lsc.names []) pm c' ctv)) (hr:s.heap.CodeRec (.ref c') q):
  Ou C (ev g n false lsc (i5 σ sc lsc) body) (call (.ref f) [] []) (g5 C X oa s) (C6 C s) s:=by
 refine Q0 (J6 hco) fun n1 n2 n3 n4=> ?_;unfold aH at hla;simp only[Bool.and_eq_true,List.isEmpty_iff,Bool.not_eq_true'] at hla;refine f8 hla fun z4n z10=> ?_;clear hla;refine f8 z4n fun z1n z9=> ?_;clear z4n;obtain⟨⟨⟨⟨⟨⟨⟨z1,z2⟩,z3⟩,z4⟩,z5⟩,z6⟩,z7⟩,z8⟩:=z1n;let fd:=kla_fn nm q as body lsc (F7 env lsc.names []) pm (.ref c') ctv;let env':Env:=envX q lsc s.heap.objs.size f (.ref c') (F7 env lsc.names []);let C':Cx:={A:=C.A.deeper env',fr:=env'::C.fr,base:=C.base,X:=fun b=>C.X b\/b=env'.locals,tb:=C.tb};have sLn:s.heap.get? s.heap.objs.size=none:=A2 (Nat.le_refl _);have hfr:env'.frame=some env'.locals:=rfl;have ok:=t.ok;have ok':C'.Ok k:=by
  refine⟨?_,ok.handled,?_,?_,fun b m=> ?_,ok.tab,fun b m=> ?_⟩
  ·show C.A.frames.map (env':: ·)=some (env'::C.fr);rw[ok.frames];rfl
  ·have:=ok.depth;show C.A.depth+1+k+10<_;omega
  ·have:=ok.units;show C.A.units+3+8*k+40<_;omega
  ·have m:b∈(env'::C.fr).filterMap (·.frame):=m;rw[List.filterMap_cons,hfr] at m;rcases List.mem_cons.mp m with z|z
   ·exact .inr z
   ·exact .inl (ok.locs b z)
  ·have m:b∈(env'::C.fr).filterMap (·.frame):=m;rw[List.filterMap_cons,hfr] at m;rcases List.mem_cons.mp m with z|z
   ·exact z▸o6 t.inv.tabs sLn
   ·exact ok.loct b z
 refine w4.of fun hns=> ?_;generalize hrr:ev g n false lsc (i5 σ sc lsc) body=r at hns ⊢;refine wpAny_call (kla_callFunE (R:=fun r' s'=>match r' with| .ok (.ret v)=>NR r (g5 C X oa s) v s'| .ok _=>False| .error e=>PN r (C6 C s) e s') (fd:=fd) (body:=body) (by have:=ok.depth;omega) hf rfl z9 z8 rfl hr ?_);have hbind:bindArgs fd ⟨[],[]⟩=pure []:=by
  obtain⟨p1,p2,p3,p4,p5,p6,p7⟩:=as;dsimp only at z1 z2 z3 z4 z5 z6 z7;cases p3<;>try cases z3
  cases p6<;>try cases z6
  subst z1 z2 z4 z5 z7;rfl
 rw[hbind];refine wpAny_pure (wpAny_newFunctionEnv n1 (fun y hy=>nomatch hy) (fun y5 P3 hsb=>⟨(t.wok.nolimit.keeps t.inv.G).fresh _ hsb,?_⟩) n4);show codeAny _ _ (.expr body env') _ _;have keep: ∀b o,s.heap.get? b=some o->y5.get? b=some o:=fun b o e=>hsb.extBut b o (Nat.ne_of_lt (Heap.lt_size e)) (Heap.get?_push_of_some _ e);refine kla_codeExpr ?_;refine F5 (D3 P3) fun oL esL epL eL dL=> ?_;have sU:k9 C s ({s with heap:=y5,toks:=s.toks+([]:List (Str×Value)).length}:Shared):=.of_keep keep;have n7:=t.step sU;have ek:V9 env' lsc:=⟨n4,rfl,rfl,fun x kd e=>.inl e,fun e=>absurd e (zH hco)⟩;have kx: ∀b,X b\/b=env'.locals->X b\/ ∀o,s.heap.get? b=some o-> ¬I7 o:=fun b z=>z.imp id fun z o q=>by rw[z] at q;have q:s.heap.get? s.heap.objs.size=some _:=q;rw[sLn] at q;injection q
 have stX:Mine.St env oa (fun b=>X b\/b=env'.locals) s.heap σ:=t.st.more kx;have T':J2 W C' (fun b=>X b\/b=env'.locals) k env' lsc oa (i5 σ sc lsc) y5:=by
  refine⟨t.wok,ok',⟨t.wf.notab⟩,fun b z=>z.imp (t.sub b) id,fun b z=> ?_,fun b z=> ?_,⟨fun b o e=>keep b o (t.inv.G b o e),fun b o e=>keep b o (t.inv.base b o e),⟨?_,⟨s.heap.objs.size,oL,rfl,?_,eL,fun vs z=>by rw[dL] at z;injection z⟩,t.inv.frames.of_keeps fun b o e Z=>⟨o,keep b o e,rfl⟩⟩,t.inv.tabs.keeps keep,fun b z=> ?_⟩,ek,?_,fun b z=>.inl (t.oaX b z)⟩
  ·rcases z with z|z
   ·exact t.xg b z
   ·rw[z];cases q:W.G.get? env'.locals with
    |none=>rfl
    |some o=>have:=t.inv.G _ _ q;rw[show s.heap.get? env'.locals=none from sLn] at this;injection this
  ·rcases z with z|z
   ·refine f8 (t.live b z) fun nt z3t=> ?_;refine d6 z3t fun o e=> ?_;clear z3t;exact⟨nt,o,keep b o e⟩
   ·exact⟨z▸o6 t.inv.tabs sLn,z▸⟨oL,eL⟩⟩
  ·show lsc.kind≠.module;rw[n4];exact fun z=>by injection z
  ·cases q:C.base.get? s.heap.objs.size with
   |none=>rfl
   |some o=>have:=t.inv.base _ _ q;rw[sLn] at this;injection this
  ·have z:b∈(env'::C.fr).filterMap (·.frame):=z;rw[List.filterMap_cons,hfr] at z;rcases List.mem_cons.mp z with z|z
   ·rw[z];cases q:W.G.get? env'.locals with
    |none=>rfl
    |some o=>have:=t.inv.G _ _ q;rw[show s.heap.get? env'.locals=none from sLn] at this;injection this
   ·exact t.inv.Gl b z
  ·refine aQ (s:={s with heap:=y5}) hco t.envOk (stX.gr ok t.inv sU.gr fun b z=>.inl (t.sub b z)) (cenv:=env') rfl (fun x kd e z=> ?_) ek P3;rcases z with rfl|rfl
   ·exact absurd rfl (n1 _ (mem_of_lookup e))
   ·exact mem_of_lookup e
 have hg':C5 W k C'.tb g:=hg;have back: ∀{s':Shared},k9 C' ({s with heap:=y5,toks:=s.toks+([]:List (Str×Value)).length}:Shared) s'->k9 C s s':=fun⟨h',t',e',gr⟩=>⟨h',t',e',⟨fun b o e n m=>gr.keep b o (keep b o e) n fun z=>by
   have z:b∈(env'::C.fr).filterMap (·.frame):=z;rw[List.filterMap_cons,hfr] at z;rcases List.mem_cons.mp z with z|z
   ·have z:b=s.heap.objs.size:=z;rw[z,sLn] at e;injection e
   ·exact m z,fun b o e n=>gr.slots b o (keep b o e) n,fun tt=>gr.tabs (tt.keeps keep),fun tt b o e n nc=>gr.codes (tt.keeps keep) b o (keep b o e) n (nc.keeps tt keep)⟩⟩
 have hb:=(hE g C' _ k env' lsc oa (i5 σ sc lsc) body {s with heap:=y5,toks:=s.toks+([]:List (Str×Value)).length} hg' T').1;rw[hrr] at hb;cases r with
 |stuck=>exact absurd rfl hns
 |err l=>
  refine wpAny_mono hb (fun Z Z x=>x.elim) fun e s' p=> ?_;refine AR p fun ae a0 h' tk z1r z2r fl u li=> ?_;clear p;subst z1r;subst z2r;exact wpAny_mono (kW (C:=C') (C₀:=C) (env:=env') (s:=s) ok'.frames rfl rfl hfr ⟨ae,a0,h',tk,rfl,rfl,fl,(sU.gr.upTo t.nt).trans u,li⟩) (fun Z Z x=>x) fun Z Z x=>x.elim
 |ok d=>
  refine wpAny_mono hb (fun v s' p=> ?_) fun Z Z x=>x.elim;exact⟨back p.1,p.2.more fun b z=>.inl (.inl z)⟩
end
noncomputable def pT (n:Nat):Pos:=([⟨271,16,271,21⟩,⟨271,23,271,27⟩,⟨271,23,271,29⟩,⟨271,15,271,30⟩,⟨271,8,271,30⟩,⟨272,11,272,18⟩,⟨273,16,273,25⟩,⟨273,27,273,28⟩,⟨273,27,273,33⟩,⟨273,15,273,34⟩,⟨273,8,273,34⟩,⟨272,4,273,34⟩,⟨270,4,273,34⟩]:List Pos).getD (n-1) ⟨0,0,0,0⟩
noncomputable def GN:List Stmt:=
 [.Try [.Return (some (.Tuple [.Constant (.str "let") 0 (pT 1),.Call (.Name "call" (pT 2)) [] [] (pT 3)] 0 (pT 4))) (pT 5)]
  [.ExceptHandler (some (.Name "BadText" (pT 6))) (some "e") [.Return (some (.Tuple [.Constant (.str "refused") 0 (pT 7),.Attribute (.Name "e" (pT 8)) "line" (pT 9)] 0 (pT 10))) (pT 11)] (pT 12)] [] [] (pT 13)]
structure uM (W:Wd) (mC mB:Str->Option Value) (aT:Addr) (fd:FuncData):Prop where
 name:W.mg "_law_told"=some (.ref aT)
 I:lF W.G mainGlobals aT ["call"] "BadText" GN fd
 e:fd.scope.names.lookup ("e":Str)=some .local
 cg:mC "__getattribute__"=none
 bg:mB "__getattribute__"=none
 ch:mC "__getattr__"=none
 bh:mB "__getattr__"=none
 cn:mC "line"=none
 bn:mB "line"=none
theorem hY {h h':Heap} (t:o3 h) (k: ∀b o vs,h.get? b=some o->o.data=.fields vs->h'.get? b=some o):o3 h':=fun y hy=>by
 refine f8 (t y hy) fun z10n z11t=> ?_;refine r6 z11t fun ps p1 p2 p3=> ?_;clear z11t;refine RX z10n fun oc vs a1 a2 a3 a4 a5 a6 a7 c1 c2 c3 cr=> ?_;clear z10n;exact⟨⟨oc,vs,a1,a2,a3,a4,a5,a6,a7,k _ _ _ c1 c3,c2,c3,cr⟩,ps,k _ _ _ p1 rfl,p2,fun pos cv e=>sX (p3 pos cv e) fun c o vs' tq e1 e2 e3 e4=>⟨c,o,vs',tq,e1,k _ _ _ e2 e3,e3,e4⟩⟩
theorem nT {h h':Heap} {a:Addr} (t:o3 h) (k: ∀b o vs,h.get? b=some o->o.data=.fields vs->h'.get? b=some o) (n:u9 h a):u9 h' a:=fun x hx ps e=>by
 refine f8 (t x hx) fun Z z9t=> ?_;refine e8 z9t fun ps' e' Z=> ?_;clear z9t;have:=k _ _ _ e' rfl;rw[e] at this;injection this with this;injection this with _ _ this _;injection this with this;subst this;exact n x hx ps e'
section
variable {W:Wd} {C:Cx} {A:Around} {E:Value->Shared->Prop} {s:Shared} {aT:Addr} {fd:FuncData} {mC mB:Str->Option Value}
theorem CF {e:Addr} {oe:Obj} {vs:Array Value} {l:Int} {Q:Value->Shared->Prop} (TG:uM W mC mB aT fd) (BA:G4 W.G mC mB) (kG: ∀b o,W.G.get? b=some o->s.heap.get? b=some o) (he:s.heap.get? e=some oe) (hc:oe.cls=.ref 52) (hdt:oe.data=.fields vs)
  (hl:Y0 s.heap e l) (hq: ∀t,Q (.int l t) {s with toks:=s.toks+1}):wpAny (model prog w) A (getAttr (.ref e) "line" true) Q E s:=by
 refine sX hl fun o d m t e1 e2 e3 e4=> ?_;clear hl;obtain rfl:=Option.some.inj (he.symm.trans e1);obtain⟨hp,gn,dr,tk,os⟩:=s;exact uG (BA.keeps kG) TG.cg TG.bg TG.ch TG.bh TG.cn TG.bn (by rw[typeLookup_type,builtinLookup_eq_fast];kernel_rfl) he hc hdt e2 e3 e4 rfl (hq t)
theorem LK {h h':Heap} (hl: ∀a∈C.locs,∀o,h.get? a=some o-> ∀vs,o.data≠.fields vs) (kp: ∀b o,h.get? b=some o->b∉C.locs->h'.get? b=some o)
  (u: ∀b∈C.locs,∀o,h.get? b=some o-> ∃sl,h'.get? b=some {o with slots:=sl}):Gr C h h':=by
 have kf: ∀b o vs,h.get? b=some o->o.data=.fields vs->h'.get? b=some o:=fun b o vs e d=>kp b o e fun m=>hl b m o e vs d;refine⟨fun b o e Z m=>kp b o e m,fun b o e Z=> ?_,fun t=>hY t kf,fun t a o Z Z n=>nT t kf n⟩;by_cases m:b∈C.locs
 ·exact u b m o e
 ·exact⟨o.slots,kp b o e m⟩
theorem xX {C₀:Cx} {s₀:Shared} {env:Env} {l:Int} {e:Value} {s':Shared} {Q:Flow->Shared->Prop} (TG:uM W mC mB aT fd) (BA:G4 W.G mC mB) (hmain:W.mg "BadText"=some (.ref 52)) (wok:W.Ok)
  (hA:C.A.frames=some (env::C₀.fr)) (hfr:C.fr=env::C₀.fr) (hf:env.frame=some env.locals) (hk:env.scope.kind=.function) (hgl:env.globals=mainGlobals) (hkb:env.kindOf "BadText"=some .globalImplicit) (hke:env.kindOf "e"=some .local)
  {m:Str->Option Value} (hns:s.heap.Ns env.locals m) (hml:m "line"=none) (hB:C.base=hideAll s.heap C.locs) (i:aM W C s.heap) (hs0:s={s₀ with heap:=s.heap,toks:=s.toks}) (keep0: ∀b o,s₀.heap.get? b=some o->s.heap.get? b=some o) (hL0:s₀.heap.get? env.locals=none)
  (h:C6 C s l e s') (hQ: ∀T h' tk t u,k9 C₀ s₀ {s with heap:=h',toks:=tk}->s₀.heap.get? T=none->h'.get? T=some {cls:=.type "tuple",data:=.seq #[.str "refused" u,.int l t]}->Q (.ret (.ref T)) {s with heap:=h',toks:=tk}):
  wpAny (model prog w) C.A (noteFrame e env) (fun Z e7=>wpAny (model prog w) C.A (setFlight e none) (fun Z l6=>
   wpAny (model prog w) C.A (handleBy e env [.ExceptHandler (some (.Name "BadText" (pT 6))) (some "e") [.Return (some (.Tuple [.Constant (.str "refused") 0 (pT 7),.Attribute (.Name "e" (pT 8)) "line" (pT 9)] 0 (pT 10))) (pT 11)] (pT 12)]) Q E l6) E e7) E s':=by
 refine AR h fun ae a0 h1 tk z7r z8r fl u li=> ?_;clear h;subst z7r;subst z8r;rw[hfr] at fl;have n1:=(cL (.ref ae) env).any (wpAny_looks_onW (M:=model prog w) (A:=C.A) (E:=fun Z Z=>False) (s:={s with heap:=h1,toks:=tk}) (Q:=fun Z s''=> ∃h'',s''={s with heap:=h'',toks:=tk}/\Heap.HeldW C.base (env::C₀.fr) ae kB a0 env.locals h''/\h1.UpToSlots h'') hA hf fl fun h' a b=>⟨h',rfl,a,b⟩);refine wpAny_mono n1 (fun Z e7 q=> ?_) fun Z Z x=>False.elim (And.left x);refine f8 q fun z6n d2=> ?_;clear q;refine r6 z6n fun h2 z3r held u2=> ?_;clear z6n;subst z3r;have n2:=(U7 (.ref ae) none).any (wpAny_landsW (M:=model prog w) (A:=C.A) (E:=fun Z Z=>False) (s:={s with heap:=h2,toks:=tk}) (Q:=fun Z s''=> ∃h'',s''={s with heap:=h'',toks:=tk}/\Heap.FlyingW C.base (env::C₀.fr) ae kB a0 h''/\h2.UpToSlots h'') held fun h' a b=>⟨h',rfl,a,b⟩);refine wpAny_mono n2 (fun Z l6 q=> ?_) fun Z Z x=>False.elim (And.left x);refine f8 q fun z5n d3=> ?_;clear q;refine r6 z5n fun h3 z2r fl3 u3=> ?_;clear z5n;subst z2r;have li3:Y0 h3 ae l:=(li.goes d2 u2).goes d3 u3;have GB: ∀b o,W.G.get? b=some o->C.base.get? b=some o:=fun b o e=>by
  rw[hB];exact hideAll_get _ (i.G b o e) fun z=>by rw[i.Gl b z] at e;injection e
 have kG3: ∀b o,W.G.get? b=some o->h3.get? b=some o:=fun b o e=>fl3.1 b o (GB b o e);refine e8 fl3.there fun ob hob hobc=> ?_;refine wpAny_handleBy_cons (codeAny_handlers_test (Calls.Name_function_global hk hkb (Calls.loadGlobal_global (mg:=W.mg) (by rw[hgl];exact y6 wok.g kG3) hmain ?_) (by decide))) (by intro q;injection q);refine d6 BA.c fun xc hC=> ?_;refine wpAny_excMatches_sub_self (kG3 _ _ hC) hob hobc (by decide+kernel) (codeAny_handlers_suite_as ?_);have n4:=fun(A':Around) (E':Value->Shared->Prop)=>(U7 (.ref ae) none).any (lands_againW (M:=model prog w) (A:=A') (E:=E') (s:={s with heap:=h3,toks:=tk}) (Q:=fun Z s''=> ∃h'',s''={s with heap:=h'',toks:=tk}/\Heap.FlyingW C.base (env::C₀.fr) ae kB a0 h''/\h3.UpToSlots h'') fl3 fun h' a b=>⟨h',rfl,a,b⟩);refine wpAny_mono (n4 _ _) (fun Z C4 q=> ?_) fun Z Z x=>False.elim (And.left x);refine f8 q fun z4n d4=> ?_;clear q;refine r6 z4n fun h4 z1r fl4 u4=> ?_;clear z4n;subst z1r;have li4:Y0 h4 ae l:=li3.goes d4 u4;have u04:s.heap.UpToSlots h4:=((u.trans u2).trans u3).trans u4;have ns4:h4.Ns env.locals m:=u04.ns hns;have hp:(env.scope.kind==.class||(env.scope.kind==.module &&env.locals !=env.globals))=false:=by rw[hk];rfl
 have hloc:env.locals∈C.locs:=by unfold Cx.locs;rw[hfr,List.filterMap_cons,hf];exact .head _
 refine wpAny_storeName_local hke ns4 (fun h5 ns5 sb5=> ?_) hp;have kG4: ∀b o,W.G.get? b=some o->h4.get? b=some o:=fun b o e=>fl4.1 b o (GB b o e);have hGL: ∀b o,W.G.get? b=some o->b≠env.locals:=fun b o e q=>by rw[q,i.Gl _ hloc] at e;injection e
 have kG5: ∀b o,W.G.get? b=some o->h5.get? b=some o:=fun b o e=>(sb5.2 b (hGL b o e)).trans (kG4 b o e);refine cQ fl4.first fun oe vs hoe hoec hoed Z=> ?_;refine F5 (D3 ns4) fun oL esL epL eL dL=> ?_;have heL:ae≠env.locals:=fun q=>by rw[q,eL] at hoe;injection hoe with hoe;subst hoe;rw[dL] at hoed;injection hoed
 have hoe5:h5.get? ae=some oe:=(sb5.2 ae heL).trans hoe;have li5:Y0 h5 ae l:=by
  refine sX li4 fun o d m' t e1 e2 e3 e4=> ?_;clear li4;have hdL:d≠env.locals:=fun q=>by
   refine X0 e3 fun o1 es1 ep1 f1 f2 Z f3=> ?_;clear e3;refine X0 ns4 fun o2 es2 ep2 g1 g2 Z g3=> ?_;clear ns4;rw[q,g1] at f1;injection f1 with f1;subst f1;rw[g2] at f2;injection f2 with f2 f22;subst f2;subst f22;have:=f3 "line";rw[g3 "line",hml,e4] at this;injection this
  exact⟨o,d,m',t,(sb5.2 ae heL).trans e1,e2,e3.sameBut sb5 hdL,e4⟩
 refine wpAny_execs_cons (wpAny_Return_some (wpAny_Tuple ?_));refine Calls.spliced_cons (Calls.Constant_str (k:=0) (pos:=(pT 7)) (Calls.spliced_cons (Attribute_name ?_)));refine wpAny_Name (wpAny_loadName_local hk hke ns5 (if_pos rfl) ?_) (by decide);refine CF TG BA kG5 hoe5 hoec hoed li5 fun t=> ?_;refine Calls.spliced_nil ⟨by show 2<=sizeLine;decide,?_⟩;have ns6:=ns5.push {cls:=.type "tuple",data:=.seq #[.str "refused" (tk+1),.int l t]};show wpAny _ _ (do bindName env "e" .none;unbindBehindTheSuite env "e" (pT 12)) _ _ _;refine wpAny_nameGoes hke ns6 hp fun h' m' ns' sb'=> ?_;have locs:C.locs=env.locals::C₀.locs:=by unfold Cx.locs;rw[hfr,List.filterMap_cons,hf]
 have kp: ∀b o,C.base.get? b=some o->h5.get? b=some o:=fun b o e=>by
  have hb:b≠env.locals:=fun q=>by
   rw[hB,q,hideAll_none _ hloc] at e;injection e
  exact(sb5.2 b hb).trans (fl4.1 b o e)
 have old: ∀b o,s.heap.get? b=some o->b∉C.locs->h5.get? b=some o:=fun b o e n=>kp b o (by rw[hB];exact hideAll_get _ e n);have old': ∀b o,s.heap.get? b=some o-> ∃o',h5.get? b=some o':=fun b o e=>by
  by_cases m:b∈C.locs
  ·refine f8 (i.locSome m) fun Z z3t=> ?_;refine e8 z3t fun o1 e1 hd=> ?_;clear z3t;rw[e] at e1;injection e1 with e1;subst e1;refine d6 (u04 b o e hd) fun sl z=> ?_;by_cases q:b=env.locals
   ·refine F5 ns5 fun o5 Z Z e5 Z=> ?_;clear ns5;exact⟨o5,q▸e5⟩
   ·exact⟨_,(sb5.2 b q).trans z⟩
  ·exact⟨o,old b o e m⟩
 have hT:s₀.heap.get? h5.objs.size=none:=by
  cases q:s₀.heap.get? h5.objs.size with
  |none=>rfl
  |some o=>
   refine d6 (old' _ o (keep0 _ _ q)) fun o' e'=> ?_;exact absurd (Heap.lt_size e') (Nat.lt_irrefl _)
 have hTL:h5.objs.size≠env.locals:=fun q=>by
  refine F5 ns5 fun o5 Z Z e5 Z=> ?_;clear ns5;exact absurd (Heap.lt_size e5) (q▸Nat.lt_irrefl _)
 refine hQ h5.objs.size h' _ t (tk+1) ⟨h',_,by rw[hs0],LK (fun a m o e=> ?_) (fun b o e n=> ?_) (fun b m o e=> ?_)⟩ hT ((sb'.2 _ hTL).trans (Heap.get?_push_size _ rfl))
 ·refine f8 (i.locSome (a:=a) (by rw[locs];exact List.mem_cons_of_mem _ m)) fun Z z2t=> ?_;refine e8 z2t fun o1 e1 hd=> ?_;clear z2t;have:=keep0 _ _ e;rw[e1] at this;injection this with this;subst this;exact hd
 ·have hb:b≠env.locals:=fun q=>by rw[q,hL0] at e;injection e
  exact(sb'.2 b hb).trans (Heap.get?_push_of_some _ (old b o (keep0 b o e) (by rw[locs,List.mem_cons,not_or];exact⟨hb,n⟩)))
 ·have hb:b≠env.locals:=fun q=>by rw[q,hL0] at e;injection e
  refine f8 (i.locSome (a:=b) (by rw[locs];exact List.mem_cons_of_mem _ m)) fun Z z1t=> ?_;refine e8 z1t fun o1 e1 hd=> ?_;clear z1t;have e2:=keep0 _ _ e;rw[e1] at e2;cases e2;refine d6 (u04 b o e1 hd) fun sl z=> ?_;exact⟨sl,(sb'.2 b hb).trans (Heap.get?_push_of_some _ ((sb5.2 b hb).trans z))⟩
end
section
variable {W:Wd} {C:Cx} {X:Xs} {k k':Nat} {env:Env} {sc:Scope} {oa:Option Addr} {σ:d9} {s s₁:Shared} {g:G} {n:Nat} {aT:Addr} {fd:FuncData} {mC mB:Str->Option Value}
theorem w4.to {α β:Type} {r:R α} {F:Tr β} {P:α->β->Shared->Prop} {E:Int->Value->Shared->Prop} (h:w4 r F P E s) (hn:r≠.stuck):F (NR r P) (PN r E) s:=by
 cases r with
 |stuck=>exact absurd rfl hn
 |err l=>exact h
 |ok a=>exact h
noncomputable abbrev fW (C:Cx) (env':Env) (h₀:Heap):Cx:={A:=C.A.deeper env',fr:=env'::C.fr,base:=hideAll h₀ (env'.locals::C.locs),X:=fun b=>C.X b\/b=env'.locals,tb:=False}
section
variable {env':Env} {h₀:Heap} {m:Str->Option Value} (t:J2 W C X k env sc oa σ s.heap) (hkk:k'+2<=k) (hfr:env'.frame=some env'.locals) (hkind:env'.scope.kind=.function) (hL:env'.locals=s.heap.objs.size) (gP:h₀.Ns env'.locals m) (keep: ∀b o,s.heap.get? b=some o->h₀.get? b=some o)
include t hfr hL
theorem aZ:s.heap.get? env'.locals=none:=A2 (Nat.le_of_eq hL.symm)
omit t hL in
theorem bX:(fW C env' h₀).locs=env'.locals::C.locs:=by
 show(env'::C.fr).filterMap (·.frame)=_;rw[List.filterMap_cons,hfr];rfl
include hkk in
theorem GO:(fW C env' h₀).Ok (k'+1):=by
 have ok:=t.ok;have mem: ∀b,b∈(fW C env' h₀).locs->b=env'.locals\/b∈C.locs:=fun b m=>by rw[bX hfr] at m;exact List.mem_cons.mp m
 refine⟨?_,ok.handled,?_,?_,fun b m=>(mem b m).elim .inr fun z=>.inl (ok.locs b z),fun z=>z.elim,fun b m=>(mem b m).elim (fun z=>z▸o6 t.inv.tabs (aZ t hfr hL)) (ok.loct b)⟩
 ·show C.A.frames.map (env':: ·)=some (env'::C.fr);rw[ok.frames];rfl
 ·have:=ok.depth;show C.A.depth+1+(k'+1)+10<_;omega
 ·have:=ok.units;show C.A.units+3+8*(k'+1)+40<_;omega
theorem LL:W.G.get? env'.locals=none:=by
 cases q:W.G.get? env'.locals with
 |none=>rfl
 |some o=>exact no ((aZ t hfr hL).symm.trans (t.inv.G _ _ q))
include hkk hkind gP keep in
theorem GP:J2 W (fW C env' h₀) (fun b=>X b\/b=env'.locals) (k'+1) env sc oa σ h₀:=by
 have sLn:=aZ t hfr hL;have GL:=LL t hfr hL;refine F5 (D3 gP) fun oL esL epL eL dL=> ?_;have kx: ∀b,X b\/b=env'.locals->X b\/ ∀o,s.heap.get? b=some o-> ¬I7 o:=fun b z=>z.imp id fun z o q=>no (sLn.symm.trans (z▸q));have stX:Mine.St env oa (fun b=>X b\/b=env'.locals) s.heap σ:=t.st.more kx;refine⟨t.wok,GO t hkk hfr hL,⟨fun z=>z.elim⟩,fun b z=>z.imp (t.sub b) id,fun b z=>z.elim (t.xg b) fun z=>z▸GL,fun b z=> ?_,⟨fun b o e=>keep b o (t.inv.G b o e),fun b o e=>of_hideAll _ e,?_,t.inv.tabs.keeps keep,fun b z=> ?_⟩,t.envOk,
  stX.gr t.ok t.inv (Gr.of_keep (C:=C) keep) fun b z=>.inl (t.sub b z),fun b z=>.inl (t.oaX b z)⟩
 ·rcases z with z|z
  ·refine f8 (t.live b z) fun nt z2t=> ?_;refine d6 z2t fun o e=> ?_;clear z2t;exact⟨nt,o,keep b o e⟩
  ·exact⟨z▸o6 t.inv.tabs sLn,z▸⟨oL,eL⟩⟩
 ·refine funFrames_hide (base:=C.base) (l:=env'::C.fr) ⟨?_,⟨env'.locals,oL,hfr,?_,eL,fun vs z=>nomatch dL.symm.trans z⟩,t.inv.frames.of_keeps fun b o e Z=>⟨o,keep b o e,rfl⟩⟩ fun e he a ha=> ?_
  ·rw[hkind];exact fun z=>nomatch z
  ·cases q:C.base.get? env'.locals with
   |none=>rfl
   |some o=>exact no (sLn.symm.trans (t.inv.base _ _ q))
  ·rw[<-bX (C:=C) (h₀:=h₀) hfr];exact List.mem_filterMap.mpr ⟨e,he,ha⟩
 ·rw[bX hfr] at z;exact(List.mem_cons.mp z).elim (fun z=>z▸GL) (t.inv.Gl b)
include keep in
theorem CG {tk:Nat} {s':Shared} (st:k9 (fW C env' h₀) ({s with heap:=h₀,toks:=tk}:Shared) s'):k9 C s s':=by
 refine r0 st fun h' t' e' gr=> ?_;clear st;refine⟨h',t',e',⟨fun b o e n m=>gr.keep b o (keep b o e) (fun z=>z.1) fun z=> ?_,fun b o e n=>gr.slots b o (keep b o e) fun z=>z.1,fun tt=>gr.tabs (tt.keeps keep),fun tt b o e n nc=>gr.codes (tt.keeps keep) b o (keep b o e) n (nc.keeps tt keep)⟩⟩;rw[bX hfr] at z;exact(List.mem_cons.mp z).elim (fun z=>no ((aZ t hfr hL).symm.trans (z▸e))) m
end
theorem CH (hE:I8 W n) (TG:uM W mC mB aT fd) (BA:G4 W.G mC mB) (hmain:W.mg "BadText"=some (.ref 52)) (hg:C5 W k' False g) (t:J2 W C X k env sc oa σ s.heap) (hkk:k'+2<=k)
  {as:Arguments} {body:Expr} {lsc:Scope} {nm q:Str} (hla:aH as lsc=true) (hco:s9 sc lsc=true)
  {f c':Addr} {pm ctv:Value} (hf:s.heap.get? f=some (kla_obj nm q as body lsc (F7 env lsc.names []) pm c' ctv)) (hr:s.heap.CodeRec (.ref c') q):
  Ou C (C9 (ev g n false lsc (i5 σ sc lsc) body)) (call (.ref aT) [.ref f] []) (g5 C X oa s) (C6 C s) s:=by
 refine w4.of fun hns=> ?_;generalize hrr:ev g n false lsc (i5 σ sc lsc) body=r at hns ⊢;have I:=TG.I;refine r6 I.obj fun oT hoT hdT hcT=> ?_;have ok:=t.ok;refine wpAny_call (codeAny_call_def (A:=C.A) (R:=PQ (NR (C9 r) (g5 C X oa s)) (PN (C9 r) (C6 C s))) (by have:=ok.depth;omega) (t.inv.G _ _ hoT) hdT (t.wok.nolimit.keeps t.inv.G) (I.code.keeps t.inv.G) I.body (I.bind s [.ref f] t.inv.G rfl) I.cells (fun x hx=> ?_) (fun h₀ gP keep=> ?_) I.co I.gen I.kind)
 ·have:x.1∈(["call"]:List Str):=by
   rcases hx with _|⟨_,hx⟩
   ·exact List.mem_cons_self
   ·cases hx
  exact I.loc _ this
 let env':Env:=callEnv fd s.heap.objs.size aT;have hfr:env'.frame=some env'.locals:=rfl;have T':=GP (env':=env') t hkk hfr I.kind rfl gP keep;have hc:=fun tk=>uL (s:={s with heap:=h₀,toks:=tk}) hE hg T' hla hco (keep _ _ hf) (hr.keeps keep);rw[hrr] at hc;have hrn:r≠.stuck:=fun z=>hns (by rw[z];rfl);unfold GN;refine wpAny_execs_cons (wpAny_Try_except ?_);refine wpAny_execs_cons (wpAny_Return_some (wpAny_Tuple ?_));refine Calls.spliced_cons (Calls.Constant_str (k:=0) (pos:=pT 1) (Calls.spliced_cons ?_));rw[if_neg (show ¬(false=true) by decide)];refine wpAny_Call_NameR (ldc I.kind (I.loc _ List.mem_cons_self) gP (by rfl) ?_);refine Calls.callWith_function (o:=kla_obj nm q as body lsc (F7 env lsc.names []) pm c' ctv) (fd:=kla_fn nm q as body lsc (F7 env lsc.names []) pm (.ref c') ctv) ?_;refine PyProof.Rows.evalArgs_none ⟨⟨keep _ _ hf,rfl⟩,?_⟩;refine wpAny_mono (w4.to (hc _) hrn) (fun v s' hv=> ?_) fun e s' he=> ?_
 ·cases r with
  |stuck=>exact absurd rfl hrn
  |err l=>exact hv.elim
  |ok d=>
   refine f8 hv fun st hu=> ?_;clear hv;have hd:d.open? =false:=by
    cases q:d.open? with
    |false=>rfl
    |true=>exact absurd (by show C9 (.ok d)=.stuck;unfold C9;simp[q]) hns
   have hu':Rp s'.heap X v d:=(hu.plain hd).less fun b z=>.inl z;have st':=CG (env':=env') t hfr rfl keep st;refine Calls.spliced_nil ⟨by show 2<=sizeLine;decide,?_⟩;show NR (C9 (.ok d)) (g5 C X oa s) _ _;have htv:C9 (.ok d)=.ok (.tup [.str [108,101,116],d]):=by unfold C9;simp[hd]
   rw[htv];refine⟨st'.trans ⟨_,_,rfl,.push _⟩,?_⟩;have xn:=(t.step st').xn;refine B1.of (Rp.tup (vs:=[.str "let" _,v]) (Heap.get?_push_size _ rfl) rfl rfl (fun z=>absurd (xn _ z) (Nat.lt_irrefl _)) (.cons (.str [108,101,116] _) (.cons (hu'.carry fun b o e Z Z=>Heap.get?_push_of_some _ e) .nil)))
 ·cases r with
  |stuck=>exact absurd rfl hrn
  |ok d=>exact he.elim
  |err l=>
   refine xX (C:=fW C env' h₀) (C₀:=C) (s₀:=s) TG BA hmain t.wok T'.ok.frames rfl hfr I.kind I.glob I.gn TG.e gP (by rfl) rfl T'.inv rfl keep (aZ (env':=env') t hfr rfl) he fun T h' tk tt u st hT hT'=> ?_;show NR (C9 (.err l)) (g5 C X oa s) _ _;have live:=(t.step st).live;refine⟨st,B1.of (Rp.tup (vs:=[.str "refused" u,.int l tt]) hT' rfl rfl (fun z=> ?_) (.cons (.str [114,101,102,117,115,101,100] _) (.cons (.int l tt) .nil)))⟩;refine f8 (t.live _ z) fun Z z1t=> ?_;refine d6 z1t fun o e=> ?_;clear z1t;rw[hT] at e;injection e
end
section
variable {W:Wd} {aT:Addr} {fd:FuncData} {mC mB:Str->Option Value}
theorem WP (TG:uM W mC mB aT fd) (BA:G4 W.G mC mB) (hmain:W.mg "BadText"=some (.ref 52)):KY W:=by
 intro n hE g C X k env sc oa σ s hg t f fp as body lsc lp p;show Ou C (if f="_law_told"/\g.lam=true/\sc.names.lookup f=some .globalImplicit/\aH as lsc=true/\s9 sc lsc=true then C9 (ev g.lows n false lsc (i5 σ sc lsc) body) else .stuck) _ _ _ _;by_cases hc:f="_law_told"/\g.lam=true/\sc.names.lookup f=some .globalImplicit/\aH as lsc=true/\s9 sc lsc=true
 case neg=>rw[if_neg hc];trivial
 rw[if_pos hc];refine OE hc fun z3r hlam hk hla hco=> ?_;clear hc;subst z3r;refine n5 (hg.lam hlam) fun htb z2n hbi=> ?_;refine e8 z2n fun k' hkk hlow=> ?_;clear z2n;refine r6 (t.envOk.told hk) fun x hx hcode hq=> ?_;have hk':env.kindOf "_law_told"=some .globalImplicit:=by
  rcases t.envOk.kinds _ _ hk with q|⟨q,_⟩
  ·exact q
  ·injection q
 have hgl:C5 W k' False g.lows:=⟨hg.const,hlow,hbi,fun z=>by injection z⟩;have I:=TG.I;refine r6 I.obj fun oT hoT hdT hcT=> ?_;refine w4.of fun hns=> ?_;refine wpAny_Call_NameR (Calls.Name_function_global t.envOk.kind hk' (Calls.loadGlobal_global (mg:=W.mg) (by rw[t.envOk.globals];exact y6 t.wok.g t.inv.G) TG.name ?_) (by decide));refine Calls.callWith_function (o:=oT) (fd:=fd) (Calls.evalArgs_plain (Calls.spliced_cons ?_));rw[if_neg (show ¬(false=true) by decide)];refine wpAny_mono (uK t htb hla hco hx hcode hq) (fun v s₁ h=> ?_) fun Z Z z=>z.elim;refine AR h fun a c' ctv pm z1r st hn hf hr=> ?_;clear h;subst z1r;have n7:=t.step st;refine Calls.spliced_nil ⟨⟨n7.inv.G _ _ hoT,hdT⟩,?_⟩;have key:=CH hE TG BA hmain hgl n7 hkk hla hco hf hr;exact w4.to (key.mono (fun Z Z Z Z z=>z.from st) fun Z Z Z Z z=>z.from st t.nt) hns
end
end
section
open PySem
section
variable (g:G) (opn:Option Str) (sc:Scope) (σ:d9)
noncomputable def c8 (tst:Bool) (e:Expr) (r:R V):Prop:= ∃N,∀n,ev g (n+N) tst sc σ e=r
noncomputable def d8 (st:Stmt) (q:R (Fl×d9)):Prop:= ∃N,∀n,ex g opn sc (n+N) σ st=q
noncomputable def d5 (b:List Stmt) (q:R (Fl×d9)):Prop:= ∃N,∀n,D1 (ex g opn sc (n+N)) σ b=q
noncomputable def P6 (t:Expr) (b:List Stmt) (vs:List V) (q:R (Fl×d9)):Prop:= ∃N,∀n,tB (fun σ v=>(s5 σ t v).bind fun σ'=>D1 (ex g opn sc (n+N)) σ' b) σ vs=q
noncomputable def g8 (ps:List Str) (body:List Stmt) (vs:List V) (r:R V):Prop:= ∃N,∀n,wY g opn sc ps body (n+N) vs=r
end
section
variable {g:G} {opn:Option Str} {sc:Scope} {σ σ' W8:d9} {v:V} {r:R V} {l:Int} {x:Str} {xp p q:Pos} {e t:Expr} {s:Stmt} {b o:List Stmt} {u:R (Fl×d9)} {fl:Fl}
theorem up {α:Type} {f:Nat->α} {N:Nat} {a:α} (h: ∀n,f (n+N)=a) {M:Nat} (hM:N<=M) (n:Nat):f (n+M)=a:=by
 have:=h (n+(M-N));rwa[Nat.add_assoc,Nat.sub_add_cancel hM] at this
theorem d5.nil:d5 g opn sc σ [] (.ok (.next,σ)):=⟨0,fun Z=>rfl⟩
theorem d5.cons (h:d8 g opn sc σ s (.ok (.next,σ'))) (h':d5 g opn sc σ' b u):d5 g opn sc σ (s::b) u:=by
 refine d6 h fun N h=> ?_;refine d6 h' fun M h'=> ?_;refine⟨max N M,fun n=> ?_⟩;show(ex g opn sc _ σ s).bind _=_;rw[up (f:=fun n=>ex g opn sc n σ s) h (Nat.le_max_left N M) n];exact up (f:=fun n=>D1 (ex g opn sc n) σ' b) h' (Nat.le_max_right N M) n
theorem d5.ret (h:d8 g opn sc σ s (.ok (.ret v,σ'))):d5 g opn sc σ (s::b) (.ok (.ret v,σ')):=by
 refine d6 h fun N h=> ?_;exact⟨N,fun n=>by show(ex g opn sc _ σ s).bind _=_;rw[h n];rfl⟩
theorem d5.brk (h:d8 g opn sc σ s (.ok (.brk,σ'))):d5 g opn sc σ (s::b) (.ok (.brk,σ')):=by
 refine d6 h fun N h=> ?_;exact⟨N,fun n=>by show(ex g opn sc _ σ s).bind _=_;rw[h n];rfl⟩
theorem d5.err (h:d8 g opn sc σ s (.err l)):d5 g opn sc σ (s::b) (.err l):=by
 refine d6 h fun N h=> ?_;exact⟨N,fun n=>by show(ex g opn sc _ σ s).bind _=_;rw[h n];rfl⟩
theorem g8.ret {ps:List Str} {vs:List V} (hl:vs.length=ps.length) (h:d5 g opn sc (ps.zip vs) b (.ok (.ret v,σ'))):g8 g opn sc ps b vs (.ok v):=by
 refine d6 h fun N h=> ?_;exact⟨N,fun n=>by unfold wY;rw[if_pos hl,h n];rfl⟩
theorem g8.next {ps:List Str} {vs:List V} (hl:vs.length=ps.length) (h:d5 g opn sc (ps.zip vs) b (.ok (.next,σ'))):g8 g opn sc ps b vs (.ok .none):=by
 refine d6 h fun N h=> ?_;exact⟨N,fun n=>by unfold wY;rw[if_pos hl,h n];rfl⟩
theorem g8.err {ps:List Str} {vs:List V} (hl:vs.length=ps.length) (h:d5 g opn sc (ps.zip vs) b (.err l)):g8 g opn sc ps b vs (.err l):=by
 refine d6 h fun N h=> ?_;exact⟨N,fun n=>by unfold wY;rw[if_pos hl,h n];rfl⟩
theorem d7 (h:c8 g sc σ false e (.ok v)) (hs:g9 sc x=true) (ho:opn≠some x) (hv:v.open? =false):d8 g opn sc σ (.Assign [.Name x xp] e q) (.ok (.next,σ.set x v)):=by
 refine d6 h fun N h=> ?_;refine⟨N+1,fun n=> ?_⟩;show(if g9 sc x=true/\(opn=some x->O1 e=true) then (ev g (n+N) false sc σ e).bind fun v=>(E7 opn σ x e v).map fun σ'=>(Fl.next,σ') else .stuck)=_;rw[if_pos ⟨hs,fun z=>absurd z ho⟩,h n];show(E7 opn σ x e v).map (fun σ'=>(Fl.next,σ'))=_;unfold E7;rw[if_neg ho,hv,if_neg (by decide)];rfl
theorem U2 (h:c8 g sc σ false e (.err l)) (hs:g9 sc x=true) (ho:opn≠some x):d8 g opn sc σ (.Assign [.Name x xp] e q) (.err l):=by
 refine d6 h fun N h=> ?_;refine⟨N+1,fun n=> ?_⟩;show(if g9 sc x=true/\(opn=some x->O1 e=true) then (ev g (n+N) false sc σ e).bind fun v=>(E7 opn σ x e v).map fun σ'=>(Fl.next,σ') else .stuck)=_;rw[if_pos ⟨hs,fun z=>absurd z ho⟩,h n];rfl
theorem uN {es:List Expr} {lp:Pos} {vs:List V} (h:c8 g sc σ false (.List es lp) (.ok (.list vs))) (hs:g9 sc x=true) (ho:opn=some x):d8 g opn sc σ (.Assign [.Name x xp] (.List es lp) q) (.ok (.next,σ.set x (.olist vs))):=by
 refine d6 h fun N h=> ?_;refine⟨N+1,fun n=> ?_⟩;show(if g9 sc x=true/\(opn=some x->O1 (.List es lp)=true) then (ev g (n+N) false sc σ (.List es lp)).bind fun v=>(E7 opn σ x (.List es lp) v).map fun σ'=>(Fl.next,σ') else .stuck)=_;rw[if_pos ⟨hs,fun Z=>rfl⟩,h n];show(E7 opn σ x (.List es lp) (.list vs)).map (fun σ'=>(Fl.next,σ'))=_;unfold E7;rw[if_pos ho];rfl
noncomputable def v5 (g:G) (sc:Scope) (σ:d9) (es:List Expr) (r:R (List V)):Prop:= ∃N,∀n,B9 (ev g (n+N) false sc σ) es=r
theorem v5.nil:v5 g sc σ [] (.ok []):=⟨0,fun Z=>rfl⟩
theorem v5.cons {es:List Expr} {vs:List V} (h:c8 g sc σ false e (.ok v)) (h':v5 g sc σ es (.ok vs)):v5 g sc σ (e::es) (.ok (v::vs)):=by
 refine d6 h fun N h=> ?_;refine d6 h' fun M h'=> ?_;refine⟨max N M,fun n=> ?_⟩;show(ev g _ false sc σ e).bind _=_;rw[up (f:=fun n=>ev g n false sc σ e) h (Nat.le_max_left N M) n];show(B9 (ev g (n+max N M) false sc σ) es).map _=_;rw[up (f:=fun n=>B9 (ev g n false sc σ) es) h' (Nat.le_max_right N M) n];rfl
theorem i7 {ts es:List Expr} {j j':Nat} {tp ep:Pos} {xs:List Str} {vs:List V} (h:v5 g sc σ es (.ok vs)) (hn:G3 ts=some xs) (hc:xs.Nodup/\aK es=true/\xs.all (g9 sc)=true/\xs.length<=8) (hs:U6 opn σ xs es vs=.ok σ'):
  d8 g opn sc σ (.Assign [.Tuple ts j tp] (.Tuple es j' ep) q) (.ok (.next,σ')):=by
 refine d6 h fun N h=> ?_;refine⟨N+1,fun n=> ?_⟩;show needR (G3 ts) _=_;rw[hn];show(if _ then (B9 (ev g (n+N) false sc σ) es).bind _ else _)=_;rw[if_pos hc,h n];show(U6 opn σ xs es vs).map _=_;rw[hs];rfl
theorem d8.append {a:Expr} {xp ap:Pos} {m:Str} {vs:List V} (h:c8 g sc σ false a (.ok v)) (hn:r5 g sc σ x=.ok (.olist vs)) (hc:m="append"/\opn=some x/\ap.endLine=p.line/\g9 sc x=true) (hv:v.open? =false) (hl:vs.length<i0):
  d8 g opn sc σ (.Expr (.Call (.Attribute (.Name x xp) m ap) [a] [] p) q) (.ok (.next,σ.set x (.olist (vs++[v])))):=by
 refine d6 h fun N h=> ?_;refine⟨N+1,fun n=> ?_⟩;show(if m="append"/\opn=some x/\ap.endLine=p.line/\g9 sc x=true then X9 (r5 g sc σ x) fun vs=>(ev g (n+N) false sc σ a).bind fun v=>X8 v vs σ x else .stuck)=_;rw[if_pos hc,hn];show(ev g (n+N) false sc σ a).bind _=_;rw[h n];show(if v.open? ||decide (i0<=vs.length) then _ else _)=_;rw[hv,if_neg (by simpa using hl)]
theorem hZ {a:Expr} {xp ap:Pos} {m:Str} {vs:List V} (h:c8 g sc σ false a (.err l)) (hn:r5 g sc σ x=.ok (.olist vs)) (hc:m="append"/\opn=some x/\ap.endLine=p.line/\g9 sc x=true):
  d8 g opn sc σ (.Expr (.Call (.Attribute (.Name x xp) m ap) [a] [] p) q) (.err l):=by
 refine d6 h fun N h=> ?_;refine⟨N+1,fun n=> ?_⟩;show(if m="append"/\opn=some x/\ap.endLine=p.line/\g9 sc x=true then X9 (r5 g sc σ x) fun vs=>(ev g (n+N) false sc σ a).bind fun v=>X8 v vs σ x else .stuck)=_;rw[if_pos hc,hn];show(ev g (n+N) false sc σ a).bind _=_;rw[h n];rfl
theorem GQ {i e:Expr} {xp ip:Pos} {vs:List V} (h:c8 g sc σ false e (.ok v)) (hn:r5 g sc σ x=.ok (.olist vs)) (hc:EE i=true/\dQ e=false/\opn=some x/\g9 sc x=true) (hv:v.open? =false) (h0:vs≠[]) (hl:vs.length<=i0):
  d8 g opn sc σ (.Assign [.Subscript (.Name x xp) i ip] e q) (.ok (.next,σ.set x (.olist (vs.dropLast++[v])))):=by
 refine d6 h fun N h=> ?_;refine⟨N+1,fun n=> ?_⟩;show(if EE i=true/\dQ e=false/\opn=some x/\g9 sc x=true then (ev g (n+N) false sc σ e).bind fun v=>X9 (r5 g sc σ x) fun vs=>oU v vs σ x else .stuck)=_;rw[if_pos hc,h n];show X9 (r5 g sc σ x) _=_;rw[hn];show(if v.open? ||vs.isEmpty||decide (i0<vs.length) then _ else _)=_;rw[hv,if_neg (by simp[h0,hl])]
theorem M3 {a:V} (h:c8 g sc σ false e (.ok v)) (hn:c8 g sc σ false (.Name x xp) (.ok a)) (ho:opn≠some x) (hs:g9 sc x=true) (hu:JV a v σ x=u):d8 g opn sc σ (.AugAssign (.Name x xp) .Add e p) u:=by
 refine d6 h fun N h=> ?_;refine d6 hn fun M hn=> ?_;refine⟨max N M+1,fun n=> ?_⟩;show(if opn=some x\/g9 sc x=false then .stuck else (ev g (n+max N M) false sc σ (.Name x xp)).bind fun a=>(ev g (n+max N M) false sc σ e).bind fun v=>JV a v σ x)=_;rw[if_neg (by rw[not_or];exact⟨ho,by rw[hs];decide⟩),up (f:=fun n=>ev g n false sc σ (.Name x xp)) hn (Nat.le_max_right N M) n];show(ev g (n+max N M) false sc σ e).bind _=_;rw[up (f:=fun n=>ev g n false sc σ e) h (Nat.le_max_left N M) n];exact hu
theorem d8.if_ {c:Bool} (h:c8 g sc σ true t (.ok (.bool c))) (h':d5 g opn sc σ (if c then b else o) u):d8 g opn sc σ (.If t b o p) u:=by
 refine d6 h fun N h=> ?_;refine d6 h' fun M h'=> ?_;refine⟨max N M+1,fun n=> ?_⟩;show((ev g (n+max N M) true sc σ t).bind l7).bind _=_;rw[up (f:=fun n=>ev g n true sc σ t) h (Nat.le_max_left N M) n];have:=up (f:=fun n=>D1 (ex g opn sc n) σ (if c then b else o)) h' (Nat.le_max_right N M) n;cases c<;>exact this
theorem d8.if1 (h:c8 g sc σ true t (.ok (.bool true))) (h':d5 g opn sc σ b u):d8 g opn sc σ (.If t b o p) u:=.if_ h h'
theorem d8.if0 (h:c8 g sc σ true t (.ok (.bool false))) (h':d5 g opn sc σ o u):d8 g opn sc σ (.If t b o p) u:=.if_ h h'
theorem h7 (h:c8 g sc σ true t (.ok (.bool false))):d8 g opn sc σ (.While t b [] p) (.ok (.next,σ)):=by
 refine d6 h fun N h=> ?_;exact⟨N+1,fun n=>by show((ev g (n+N) true sc σ t).bind l7).bind _=_;rw[h n];rfl⟩
theorem i3 (h:c8 g sc σ true t (.ok (.bool true))) (h':d5 g opn sc σ b (.ok (.next,σ'))) (h'':d8 g opn sc σ' (.While t b [] p) u):d8 g opn sc σ (.While t b [] p) u:=by
 refine d6 h fun N h=> ?_;refine d6 h' fun M h'=> ?_;refine d6 h'' fun L h''=> ?_;refine⟨max N (max M L)+1,fun n=> ?_⟩;show((ev g (n+max N (max M L)) true sc σ t).bind l7).bind _=_;rw[up (f:=fun n=>ev g n true sc σ t) h (Nat.le_max_left N _) n];show(D1 (ex g opn sc (n+max N (max M L))) σ b).bind _=_;rw[up (f:=fun n=>D1 (ex g opn sc n) σ b) h' (Nat.le_trans (Nat.le_max_left M L) (Nat.le_max_right N _)) n];exact up (f:=fun n=>ex g opn sc n σ' (.While t b [] p)) h'' (Nat.le_trans (Nat.le_max_right M L) (Nat.le_max_right N _)) n
theorem N5 (h:c8 g sc σ true t (.ok (.bool true))) (h':d5 g opn sc σ b (.ok (.ret v,σ'))):d8 g opn sc σ (.While t b [] p) (.ok (.ret v,σ')):=by
 refine d6 h fun N h=> ?_;refine d6 h' fun M h'=> ?_;refine⟨max N M+1,fun n=> ?_⟩;show((ev g (n+max N M) true sc σ t).bind l7).bind _=_;rw[up (f:=fun n=>ev g n true sc σ t) h (Nat.le_max_left N M) n];show(D1 (ex g opn sc (n+max N M)) σ b).bind _=_;rw[up (f:=fun n=>D1 (ex g opn sc n) σ b) h' (Nat.le_max_right N M) n];rfl
theorem K5 (h:c8 g sc σ true t (.ok (.bool true))) (h':d5 g opn sc σ b (.err l)):d8 g opn sc σ (.While t b [] p) (.err l):=by
 refine d6 h fun N h=> ?_;refine d6 h' fun M h'=> ?_;refine⟨max N M+1,fun n=> ?_⟩;show((ev g (n+max N M) true sc σ t).bind l7).bind _=_;rw[up (f:=fun n=>ev g n true sc σ t) h (Nat.le_max_left N M) n];show(D1 (ex g opn sc (n+max N M)) σ b).bind _=_;rw[up (f:=fun n=>D1 (ex g opn sc n) σ b) h' (Nat.le_max_right N M) n];rfl
theorem H3 {it:Expr} {iv:V} {items:List V} (h:c8 g sc σ false it (.ok iv)) (hi:s0 iv=.ok items) (ht:dP sc opn t=true) (h':P6 g opn sc σ t b items u):d8 g opn sc σ (.For t it b [] p) u:=by
 refine d6 h fun N h=> ?_;refine d6 h' fun M h'=> ?_;refine⟨max N M+1,fun n=> ?_⟩;show(if dP sc opn t=true then (ev g (n+max N M) false sc σ it).bind fun iv=>(s0 iv).bind fun items=>
    tB (fun σ v=>(s5 σ t v).bind fun σ'=>D1 (ex g opn sc (n+max N M)) σ' b) σ items else .stuck)=_
 rw[if_pos ht,up (f:=fun n=>ev g n false sc σ it) h (Nat.le_max_left N M) n];show(s0 iv).bind _=_;rw[hi];exact up (f:=fun n=>tB (fun σ v=>(s5 σ t v).bind fun σ'=>D1 (ex g opn sc n) σ' b) σ items) h' (Nat.le_max_right N M) n
theorem P6.nil:P6 g opn sc σ t b [] (.ok (.next,σ)):=⟨0,fun Z=>rfl⟩
theorem P6.cons {vs:List V} (hb:s5 σ t v=.ok σ') (h:d5 g opn sc σ' b (.ok (.next,W8))) (h':P6 g opn sc W8 t b vs u):P6 g opn sc σ t b (v::vs) u:=by
 refine d6 h fun N h=> ?_;refine d6 h' fun M h'=> ?_;refine⟨max N M,fun n=> ?_⟩;show((s5 σ t v).bind fun σ'=>D1 (ex g opn sc (n+max N M)) σ' b).bind _=_;rw[hb];show(D1 (ex g opn sc (n+max N M)) σ' b).bind _=_;rw[up (f:=fun n=>D1 (ex g opn sc n) σ' b) h (Nat.le_max_left N M) n];exact up (f:=fun n=>tB (fun σ v=>(s5 σ t v).bind fun σ'=>D1 (ex g opn sc n) σ' b) W8 vs) h' (Nat.le_max_right N M) n
theorem P6.brk {vs:List V} (hb:s5 σ t v=.ok σ') (h:d5 g opn sc σ' b (.ok (.brk,W8))):P6 g opn sc σ t b (v::vs) (.ok (.next,W8)):=by
 refine d6 h fun N h=> ?_;refine⟨N,fun n=> ?_⟩;show((s5 σ t v).bind fun σ'=>D1 (ex g opn sc (n+N)) σ' b).bind _=_;rw[hb];show(D1 (ex g opn sc (n+N)) σ' b).bind _=_;rw[h n];rfl
theorem P6.ret {vs:List V} {u:V} (hb:s5 σ t v=.ok σ') (h:d5 g opn sc σ' b (.ok (.ret u,W8))):P6 g opn sc σ t b (v::vs) (.ok (.ret u,W8)):=by
 refine d6 h fun N h=> ?_;refine⟨N,fun n=> ?_⟩;show((s5 σ t v).bind fun σ'=>D1 (ex g opn sc (n+N)) σ' b).bind _=_;rw[hb];show(D1 (ex g opn sc (n+N)) σ' b).bind _=_;rw[h n];rfl
theorem P6.err {vs:List V} (hb:s5 σ t v=.ok σ') (h:d5 g opn sc σ' b (.err l)):P6 g opn sc σ t b (v::vs) (.err l):=by
 refine d6 h fun N h=> ?_;refine⟨N,fun n=> ?_⟩;show((s5 σ t v).bind fun σ'=>D1 (ex g opn sc (n+N)) σ' b).bind _=_;rw[hb];show(D1 (ex g opn sc (n+N)) σ' b).bind _=_;rw[h n];rfl
theorem d8.ret (h:c8 g sc σ false e (.ok v)):d8 g opn sc σ (.Return (some e) p) (.ok (.ret v.freeze,σ)):=by
 refine d6 h fun N h=> ?_;exact⟨N+1,fun n=>by show(ev g (n+N) false sc σ e).map _=_;rw[h n];rfl⟩
theorem uO (h:c8 g sc σ false e (.err l)):d8 g opn sc σ (.Return (some e) p) (.err l):=by
 refine d6 h fun N h=> ?_;exact⟨N+1,fun n=>by show(ev g (n+N) false sc σ e).map _=_;rw[h n];rfl⟩
theorem d8.brk:d8 g opn sc σ (.Break p) (.ok (.brk,σ)):=⟨1,fun Z=>rfl⟩
theorem A8 {f c:Str} {i:Int} {fp lp cp:Pos} {kk:Nat} (hn:r5 g sc σ x=.ok (.int i)) (hc:c.length<=1000) (hf:f="BadText"/\sc.names.lookup f=some NameKind.globalImplicit) (hi:i.natAbs<1000000):
  d8 g opn sc σ (.Raise (some (.Call (.Name f fp) [.Name x lp,.Constant (.str c) kk cp] [] p)) none q) (.err i):=by
 refine⟨1,fun n=> ?_⟩;show needR (if c.length<=1000 then some (f,x) else none) _=_;rw[if_pos hc];show(if _ then _ else _)=_;rw[if_pos hf,hn];show(if i.natAbs<1000000 then R.err i else .stuck)=_;rw[if_pos hi]
end
section
variable {g:G} {sc:Scope} {σ:d9} {v u w:V} {r:R V} {l:Int} {x y f m:Str} {p q xp fp ap:Pos} {e e' e'' a b c:Expr} {es:List Expr} {vs:List V} {tst:Bool} {t t' t'':b9} {i j k:Int}
theorem Y7 (σ:d9) (x y:Str) (v:V):(σ.set x v).get y=if y=x then some v else σ.get y:=by
 unfold d9.get;induction σ with
 |nil=>
  show List.lookup y [(x,v)]=_;rw[List.lookup_cons];by_cases h:y=x
  ·subst h;simp
  ·have:(y==x)=false:=by simpa using h
   rw[this,if_neg h]
 |cons p r ih=>
  obtain⟨z,u⟩:=p;show List.lookup y (if x=z then (x,v)::r else (z,u)::d9.set r x v)=_;by_cases h:x=z
  ·subst h;rw[if_pos rfl,List.lookup_cons,List.lookup_cons];by_cases h:y=x
   ·subst h;simp
   ·have:(y==x)=false:=by simpa using h
    rw[this,if_neg h]
  ·rw[if_neg h,List.lookup_cons,List.lookup_cons,ih];by_cases hy:y=x
   ·subst hy;have:(y==z)=false:=by simpa using h
    rw[this]
   ·rw[if_neg hy,if_neg hy]
theorem d9.same:(σ.set x v).get x=some v:=by rw[Y7,if_pos rfl]
theorem d9.ne (h:y≠x) (h':σ.get y=some u):(σ.set x v).get y=some u:=by rw[Y7,if_neg h];exact h'
theorem g6 (h:σ.get x=some v) (hs:(sc.names.lookup x==some .local||sc.names.lookup x==some .cell||sc.names.lookup x==some .free)=true) (hd: ¬(x="__debug__"\/x="__classdict__")):r5 g sc σ x=.ok v:=by
 unfold r5;rw[if_neg hd];simp only[Bool.or_eq_true,beq_iff_eq] at hs;rcases hs with(hs|hs)|hs<;>rw[hs]<;>simp only[h]
theorem GR (h:g.const x=some v) (hs:sc.names.lookup x=some .globalImplicit) (hd: ¬(x="__debug__"\/x="__classdict__")):r5 g sc σ x=.ok v:=by
 unfold r5;rw[if_neg hd,hs];simp only[h]
theorem c8.name (h:r5 g sc σ x=r):c8 g sc σ false (.Name x xp) r:=⟨1,fun Z=>h⟩
theorem c8.const {c:Const} {kk:Nat} (h:qN c=r):c8 g sc σ false (.Constant c kk p) r:=⟨1,fun Z=>h⟩
theorem c8.bin {op:Operator} (h:c8 g sc σ false a (.ok v)) (h':c8 g sc σ false b (.ok u)) (hv:R0 op v u=.ok w):c8 g sc σ false (.BinOp a op b p) (.ok w):=by
 refine d6 h fun N h=> ?_;refine d6 h' fun M h'=> ?_;refine⟨max N M+1,fun n=> ?_⟩;show(ev g (n+max N M) false sc σ a).bind _=_;rw[up (f:=fun n=>ev g n false sc σ a) h (Nat.le_max_left N M) n];show(ev g (n+max N M) false sc σ b).bind _=_;rw[up (f:=fun n=>ev g n false sc σ b) h' (Nat.le_max_right N M) n];exact hv
theorem rL (h:c8 g sc σ false a (.ok (.int i))):c8 g sc σ false (.UnaryOp .USub a p) (.ok (.int (-i))):=by
 refine d6 h fun N h=> ?_;exact⟨N+1,fun n=>by show(ev g (n+N) false sc σ a).bind _=_;rw[h n];rfl⟩
theorem bA {bb:Bool} (h:c8 g sc σ true a (.ok (.bool bb))):c8 g sc σ true (.UnaryOp .Not a p) (.ok (.bool !bb)):=by
 refine d6 h fun N h=> ?_;exact⟨N+1,fun n=>by show((ev g (n+N) true sc σ a).bind l7).map _=_;rw[h n];rfl⟩
theorem rM {bb:Bool} (h:c8 g sc σ true c (.ok (.bool bb))) (h1:bb=true->c8 g sc σ false a (.ok v)) (h0:bb=false->c8 g sc σ false b (.ok u)):c8 g sc σ false (.IfExp c a b p) (.ok (if bb then v else u)):=by
 refine d6 h fun N h=> ?_;cases bb with
 |true=>
  refine d6 (h1 rfl) fun M h1=> ?_;refine⟨max N M+1,fun n=> ?_⟩;show((ev g (n+max N M) true sc σ c).bind l7).bind _=_;rw[up (f:=fun n=>ev g n true sc σ c) h (Nat.le_max_left N M) n];exact up (f:=fun n=>ev g n false sc σ a) h1 (Nat.le_max_right N M) n
 |false=>
  refine d6 (h0 rfl) fun M h0=> ?_;refine⟨max N M+1,fun n=> ?_⟩;show((ev g (n+max N M) true sc σ c).bind l7).bind _=_;rw[up (f:=fun n=>ev g n true sc σ c) h (Nat.le_max_left N M) n];exact up (f:=fun n=>ev g n false sc σ b) h0 (Nat.le_max_right N M) n
theorem e9 {op:CmpOp} {bb:Bool} (h:c8 g sc σ false a (.ok v)) (h':c8 g sc σ false b (.ok u)) (hv:w8 op v u=.ok bb) (hm:behindInMarks op b=false):c8 g sc σ tst (.Compare a [op] [b] p) (.ok (.bool bb)):=by
 refine d6 h fun N h=> ?_;refine d6 h' fun M h'=> ?_;refine⟨max N M+1,fun n=> ?_⟩;have key:AW (ev g (n+max N M) false sc σ) a op b=.ok (.bool bb):=by
  unfold AW;rw[hm,if_neg (by decide),up (f:=fun n=>ev g n false sc σ a) h (Nat.le_max_left N M) n];show(ev g (n+max N M) false sc σ b).bind _=_;rw[up (f:=fun n=>ev g n false sc σ b) h' (Nat.le_max_right N M) n];show(w8 op v u).map _=_;rw[hv];rfl
 cases tst<;>exact key
theorem c8.cmp2 {G7 I3:CmpOp} {b1 b2:Bool} (h:c8 g sc σ false a (.ok v)) (h':c8 g sc σ false b (.ok u)) (h'':b1=true->c8 g sc σ false c (.ok w)) (hv:w8 G7 v u=.ok b1) (hv':b1=true->w8 I3 u w=.ok b2) (hm:lastMarks [G7,I3] [b,c]=false):
  c8 g sc σ tst (.Compare a [G7,I3] [b,c] p) (.ok (.bool (b1 &&b2))):=by
 refine d6 h fun N h=> ?_;refine d6 h' fun M h'=> ?_;cases b1 with
 |false=>
  refine⟨max N M+1,fun n=> ?_⟩;have key:Mine.cmp2 (ev g (n+max N M) false sc σ) a G7 I3 b c=.ok (.bool false):=by
   unfold Mine.cmp2;rw[hm,if_neg (by decide),up (f:=fun n=>ev g n false sc σ a) h (Nat.le_max_left N M) n];show(ev g (n+max N M) false sc σ b).bind _=_;rw[up (f:=fun n=>ev g n false sc σ b) h' (Nat.le_max_right N M) n];show(w8 G7 v u).bind _=_;rw[hv];rfl
  cases tst<;>exact key
 |true=>
  refine d6 (h'' rfl) fun L h''=> ?_;refine⟨max N (max M L)+1,fun n=> ?_⟩;have key:Mine.cmp2 (ev g (n+max N (max M L)) false sc σ) a G7 I3 b c=.ok (.bool b2):=by
   unfold Mine.cmp2;rw[hm,if_neg (by decide),up (f:=fun n=>ev g n false sc σ a) h (Nat.le_max_left N _) n];show(ev g (n+max N (max M L)) false sc σ b).bind _=_;rw[up (f:=fun n=>ev g n false sc σ b) h' (Nat.le_trans (Nat.le_max_left M L) (Nat.le_max_right N _)) n];show(w8 G7 v u).bind _=_;rw[hv];show(if true=true then (ev g (n+max N (max M L)) false sc σ c).bind fun d=>(w8 I3 u d).map V.bool else R.ok (.bool false))=_;rw[if_pos rfl,up (f:=fun n=>ev g n false sc σ c) h'' (Nat.le_trans (Nat.le_max_right M L) (Nat.le_max_right N _)) n];show(w8 I3 u w).map _=_;rw[hv' rfl];rfl
  cases tst<;>exact key
theorem c9 {bb:Bool} (h:c8 g sc σ tst e (.ok (.bool bb))) (hc:bb=true):c8 g sc σ tst e (.ok (.bool true)):=hc▸h
theorem c7 {bb:Bool} (h:c8 g sc σ tst e (.ok (.bool bb))) (hc:bb=false):c8 g sc σ tst e (.ok (.bool false)):=hc▸h
theorem c8.to (h:c8 g sc σ tst e r) {r':R V} (hr:r=r'):c8 g sc σ tst e r':=hr▸h
noncomputable def I9 (g:G) (sc:Scope) (σ:d9) (es:List Expr) (r:R Bool):Prop:= ∃N,∀n,cR (fun x=>(ev g (n+N) true sc σ x).bind l7) es=r
noncomputable def Z9 (g:G) (sc:Scope) (σ:d9) (es:List Expr) (r:R Bool):Prop:= ∃N,∀n,sY (fun x=>(ev g (n+N) true sc σ x).bind l7) es=r
theorem I9.one {bb:Bool} (h:c8 g sc σ true e (.ok (.bool bb))):I9 g sc σ [e] (.ok bb):=by
 refine d6 h fun N h=> ?_;refine⟨N,fun n=> ?_⟩;show((ev g (n+N) true sc σ e).bind l7).bind _=_;rw[h n];cases bb<;>rfl
theorem I9.cons {b1 b2:Bool} (h:c8 g sc σ true e (.ok (.bool b1))) (h':b1=true->I9 g sc σ (e'::es) (.ok b2)):I9 g sc σ (e::e'::es) (.ok (b1 &&b2)):=by
 refine d6 h fun N h=> ?_;cases b1 with
 |false=>exact⟨N,fun n=>by show((ev g (n+N) true sc σ e).bind l7).bind _=_;rw[h n];rfl⟩
 |true=>
  refine d6 (h' rfl) fun M h'=> ?_;refine⟨max N M,fun n=> ?_⟩;show((ev g (n+max N M) true sc σ e).bind l7).bind _=_;rw[up (f:=fun n=>ev g n true sc σ e) h (Nat.le_max_left N M) n];exact up (f:=fun n=>cR (fun x=>(ev g n true sc σ x).bind l7) (e'::es)) h' (Nat.le_max_right N M) n
theorem Z9.one {bb:Bool} (h:c8 g sc σ true e (.ok (.bool bb))):Z9 g sc σ [e] (.ok bb):=by
 refine d6 h fun N h=> ?_;refine⟨N,fun n=> ?_⟩;show((ev g (n+N) true sc σ e).bind l7).bind _=_;rw[h n];cases bb<;>rfl
theorem Z9.cons {b1 b2:Bool} (h:c8 g sc σ true e (.ok (.bool b1))) (h':b1=false->Z9 g sc σ (e'::es) (.ok b2)):Z9 g sc σ (e::e'::es) (.ok (b1||b2)):=by
 refine d6 h fun N h=> ?_;cases b1 with
 |true=>exact⟨N,fun n=>by show((ev g (n+N) true sc σ e).bind l7).bind _=_;rw[h n];rfl⟩
 |false=>
  refine d6 (h' rfl) fun M h'=> ?_;refine⟨max N M,fun n=> ?_⟩;show((ev g (n+max N M) true sc σ e).bind l7).bind _=_;rw[up (f:=fun n=>ev g n true sc σ e) h (Nat.le_max_left N M) n];exact up (f:=fun n=>sY (fun x=>(ev g n true sc σ x).bind l7) (e'::es)) h' (Nat.le_max_right N M) n
theorem j2 {bb:Bool} (h:I9 g sc σ es (.ok bb)):c8 g sc σ true (.BoolOp .And es p) (.ok (.bool bb)):=by
 refine d6 h fun N h=> ?_;exact⟨N+1,fun n=>by show(cR (fun x=>(ev g (n+N) true sc σ x).bind l7) es).map _=_;rw[h n];rfl⟩
theorem C1 {bb:Bool} (h:Z9 g sc σ es (.ok bb)):c8 g sc σ true (.BoolOp .Or es p) (.ok (.bool bb)):=by
 refine d6 h fun N h=> ?_;exact⟨N+1,fun n=>by show(sY (fun x=>(ev g (n+N) true sc σ x).bind l7) es).map _=_;rw[h n];rfl⟩
theorem pY {bb:Bool} (h:c8 g sc σ false (.Name x xp) (.ok v)) (hv:B2 v=.ok bb):c8 g sc σ true (.Name x xp) (.ok (.bool bb)):=by
 refine d6 h fun N h=> ?_;exact⟨N+1,fun n=>by show(ev g (n+N) false sc σ (.Name x xp)).bind _=_;rw[h n];show(B2 v).map _=_;rw[hv];rfl⟩
theorem F9 {ks:List Keyword} {bb:Bool} (h:c8 g sc σ false (.Call e es ks p) (.ok v)) (hv:B2 v=.ok bb):c8 g sc σ true (.Call e es ks p) (.ok (.bool bb)):=by
 refine d6 h fun N h=> ?_;exact⟨N+1,fun n=>by show(ev g (n+N) false sc σ (.Call e es ks p)).bind _=_;rw[h n];show(B2 v).map _=_;rw[hv];rfl⟩
theorem H4 {op:BoolOp} (h:c8 g sc σ false e r):c8 g sc σ false (.BoolOp op [e] p) r:=by
 refine d6 h fun N h=> ?_;exact⟨N+1,fun n=>by cases op<;>exact h n⟩
end
section
variable {g:G} {sc:Scope} {σ:d9} {v u w:V} {r:R V} {l:Int} {x y f m:Str} {p q xp fp ap:Pos} {e e' e'' a b c:Expr} {es:List Expr} {vs us:List V} {tst:Bool} {t t' t'':b9} {i j k:Int}
theorem CI {bb:Bool} (h:c8 g sc σ false a (.ok v)) (hv:B2 v=.ok bb) (h1:bb=true->c8 g sc σ false (.BoolOp .And (b::es) p) (.ok u)):c8 g sc σ false (.BoolOp .And (a::b::es) p) (.ok (if bb then u else v)):=by
 refine d6 h fun N h=> ?_;cases bb with
 |false=>exact⟨N+1,fun n=>by show(ev g (n+N) false sc σ a).bind _=_;rw[h n];show(B2 v).bind _=_;rw[hv];rfl⟩
 |true=>
  refine d6 (h1 rfl) fun M h1=> ?_;refine⟨max N M+1,fun n=> ?_⟩;show(ev g (n+max N M) false sc σ a).bind _=_;rw[up (f:=fun n=>ev g n false sc σ a) h (Nat.le_max_left N M) n];show(B2 v).bind _=_;rw[hv];exact up (f:=fun n=>ev g n false sc σ (.BoolOp .And (b::es) p)) h1 (Nat.le_max_right N M) n
theorem eN {bb:Bool} (h:c8 g sc σ false a (.ok v)) (hv:B2 v=.ok bb) (h1:bb=false->c8 g sc σ false (.BoolOp .Or (b::es) p) (.ok u)):c8 g sc σ false (.BoolOp .Or (a::b::es) p) (.ok (if bb then v else u)):=by
 refine d6 h fun N h=> ?_;cases bb with
 |true=>exact⟨N+1,fun n=>by show(ev g (n+N) false sc σ a).bind _=_;rw[h n];show(B2 v).bind _=_;rw[hv];rfl⟩
 |false=>
  refine d6 (h1 rfl) fun M h1=> ?_;refine⟨max N M+1,fun n=> ?_⟩;show(ev g (n+max N M) false sc σ a).bind _=_;rw[up (f:=fun n=>ev g n false sc σ a) h (Nat.le_max_left N M) n];show(B2 v).bind _=_;rw[hv];exact up (f:=fun n=>ev g n false sc σ (.BoolOp .Or (b::es) p)) h1 (Nat.le_max_right N M) n
theorem o7 {b1 b2:Bool} (h:c8 g sc σ false a (.ok (.bool b1))) (h1:b1=true->c8 g sc σ false (.BoolOp .And (b::es) p) (.ok (.bool b2))):c8 g sc σ false (.BoolOp .And (a::b::es) p) (.ok (.bool (b1 &&b2))):=
 (CI h rfl h1).to (by cases b1<;>rfl)
theorem c8.tup {kk:Nat} (h:v5 g sc σ es (.ok vs)) (hv:vs.any V.open? =false) (hl:vs.length<=i0):c8 g sc σ false (.Tuple es kk p) (.ok (.tup vs)):=by
 refine d6 h fun N h=> ?_;refine⟨N+1,fun n=> ?_⟩;show((B9 (ev g (n+N) false sc σ) es).bind N1).map _=_;rw[h n];show(N1 vs).map _=_;unfold N1;rw[hv,if_neg (by simpa using hl)];rfl
theorem c8.list (h:v5 g sc σ es (.ok vs)) (hv:vs.any V.open? =false) (hl:vs.length<=i0):c8 g sc σ false (.List es p) (.ok (.list vs)):=by
 refine d6 h fun N h=> ?_;refine⟨N+1,fun n=> ?_⟩;show((B9 (ev g (n+N) false sc σ) es).bind N1).map _=_;rw[h n];show(N1 vs).map _=_;unfold N1;rw[hv,if_neg (by simpa using hl)];rfl
theorem c8.dict {ks:List (Option Expr)} {kvs:List (b9×Int)} (h:bS ks es=some kvs) (hc:1<=kvs.length/\kvs.length<=15/\(kvs.map (·.1)).Nodup):c8 g sc σ false (.Dict ks es p) (.ok (.dict kvs)):=by
 refine⟨1,fun n=> ?_⟩;show needR (bS ks es) _=_;rw[h];exact if_pos hc
noncomputable def zS (e:Expr):Bool:=(X7 e).isNone
theorem G5 (h:r5 g sc σ x=.ok v) (h':c8 g sc σ false e (.ok u)) (hv:P1 v u=r) (hn:zS e=true):c8 g sc σ false (.Subscript (.Name x xp) e p) r:=by
 refine d6 h' fun N h'=> ?_;refine⟨N+1+1,fun n=> ?_⟩;have hx:ev g (n+N+1) false sc σ (.Name x xp)=.ok v:=h;have key:((ev g (n+N+1) false sc σ (.Name x xp)).bind fun o=>(ev g (n+N+1) false sc σ e).bind fun k=>P1 o k)=r:=by
  rw[hx];show(ev g (n+N+1) false sc σ e).bind _=_;have e2:ev g (n+N+1) false sc σ e=.ok u:=up (f:=fun n=>ev g n false sc σ e) h' (M:=N+1) (Nat.le_succ N) n;rw[e2];exact hv
 have h0:X7 e=none:=Option.isNone_iff_eq_none.mp hn;show ED (ev g (n+N+1) false sc σ) (.Name x xp) e=r;unfold ED;simp only[h0];exact key
noncomputable def zT (g:G) (sc:Scope) (σ:d9) (e:Option Expr) (r:Option Int):Prop:= ∃N,∀n,(nL (ev g (n+N) false sc σ) e).bind R1=.ok r
theorem zT.none:zT g sc σ none none:=⟨0,fun Z=>rfl⟩
theorem zT.some (h:c8 g sc σ false e (.ok (.int i))) (hi:i.natAbs<2 ^40):zT g sc σ (some e) (some i):=by
 refine d6 h fun N h=> ?_;refine⟨N,fun n=> ?_⟩;show((ev g (n+N) false sc σ e).map _).bind _=_;rw[h n];exact if_pos hi
theorem c8.slice {lo hi:Option Expr} {li hj:Option Int} (h:r5 g sc σ x=.ok (.str t)) (h1:zT g sc σ lo li) (h2:zT g sc σ hi hj) (hl:t.length<=i0) {sp:Pos}:c8 g sc σ false (.Subscript (.Name x xp) (.Slice lo hi none sp) p) (.ok (.str (j9 t li hj))):=by
 refine d6 h1 fun N h1=> ?_;refine d6 h2 fun M h2=> ?_;refine⟨max N M+1+1,fun n=> ?_⟩;have hx:ev g (n+max N M+1) false sc σ (.Name x xp)=.ok (.str t):=h;show(ev g (n+max N M+1) false sc σ (.Name x xp)).bind _=_;rw[hx];show jU (ev g (n+max N M+1) false sc σ) (.str t) lo hi=_;have e1:=up (f:=fun n=>(nL (ev g n false sc σ) lo).bind R1) h1 (M:=max N M+1) (Nat.le_trans (Nat.le_max_left N M) (Nat.le_succ _)) n;have e2:=up (f:=fun n=>(nL (ev g n false sc σ) hi).bind R1) h2 (M:=max N M+1) (Nat.le_trans (Nat.le_max_right N M) (Nat.le_succ _)) n;have e1:(nL (ev g (n+max N M+1) false sc σ) lo).bind R1=.ok li:=e1;have e2:(nL (ev g (n+max N M+1) false sc σ) hi).bind R1=.ok hj:=e2;unfold jU;cases q1:nL (ev g (n+max N M+1) false sc σ) lo with
 |stuck=>rw[q1] at e1;injection e1
 |err l=>rw[q1] at e1;injection e1
 |ok lv=>
  rw[q1] at e1;cases q2:nL (ev g (n+max N M+1) false sc σ) hi with
  |stuck=>rw[q2] at e2;injection e2
  |err l=>rw[q2] at e2;injection e2
  |ok hv=>
   rw[q2] at e2;have e1:R1 lv=.ok li:=e1;have e2:R1 hv=.ok hj:=e2;show(R1 lv).bind _=_;rw[e1];show(R1 hv).bind _=_;rw[e2];exact if_pos hl
noncomputable def uP (es:List Expr):Bool:=(oQ es).isSome
theorem zU {n:Nat} (hl:uP es=false):ev g (n+1) false sc σ (.Call (.Name f fp) es [] p)=if aJ sc f es=true/\((g.fn f).isSome||m9.contains f)=true then (B9 (ev g n false sc σ) es).bind fun vs=>aG g f vs else .stuck:=by
 have h0:oQ es=none:=by
  cases h:oQ es with
  |none=>rfl
  |some _=>rw[uP,h] at hl;injection hl
 show tA g (ev g n false sc σ) _ sc (.Name f fp) es p=_;unfold tA;simp only[h0]
theorem c8.call {F:List V->R V} (hs:v5 g sc σ es (.ok vs)) (hf:g.fn f=some F) (hF:F vs=r) (hc:aJ sc f es=true) (hl:uP es=false) (ho:vs.any V.open? =false):c8 g sc σ false (.Call (.Name f fp) es [] p) r:=by
 refine d6 hs fun N hs=> ?_;refine⟨N+1,fun n=> ?_⟩;rw[show n+(N+1)=(n+N)+1 from rfl,zU hl,if_pos ⟨hc,by rw[hf];rfl⟩,hs n];show aG g f vs=r;unfold aG;rw[hf];simp only[ho];exact hF
theorem c8.bcall (hs:v5 g sc σ es (.ok vs)) (hf:g.fn f=none) (hb:m9.contains f=true) (hF:fH f vs=r) (hc:aJ sc f es=true) (hl:uP es=false):c8 g sc σ false (.Call (.Name f fp) es [] p) r:=by
 refine d6 hs fun N hs=> ?_;refine⟨N+1,fun n=> ?_⟩;rw[show n+(N+1)=(n+N)+1 from rfl,zU hl,if_pos ⟨hc,by rw[hb,Bool.or_true]⟩,hs n];show aG g f vs=r;unfold aG;rw[hf];simp only[hb,if_true];exact hF
theorem c8.told {f:Str} {fp p lp:Pos} {as:Arguments} {body:Expr} {lsc:Scope} (h:c8 g.lows lsc (i5 σ sc lsc) false body r) (hc:f="_law_told"/\g.lam=true/\sc.names.lookup f=some .globalImplicit/\aH as lsc=true/\s9 sc lsc=true):
  c8 g sc σ false (.Call (.Name f fp) [.Lambda as body lsc lp] [] p) (C9 r):=by
 refine d6 h fun N h=> ?_;refine⟨N+1,fun n=> ?_⟩;show(if f="_law_told"/\g.lam=true/\sc.names.lookup f=some NameKind.globalImplicit/\aH as lsc=true/\s9 sc lsc=true then C9 (ev g.lows (n+N) false lsc (i5 σ sc lsc) body) else .stuck)=_;rw[if_pos hc,h n]
theorem fX (h:c8 g sc σ false a (.ok v)) (hv:w2 m v []=r) (hc:ap.endLine=p.line/\R2 a=true):c8 g sc σ false (.Call (.Attribute a m ap) [] [] p) r:=by
 refine d6 h fun N h=> ?_;refine⟨N+1,fun n=> ?_⟩;show(if ap.endLine=p.line/\R2 a=true then (ev g (n+N) false sc σ a).calm.bind fun ov=>w2 m ov [] else .stuck)=_;rw[if_pos hc,h n];exact hv
theorem W2 (h:c8 g sc σ false a (.ok v)) (h':c8 g sc σ false b (.ok u)) (hv:w2 m v [u]=r) (hc:ap.endLine=p.line/\R2 a=true):c8 g sc σ false (.Call (.Attribute a m ap) [b] [] p) r:=by
 refine d6 h fun N h=> ?_;refine d6 h' fun M h'=> ?_;refine⟨max N M+1,fun n=> ?_⟩;show(if ap.endLine=p.line/\R2 a=true then (ev g (n+max N M) false sc σ a).calm.bind fun ov=>(ev g (n+max N M) false sc σ b).calm.bind fun v=>w2 m ov [v] else .stuck)=_;rw[if_pos hc,up (f:=fun n=>ev g n false sc σ a) h (Nat.le_max_left N M) n];show(ev g (n+max N M) false sc σ b).calm.bind _=_;rw[up (f:=fun n=>ev g n false sc σ b) h' (Nat.le_max_right N M) n];exact hv
theorem CJ (h:c8 g sc σ false a (.ok v)) (h':c8 g sc σ false b (.ok u)) (h'':c8 g sc σ false c (.ok w)) (hv:w2 m v [u,w]=r) (hc:ap.endLine=p.line/\R2 a=true):c8 g sc σ false (.Call (.Attribute a m ap) [b,c] [] p) r:=by
 refine d6 h fun N h=> ?_;refine d6 h' fun M h'=> ?_;refine d6 h'' fun L h''=> ?_;refine⟨max N (max M L)+1,fun n=> ?_⟩;show(if ap.endLine=p.line/\R2 a=true then (ev g (n+max N (max M L)) false sc σ a).calm.bind fun ov=>(ev g (n+max N (max M L)) false sc σ b).calm.bind fun v=>(ev g (n+max N (max M L)) false sc σ c).calm.bind fun u=>w2 m ov [v,u] else .stuck)=_;rw[if_pos hc,up (f:=fun n=>ev g n false sc σ a) h (Nat.le_max_left N _) n];show(ev g (n+max N (max M L)) false sc σ b).calm.bind _=_;rw[up (f:=fun n=>ev g n false sc σ b) h' (Nat.le_trans (Nat.le_max_left M L) (Nat.le_max_right N _)) n];show(ev g (n+max N (max M L)) false sc σ c).calm.bind _=_;rw[up (f:=fun n=>ev g n false sc σ c) h'' (Nat.le_trans (Nat.le_max_right M L) (Nat.le_max_right N _)) n];exact hv
noncomputable def Q5 (g:G) (csc:Scope) (σ:d9) (t elt:Expr) (ifs:List Expr) (items:List V) (r:List V):Prop:= ∃N,∀n,D4 (F6 (ev g (n+N) false csc) (ev g (n+N) true csc) σ t elt ifs) items=.ok r
variable {csc:Scope} {tg elt it:Expr} {ifs:List Expr} {items:List V} {σ':d9}
theorem Q5.nil:Q5 g csc σ tg elt ifs [] []:=⟨0,fun Z=>rfl⟩
theorem Q5.take (hb:s5 σ tg v=.ok σ') (h:c8 g csc σ' false elt (.ok u)) (hu:u.open? =false) (h':Q5 g csc σ tg elt [] items vs):Q5 g csc σ tg elt [] (v::items) (u::vs):=by
 refine d6 h fun N h=> ?_;refine d6 h' fun M h'=> ?_;refine⟨max N M,fun n=> ?_⟩;have e1:F6 (ev g (n+max N M) false csc) (ev g (n+max N M) true csc) σ tg elt [] v=.ok (some u):=by
  show(s5 σ tg v).bind _=_;rw[hb];show((ev g (n+max N M) false csc σ' elt).bind iL).calm.map _=_;rw[up (f:=fun n=>ev g n false csc σ' elt) h (Nat.le_max_left N M) n];show(iL u).calm.map _=_;unfold iL;rw[hu];rfl
 show(F6 _ _ σ tg elt [] v).bind _=_;rw[e1];show(D4 _ items).map _=_;rw[up (f:=fun n=>D4 (F6 (ev g n false csc) (ev g n true csc) σ tg elt []) items) h' (Nat.le_max_right N M) n];rfl
theorem uQ {c:Expr} (hb:s5 σ tg v=.ok σ') (hc:c8 g csc σ' true c (.ok (.bool false))) (h':Q5 g csc σ tg elt [c] items vs):Q5 g csc σ tg elt [c] (v::items) vs:=by
 refine d6 hc fun N h=> ?_;clear hc;refine d6 h' fun M h'=> ?_;refine⟨max N M,fun n=> ?_⟩;have e1:F6 (ev g (n+max N M) false csc) (ev g (n+max N M) true csc) σ tg elt [c] v=.ok none:=by
  show(s5 σ tg v).bind _=_;rw[hb];show((((ev g (n+max N M) true csc σ' c).bind l7).calm).bind _).bind _=_;rw[up (f:=fun n=>ev g n true csc σ' c) h (Nat.le_max_left N M) n];rfl
 show(F6 _ _ σ tg elt [c] v).bind _=_;rw[e1];show(D4 _ items).map _=_;rw[up (f:=fun n=>D4 (F6 (ev g n false csc) (ev g n true csc) σ tg elt [c]) items) h' (Nat.le_max_right N M) n];rfl
theorem lH {c:Expr} (hb:s5 σ tg v=.ok σ') (hc:c8 g csc σ' true c (.ok (.bool true))) (h:c8 g csc σ' false elt (.ok u)) (hu:u.open? =false) (h':Q5 g csc σ tg elt [c] items vs):Q5 g csc σ tg elt [c] (v::items) (u::vs):=by
 refine d6 h fun N h=> ?_;refine d6 h' fun M h'=> ?_;refine d6 hc fun L hc=> ?_;refine⟨max N (max M L),fun n=> ?_⟩;have e1:F6 (ev g (n+max N (max M L)) false csc) (ev g (n+max N (max M L)) true csc) σ tg elt [c] v=.ok (some u):=by
  show(s5 σ tg v).bind _=_;rw[hb];show((((ev g (n+max N (max M L)) true csc σ' c).bind l7).calm).bind _).bind _=_;rw[up (f:=fun n=>ev g n true csc σ' c) hc (Nat.le_trans (Nat.le_max_right M L) (Nat.le_max_right N _)) n];show((ev g (n+max N (max M L)) false csc σ' elt).bind iL).calm.map _=_;rw[up (f:=fun n=>ev g n false csc σ' elt) h (Nat.le_max_left N _) n];show(iL u).calm.map _=_;unfold iL;rw[hu];rfl
 show(F6 _ _ σ tg elt [c] v).bind _=_;rw[e1];show(D4 _ items).map _=_;rw[up (f:=fun n=>D4 (F6 (ev g n false csc) (ev g n true csc) σ tg elt [c]) items) h' (Nat.le_trans (Nat.le_max_left M L) (Nat.le_max_right N _)) n];rfl
theorem J8 {iv:V} (h:c8 g sc σ false it (.ok iv)) (hi:s0 iv=.ok items) (h':Q5 g csc (i5 σ sc csc) tg elt ifs items vs) (hc:(s9 sc csc &&X6 csc tg)=true):c8 g sc σ false (.ListComp elt [⟨tg,it,ifs,0⟩] csc p) (.ok (.list vs)):=by
 refine d6 h fun N h=> ?_;refine d6 h' fun M h'=> ?_;refine⟨max N M+1,fun n=> ?_⟩;show(if s9 sc csc &&X6 csc tg then
    (ev g (n+max N M) false sc σ it).bind fun iv=>(s0 iv).bind fun items=>
     (D4 (F6 (ev g (n+max N M) false csc) (ev g (n+max N M) true csc) (i5 σ sc csc) tg elt ifs) items).map V.list else R.stuck)=_
 rw[if_pos hc,up (f:=fun n=>ev g n false sc σ it) h (Nat.le_max_left N M) n];show(s0 iv).bind _=_;rw[hi];show(D4 _ items).map _=_;rw[up (f:=fun n=>D4 (F6 (ev g n false csc) (ev g n true csc) (i5 σ sc csc) tg elt ifs) items) h' (Nat.le_max_right N M) n];rfl
theorem uR:fH "bytes" vs=wV vs:=rfl
theorem PS:fH "max" vs=OM vs:=rfl
theorem PT:fH "sum" vs=ON vs:=rfl
theorem PU:fH "all" vs=OO vs:=rfl
theorem GS:fH "range" vs=jT vs:=rfl
end
structure Fd where
 body:List Stmt
 sc:Scope
noncomputable def WQ:Stmt->Fd
 | .FunctionDef (body:=b) (scope:=sc) .. =>⟨b,sc⟩
 |_=>⟨[],PySem.Challenge.pw_tk0066_01.main.scope⟩
noncomputable def J0 (i:Nat):Fd:=WQ (i4 PySem.Challenge.pw_tk0066_01.main.body i)
noncomputable def WR:Expr:=.Constant .none 0 ⟨0,0,0,0⟩
noncomputable def sE:Stmt->Expr
 | .If t _ _ _=>t
 | .While t _ _ _=>t
 | .Assign _ e _=>e
 | .Return e _=>e.getD WR
 | .For _ it _ _ _=>it
 |_=>WR
noncomputable def sB:Stmt->List Stmt
 | .If _ b _ _=>b
 | .While _ b _ _=>b
 | .For _ _ b _ _=>b
 |_=>[]
noncomputable def eL:Expr->List Expr
 | .IfExp t a b _=>[t,a,b]
 | .Tuple es _ _=>es
 | .BoolOp _ es _=>es
 | .Call _ es _ _=>es
 | .Compare a _ _ _=>[a]
 | .ListComp _ (c::_) _ _=>[c.iter]
 |_=>[]
noncomputable def eK (e:Expr) (i:Nat):Expr:=(eL e).getD i WR
noncomputable def eI (e:Expr):Expr:=eK e 0
noncomputable def eS:Expr->Scope
 | .ListComp _ _ s _=>s
 | .Lambda _ _ s _=>s
 |_=>PySem.Challenge.pw_tk0066_01.main.scope
noncomputable def r4:Fd:=J0 10
noncomputable def E5:Fd:=J0 11
noncomputable def O7:Fd:=J0 12
noncomputable def n9:Fd:=J0 13
noncomputable def r7:Fd:=J0 14
noncomputable def F1:Fd:=J0 15
noncomputable def D7:Fd:=J0 16
noncomputable def j3:Fd:=J0 17
noncomputable def lI:Fd:=J0 18
noncomputable def fY:Fd:=J0 19
noncomputable def D8:Fd:=J0 20
noncomputable def v1:Fd:=J0 21
noncomputable def l9:Fd:=J0 22
noncomputable def M4:Fd:=J0 23
noncomputable def bB:Fd:=J0 25
noncomputable def U3:Fd:=J0 26
noncomputable def rN:Fd:=J0 27
noncomputable def M5:Fd:=J0 28
noncomputable def o0:Fd:=J0 29
noncomputable def H5:Fd:=J0 30
noncomputable def GT:Fd:=J0 31
noncomputable def A9:Fd:=J0 32
noncomputable def j5:Fd:=J0 33
noncomputable def l8:Fd:=J0 34
noncomputable def lJ:Fd:=J0 35
noncomputable def dA:Fd:=J0 36
noncomputable def rO:Fd:=J0 37
noncomputable def v2:Fd:=J0 38
noncomputable def GU:Fd:=J0 40
noncomputable def WS:Fd:=J0 41
noncomputable def n6:Fd:=J0 42
noncomputable def f9:Fd:=J0 43
noncomputable def v3:Fd:=J0 44
theorem k_0:(Str.ofString "").cps.toList=[]:=rfl
theorem k_1:(Str.ofString "\t").cps.toList=[9]:=rfl
theorem k_2:(Str.ofString " ").cps.toList=[32]:=rfl
theorem k_3:(Str.ofString "\"").cps.toList=[34]:=rfl
theorem WT:(Str.ofString "#").cps.toList=[35]:=rfl
theorem WU:(Str.ofString "$").cps.toList=[36]:=rfl
theorem WV:(Str.ofString "'").cps.toList=[39]:=rfl
theorem WW:(Str.ofString "+").cps.toList=[43]:=rfl
theorem WX:(Str.ofString "+-").cps.toList=[43,45]:=rfl
theorem WY:(Str.ofString ",").cps.toList=[44]:=rfl
theorem WZ:(Str.ofString "-").cps.toList=[45]:=rfl
theorem XB:(Str.ofString ".").cps.toList=[46]:=rfl
theorem XD:(Str.ofString "0").cps.toList=[48]:=rfl
theorem XE:(Str.ofString "01234567").cps.toList=[48,49,50,51,52,53,54,55]:=rfl
theorem XF:(Str.ofString "0123456789").cps.toList=[48,49,50,51,52,53,54,55,56,57]:=rfl
theorem XG:(Str.ofString "0123456789abcdef").cps.toList=[48,49,50,51,52,53,54,55,56,57,97,98,99,100,101,102]:=rfl
theorem XH:(Str.ofString "0B").cps.toList=[48,66]:=rfl
theorem XI:(Str.ofString "0X").cps.toList=[48,88]:=rfl
theorem XJ:(Str.ofString "0b").cps.toList=[48,98]:=rfl
theorem XK:(Str.ofString "0x").cps.toList=[48,120]:=rfl
theorem XM:(Str.ofString "\\").cps.toList=[92]:=rfl
theorem XN:(Str.ofString "_").cps.toList=[95]:=rfl
theorem XO:(Str.ofString "b").cps.toList=[98]:=rfl
theorem XP:(Str.ofString "bf").cps.toList=[98,102]:=rfl
theorem XQ:(Str.ofString "f").cps.toList=[102]:=rfl
theorem XR:(Str.ofString "let").cps.toList=[108,101,116]:=rfl
theorem XS:(Str.ofString "refused").cps.toList=[114,101,102,117,115,101,100]:=rfl
theorem XT:(Str.ofString "x").cps.toList=[120]:=rfl
theorem XU:(Str.ofString "xX").cps.toList=[120,88]:=rfl
noncomputable def rP:List (Str×V):=
 [("ESCAPES",.dict [([110],10),([116],9),([114],13),([92],92),([39],39),([34],34)]),
  ("FIGURES",.str ((List.range 10).map (· +48))),
  ("OCTAL",.str ((List.range 8).map (· +48))),
  ("NAME_SIGNS",.str ((List.range 26).map (· +97)++(List.range 26).map (· +65)++(List.range 10).map (· +48)++[95,46,36])),
  ("QUOTES",.str [34,39])]
structure N6 (g:G):Prop where
 const:g.const=fun x=>rP.lookup x
 bi: ∀f,m9.contains f=true->g.fn f=none
section
variable {g:G} {sc:Scope} {σ:d9} {v u w:V} {r:R V} {l:Int} {x y f m:Str} {p q xp fp ap:Pos} {e e' e'' a b c:Expr} {es:List Expr} {vs us:List V} {tst:Bool} {t t' t'':b9} {i j k:Int}
noncomputable def k6 (t:b9) (i:Nat):Nat:=t.getD i 0
theorem jH (hl:t.length<=i0) (h:0<=i/\i<t.length):P1 (.str t) (.int i)=.ok (.str [t.getD i.toNat 0]):=by
 rw[NK,if_pos hl];unfold G2;rw[if_pos h.1,if_pos h.2];rfl
theorem NT {k:Nat} (hl:t.length<=i0) (h:k<t.length):P1 (.str t) (.int (k:Int))=.ok (.str [k6 t k]):=by
 rw[jH hl (by omega)];rfl
theorem TM (hl:t.length<=i0) (h:0<t.length):P1 (.str t) (.int 0)=.ok (.str [k6 t 0]):=by
 rw[jH hl (by omega)];rfl
theorem TN (hl:t.length<=i0) (h:1<t.length):P1 (.str t) (.int 1)=.ok (.str [k6 t 1]):=by
 rw[jH hl (by omega)];rfl
theorem PV (hl:t.length<=i0) (h:0<t.length):P1 (.str t) (.int (-1))=.ok (.str [k6 t (t.length-1)]):=by
 rw[NK,if_pos hl];unfold G2;rw[if_neg (by omega),if_pos (by omega)];show R.ok (V.str [t.getD (-1+(t.length:Int)).toNat 0])=_;rw[show(-1+(t.length:Int)).toNat=t.length-1 by omega];rfl
theorem uS (a b:Nat):w8 .Eq (.str [a]) (.str [b])=.ok (a==b):=by
 rw[dR];congr 1;simp
theorem XV (a b:Nat):w8 .NotEq (.str [a]) (.str [b])=.ok (!(a==b)):=by
 rw[ND];congr 1;simp
theorem c8.str {s:Str} {kk:Nat} (h:s.cps.toList=t):c8 g sc σ false (.Constant (.str s) kk p) (.ok (.str t)):=c8.const (h▸rfl)
theorem C2 {t:b9} {e:Nat} (he:e<t.length):t.drop e=k6 t e::t.drop (e+1):=by
 rw[List.drop_eq_getElem_cons he];unfold k6;simp[he]
theorem PW (k:Nat):R0 .Add (.int (k:Int)) (.int 1)=.ok (.int ((k+1:Nat):Int)):=rfl
theorem PX (k:Nat):R0 .Add (.int (k:Int)) (.int 2)=.ok (.int ((k+2:Nat):Int)):=rfl
theorem PY (k:Nat):R0 .Add (.int (k:Int)) (.int 4)=.ok (.int ((k+4:Nat):Int)):=rfl
theorem GV (k m:Nat):R0 .Add (.int (k:Int)) (.int (m:Int))=.ok (.int ((k+m:Nat):Int)):=rfl
theorem in_str (h:t.length<=i0) {c:Nat}:w8 .In (.str [c]) (.str t)=.ok (t.contains c):=by rw[SV,if_pos h]
theorem CK (h:t.length<=i0) {c:Nat}:w8 .NotIn (.str [c]) (.str t)=.ok (!t.contains c):=by rw[EG,if_pos h]
theorem len_str (h:t.length<=i0):fH "len" [.str t]=.ok (.int t.length):=if_pos h
theorem eO (h:vs.length<=i0):fH "len" [.list vs]=.ok (.int vs.length):=if_pos h
theorem lK (h:vs.length<=i0):fH "len" [.olist vs]=.ok (.int vs.length):=if_pos h
theorem GW {c:Nat}:fH "ord" [.str [c]]=.ok (.int c):=rfl
theorem add_str (h:t.length+t'.length<=i0):R0 .Add (.str t) (.str t')=.ok (.str (t++t')):=if_pos h
theorem w5 (h:t.length<=i0):s0 (.str t)=.ok (t.map fun c=>.str [c]):=if_pos h
end
section
variable {g:G} {sc:Scope} {σ:d9} {v u w:V} {r:R V} {l:Int} {x y f m:Str} {p q xp fp ap:Pos} {e e' e'' a b c:Expr} {es:List Expr} {vs us:List V} {tst:Bool} {t t' t'':b9} {i j k:Int}
theorem c8.if1 (h:c8 g sc σ true c (.ok (.bool true))) (h1:c8 g sc σ false a r):c8 g sc σ false (.IfExp c a b p) r:=by
 refine d6 h fun N h=> ?_;refine d6 h1 fun M h1=> ?_;refine⟨max N M+1,fun n=> ?_⟩;show((ev g (n+max N M) true sc σ c).bind l7).bind _=_;rw[up (f:=fun n=>ev g n true sc σ c) h (Nat.le_max_left N M) n];exact up (f:=fun n=>ev g n false sc σ a) h1 (Nat.le_max_right N M) n
theorem c8.if0 (h:c8 g sc σ true c (.ok (.bool false))) (h1:c8 g sc σ false b r):c8 g sc σ false (.IfExp c a b p) r:=by
 refine d6 h fun N h=> ?_;refine d6 h1 fun M h1=> ?_;refine⟨max N M+1,fun n=> ?_⟩;show((ev g (n+max N M) true sc σ c).bind l7).bind _=_;rw[up (f:=fun n=>ev g n true sc σ c) h (Nat.le_max_left N M) n];exact up (f:=fun n=>ev g n false sc σ b) h1 (Nat.le_max_right N M) n
theorem bC (l:List b9):M0 (l.map V.str)=some l:=by
 induction l with
 |nil=>rfl
 |cons x r ih=>show(M0 (r.map V.str)).map _=_;rw[ih];rfl
theorem bD (l:List Int):J3 (l.map V.int)=some l:=by
 induction l with
 |nil=>rfl
 |cons x r ih=>show(J3 (r.map V.int)).map _=_;rw[ih];rfl
theorem CL (l:List Bool):U5 (l.map V.bool)=some l:=by
 induction l with
 |nil=>rfl
 |cons x r ih=>show(U5 (r.map V.bool)).map _=_;rw[ih];rfl
theorem eP (l:List b9):X4 l=l.flatten.length:=by simp[X4,List.length_flatten]
theorem GZ {l:List b9} (h:l.flatten.length<=i0) (h':l.length<=i0):w2 "join" (.str []) [.olist (l.map V.str)]=.ok (.str l.flatten):=by
 show needR (M0 (l.map V.str)) _=_;rw[bC];exact if_pos ⟨rfl,eP l▸h,h'⟩
theorem lL (h:t.length<=i0):w2 "strip" (.str t) [.str [32]]=.ok (.str (i6 t)):=by
 show(if ([32]:b9)=[32]/\t.length<=i0 then _ else _)=_;exact if_pos ⟨rfl,h⟩
theorem HA (h:t.length<=i0) (h':j6 t=true):w2 "lower" (.str t) []=.ok (.str (t.map cG)):=by
 show(if t.length<=i0/\j6 t=true then R.ok (V.str (t.map cG)) else R.stuck)=_;exact if_pos ⟨h,h'⟩
theorem HB {c:Nat} (h:c<128):w2 "isalpha" (.str [c]) []=.ok (.bool (X3 c)):=if_pos h
theorem LM {c:Nat} (h:t.length<=i0):w2 "find" (.str t) [.str [c]]=.ok (.int (if t.contains c then (J4 c t:Int) else -1)):=if_pos h
theorem HC {c:Nat} (h:t.length<=i0) (h':t.contains c=true):w2 "index" (.str t) [.str [c]]=.ok (.int (J4 c t:Int)):=by
 show(if t.length<=i0/\t.contains c=true then R.ok (V.int (J4 c t:Int)) else R.stuck)=_;exact if_pos ⟨h,h'⟩
theorem bE {a b:Nat} (h:a<=b) (h':b<=t.length):j9 t (some (a:Int)) (some (b:Int))=(t.drop a).take (b-a):=by
 unfold j9 AV P4;dsimp only;rw[if_neg (by omega),if_neg (by omega)];simp only[Int.toNat_natCast];rw[Nat.min_eq_left (by omega),Nat.min_eq_left h',List.drop_take]
theorem jI {a:Nat} (h':a<=t.length):j9 t (some (a:Int)) none=t.drop a:=by
 unfold j9 AV P4;dsimp only;rw[if_neg (by omega)];simp only[Int.toNat_natCast];rw[Nat.min_eq_left h',List.take_length]
theorem jJ {b:Nat}:j9 t none (some (b:Int))=t.take b:=by
 unfold j9 AV P4;dsimp only;rw[if_neg (by omega)];simp only[Int.toNat_natCast,List.drop_zero];rcases Nat.le_total b t.length with h|h
 ·rw[Nat.min_eq_left h]
 ·rw[Nat.min_eq_right h,List.take_of_length_le (Nat.le_refl _),List.take_of_length_le h]
theorem pZ (x:b9):(i6 x).length<=x.length:=by
 have d: ∀(p:Nat->Bool) (l:b9),(l.dropWhile p).length<=l.length:=fun p l=>by
  induction l with
  |nil=>simp
  |cons a r ih=>rw[List.dropWhile_cons];split<;>simp;omega
 unfold i6;rw[List.length_reverse];refine Nat.le_trans (d _ _) ?_;rw[List.length_reverse];exact d _ _
theorem zV {t:b9} {k:Nat} (h:k<t.length):k6 t k∈t:=by
 unfold k6;rw[List.getD_eq_getElem?_getD,List.getElem?_eq_getElem h];exact List.getElem_mem h
theorem U4 (n:Nat) (p:Nat->Bool) (h:(List.range n).all p=true) {c:Nat} (hc:c<n):p c=true:=List.all_eq_true.mp h c (List.mem_range.mpr hc)
theorem lM {l:b9} {n c:Nat} (h:l.all (fun x=>decide (x<n))=true) (hc:n<=c):l.contains c=false:=by
 rw[Bool.eq_false_iff];intro z;exact absurd (of_decide_eq_true (List.all_eq_true.mp h c (List.contains_iff_mem.mp z))) (Nat.not_lt.mpr hc)
theorem lN {a b n c:Nat} (h:b<n) (hc:n<=c): ¬(a<=c/\c<=b):=fun z=>absurd (Nat.lt_of_lt_of_le h hc) (Nat.not_lt.mpr z.2)
end
theorem D9 {c:Prop} {i:Decidable c} {r:R V} (h:(if c then r else .stuck)≠R.stuck):c:=Decidable.byContradiction fun z=>h (if_neg z)
theorem TO {c:Prop} {i:Decidable c} {r x:R V} (h:c) (hn:(if c then r else x)≠R.stuck):r≠R.stuck:=by rwa[if_pos h] at hn
noncomputable def CM:V->Option b9
 | .str t=>some t
 |_=>none
noncomputable def HD:V->Option Int
 | .int i=>some i
 |_=>none
noncomputable def PZ:V->Option Bool
 | .bool b=>some b
 |_=>none
theorem W3 {v:V} {t:b9} (h:CM v=some t):v=.str t:=by
 cases v with
 |str x=>exact congrArg V.str (Option.some.inj h)
 |_=>exact no h
theorem bY {v:V} {i:Int} (h:HD v=some i):v=.int i:=by
 cases v with
 |int x=>exact congrArg V.int (Option.some.inj h)
 |_=>exact no h
theorem qA {v:V} {b:Bool} (h:PZ v=some b):v=.bool b:=by
 cases v with
 |bool x=>exact congrArg V.bool (Option.some.inj h)
 |_=>exact no h
noncomputable def RO {α:Type}:List α->Option (α×List α)
 |[]=>none
 |a::r=>some (a,r)
theorem eQ {α:Type} {l:List α} {q:α×List α} (h:RO l=some q):l=q.1::q.2:=by
 cases l with
 |nil=>exact no h
 |cons a r=>rw[<-Option.some.inj h]
noncomputable def QA {α:Type} {β:Type} (r:R β):List α->R β
 |[]=>r
 |_::_=>.stuck
theorem zW {α β:Type} {r:R β} {l:List α} (h:QA r l≠.stuck):l=[]:=by
 cases l with
 |nil=>rfl
 |cons _ _=>exact absurd rfl h
noncomputable def f1 (f:V->R V) (vs:List V):R V:=needR (RO vs) fun q=>QA (f q.1) q.2
noncomputable def f2 (f:V->V->R V) (vs:List V):R V:=needR (RO vs) fun q=>f1 (f q.1) q.2
theorem HE {f:V->R V} {vs:List V} (h:f1 f vs≠.stuck): ∃v,vs=[v]/\f v≠.stuck:=by
 refine e8 (t7 h) fun q e h=> ?_;have e2:=zW h;rw[e2] at h;exact⟨q.1,by rw[eQ e,e2],h⟩
theorem lO {f:V->V->R V} {vs:List V} (h:f2 f vs≠.stuck): ∃v u,vs=[v,u]/\f v u≠.stuck:=by
 refine e8 (t7 h) fun q e h=> ?_;refine e8 (HE h) fun u e2 h=> ?_;exact⟨q.1,u,by rw[eQ e,e2],h⟩
noncomputable def fS (f:b9->R V):List V->R V:=f1 fun v=>needR (CM v) f
noncomputable def CN (f:b9->Int->R V):List V->R V:=f2 fun v u=>needR (CM v) fun t=>needR (HD u) (f t)
noncomputable def ZN (f:b9->b9->R V):List V->R V:=f2 fun v u=>needR (CM v) fun t=>needR (CM u) (f t)
noncomputable def ZO (f:Bool->Bool->R V):List V->R V:=f2 fun v u=>needR (PZ v) fun t=>needR (PZ u) (f t)
noncomputable def ZP (f:V->Int->R V):List V->R V:=f2 fun v u=>needR (HD u) (f v)
noncomputable def QB (f:b9->Int->Int->R V) (vs:List V):R V:=needR (RO vs) fun q=>needR (CM q.1) fun t=>f2 (fun v u=>needR (HD v) fun p=>needR (HD u) (f t p)) q.2
theorem R8 {f:b9->R V} {vs:List V} (h:fS f vs≠.stuck): ∃t,vs=[.str t]:=by
 refine e8 (HE h) fun v e h=> ?_;refine e8 (t7 h) fun t e1 h=> ?_;exact⟨t,by rw[e,W3 e1]⟩
theorem K0 {f:b9->Int->R V} {vs:List V} (h:CN f vs≠.stuck): ∃t l,vs=[.str t,.int l]:=by
 refine r0 (lO h) fun v u e h=> ?_;refine e8 (t7 h) fun t e1 h=> ?_;refine e8 (t7 h) fun l e2 h=> ?_;exact⟨t,l,by rw[e,W3 e1,bY e2]⟩
theorem LN {f:b9->b9->R V} {vs:List V} (h:ZN f vs≠.stuck): ∃t l,vs=[.str t,.str l]:=by
 refine r0 (lO h) fun v u e h=> ?_;refine e8 (t7 h) fun t e1 h=> ?_;refine e8 (t7 h) fun l e2 h=> ?_;exact⟨t,l,by rw[e,W3 e1,W3 e2]⟩
theorem LP {f:Bool->Bool->R V} {vs:List V} (h:ZO f vs≠.stuck): ∃t l,vs=[.bool t,.bool l]:=by
 refine r0 (lO h) fun v u e h=> ?_;refine e8 (t7 h) fun t e1 h=> ?_;refine e8 (t7 h) fun l e2 h=> ?_;exact⟨t,l,by rw[e,qA e1,qA e2]⟩
theorem LQ {f:V->Int->R V} {vs:List V} (h:ZP f vs≠.stuck): ∃v l,vs=[v,.int l]:=by
 refine r0 (lO h) fun v u e h=> ?_;refine e8 (t7 h) fun l e2 h=> ?_;exact⟨v,l,by rw[e,bY e2]⟩
theorem uT {f:b9->Int->Int->R V} {vs:List V} (h:QB f vs≠.stuck): ∃t p l,vs=[.str t,.int p,.int l]:=by
 refine e8 (t7 h) fun q e h=> ?_;refine e8 (t7 h) fun t e1 h=> ?_;refine r0 (lO h) fun v u e2 h=> ?_;refine e8 (t7 h) fun p e3 h=> ?_;refine e8 (t7 h) fun l e4 h=> ?_;exact⟨t,p,l,by rw[eQ e,e2,W3 e1,bY e3,bY e4]⟩
theorem l5 {g:G} {o:Option Str} {sc:Scope} {ps:List Str} {b:List Stmt} {vs:List V} {r r':R V} (e:r=r') (h:g8 g o sc ps b vs r'):g8 g o sc ps b vs r:=e▸h
end
section
open PySem
set_option hygiene false in
local macro_rules | `(tactic| tm_at $s:str) => do
  let f := RU #[<- `(_), <- `(?_), <- `(by omega), <- `(by tm_at "o"), <- `(by first | omega | decide), <- `(by assumption), <- `(V.open?), <- `(m9)]
  let k := s.getString
  if k == "o" then `(tactic| first | omega | (simp only [decide_eq_true_eq, decide_eq_false_iff_not] at *; omega))
  else if k == "n" then `(tactic| first | assumption | exact d9.same | exact d9.ne (by decide) (by tm_at "n") | exact rfl)
  else if k == "v" then `(tactic| first | assumption | exact g6 (by tm_at "n") rfl (by decide) | exact GR (by first | assumption | (rw[N6.const (by assumption)]; exact rfl)) rfl (by decide))
  else if k == "r" then
    let a := f "aJ/000 List.contains/70 zS/0"
    let b := f "behindInMarks/00 lastMarks/00 uP/0 List.any/06"
    `(tactic| first | ((with_reducible first $[| show $a = true]* $[| show $b = false]* | show qN _ = R.ok _); exact rfl) | exact⟨rfl, rfl⟩ | ((with_reducible show List.length _ <= i0); decide))
  else if k == "p" then
    let a := f "uS/00 XV/00 NT/23 TM/23 TN/23 PV/23 PW/0 PX/0 PY/0 GV/00 cS/00 fL/00 yU/00 dR/00 EF/00 ND/00 gR/00 NH/00 NI/00 NJ/00 T7 jV/0 gS/0 wZ/0 yW/00 cT N3/0 GW lL/2 GZ/22 jH/23 in_str/4 CK/4 len_str/2 eO/2 lK/2 w5/2 add_str/2"
    `(tactic| (show(_ : Prop)); first | assumption | (intro _; tm_at "p") | (with_reducible first $[| exact $a]*) | tm_at "o")
  else if k == "k" then
    let a := f "k_0 k_1 k_2 k_3 WT WU WV WW WX WY WZ XB XD XE XF XG XH XI XJ XK XM XN XO XP XQ XR XS XT XU"
    `(tactic| with_reducible first $[| exact $a]*)
  else if k == "g" then `(tactic| first | tm_at "e" | tm_at "r" | tm_at "p" | skip)
  else if k == "e" then
    let a := f "c8.name/1 c8.str/1 c8.const/1 e9/1111 c8.cmp2/111111 j2/1 C1/1 bA/1 I9.one/1 I9.cons/11 Z9.one/1 Z9.cons/11 v5.nil v5.cons/11 c8.bin/111 G5/1111 c8.slice/1111 zT.none zT.some/11 c8.call/151111 c8.bcall/151111 fX/111 W2/1111 c8.tup/111 c8.list/111 rL/1 rM/111 o7/11 c8.vorB/11 H4/1 pY/11 F9/11"
    `(tactic| first | (intro _; tm_at "e") | ((with_reducible show r5 _ _ _ _ = _); tm_at "v") | ((with_reducible show Array.toList _ = _); tm_at "k") | ((with_reducible first $[| refine' $a]*) <;> tm_at "g"))
  else Lean.Macro.throwUnsupported
section
open PySem
noncomputable def r9 (q:Nat):b9->Option Nat
 |[]=>none
 |c::r=>if c=q then some 1 else if c=92 then (match r with|[]=>none|_::r'=>(r9 q r').map (· +2)) else (r9 q r).map (· +1)
theorem O8 {q:Nat}: ∀{t:b9} {n:Nat},r9 q t=some n->1<=n/\n<=t.length
 |[],n,h=>by injection h
 |c::r,n,h=>by
  unfold r9 at h;split at h
  ·injection h with h;subst h;simp
  split at h
  ·rcases r with _|⟨d,r'⟩
   ·injection h
   ·dsimp only at h;cases hq:r9 q r' with
    |none=>rw[hq] at h;injection h
    |some k=>rw[hq] at h;injection h with h;subst h;have:=O8 hq;simp;omega
  ·cases hq:r9 q r with
   |none=>rw[hq] at h;injection h
   |some k=>rw[hq] at h;injection h with h;subst h;have:=O8 hq;simp;omega
section
variable {g:G} {t:b9}
theorem uU (hlen:g.fn "len"=none) (hl:t.length<=5000) {q:Nat} {l:Int}: ∀(m:Nat) (σ:d9) (e:Nat),t.length+2-e<=m->σ.get "text"=some (.str t)->σ.get "quote"=some (.str [q])->σ.get "end"=some (.int (e:Nat))->σ.get "line"=some (.int l)->
  ∃σ' e',d8 g none E5.sc σ (i4 E5.body 1) (.ok (.next,σ'))/\σ'.get "text"=some (.str t)/\σ'.get "end"=some (.int (e':Nat))/\σ'.get "line"=some (.int l)/\
   (match r9 q (t.drop e) with|some n=>e'+1=e+n/\e'<t.length|none=>t.length<=e'):=by
 intro m;have hlim:i0=1048576:=rfl;induction m with
 |zero=>
  intro σ e hm h1 h2 h3 h4;have hd:t.drop e=[]:=List.drop_eq_nil_of_le (by omega);refine⟨σ,e,h7 (c7 (by tm_at "e") ?_),h1,h3,h4,?_⟩
  ·simp only[Bool.and_eq_false_imp,decide_eq_true_eq];intro z;omega
  ·rw[hd];show t.length<=e;omega
 |succ m ih=>
  intro σ e hm h1 h2 h3 h4;by_cases he:e<t.length
  case neg=>
   have hd:t.drop e=[]:=List.drop_eq_nil_of_le (by omega);refine⟨σ,e,h7 (c7 (by tm_at "e") ?_),h1,h3,h4,?_⟩
   ·simp only[Bool.and_eq_false_imp,decide_eq_true_eq];intro z;omega
   ·rw[hd];show t.length<=e;omega
  have hdr:=C2 he;by_cases hq:k6 t e=q
  ·refine⟨σ,e,h7 (c7 (by tm_at "e") ?_),h1,h3,h4,?_⟩
   ·simp[hq]
   ·rw[hdr];unfold r9;rw[if_pos hq];exact⟨rfl,he⟩
  have ht:(decide ((e:Int)<(t.length:Int)) && !(k6 t e==q))=true:=by simp[he,hq]
  by_cases hb:k6 t e=92
  ·refine iK (ih (σ.set "end" (.int ((e+2:Nat):Int))) (e+2) (by omega) (by tm_at "n") (by tm_at "n") (by tm_at "n") (by tm_at "n")) fun σ' e' hx g1 g3 g4 gq=> ?_;refine⟨σ',e',i3 (c9 (by tm_at "e") ht) (d5.cons (M3 (v:=.int 2) (c8.to (by tm_at "e") (by simp[hb])) (by tm_at "e") (by decide) rfl rfl) d5.nil) hx,g1,g3,g4,?_⟩;rw[hdr];unfold r9;rw[if_neg hq,if_pos hb];by_cases he2:e+1<t.length
   ·rw[C2 he2];dsimp only;cases hs:r9 q (t.drop (e+1+1)) with
    |none=>rw[show e+1+1=e+2 from rfl] at hs;rw[hs] at gq;exact gq
    |some n=>rw[show e+1+1=e+2 from rfl] at hs;rw[hs] at gq;dsimp only[Option.map] at gq ⊢;omega
   ·have hd:t.drop (e+1)=[]:=List.drop_eq_nil_of_le (by omega);have hd2:t.drop (e+2)=[]:=List.drop_eq_nil_of_le (by omega);rw[hd];rw[hd2] at gq;exact gq
  ·refine iK (ih (σ.set "end" (.int ((e+1:Nat):Int))) (e+1) (by omega) (by tm_at "n") (by tm_at "n") (by tm_at "n") (by tm_at "n")) fun σ' e' hx g1 g3 g4 gq=> ?_;refine⟨σ',e',i3 (c9 (by tm_at "e") ht) (d5.cons (M3 (v:=.int 1) (c8.to (by tm_at "e") (by simp[hb])) (by tm_at "e") (by decide) rfl rfl) d5.nil) hx,g1,g3,g4,?_⟩;rw[hdr];unfold r9;rw[if_neg hq,if_neg hb];cases hs:r9 q (t.drop (e+1)) with
   |none=>rw[hs] at gq;exact gq
   |some n=>rw[hs] at gq;dsimp only[Option.map] at gq ⊢;omega
noncomputable def s7:List V->R V:=QB fun t p l=>
  if t.length<=5000/\0<=p/\p<t.length/\l.natAbs<1000000 then
   (match r9 (k6 t p.toNat) (t.drop (p.toNat+1)) with|some n=>.ok (.int (p+1+n))|none=>.err l) else .stuck
theorem lP (hlen:g.fn "len"=none) (vs:List V) (hn:s7 vs≠.stuck):g8 g none E5.sc ["text","place","line"] E5.body vs (s7 vs):=by
 have hlim:i0=1048576:=rfl;refine wQ (uT hn) fun t p l z2r=> ?_;subst z2r;have hc:=D9 hn;refine l5 (if_pos hc) ?_;refine Q0 hc fun hl hp0 hp hline=> ?_;clear hc;refine d6 (Int.eq_ofNat_of_zero_le hp0) fun k z1r=> ?_;subst z1r;have hk:k<t.length:=by omega
 rw[show((k:Int)).toNat=k from rfl];have e1:d8 g none E5.sc (List.zip ["text","place","line"] [.str t,.int k,.int l]) (i4 E5.body 0) (.ok (.next,d9.set (d9.set (List.zip ["text","place","line"] [.str t,.int k,.int l]) "quote" (.str [k6 t k])) "end" (.int ((k+1:Nat):Int)))):=
  i7 (by tm_at "e") rfl (by decide) rfl
 refine iK (uU (l:=l) hlen hl (t.length+2) (d9.set (d9.set (List.zip ["text","place","line"] [.str t,.int k,.int l]) "quote" (.str [k6 t k])) "end" (.int ((k+1:Nat):Int))) (k+1) (by omega) (by tm_at "n") (by tm_at "n") (by tm_at "n") (by tm_at "n")) fun σ' e' hx g1 g3 g4 gq=> ?_;cases hs:r9 (k6 t k) (t.drop (k+1)) with
 |none=>
  rw[hs] at gq;exact g8.err rfl (d5.cons e1 (d5.cons hx (d5.err (d8.if1 (c9 (by tm_at "e") (by simpa using gq)) (d5.err (A8 (by tm_at "v") (by decide) ⟨rfl,rfl⟩ hline))))))
 |some n=>
  rw[hs] at gq;refine g8.ret rfl (d5.cons e1 (d5.cons hx (d5.cons (d8.if0 (c7 (by tm_at "e") (by simp;omega)) d5.nil) (d5.ret (σ':=σ') ?_))));have:c8 g E5.sc σ' false (.BinOp (.Name "end" ⟨0,0,0,0⟩) .Add (.Constant (.int 1) 0 ⟨0,0,0,0⟩) ⟨0,0,0,0⟩) (.ok (.int ((e':Int)+1))):=by tm_at "e"
  exact(show(k:Int)+1+n=(e':Int)+1 by omega)▸d8.ret (v:=.int ((e':Int)+1)) (by tm_at "e")
end
section
noncomputable def nU (c:Nat):Bool:=c==34||c==39
noncomputable def push (c:Nat):List b9->List b9
 |p::ps=>(c::p)::ps
 |[]=>[[c]]
noncomputable def A0 (cs:b9):List b9->List b9
 |p::ps=>(cs++p)::ps
 |[]=>[cs]
theorem bZ (l:List b9) (h:l≠[]):A0 [] l=l:=by cases l<;>first|rfl|exact absurd rfl h
theorem lQ (c:Nat) (cs:b9) (l:List b9):push c (A0 cs l)=A0 (c::cs) l:=by cases l<;>rfl
theorem bF (a b:b9) (l:List b9):A0 a (A0 b l)=A0 (a++b) l:=by cases l<;>simp[A0]
theorem zX (c:Nat) (l:List b9):push c l=A0 [c] l:=by cases l<;>rfl
noncomputable def T6 (tb:Bool) (c:Nat):Nat:=if tb &&c==9 then 32 else c
noncomputable def pm (stop:Option Nat) (tb:Bool):b9->Option Nat->Bool->Option (List b9)
 |[],none,_=>some [[]]
 |[],some _,_=>none
 |c::r,none,_=>
  if stop=some c then some [[]]
  else if nU c then (pm stop tb r (some c) false).map (push c)
  else if c=44/\stop=none then (pm stop tb r none false).map ([]:: ·)
  else (pm stop tb r none false).map (push (T6 tb c))
 |c::r,some q,true=>(pm stop tb r (some q) false).map (push c)
 |c::r,some q,false=>
  if c=92 then (pm stop tb r (some q) true).map (push c)
  else if c=q then (pm stop tb r none false).map (push c)
  else (pm stop tb r (some q) false).map (push c)
set_option tactic.hygienic true in
theorem cM {stop:Option Nat} {tb:Bool}: ∀{t:b9} {q:Option Nat} {e:Bool} {l:List b9},pm stop tb t q e=some l->l≠[]
 |[],none,_,l,h=>by injection h with h;subst h;simp
 |[],some _,_,l,h=>by injection h
 |c::r,none,e,l,h=>by
  unfold pm at h;have pne: ∀{c:Nat} {x:Option (List b9)},x.map (push c)=some l->l≠[]:=by
   intro c x h;cases x with
   |none=>injection h
   |some y=>injection h with h;subst h;cases y<;>simp[push]
  split at h
  ·injection h with h;subst h;simp
  split at h
  ·exact pne h
  split at h
  ·cases q:pm stop tb r none false<;>rw[q] at h<;>cases h;simp
  ·exact pne h
 |c::r,some q,true,l,h=>by
  unfold pm at h;cases z:pm stop tb r (some q) false<;>rw[z] at h<;>cases h;rename_i y;cases y<;>simp[push]
 |c::r,some q,false,l,h=>by
  unfold pm at h;have pne: ∀{c:Nat} {x:Option (List b9)},x.map (push c)=some l->l≠[]:=by
   intro c x h;cases x with
   |none=>injection h
   |some y=>injection h with h;subst h;cases y<;>simp[push]
  split at h
  ·exact pne h
  split at h
  ·exact pne h
  ·exact pne h
section
variable (stop:Option Nat) (tb:Bool) (c:Nat) (r:b9) (q:Nat) (e:Bool)
theorem lR:pm stop tb (c::r) (some q) false=if c=92 then (pm stop tb r (some q) true).map (push c) else if c=q then (pm stop tb r none false).map (push c) else (pm stop tb r (some q) false).map (push c):=rfl
theorem uV:pm stop tb (c::r) (some q) true=(pm stop tb r (some q) false).map (push c):=rfl
theorem fZ:pm stop tb (c::r) none e=if stop=some c then some [[]] else if nU c then (pm stop tb r (some c) false).map (push c) else if c=44/\stop=none then (pm stop tb r none false).map ([]:: ·) else (pm stop tb r none false).map (push (T6 tb c)):=rfl
theorem R9:r9 q (c::r)=if c=q then some 1 else if c=92 then (match r with|[]=>none|_::r'=>(r9 q r').map (· +2)) else (r9 q r).map (· +1):=by rcases r with _|⟨d,r'⟩<;>rfl
end
theorem lS {c:Nat} {cs:b9} {x:Option (List b9)}:(x.map (A0 cs)).map (push c)=x.map (A0 (c::cs)):=by
 cases x with
 |none=>rfl
 |some l=>simp[lQ]
theorem jK {stop:Option Nat} {tb:Bool} {q:Nat} (hq:q≠92): ∀(n:Nat) (t:b9),t.length<=n->
  pm stop tb t (some q) false=(match r9 q t with|none=>none|some n=>(pm stop tb (t.drop n) none false).map (A0 (t.take n)))
 |_,[],_=>rfl
 |0,c::r,h=>by simp at h
 |n+1,c::r,h=>by
  rw[lR,R9];by_cases h1:c=q
  ·rw[if_pos h1,if_neg (by rw[h1];exact hq),if_pos h1];show(pm stop tb r none false).map (push c)=(pm stop tb r none false).map (A0 [c]);congr 1
  rw[if_neg h1 (α:=Option Nat)];by_cases h2:c=92
  ·rw[if_pos h2,if_pos h2];rcases r with _|⟨d,r'⟩
   ·rfl
   ·show(((pm stop tb r' (some q) false).map (push d)).map (push c))=(match (r9 q r').map (· +2) with|none=>none|some n=>(pm stop tb ((c::d::r').drop n) none false).map (A0 ((c::d::r').take n)));rw[jK hq n r' (by simp at h;omega)];cases hs:r9 q r' with
    |none=>rfl
    |some k=>
     show(((pm stop tb (r'.drop k) none false).map (A0 (r'.take k))).map (push d)).map (push c)=(pm stop tb ((c::d::r').drop (k+2)) none false).map (A0 ((c::d::r').take (k+2)));rw[lS,lS];rfl
  ·rw[if_neg h2,if_neg h2];try rw[if_neg h1]
   rw[jK hq n r (by simp at h;omega)];cases hs:r9 q r with
   |none=>rfl
   |some k=>
    show((pm stop tb (r.drop k) none false).map (A0 (r.take k))).map (push c)=(pm stop tb ((c::r).drop (k+1)) none false).map (A0 ((c::r).take (k+1)));rw[lS];rfl
end
theorem Y8 {s:Nat} {tb:Bool}: ∀{t:b9} {q:Option Nat} {e:Bool} {l:List b9},pm (some s) tb t q e=some l-> ∃b,l=[b]:=by
 intro t;have one: ∀{x:Option (List b9)} {c:Nat} {l:List b9},(∀l,x=some l-> ∃b,l=[b])->x.map (push c)=some l-> ∃b,l=[b]:=by
  intro x c l h e;cases x with
  |none=>injection e
  |some y=>refine d6 (h y rfl) fun b z4r=> ?_;subst z4r;injection e with e;subst e;exact⟨_,rfl⟩
 induction t with
 |nil=>intro q e l h;cases q<;>cases h;exact⟨_,rfl⟩
 |cons c r ih=>
  intro q e l h;cases q with
  |none=>
   rw[fZ] at h;split at h
   ·injection h with h;subst h;exact⟨_,rfl⟩
   split at h
   ·exact one (fun l z=>ih z) h
   rw[if_neg (by rintro ⟨_,z⟩;injection z)] at h;exact one (fun l z=>ih z) h
  |some q=>
   cases e with
   |true=>rw[uV] at h;exact one (fun l z=>ih z) h
   |false=>
    rw[lR] at h;split at h
    ·exact one (fun l z=>ih z) h
    split at h
    ·exact one (fun l z=>ih z) h
    ·exact one (fun l z=>ih z) h
section
variable {g:G} {t:b9}
theorem CO (hg:N6 g) (hlen:g.fn "len"=none) (hqe:g.fn "quoted_end"=some s7) (hl:t.length<=5000) {l:Int} (hline:l.natAbs<1000000): ∀(m:Nat) (σ:d9) (k:Nat) (acc:List b9),t.length+1-k<=m->k<=t.length->acc.length<=k->acc.flatten.length<=k->
  σ.get "text"=some (.str t)->σ.get "found"=some (.olist (acc.map .str))->σ.get "place"=some (.int (k:Nat))->σ.get "line"=some (.int l)->
  match pm (some 35) true (t.drop k) none false with
  |none=>d8 g (some "found") O7.sc σ (i4 O7.body 1) (.err l)
  |some ps=> ∃(σ':d9) (acc':List b9),d8 g (some "found") O7.sc σ (i4 O7.body 1) (.ok (.next,σ'))/\σ'.get "found"=some (.olist (acc'.map .str))/\acc'.flatten=acc.flatten++ps.headD []/\acc'.length<=t.length/\acc'.flatten.length<=t.length:=by
 intro m;have hlim:i0=1048576:=rfl;induction m with
 |zero=>intro σ k acc hm hk;omega
 |succ m ih=>
  intro σ k acc hm hk ha hf h1 h2 h3 h4;by_cases he:k<t.length
  case neg=>
   have hd:t.drop k=[]:=List.drop_eq_nil_of_le (by omega);rw[hd];refine⟨σ,acc,h7 (c7 (by tm_at "e") ?_),h2,(List.append_nil _).symm,by omega,by omega⟩;simp only[Bool.and_eq_false_imp,decide_eq_true_eq];intro z;omega
  have hdr:=C2 he;rw[hdr,fZ];by_cases hc:k6 t k=35
  ·rw[if_pos (by rw[hc])];refine⟨σ,acc,h7 (c7 (by tm_at "e") ?_),h2,(List.append_nil _).symm,by omega,by omega⟩;simp[hc]
  rw[if_neg (by intro z;exact hc (Option.some.inj z).symm)];have ht:(decide ((k:Int)<(t.length:Int)) && !(k6 t k==35))=true:=by simp[he,hc]
  have hq:([34,39]:b9).contains (k6 t k)=nU (k6 t k):=by simp only[List.contains_cons,List.contains_nil,Bool.or_false,nU]
  cases hQ:nU (k6 t k) with
  |true=>
   rw[if_pos rfl];have hq92:k6 t k≠92:=by intro z;rw[z] at hQ;exact absurd hQ (by decide)
   rw[jK hq92 _ _ (Nat.le_refl _)];have hF:s7 [.str t,.int k,.int l]=(match r9 (k6 t k) (t.drop (k+1)) with|some n=>.ok (.int ((k:Int)+1+n))|none=>.err l):=by
    show(if _ then _ else _)=_;rw[if_pos ⟨hl,by omega,by omega,hline⟩];rfl
   cases hs:r9 (k6 t k) (t.drop (k+1)) with
   |none=>
    rw[hs] at hF;exact K5 (c9 (by tm_at "e") ht) (d5.err (U2 (c8.if1 (c9 (by tm_at "e") (hq.trans hQ)) (by tm_at "e")) (by decide) (by decide)))
   |some n=>
    rw[hs] at hF;refine f8 (O8 hs) fun n1 n2=> ?_;rw[List.length_drop] at n2;have e1:(t.drop (k+1)).drop n=t.drop (k+1+n):=List.drop_drop;dsimp only;rw[e1];have hc9:k6 t k≠9:=by intro z;rw[z] at hQ;exact absurd hQ (by decide)
    have hsl:j9 t (some (k:Int)) (some ((k+1+n:Nat):Int))=k6 t k::(t.drop (k+1)).take n:=by
     rw[bE (by omega) (by omega),hdr,show k+1+n-k=n+1 by omega];rfl
    have IH:=ih (((σ.set "end" (.int ((k+1+n:Nat):Int))).set "found" (.olist (acc.map .str++[.str (k6 t k::(t.drop (k+1)).take n)]))).set "place" (.int ((k+1+n:Nat):Int))) (k+1+n) (acc++[k6 t k::(t.drop (k+1)).take n]) (by omega) (by omega)
     (by simp;omega) (by simp at hf ⊢;omega) (by tm_at "n") (by rw[List.map_append];tm_at "n") (by tm_at "n") (by tm_at "n")
    have step: ∀{u:R (Fl×d9)},d8 g (some "found") O7.sc (((σ.set "end" (.int ((k+1+n:Nat):Int))).set "found" (.olist (acc.map .str++[.str (k6 t k::(t.drop (k+1)).take n)]))).set "place" (.int ((k+1+n:Nat):Int))) (i4 O7.body 1) u->d8 g (some "found") O7.sc σ (i4 O7.body 1) u:=fun h=>
     i3 (c9 (by tm_at "e") ht) (d5.cons (d7 (v:=.int ((k+1+n:Nat):Int)) (c8.if1 (c9 (by tm_at "e") (hq.trans hQ)) (by tm_at "e")) (by decide) (by decide) rfl)
      (d5.cons (d8.append (vs:=acc.map .str) (v:=.str (k6 t k::(t.drop (k+1)).take n)) (c8.if0 (c7 (by tm_at "e") (by simp[hc9])) (hsl▸c8.slice (li:=some (k:Int)) (hj:=some ((k+1+n:Nat):Int)) (by tm_at "v") (by tm_at "e") (by tm_at "e") (by omega))) (by tm_at "v") (by decide) rfl (by simp;omega))
      (d5.cons (d7 (v:=.int ((k+1+n:Nat):Int)) (by tm_at "e") (by decide) (by decide) rfl) d5.nil))) h
    cases hp:pm (some 35) true (t.drop (k+1+n)) none false with
    |none=>rw[hp] at IH;exact step IH
    |some ps=>
     rw[hp] at IH;refine iK IH fun σ' acc' x1 x2 x3 x4 x5=> ?_;clear IH;refine⟨σ',acc',step x1,x2,?_,x4,x5⟩;refine d6 (Y8 hp) fun b z3r=> ?_;subst z3r;rw[x3];simp[push,A0]
  |false=>
   rw[if_neg (by decide),if_neg (by rintro ⟨_,z⟩;injection z)];have IH:=fun(c:Nat)=>ih (((σ.set "end" (.int ((k+1:Nat):Int))).set "found" (.olist (acc.map .str++[.str [c]]))).set "place" (.int ((k+1:Nat):Int))) (k+1) (acc++[[c]]) (by omega) (by omega)
     (by simp;omega) (by simp at hf ⊢;omega) (by tm_at "n") (by rw[List.map_append];tm_at "n") (by tm_at "n") (by tm_at "n")
   have step: ∀{u:R (Fl×d9)},d8 g (some "found") O7.sc (((σ.set "end" (.int ((k+1:Nat):Int))).set "found" (.olist (acc.map .str++[.str [T6 true (k6 t k)]]))).set "place" (.int ((k+1:Nat):Int))) (i4 O7.body 1) u->d8 g (some "found") O7.sc σ (i4 O7.body 1) u:=fun h=>
     i3 (c9 (by tm_at "e") ht) (d5.cons (d7 (v:=.int ((k+1:Nat):Int)) (c8.if0 (c7 (by tm_at "e") (hq.trans hQ)) (by tm_at "e")) (by decide) (by decide) rfl)
      (d5.cons (d8.append (vs:=acc.map .str) (v:=.str [T6 true (k6 t k)]) (by
        by_cases h9:k6 t k=9
        ·have:T6 true (k6 t k)=32:=by rw[h9];rfl
         rw[this];exact c8.if1 (c9 (by tm_at "e") (by simp[h9])) (by tm_at "e")
        ·have:[T6 true (k6 t k)]=j9 t (some (k:Int)) (some ((k+1:Nat):Int)):=by
          rw[bE (by omega) (by omega),hdr,show k+1-k=1 by omega];simp[T6,h9]
         rw[this];exact c8.if0 (c7 (by tm_at "e") (by simp[h9])) (c8.slice (li:=some (k:Int)) (hj:=some ((k+1:Nat):Int)) (by tm_at "v") (by tm_at "e") (by tm_at "e") (by omega))) (by tm_at "v") (by decide) rfl (by simp;omega))
      (d5.cons (d7 (v:=.int ((k+1:Nat):Int)) (by tm_at "e") (by decide) (by decide) rfl) d5.nil))) h
   cases hp:pm (some 35) true (t.drop (k+1)) none false with
   |none=>have IH:=IH (T6 true (k6 t k));rw[hp] at IH;exact step IH
   |some ps=>
    have IH:=IH (T6 true (k6 t k));rw[hp] at IH;refine iK IH fun σ' acc' x1 x2 x3 x4 x5=> ?_;clear IH;refine⟨σ',acc',step x1,x2,?_,x4,x5⟩;refine d6 (Y8 hp) fun b z2r=> ?_;subst z2r;rw[x3];simp[push]
noncomputable def N0 (t:b9):Option b9:=(pm (some 35) true t none false).map fun ps=>i6 (ps.headD [])
noncomputable def gC:List V->R V:=CN fun t l=>
  if t.length<=5000/\l.natAbs<1000000 then (match N0 t with|some b=>.ok (.str b)|none=>.err l) else .stuck
theorem HF (hg:N6 g) (hlen:g.fn "len"=none) (hqe:g.fn "quoted_end"=some s7) (vs:List V) (hn:gC vs≠.stuck):g8 g (some "found") O7.sc ["text","line"] O7.body vs (gC vs):=by
 have hlim:i0=1048576:=rfl;refine C0 (K0 hn) fun t l z1r=> ?_;subst z1r;have hc:=D9 hn;refine l5 (if_pos hc) ?_;refine f8 hc fun hl hline=> ?_;clear hc;have e1:d8 g (some "found") O7.sc (List.zip ["text","line"] [.str t,.int l]) (i4 O7.body 0) (.ok (.next,d9.set (d9.set (List.zip ["text","line"] [.str t,.int l]) "found" (.olist [])) "place" (.int 0))):=
  i7 (by tm_at "e") rfl (by decide) rfl
 have L:=CO (t:=t) hg hlen hqe hl hline (t.length+1) (d9.set (d9.set (List.zip ["text","line"] [.str t,.int l]) "found" (.olist [])) "place" (.int 0)) 0 [] (by omega) (by omega) (by simp) (by simp) (by tm_at "n") (by tm_at "n") (by tm_at "n") (by tm_at "n");rw[List.drop_zero] at L;unfold N0;cases hp:pm (some 35) true t none false with
 |none=>
  rw[hp] at L;exact g8.err rfl (d5.cons e1 (d5.err L))
 |some ps=>
  rw[hp] at L;refine iK L fun σ' acc' x1 x2 x3 x4 x5=> ?_;clear L;rw[List.flatten_nil,List.nil_append] at x3;refine g8.ret rfl (d5.cons e1 (d5.cons x1 (d5.ret (v:=.str (i6 (ps.headD []))) (d8.ret (v:=.str (i6 (ps.headD []))) ?_))));rw[<-x3];tm_at "e"
end
theorem HG {a:b9} {l:List b9} (h:l.length<=i0):w8 .In (.str a) (.olist (l.map V.str))=.ok (l.contains a):=by
 rw[WA];show(if (l.map V.str).length<=i0 then needR (M0 (l.map V.str)) (fun l=>R.ok (l.contains a)) else R.stuck)=_;rw[List.length_map,if_pos h,bC];rfl
theorem CP {t:b9} {b k n:Nat} (hb:b<=k):(t.drop b).take (k+n-b)=(t.drop b).take (k-b)++(t.drop k).take n:=by
 rw[show k+n-b=(k-b)+n by omega,List.take_add,List.drop_drop,show b+(k-b)=k by omega]
section
variable {g:G} {t:b9}
theorem uW (hg:N6 g) (hlen:g.fn "len"=none) (hqe:g.fn "quoted_end"=some s7) (hl:t.length<=5000) {l:Int} (hline:l.natAbs<1000000): ∀(m:Nat) (σ:d9) (b k:Nat) (acc:List b9),t.length+1-k<=m->b<=k->k<=t.length->acc.length<=k->
  σ.get "text"=some (.str t)->σ.get "found"=some (.olist (acc.map .str))->σ.get "begin"=some (.int (b:Nat))->σ.get "place"=some (.int (k:Nat))->σ.get "line"=some (.int l)->
  match pm none false (t.drop k) none false with
  |none=>d8 g (some "found") n9.sc σ (i4 n9.body 2) (.err l)
  |some ps=> ∃(σ':d9) (acc':List b9) (b':Nat),d8 g (some "found") n9.sc σ (i4 n9.body 2) (.ok (.next,σ'))/\σ'.get "text"=some (.str t)/\σ'.get "found"=some (.olist (acc'.map .str))/\σ'.get "begin"=some (.int (b':Nat))/\σ'.get "line"=some (.int l)/\b'<=t.length/\
    acc'++[i6 (t.drop b')]=acc++(A0 ((t.drop b).take (k-b)) ps).map i6/\acc'.length<=t.length:=by
 intro m;have hlim:i0=1048576:=rfl;induction m with
 |zero=>intro σ b k acc hm hb hk;omega
 |succ m ih=>
  intro σ b k acc hm hb hk ha h1 h2 h3 h4 h5;by_cases he:k<t.length
  case neg=>
   have hd:t.drop k=[]:=List.drop_eq_nil_of_le (by omega);rw[hd];refine⟨σ,acc,b,h7 (c7 (by tm_at "e") (by simp;omega)),h1,h2,h3,h5,by omega,?_,by omega⟩;have:(t.drop b).take (k-b)=t.drop b:=List.take_of_length_le (by simp;omega);simp[A0,this]
  have hdr:=C2 he;rw[hdr,fZ,if_neg (by intro z;injection z)];have ht:(decide ((k:Int)<(t.length:Int)))=true:=by simp[he]
  have hq:([34,39]:b9).contains (k6 t k)=nU (k6 t k):=by simp only[List.contains_cons,List.contains_nil,Bool.or_false,nU]
  have more:=fun n=>CP (t:=t) (n:=n+1) hb;cases hQ:nU (k6 t k) with
  |true=>
   rw[if_pos rfl];have hq92:k6 t k≠92:=by intro z;rw[z] at hQ;exact absurd hQ (by decide)
   have hq44:k6 t k≠44:=by intro z;rw[z] at hQ;exact absurd hQ (by decide)
   rw[jK hq92 _ _ (Nat.le_refl _)];have hF:s7 [.str t,.int k,.int l]=(match r9 (k6 t k) (t.drop (k+1)) with|some n=>.ok (.int ((k:Int)+1+n))|none=>.err l):=by
    show(if _ then _ else _)=_;rw[if_pos ⟨hl,by omega,by omega,hline⟩];rfl
   cases hs:r9 (k6 t k) (t.drop (k+1)) with
   |none=>
    rw[hs] at hF;exact K5 (c9 (by tm_at "e") ht) (d5.cons (d8.if0 (c7 (by tm_at "e") (by simp[hq44])) d5.nil) (d5.err (U2 (c8.if1 (c9 (by tm_at "e") (hq.trans hQ)) (by tm_at "e")) (by decide) (by decide))))
   |some n=>
    rw[hs] at hF;refine f8 (O8 hs) fun n1 n2=> ?_;rw[List.length_drop] at n2;have e1:(t.drop (k+1)).drop n=t.drop (k+1+n):=List.drop_drop;dsimp only;rw[e1];have IH:=ih (σ.set "place" (.int ((k+1+n:Nat):Int))) b (k+1+n) acc (by omega) (by omega) (by omega) (by omega)
     (by tm_at "n") (by tm_at "n") (by tm_at "n") (by tm_at "n") (by tm_at "n")
    have step: ∀{u:R (Fl×d9)},d8 g (some "found") n9.sc (σ.set "place" (.int ((k+1+n:Nat):Int))) (i4 n9.body 2) u->d8 g (some "found") n9.sc σ (i4 n9.body 2) u:=fun h=>
     i3 (c9 (by tm_at "e") ht) (d5.cons (d8.if0 (c7 (by tm_at "e") (by simp[hq44])) d5.nil)
      (d5.cons (d7 (v:=.int ((k+1+n:Nat):Int)) (c8.if1 (c9 (by tm_at "e") (hq.trans hQ)) (by tm_at "e")) (by decide) (by decide) rfl) d5.nil)) h
    cases hp:pm none false (t.drop (k+1+n)) none false with
    |none=>rw[hp] at IH;exact step IH
    |some ps=>
     rw[hp] at IH;refine JR IH fun σ' acc' b' x1 x2 x3 x4 x5 x6 x7 x8=> ?_;clear IH;refine⟨σ',acc',b',step x1,x2,x3,x4,x5,x6,?_,x8⟩;rw[x7];have:=more n;rw[hdr] at this;rw[show k+1+n-b=k+(n+1)-b by omega,this];show _=acc++(A0 _ (push (k6 t k) (A0 ((t.drop (k+1)).take n) ps))).map i6;rw[lQ,bF];rfl
  |false=>
   rw[if_neg (by decide)];by_cases hc:k6 t k=44
   ·rw[if_pos ⟨hc,rfl⟩];have hsl:j9 t (some (b:Int)) (some (k:Int))=(t.drop b).take (k-b):=bE hb hk;have hsz:((t.drop b).take (k-b)).length<=i0:=by simp;omega
    have IH:=ih (((σ.set "found" (.olist (acc.map .str++[.str (i6 ((t.drop b).take (k-b)))]))).set "begin" (.int ((k+1:Nat):Int))).set "place" (.int ((k+1:Nat):Int))) (k+1) (k+1) (acc++[i6 ((t.drop b).take (k-b))]) (by omega) (by omega) (by omega)
     (by simp;omega) (by tm_at "n") (by rw[List.map_append];tm_at "n") (by tm_at "n") (by tm_at "n") (by tm_at "n")
    have step: ∀{u:R (Fl×d9)},d8 g (some "found") n9.sc (((σ.set "found" (.olist (acc.map .str++[.str (i6 ((t.drop b).take (k-b)))]))).set "begin" (.int ((k+1:Nat):Int))).set "place" (.int ((k+1:Nat):Int))) (i4 n9.body 2) u->d8 g (some "found") n9.sc σ (i4 n9.body 2) u:=fun h=>
     i3 (c9 (by tm_at "e") ht) (d5.cons (d8.if1 (c9 (by tm_at "e") (by simp[hc]))
       (d5.cons (d8.append (vs:=acc.map .str) (v:=.str (i6 ((t.drop b).take (k-b)))) (W2 (v:=.str ((t.drop b).take (k-b))) (hsl▸c8.slice (li:=some (b:Int)) (hj:=some (k:Int)) (by tm_at "v") (by tm_at "e") (by tm_at "e") (by omega)) (by tm_at "e") (lL hsz) ⟨rfl,rfl⟩) (by tm_at "v") (by decide) rfl (by simp;omega))
       (d5.cons (d7 (v:=.int ((k+1:Nat):Int)) (by tm_at "e") (by decide) (by decide) rfl) d5.nil)))
      (d5.cons (d7 (v:=.int ((k+1:Nat):Int)) (c8.if0 (c7 (by tm_at "e") (hq.trans hQ)) (by tm_at "e")) (by decide) (by decide) rfl) d5.nil)) h
    cases hp:pm none false (t.drop (k+1)) none false with
    |none=>rw[hp] at IH;exact step IH
    |some ps=>
     rw[hp] at IH;refine JR IH fun σ' acc' b' x1 x2 x3 x4 x5 x6 x7 x8=> ?_;clear IH;refine⟨σ',acc',b',step x1,x2,x3,x4,x5,x6,?_,x8⟩;rw[x7,Nat.sub_self,List.take_zero,bZ _ (cM hp)];show _=acc++(A0 _ ([]::ps)).map i6;simp[A0]
   ·rw[if_neg (by rintro ⟨z,_⟩;exact hc z)];have IH:=ih (σ.set "place" (.int ((k+1:Nat):Int))) b (k+1) acc (by omega) (by omega) (by omega) (by omega)
     (by tm_at "n") (by tm_at "n") (by tm_at "n") (by tm_at "n") (by tm_at "n")
    have step: ∀{u:R (Fl×d9)},d8 g (some "found") n9.sc (σ.set "place" (.int ((k+1:Nat):Int))) (i4 n9.body 2) u->d8 g (some "found") n9.sc σ (i4 n9.body 2) u:=fun h=>
     i3 (c9 (by tm_at "e") ht) (d5.cons (d8.if0 (c7 (by tm_at "e") (by simp[hc])) d5.nil)
      (d5.cons (d7 (v:=.int ((k+1:Nat):Int)) (c8.if0 (c7 (by tm_at "e") (hq.trans hQ)) (by tm_at "e")) (by decide) (by decide) rfl) d5.nil)) h
    cases hp:pm none false (t.drop (k+1)) none false with
    |none=>rw[hp] at IH;exact step IH
    |some ps=>
     rw[hp] at IH;refine JR IH fun σ' acc' b' x1 x2 x3 x4 x5 x6 x7 x8=> ?_;clear IH;refine⟨σ',acc',b',step x1,x2,x3,x4,x5,x6,?_,x8⟩;have:=more 0;rw[hdr] at this;rw[x7,show k+1-b=k+(0+1)-b by omega,this];show _=acc++(A0 _ (push (T6 false (k6 t k)) ps)).map i6;rw[zX,bF];rfl
noncomputable def U9 (tb:Bool) (t:b9):Option (List b9):=
 if t=[] then some [] else (pm none tb t none false).bind fun ps=>if (ps.map i6).contains [] then none else some (ps.map i6)
noncomputable def W4:List V->R V:=CN fun t l=>
  if t.length<=5000/\l.natAbs<1000000 then (match U9 false t with|some b=>.ok (.list (b.map .str))|none=>.err l) else .stuck
theorem xY (hg:N6 g) (hlen:g.fn "len"=none) (hqe:g.fn "quoted_end"=some s7) (vs:List V) (hn:W4 vs≠.stuck):g8 g (some "found") n9.sc ["text","line"] n9.body vs (W4 vs):=by
 have hlim:i0=1048576:=rfl;refine C0 (K0 hn) fun t l z1r=> ?_;subst z1r;have hc:=D9 hn;refine l5 (if_pos hc) ?_;refine f8 hc fun hl hline=> ?_;clear hc;unfold U9;by_cases h0:t=[]
 ·rw[if_pos h0];exact g8.ret rfl (d5.ret (d8.if1 (c9 (by tm_at "e") (by simp[h0])) (d5.ret (d8.ret (v:=.list []) (by tm_at "e")))))
 rw[if_neg h0];have e0:d8 g (some "found") n9.sc (List.zip ["text","line"] [.str t,.int l]) (i4 n9.body 0) (.ok (.next,List.zip ["text","line"] [.str t,.int l])):=
  d8.if0 (c7 (by tm_at "e") (by simp[h0])) d5.nil
 have e1:d8 g (some "found") n9.sc (List.zip ["text","line"] [.str t,.int l]) (i4 n9.body 1) (.ok (.next,d9.set (d9.set (d9.set (List.zip ["text","line"] [.str t,.int l]) "found" (.olist [])) "begin" (.int 0)) "place" (.int 0))):=
  i7 (by tm_at "e") rfl (by decide) rfl
 have L:=uW (t:=t) hg hlen hqe hl hline (t.length+1) (d9.set (d9.set (d9.set (List.zip ["text","line"] [.str t,.int l]) "found" (.olist [])) "begin" (.int 0)) "place" (.int 0)) 0 0 [] (by omega) (by omega) (by omega) (by simp) (by tm_at "n") (by tm_at "n") (by tm_at "n") (by tm_at "n") (by tm_at "n");rw[List.drop_zero] at L;cases hp:pm none false t none false with
 |none=>
  rw[hp] at L;exact g8.err rfl (d5.cons e0 (d5.cons e1 (d5.err L)))
 |some ps=>
  rw[hp] at L;refine JR L fun σ' acc' b' x1 x2 x3 x4 x5 x6 x7 x8=> ?_;clear L;rw[Nat.sub_zero,List.take_zero,bZ _ (cM hp),List.nil_append] at x7;have hsz:(t.drop b').length<=i0:=by simp;omega
  have e3:d8 g (some "found") n9.sc σ' (i4 n9.body 3) (.ok (.next,σ'.set "found" (.olist (acc'.map .str++[.str (i6 (t.drop b'))])))):=
   d8.append (W2 (v:=.str (t.drop b')) ((jI x6)▸c8.slice (li:=some (b':Int)) (hj:=none) (by tm_at "v") (by tm_at "e") (by tm_at "e") (by omega)) (by tm_at "e") (lL hsz) ⟨rfl,rfl⟩) (by tm_at "v") (by decide) rfl (by simp;omega)
  have e4:acc'.map V.str++[.str (i6 (t.drop b'))]=(ps.map i6).map .str:=by rw[<-x7];simp
  rw[e4] at e3;have hlen':(ps.map i6).length<=i0:=by rw[<-x7];simp;omega
  show g8 g (some "found") n9.sc _ n9.body _ (match (if (ps.map i6).contains [] then none else some (ps.map i6):Option (List b9)) with|some b=>.ok (.list (b.map .str))|none=>.err l);have h2:(σ'.set "found" (.olist ((ps.map i6).map .str))).get "found"=some (.olist ((ps.map i6).map .str)):=d9.same;cases hq:(ps.map i6).contains [] with
  |true=>
   rw[if_pos rfl];exact g8.err rfl (d5.cons e0 (d5.cons e1 (d5.cons x1 (d5.cons e3 (d5.err (d8.if1 (c9 (e9 (by tm_at "e") (by tm_at "e") (HG hlen') rfl) hq) (d5.err (A8 (by tm_at "v") (by decide) ⟨rfl,rfl⟩ hline))))))))
  |false=>
   rw[if_neg (by decide)];exact g8.ret rfl (d5.cons e0 (d5.cons e1 (d5.cons x1 (d5.cons e3 (d5.cons (d8.if0 (c7 (e9 (by tm_at "e") (by tm_at "e") (HG hlen') rfl) hq) d5.nil) (d5.ret (d8.ret (v:=.olist ((ps.map i6).map .str)) (by tm_at "e"))))))))
end
noncomputable def V0:Stmt->Expr
 | .For t _ _ _ _=>t
 |_=>.Constant .none 0 ⟨0,0,0,0⟩
section
variable {g:G} {sc csc:Scope} {σ:d9} {t:b9} {elt:Expr} {x:Str} {xp:Pos}
theorem Q5.map {f:Nat->V} (hf: ∀c,(f c).open? =false): ∀{r:b9},(∀c∈r,c8 g csc (σ.set x (.str [c])) false elt (.ok (f c)))->Q5 g csc σ (.Name x xp) elt [] (r.map fun c=>.str [c]) (r.map f)
 |[],_=>Q5.nil
 |c::r,h=>Q5.take rfl (h c List.mem_cons_self) (hf c) (Q5.map hf fun d hd=>h d (List.mem_cons_of_mem _ hd))
theorem LR {l:List Bool}:fH "all" [.list (l.map V.bool)]=.ok (.bool (l.all id)):=by
 rw[PU];show needR (U5 (l.map V.bool)) _=_;rw[CL];rfl
theorem zY {r:b9} {f:Nat->Bool}:fH "all" [.list (r.map fun c=>V.bool (f c))]=.ok (.bool (r.all f)):=by
 have:(r.map fun c=>V.bool (f c))=(r.map f).map V.bool:=by simp
 rw[this,LR];simp
theorem eR (h:0<t.length):j9 t none (some (-1))=t.dropLast:=by
 unfold j9 AV P4;dsimp only;rw[if_pos (by omega),List.drop_zero,show(-1+(t.length:Int)).toNat=t.length-1 by omega,List.dropLast_eq_take]
noncomputable def A3 (c:Nat):Bool:=(decide (32<=c) &&decide (c<=126))||c==9
theorem lT (hord:g.fn "ord"=none) {l:Int} (hline:l.natAbs<1000000): ∀(r:b9) (σ:d9),σ.get "line"=some (.int l)->
  (r.all A3=true-> ∃σ',P6 g none r4.sc σ (V0 (i4 r4.body 0)) (sB (i4 r4.body 0)) (r.map fun c=>.str [c]) (.ok (.next,σ')))/\
  (r.all A3=false->P6 g none r4.sc σ (V0 (i4 r4.body 0)) (sB (i4 r4.body 0)) (r.map fun c=>.str [c]) (.err l))
 |[],σ,h=>⟨fun Z=>⟨σ,P6.nil⟩,fun z=>by simp at z⟩
 |c::r,σ,h=>by
  refine f8 (lT hord hline r (σ.set "letter" (.str [c])) (by tm_at "n")) fun i1 i2=> ?_;have hb:s5 σ (V0 (i4 r4.body 0)) (.str [c])=.ok (σ.set "letter" (.str [c])):=rfl;rw[List.all_cons];cases hs:A3 c with
  |true=>
   have hc:(32<=c/\c<=126)\/c=9:=by simpa[A3] using hs
   have st:d5 g none r4.sc (σ.set "letter" (.str [c])) (sB (i4 r4.body 0)) (.ok (.next,σ.set "letter" (.str [c]))):=
    d5.cons (d8.if0 (c7 (by tm_at "e") (by simp;omega)) d5.nil) d5.nil
   refine⟨fun z=> ?_,fun z=>P6.cons hb st (i2 (by simpa using z))⟩;refine d6 (i1 (by simpa using z)) fun σ' x=> ?_;exact⟨σ',P6.cons hb st x⟩
  |false=>
   have hc: ¬((32<=c/\c<=126)\/c=9):=by
    intro z;have:A3 c=true:=by simpa[A3] using z
    rw[hs] at this;injection this
   refine⟨fun z=>by simp at z,fun Z=>P6.err hb (d5.err (d8.if1 (c9 (by tm_at "e") (by simp;omega)) (d5.err (A8 (by tm_at "v") (by decide) ⟨rfl,rfl⟩ hline))))⟩
noncomputable def o8:List V->R V:=CN fun t l=>
  if t.length<=5000/\l.natAbs<1000000 then (if t.all A3 then .ok .none else .err l) else .stuck
theorem iU (hord:g.fn "ord"=none) (vs:List V) (hn:o8 vs≠.stuck):g8 g none r4.sc ["text","line"] r4.body vs (o8 vs):=by
 have hlim:i0=1048576:=rfl;refine C0 (K0 hn) fun t l z3r=> ?_;subst z3r;have hc:=D9 hn;refine l5 (if_pos hc) ?_;refine f8 hc fun hl hline=> ?_;clear hc;refine f8 (lT hord hline t (List.zip ["text","line"] [.str t,.int l]) rfl) fun i1 i2=> ?_;cases hs:t.all A3 with
 |true=>
  refine d6 (i1 hs) fun σ' x=> ?_;rw[if_pos rfl];exact g8.next rfl (d5.cons (H3 (by tm_at "e") (w5 (by omega)) rfl x) d5.nil)
 |false=>
  rw[if_neg (by decide)];exact g8.err rfl (d5.err (H3 (by tm_at "e") (w5 (by omega)) rfl (i2 hs)))
noncomputable def E0 (c:Nat):Bool:=((List.range 26).map (· +97)++(List.range 26).map (· +65)++(List.range 10).map (· +48)++[95,46,36]).contains c
noncomputable def cH (c:Nat):Bool:=((List.range 10).map (· +48)).contains c
noncomputable def G6 (t:b9):Bool:= !(t==[]) && !cH (k6 t 0) &&t.all E0 && !(t==[46])
noncomputable def B5 (t:b9):Bool:=decide (1<t.length) &&([98,102]:b9).contains (k6 t (t.length-1)) &&t.dropLast.all cH
noncomputable def E1:List V->R V:=fS fun t=>
  if t.length<=5000 then .ok (.bool (G6 t)) else .stuck
noncomputable def H6:List V->R V:=fS fun t=>
  if t.length<=5000 then .ok (.bool (B5 t)) else .stuck
theorem uX (hg:N6 g) (hall:g.fn "all"=none) (vs:List V) (hn:E1 vs≠.stuck):g8 g none lI.sc ["text"] lI.body vs (E1 vs):=by
 have hlim:i0=1048576:=rfl;refine d6 (R8 hn) fun t z2r=> ?_;subst z2r;have hl:=D9 hn;refine l5 (if_pos hl) ?_;refine g8.ret (σ':=List.zip ["text"] [.str t]) rfl (d5.ret (d8.ret (v:=.bool (G6 t)) ?_));by_cases h0:t=[]
 ·refine c8.to (o7 (b1:=false) (b2:=true) (c7 (by tm_at "e") (by simp[h0])) fun h=>by injection h) ?_;simp[G6,h0]
 ·have hp:0<t.length:=List.length_pos_iff.mpr h0;refine c8.to (o7 (by tm_at "e") fun Z=>o7 (by tm_at "e") fun Z=>o7 (b1:=t.all E0) (c8.bcall (v5.cons (J8 (by tm_at "e") (w5 (by omega)) (Q5.map (f:=fun c=>.bool (E0 c)) (fun Z=>rfl) fun c Z=>e9 (by tm_at "e") (by tm_at "e") (in_str (by decide)) rfl) rfl) v5.nil) hall rfl zY rfl rfl) fun Z=>H4 (by tm_at "e")) ?_;simp[G6,cH,Bool.and_assoc]
theorem rQ (hg:N6 g) (hlen:g.fn "len"=none) (hall:g.fn "all"=none) (vs:List V) (hn:H6 vs≠.stuck):g8 g none fY.sc ["text"] fY.body vs (H6 vs):=by
 have hlim:i0=1048576:=rfl;refine d6 (R8 hn) fun t z1r=> ?_;subst z1r;have hl:=D9 hn;refine l5 (if_pos hl) ?_;refine g8.ret (σ':=List.zip ["text"] [.str t]) rfl (d5.ret (d8.ret (v:=.bool (B5 t)) ?_));by_cases h1:1<t.length
 ·have hd:t.dropLast.length<=i0:=by simp;omega
  refine c8.to (o7 (by tm_at "e") fun Z=>o7 (by tm_at "e") fun Z=>H4 (c8.bcall (v5.cons (J8 (iv:=.str t.dropLast) (eR (t:=t) (by omega)▸c8.slice (by tm_at "v") (by tm_at "e") (by tm_at "e") (by omega)) (w5 hd) (Q5.map (f:=fun c=>.bool (cH c)) (fun Z=>rfl) fun c Z=>e9 (by tm_at "e") (by tm_at "e") (in_str (by decide)) rfl) rfl) v5.nil) hall rfl zY rfl rfl)) ?_;rw[show decide ((1:Int)<(t.length:Int))=true by simp;omega];simp[B5,h1]
 ·refine c8.to (o7 (b1:=false) (b2:=true) (c7 (by tm_at "e") (by simp;omega)) fun h=>by injection h) ?_;simp[B5,h1]
end
theorem rR (a b:Int):fH "min" [.int a,.int b]=.ok (.int (min a b)):=rfl
theorem QC {a:b9} {l:List b9} (h:l.length<=i0):w8 .In (.str a) (.tup (l.map V.str))=.ok (l.contains a):=by
 rw[WB];show(if (l.map V.str).length<=i0 then needR (M0 (l.map V.str)) (fun l=>R.ok (l.contains a)) else R.stuck)=_;rw[List.length_map,if_pos h,bC];rfl
theorem eT {a b:Int} (h:a.natAbs<2 ^4096) (h':b.natAbs<2 ^4096):R0 .Mult (.int a) (.int b)=.ok (.int (a*b)):=by
 rw[OQ];have e1:small a=true:=by unfold small;exact decide_eq_true h
 have e2:small b=true:=by unfold small;exact decide_eq_true h'
 rw[e1,e2];rfl
noncomputable def k8 (c:Nat):Bool:=((List.range 8).map (· +48)).contains c
theorem lU (c:Nat):k8 c=true↔48<=c/\c<=55:=by
 rcases Nat.lt_or_ge c 56 with h|h
 ·exact of_decide_eq_true (U4 56 (fun c=>decide (k8 c=true↔48<=c/\c<=55)) (by decide+kernel) h)
 ·rw[show k8 c=false from lM (n:=56) rfl h];exact⟨fun z=>(by injection z),fun z=>absurd z (lN (by decide) h)⟩
section
variable {g:G} {t:b9}
theorem xZ (hg:N6 g) (hlen:g.fn "len"=none) (hmin:g.fn "min"=none) (hl:t.length<=5000) {k:Nat}: ∀(m:Nat) (σ:d9) (e:Nat),k+3-e<=m->k<=e->e<=k+3->σ.get "text"=some (.str t)->σ.get "place"=some (.int (k:Nat))->σ.get "end"=some (.int (e:Nat))->
  ∃σ',d8 g none F1.sc σ (i4 F1.body 1) (.ok (.next,σ'))/\σ'.get "end"=some (.int ((e+(((t.drop e).take (k+3-e)).takeWhile k8).length:Nat):Int)):=by
 intro m;have hlim:i0=1048576:=rfl;induction m with
 |zero=>
  intro σ e hm hk he h1 h2 h3;refine⟨σ,h7 (c7 (j2 (I9.cons (b1:=false) (b2:=true) (c7 (e9 (by tm_at "e") (c8.bcall (by tm_at "e") hmin rfl (rR _ _) rfl rfl) (gR _ _) rfl) (by simp;omega)) fun h=>by injection h)) rfl),?_⟩;rw[h3,show k+3-e=0 by omega];simp
 |succ m ih=>
  intro σ e hm hk he h1 h2 h3;by_cases hc:e<k+3/\e<t.length
  case neg=>
   refine⟨σ,h7 (c7 (j2 (I9.cons (b1:=false) (b2:=true) (c7 (e9 (by tm_at "e") (c8.bcall (by tm_at "e") hmin rfl (rR _ _) rfl rfl) (gR _ _) rfl) (by simp;omega)) fun h=>by injection h)) rfl),?_⟩;rw[h3];have:(t.drop e).take (k+3-e)=[]:=by
    rcases Nat.lt_or_ge e (k+3) with z|z
    ·rw[List.drop_eq_nil_of_le (by omega)];exact List.take_nil
    ·rw[show k+3-e=0 by omega];rfl
   rw[this];simp
  refine f8 hc fun e1 e2=> ?_;clear hc;have hd:(t.drop e).take (k+3-e)=k6 t e::(t.drop (e+1)).take (k+3-(e+1)):=by
   rw[C2 e2,show k+3-e=(k+3-(e+1))+1 by omega];rfl
  have hT:c8 g F1.sc σ true (sE (i4 F1.body 1)) (.ok (.bool (decide ((e:Int)<min (((k+3:Nat):Int)) (t.length:Int)) &&k8 (k6 t e)))):=
   j2 (I9.cons (e9 (by tm_at "e") (c8.bcall (v5.cons (c8.bin (by tm_at "e") (by tm_at "e") rfl) (by tm_at "e")) hmin rfl (rR _ _) rfl rfl) (gR _ _) rfl) fun Z=>I9.one (e9 (by tm_at "e") (by tm_at "e") (in_str (by decide)) rfl))
  have hlt:decide ((e:Int)<min (((k+3:Nat):Int)) (t.length:Int))=true:=by simp;omega
  rw[hlt,Bool.true_and] at hT;rw[hd];cases ho:k8 (k6 t e) with
  |false=>
   rw[ho] at hT;refine⟨σ,h7 hT,?_⟩;rw[h3,List.takeWhile_cons,ho];simp
  |true=>
   rw[ho] at hT;refine e8 (ih (σ.set "end" (.int ((e+1:Nat):Int))) (e+1) (by omega) (by omega) (by omega) (by tm_at "n") (by tm_at "n") (by tm_at "n")) fun σ' x1 x2=> ?_;refine⟨σ',i3 hT (d5.cons (M3 (v:=.int 1) (by tm_at "e") (by tm_at "e") (by decide) rfl rfl) d5.nil) x1,?_⟩;rw[x2,List.takeWhile_cons,ho];simp;omega
noncomputable def H7:List V->R V:=CN fun t p=>
  if t.length<=5000/\0<=p then .ok (.int (p+((((t.drop p.toNat).take 3).takeWhile k8).length:Nat))) else .stuck
theorem nV (hg:N6 g) (hlen:g.fn "len"=none) (hmin:g.fn "min"=none) (vs:List V) (hn:H7 vs≠.stuck):g8 g none F1.sc ["text","place"] F1.body vs (H7 vs):=by
 have hlim:i0=1048576:=rfl;refine C0 (K0 hn) fun t p z4r=> ?_;subst z4r;have hc:=D9 hn;refine l5 (if_pos hc) ?_;refine f8 hc fun hl hp0=> ?_;clear hc;refine d6 (Int.eq_ofNat_of_zero_le hp0) fun k z3r=> ?_;subst z3r;have e1:d8 g none F1.sc (List.zip ["text","place"] [.str t,.int k]) (i4 F1.body 0) (.ok (.next,d9.set (List.zip ["text","place"] [.str t,.int k]) "end" (.int (k:Int)))):=d7 (c8.name (g6 (v:=.int k) rfl rfl (by decide))) (by decide) (by decide) rfl;refine e8 (xZ (t:=t) hg hlen hmin hl (k:=k) 3 (d9.set (List.zip ["text","place"] [.str t,.int k]) "end" (.int (k:Int))) k (by omega) (by omega) (by omega) (by tm_at "n") (by tm_at "n") (by tm_at "n")) fun σ' x1 x2=> ?_;rw[show k+3-k=3 by omega] at x2;exact g8.ret rfl (d5.cons e1 (d5.cons x1 (d5.ret (d8.ret (c8.name (g6 x2 rfl (by decide)))))))
noncomputable def V1 (v:Nat):b9->Nat
 |[]=>v
 |c::r=>V1 (8*v+(c-48)) r
theorem CQ {c:Nat} (h:k8 c=true):J4 c ((List.range 8).map (· +48))=c-48:=
 of_decide_eq_true (U4 56 (fun c=>decide (k8 c=true->J4 c ((List.range 8).map (· +48))=c-48)) (by decide+kernel) (Nat.lt_of_not_le fun z=>by rw[show k8 c=false from lM (n:=56) rfl z] at h;injection h)) h
theorem jL {a:Int} (h:a.natAbs<2 ^64):a.natAbs<2 ^4096:=Nat.lt_of_lt_of_le h (Nat.pow_le_pow_right (by decide) (by decide))
theorem cN (hg:N6 g) {l:Int}: ∀(r:b9) (σ:d9) (v:Nat),r.all k8=true->v<8 ^(10-r.length)->r.length<=3->σ.get "line"=some (.int l)->σ.get "value"=some (.int (v:Nat))->
  ∃σ',P6 g none D7.sc σ (V0 (i4 D7.body 1)) (sB (i4 D7.body 1)) (r.map fun c=>.str [c]) (.ok (.next,σ'))/\σ'.get "line"=some (.int l)/\σ'.get "value"=some (.int (V1 v r:Nat))
 |[],σ,v,_,_,_,h1,h2=>⟨σ,P6.nil,h1,h2⟩
 |c::r,σ,v,ha,hv,hr,h1,h2=>by
  rw[List.all_cons,Bool.and_eq_true] at ha;rw[List.length_cons] at hv hr;have hb:s5 σ (V0 (i4 D7.body 1)) (.str [c])=.ok (σ.set "figure" (.str [c])):=rfl;refine f8 ((lU c).mp ha.1) fun b1 b2=> ?_;have hv':8*v+(c-48)<8 ^(10-r.length):=by
   have:8 ^(10-r.length)=8*8 ^(10-(r.length+1)):=by rw[show 10-r.length=(10-(r.length+1))+1 by omega,Nat.pow_succ,Nat.mul_comm]
   rw[this];omega
  have hvs:v<2 ^64:=Nat.lt_of_lt_of_le hv (Nat.le_trans (Nat.pow_le_pow_right (by decide) (Nat.sub_le 10 _)) (by decide));refine r6 (cN hg (l:=l) r ((σ.set "figure" (.str [c])).set "value" (.int ((8*v+(c-48):Nat):Int))) (8*v+(c-48)) ha.2 hv' (by omega) (by tm_at "n") (by tm_at "n")) fun σ' x1 x2 x3=> ?_;refine⟨σ',P6.cons hb (d5.cons (d7 (v:=.int ((8*v+(c-48):Nat):Int)) (c8.to (c8.bin (c8.bin (by tm_at "e") (by tm_at "e") (eT (by decide) (jL (by simpa using hvs)))) (W2 (by tm_at "e") (by tm_at "e") (HC (by decide) ha.1) ⟨rfl,rfl⟩) (cS _ _)) ?_) (by decide) (by decide) rfl) d5.nil) x1,x2,x3⟩;rw[CQ ha.1];congr 2<;>omega
noncomputable def K6:List V->R V:=CN fun t l=>
  if t.length<=3/\t.all k8=true/\l.natAbs<1000000 then (if 255<V1 0 t then .err l else .ok (.int (V1 0 t:Nat))) else .stuck
theorem rS (hg:N6 g) (vs:List V) (hn:K6 vs≠.stuck):g8 g none D7.sc ["figures","line"] D7.body vs (K6 vs):=by
 have hlim:i0=1048576:=rfl;refine C0 (K0 hn) fun t l z2r=> ?_;subst z2r;have hc:=D9 hn;refine l5 (if_pos hc) ?_;refine n5 hc fun hl ho hline=> ?_;clear hc;refine r6 (cN hg (l:=l) t (d9.set (List.zip ["figures","line"] [.str t,.int l]) "value" (.int ((0:Nat):Int))) 0 ho (Nat.pow_pos (by decide)) hl (by tm_at "n") (by tm_at "n")) fun σ' x1 x2 x3=> ?_;have e0:d8 g none D7.sc (List.zip ["figures","line"] [.str t,.int l]) (i4 D7.body 0) (.ok (.next,d9.set (List.zip ["figures","line"] [.str t,.int l]) "value" (.int ((0:Nat):Int)))):=d7 (by tm_at "e") (by decide) (by decide) rfl;have e1:d8 g none D7.sc (d9.set (List.zip ["figures","line"] [.str t,.int l]) "value" (.int ((0:Nat):Int))) (i4 D7.body 1) (.ok (.next,σ')):=H3 (c8.name (g6 (v:=.str t) (by tm_at "n") rfl (by decide))) (w5 (by omega)) rfl x1;by_cases h:255<V1 0 t
 ·rw[if_pos h];exact g8.err rfl (d5.cons e0 (d5.cons e1 (d5.err (d8.if1 (c9 (by tm_at "e") (by simp;omega)) (d5.err (A8 (by tm_at "v") (by decide) ⟨rfl,rfl⟩ hline))))))
 ·rw[if_neg h];exact g8.ret rfl (d5.cons e0 (d5.cons e1 (d5.cons (d8.if0 (c7 (by tm_at "e") (by simp;omega)) d5.nil) (d5.ret (d8.ret (v:=.int (V1 0 t:Nat)) (by tm_at "e"))))))
noncomputable def M6 (c:Nat):Option Nat:=if 48<=c/\c<=57 then some (c-48) else if 97<=c/\c<=102 then some (c-87) else none
noncomputable def P7 (b:Nat):Nat->b9->Option Nat
 |v,[]=>some v
 |v,c::r=>match M6 c with
  |some d=>if d<b then P7 b (v*b+d) r else none
  |none=>none
noncomputable def l4 (t:b9):Nat×b9:=if ([[48,120],[48,88],[48,98],[48,66]]:List b9).contains (t.take 2) then (if ([120,88]:b9).contains (k6 t 1) then 16 else 2,(t.drop 2).map cG) else (10,t)
noncomputable def B7 (t:b9):Option Nat:=
 match P7 (l4 t).1 0 (l4 t).2 with
 |some v=>if (l4 t).2=[]\/((l4 t).1=10/\1<(l4 t).2.length/\k6 (l4 t).2 0=48) then none else some v
 |none=>none
noncomputable abbrev lV:b9:=[48,49,50,51,52,53,54,55,56,57,97,98,99,100,101,102]
theorem gD (c:Nat):(if lV.contains c then (J4 c lV:Int) else -1)=(match M6 c with|some d=>(d:Int)|none=> -1):=by
 rcases Nat.lt_or_ge c 103 with h|h
 ·exact of_decide_eq_true (U4 103 (fun c=>decide ((if lV.contains c then (J4 c lV:Int) else -1)=(match M6 c with|some d=>(d:Int)|none=> -1))) (by decide+kernel) h)
 ·rw[show lV.contains c=false from lM (n:=103) rfl h,show M6 c=none from (if_neg (lN (by decide) h)).trans (if_neg (lN (by decide) h))];rfl
theorem HH {c d:Nat} (h:M6 c=some d):d<16:=by
 unfold M6 at h;split at h
 ·injection h with h;subst h;omega
 split at h
 ·injection h with h;subst h;omega
 ·injection h
theorem lW (hg:N6 g) {l:Int} (hline:l.natAbs<1000000) {b:Nat} (hb16:b<=16) (hb2:2<=b): ∀(r:b9) (σ:d9) (v:Nat),v<16 ^(1010-r.length)->r.length<=1000->σ.get "line"=some (.int l)->σ.get "value"=some (.int (v:Nat))->σ.get "base"=some (.int (b:Nat))-> ∀fs,σ.get "figures"=some (.str fs)->
  match P7 b v r with
  |none=>P6 g none j3.sc σ (V0 (i4 j3.body 3)) (sB (i4 j3.body 3)) (r.map fun c=>.str [c]) (.err l)
  |some u=> ∃σ',P6 g none j3.sc σ (V0 (i4 j3.body 3)) (sB (i4 j3.body 3)) (r.map fun c=>.str [c]) (.ok (.next,σ'))/\σ'.get "line"=some (.int l)/\σ'.get "value"=some (.int (u:Nat))/\σ'.get "base"=some (.int (b:Nat))/\σ'.get "figures"=some (.str fs)
 |[],σ,v,_,_,h1,h2,h3,fs,h4=>⟨σ,P6.nil,h1,h2,h3,h4⟩
 |c::r,σ,v,hv,hr,h1,h2,h3,fs,h4=>by
  rw[List.length_cons] at hv hr;have hb:s5 σ (V0 (i4 j3.body 3)) (.str [c])=.ok (σ.set "figure" (.str [c])):=rfl;have ep: ∀z:Int,z=(if lV.contains c then (J4 c lV:Int) else -1)->d8 g none j3.sc (σ.set "figure" (.str [c])) (i4 (sB (i4 j3.body 3)) 0) (.ok (.next,(σ.set "figure" (.str [c])).set "part" (.int z))):=fun z hz=>
   hz▸d7 (W2 (by tm_at "e") (by tm_at "e") (LM (by decide)) ⟨rfl,rfl⟩) (by decide) (by decide) rfl
  show(match (match M6 c with|some d=>if d<b then P7 b (v*b+d) r else none|none=>none:Option Nat) with|none=>_|some u=>_);cases hd:M6 c with
  |none=>
   refine P6.err hb (d5.cons (ep (-1) (by rw[gD,hd])) (d5.err (d8.if1 (c9 (by tm_at "e") (by simp)) (d5.err (A8 (by tm_at "v") (by decide) ⟨rfl,rfl⟩ hline)))))
  |some d=>
   have hd16:=HH hd;by_cases hdb:d<b
   ·simp only[hdb,if_true];have hv':v*b+d<16 ^(1010-r.length):=by
     have e:16 ^(1010-r.length)=16*16 ^(1010-(r.length+1)):=by rw[show 1010-r.length=(1010-(r.length+1))+1 by omega,Nat.pow_succ,Nat.mul_comm]
     rw[e];have:v*b<=v*16:=Nat.mul_le_mul_left v hb16;omega
    have hvs:v<2 ^4096:=by
     refine Nat.lt_of_lt_of_le hv (Nat.le_trans (Nat.pow_le_pow_right (by decide) (show 1010-(r.length+1)<=1024 by omega)) ?_);rw[show(16:Nat)=2 ^4 by rfl,<-Nat.pow_mul];exact Nat.pow_le_pow_right (by decide) (by decide)
    have IH:=lW hg hline hb16 hb2 r (((σ.set "figure" (.str [c])).set "part" (.int (d:Int))).set "value" (.int ((v*b+d:Nat):Int))) (v*b+d) hv' (by omega) (by tm_at "n") (by tm_at "n") (by tm_at "n") fs (by tm_at "n");have hbs:(b:Int).natAbs<2 ^64:=by
     rw[Int.natAbs_natCast];exact Nat.lt_of_le_of_lt hb16 (by decide)
    have st:d5 g none j3.sc (σ.set "figure" (.str [c])) (sB (i4 j3.body 3)) (.ok (.next,((σ.set "figure" (.str [c])).set "part" (.int (d:Int))).set "value" (.int ((v*b+d:Nat):Int)))):=
     d5.cons (ep (d:Int) (by rw[gD,hd])) (d5.cons (d8.if0 (c7 (by tm_at "e") (by simp;omega)) d5.nil)
      (d5.cons (d7 (v:=.int ((v*b+d:Nat):Int)) (c8.to (c8.bin (c8.bin (by tm_at "e") (by tm_at "e") (eT (by rw[Int.natAbs_natCast];exact hvs) (jL hbs))) (by tm_at "e") (cS _ _)) (by congr 2)) (by decide) (by decide) rfl) d5.nil))
    cases hh:P7 b (v*b+d) r with
    |none=>rw[hh] at IH;exact P6.cons hb st IH
    |some u=>
     rw[hh] at IH;refine e8 IH fun σ' y1 y2=> ?_;clear IH;exact⟨σ',P6.cons hb st y1,y2⟩
   ·simp only[hdb,if_false];refine P6.err hb (d5.cons (ep (d:Int) (by rw[gD,hd])) (d5.err (d8.if1 (c9 (by tm_at "e") (by simp;omega)) (d5.err (A8 (by tm_at "v") (by decide) ⟨rfl,rfl⟩ hline)))))
noncomputable def x9:List V->R V:=CN fun t l=>
  if t.length<=1000/\j6 t=true/\l.natAbs<1000000 then (match B7 t with|some v=>.ok (.int (v:Nat))|none=>.err l) else .stuck
theorem rT (hg:N6 g) (hlen:g.fn "len"=none) (vs:List V) (hn:x9 vs≠.stuck):g8 g none j3.sc ["text","line"] j3.body vs (x9 vs):=by
 have hlim:i0=1048576:=rfl;refine C0 (K0 hn) fun t l z1r=> ?_;subst z1r;have hc:=D9 hn;refine l5 (if_pos hc) ?_;refine n5 hc fun hl hasc hline=> ?_;clear hc;have hs2:j9 t none (some 2)=t.take 2:=jJ (b:=2);have e01: ∃YU wL,d8 g none j3.sc (List.zip ["text","line"] [.str t,.int l]) (i4 j3.body 0) (.ok (.next,YU))/\d8 g none j3.sc YU (i4 j3.body 1) (.ok (.next,wL))/\wL.get "line"=some (.int l)/\wL.get "base"=some (.int ((l4 t).1:Nat))/\wL.get "figures"=some (.str (l4 t).2):=by
  have e0:d8 g none j3.sc (List.zip ["text","line"] [.str t,.int l]) (i4 j3.body 0) (.ok (.next,d9.set (d9.set (List.zip ["text","line"] [.str t,.int l]) "base" (.int 10)) "figures" (.str t))):=
   i7 (by tm_at "e") rfl (by decide) rfl
  have g1:(d9.set (d9.set (List.zip ["text","line"] [.str t,.int l]) "base" (.int 10)) "figures" (.str t)).get "text"=some (.str t):=by tm_at "n"
  have hcond:c8 g j3.sc (d9.set (d9.set (List.zip ["text","line"] [.str t,.int l]) "base" (.int 10)) "figures" (.str t)) true (sE (i4 j3.body 1)) (.ok (.bool (([[48,120],[48,88],[48,98],[48,66]]:List b9).contains (t.take 2)))):=
   e9 (u:=.tup [.str [48,120],.str [48,88],.str [48,98],.str [48,66]]) (hs2▸c8.slice (by tm_at "v") (by tm_at "e") (by tm_at "e") (by omega)) (by tm_at "e") (QC (l:=[[48,120],[48,88],[48,98],[48,66]]) (by decide)) rfl
  unfold l4;cases hb:([[48,120],[48,88],[48,98],[48,66]]:List b9).contains (t.take 2) with
  |false=>
   rw[hb] at hcond;rw[if_neg (by decide)];exact⟨_,_,e0,d8.if0 hcond d5.nil,by tm_at "n",by tm_at "n",by tm_at "n"⟩
  |true=>
   rw[hb] at hcond;rw[if_pos rfl];have h2:2<=t.length:=by
    rcases t with _|⟨a,_|⟨b,r⟩⟩
    ·exact absurd hb (by decide)
    ·exfalso;simp at hb
    ·simp
   have hd2:j9 t (some 2) none=t.drop 2:=jI (a:=2) h2;have hasc2:j6 (t.drop 2)=true:=by
    unfold j6 at hasc ⊢;rw[List.all_eq_true] at hasc ⊢;exact fun x hx=>hasc x (List.mem_of_mem_drop hx)
   refine⟨_,_,e0,d8.if1 hcond (d5.cons (i7 (vs:=[.int (if ([120,88]:b9).contains (k6 t 1) then 16 else 2),.str ((t.drop 2).map cG)]) (v5.cons (c8.to (by tm_at "e") ?_) (v5.cons (fX (v:=.str (t.drop 2)) (hd2▸c8.slice (by tm_at "v") (by tm_at "e") (by tm_at "e") (by omega)) (HA (by simp;omega) hasc2) ⟨rfl,rfl⟩) v5.nil)) rfl (by decide) rfl) d5.nil),by tm_at "n",?_,by tm_at "n"⟩
   ·cases ([120,88]:b9).contains (k6 t 1)<;>rfl
   ·have:((((d9.set (d9.set (List.zip ["text","line"] [.str t,.int l]) "base" (.int 10)) "figures" (.str t))).set "base" (.int (if ([120,88]:b9).contains (k6 t 1) then 16 else 2))).set "figures" (.str ((t.drop 2).map cG))).get "base"=some (.int (if ([120,88]:b9).contains (k6 t 1) then 16 else 2)):=by tm_at "n"
    refine Eq.trans this ?_;cases ([120,88]:b9).contains (k6 t 1)<;>rfl
 refine iK e01 fun YU wL e0 e1 g1 g2 g3=> ?_;clear e01;have hb:(l4 t).1<=16/\2<=(l4 t).1:=by
  unfold l4;split
  ·dsimp only;split<;>omega
  ·dsimp only;omega
 have hfl:(l4 t).2.length<=t.length:=by
  unfold l4;split<;>simp
 have e2:d8 g none j3.sc wL (i4 j3.body 2) (.ok (.next,wL.set "value" (.int ((0:Nat):Int)))):=d7 (by tm_at "e") (by decide) (by decide) rfl;have L:=lW hg hline hb.1 hb.2 (l4 t).2 (wL.set "value" (.int ((0:Nat):Int))) 0 (Nat.pow_pos (by decide)) (by omega) (by tm_at "n") (by tm_at "n") (by tm_at "n") (l4 t).2 (by tm_at "n");have hsz:(l4 t).2.length<=i0:=by omega
 unfold B7;cases hh:P7 (l4 t).1 0 (l4 t).2 with
 |none=>
  rw[hh] at L;exact g8.err rfl (d5.cons e0 (d5.cons e1 (d5.cons e2 (d5.err (H3 (by tm_at "e") (w5 hsz) rfl L)))))
 |some v=>
  rw[hh] at L;refine DU L fun σ' x1 x2 x3 x4 x5=> ?_;clear L;have e3:d8 g none j3.sc (wL.set "value" (.int ((0:Nat):Int))) (i4 j3.body 3) (.ok (.next,σ')):=H3 (by tm_at "e") (w5 hsz) rfl x1;generalize (l4 t).2=fs at*;generalize (l4 t).1=b at*;have hf0:k6 fs 0=48↔k6 fs 0=48:=Iff.rfl;have hcond:c8 g j3.sc σ' true (sE (i4 j3.body 4)) (.ok (.bool (decide (fs=[]\/(b=10/\1<fs.length/\k6 fs 0=48))))):=by
   by_cases h0:fs=[]
   ·refine c8.to (C1 (Z9.cons (b1:=true) (b2:=true) (c9 (by tm_at "e") (by simp[h0])) fun h=>by injection h)) (by simp[h0])
   ·by_cases h1:1<fs.length
    ·refine c8.to (C1 (Z9.cons (by tm_at "e") fun Z=>Z9.one (j2 (I9.cons (by tm_at "e") fun Z=>I9.cons (by tm_at "e") fun Z=>I9.one (by tm_at "e"))))) ?_;rw[show(fs==[])=false by simp[h0],show decide ((1:Int)<(fs.length:Int))=true by simp;omega];simp[h0,h1];rw[show((b:Int)==10)=decide (b=10) by
      rw[Bool.eq_iff_iff];simp;omega]
     by_cases hb10:b=10<;>by_cases hc0:k6 fs 0=48<;>simp[hb10,hc0]
    ·refine c8.to (C1 (Z9.cons (by tm_at "e") fun Z=>Z9.one (j2 (I9.cons (by tm_at "e") fun Z=>I9.cons (b1:=false) (b2:=true) (c7 (by tm_at "e") (by simp;omega)) fun h=>by injection h)))) ?_;rw[show(fs==[])=false by simp[h0]];simp[h0,h1]
  by_cases hq:fs=[]\/(b=10/\1<fs.length/\k6 fs 0=48)
  ·rw[decide_eq_true hq] at hcond;show g8 g none _ _ _ _ (match (if fs=[]\/(b=10/\1<fs.length/\k6 fs 0=48) then none else some v:Option Nat) with|some v=>.ok (.int (v:Nat))|none=>.err l);rw[if_pos hq];exact g8.err rfl (d5.cons e0 (d5.cons e1 (d5.cons e2 (d5.cons e3 (d5.err (d8.if1 hcond (d5.err (A8 (by tm_at "v") (by decide) ⟨rfl,rfl⟩ hline))))))))
  ·rw[decide_eq_false hq] at hcond;show g8 g none _ _ _ _ (match (if fs=[]\/(b=10/\1<fs.length/\k6 fs 0=48) then none else some v:Option Nat) with|some v=>.ok (.int (v:Nat))|none=>.err l);rw[if_neg hq];exact g8.ret rfl (d5.cons e0 (d5.cons e1 (d5.cons e2 (d5.cons e3 (d5.cons (d8.if0 hcond d5.nil) (d5.ret (d8.ret (v:=.int (v:Nat)) (by tm_at "e"))))))))
end
theorem CR {l:List Int} (h:l.length<=i0) (h': ∀n∈l,0<=n/\n<256):fH "bytes" [.olist (l.map V.int)]=.ok (.bytes l):=by
 rw[uR];show needR (J3 (l.map V.int)) _=_;rw[bD];exact if_pos ⟨h,by rw[List.all_eq_true];exact fun n hn=>decide_eq_true (h' n hn)⟩
theorem S0 {t:b9} {a b:Nat}:j9 t (some (a:Int)) (some (b:Int))=(t.drop a).take (b-a):=by
 unfold j9 AV P4;dsimp only;rw[if_neg (by omega),if_neg (by omega)];simp only[Int.toNat_natCast];rw[List.drop_take];rcases Nat.le_total a t.length with h|h
 ·rw[Nat.min_eq_left h];rcases Nat.le_total b t.length with h'|h'
  ·rw[Nat.min_eq_left h']
  ·rw[Nat.min_eq_right h',List.take_of_length_le (by simp),List.take_of_length_le (by simp;omega)]
 ·rw[Nat.min_eq_right h,List.drop_eq_nil_of_le (Nat.le_refl _),List.drop_eq_nil_of_le h];simp
noncomputable def yA (c:Nat):Option Nat:=if c=110 then some 10 else if c=116 then some 9 else if c=114 then some 13 else if c=92 then some 92 else if c=39 then some 39 else if c=34 then some 34 else none
inductive fJ:b9->Option (List Nat)->Prop
 |nil:fJ [] (some [])
 |plain {c:Nat} {r:b9} {x:Option (List Nat)}:c≠92->fJ r x->fJ (c::r) (x.map (c:: ·))
 |bsEnd:fJ [92] none
 |hexBad {r:b9}:(r.length<2\/B7 (48::120::r.take 2)=none)->fJ (92::120::r) none
 |hex {r:b9} {v:Nat} {x:Option (List Nat)}:2<=r.length->B7 (48::120::r.take 2)=some v->fJ (r.drop 2) x->fJ (92::120::r) (x.map (v:: ·))
 |octBad {d:Nat} {r:b9}:k8 d=true->255<V1 0 (((d::r).take 3).takeWhile k8)->fJ (92::d::r) none
 |oct {d:Nat} {r:b9} {x:Option (List Nat)}:k8 d=true->V1 0 (((d::r).take 3).takeWhile k8)<=255->fJ ((d::r).drop (((d::r).take 3).takeWhile k8).length) x->fJ (92::d::r) (x.map (V1 0 (((d::r).take 3).takeWhile k8):: ·))
 |escBad {d:Nat} {r:b9}:d≠120->k8 d=false->yA d=none->fJ (92::d::r) none
 |esc {d v:Nat} {r:b9} {x:Option (List Nat)}:d≠120->k8 d=false->yA d=some v->fJ r x->fJ (92::d::r) (x.map (v:: ·))
theorem fJ.ex: ∀(n:Nat) (s:b9),s.length<=n-> ∃x,fJ s x
 |_,[],_=>⟨_,.nil⟩
 |0,c::r,h=>by simp at h
 |n+1,c::r,h=>by
  rw[List.length_cons] at h;by_cases hc:c=92
  case neg=>refine d6 (fJ.ex n r (by omega)) fun x hx=> ?_;exact⟨_,.plain hc hx⟩
  subst hc;rcases r with _|⟨d,r⟩
  ·exact⟨_,.bsEnd⟩
  rw[List.length_cons] at h;by_cases hd:d=120
  ·subst hd;by_cases h2:r.length<2
   ·exact⟨_,.hexBad (.inl h2)⟩
   cases hv:B7 (48::120::r.take 2) with
   |none=>exact⟨_,.hexBad (.inr hv)⟩
   |some v=>refine d6 (fJ.ex n (r.drop 2) (by simp;omega)) fun x hx=> ?_;exact⟨_,.hex (by omega) hv hx⟩
  cases ho:k8 d with
  |true=>
   by_cases hv:255<V1 0 (((d::r).take 3).takeWhile k8)
   ·exact⟨_,.octBad ho hv⟩
   ·refine d6 (fJ.ex n ((d::r).drop (((d::r).take 3).takeWhile k8).length) (by simp;omega)) fun x hx=> ?_;exact⟨_,.oct ho (by omega) hx⟩
  |false=>
   cases he:yA d with
   |none=>exact⟨_,.escBad hd ho he⟩
   |some v=>refine d6 (fJ.ex n r (by omega)) fun x hx=> ?_;exact⟨_,.esc hd ho he hx⟩
noncomputable def Q6 (s:b9):Option (List Nat):=Classical.choose (fJ.ex s.length s (Nat.le_refl _))
theorem L3 (s:b9):fJ s (Q6 s):=Classical.choose_spec (fJ.ex s.length s (Nat.le_refl _))
noncomputable def RP (q:Nat):Prop:=q=34\/q=39
section
variable {g:G} {t:b9}
theorem uY {q:Nat} (hq:RP q) {b:Nat}: ∀(r:b9) (v:Nat),P7 b v (r++[q])=none
 |[],v=>by
  have:M6 q=none:=by rcases hq with rfl|rfl<;>rfl
  show(match M6 q with|some d=>if d<b then P7 b (v*b+d) [] else none|none=>none)=none;rw[this]
 |c::r,v=>by
  show(match M6 c with|some d=>if d<b then P7 b (v*b+d) (r++[q]) else none|none=>none)=none;cases M6 c with
  |none=>rfl
  |some d=>
   dsimp only;split
   ·exact uY hq r _
   ·rfl
theorem uZ (r:b9):l4 (48::120::r)=(16,r.map cG):=by
 unfold l4;rw[if_pos (by rfl)];rfl
theorem LS {q:Nat} (hq:RP q) (r:b9):B7 (48::120::(r++[q]))=none:=by
 unfold B7;rw[uZ];have hl:cG q=q:=by rcases hq with rfl|rfl<;>rfl
 rw[List.map_append,List.map_cons,List.map_nil,hl];dsimp only;rw[uY hq]
theorem zZ {b:Nat}: ∀(r:b9) (v u:Nat),P7 b v r=some u->u<(v+1)*b ^r.length
 |[],v,u,h=>by injection h with h;subst h;simp
 |c::r,v,u,h=>by
  have h:(match M6 c with|some d=>if d<b then P7 b (v*b+d) r else none|none=>none)=some u:=h;cases hd:M6 c with
  |none=>rw[hd] at h;injection h
  |some d=>
   rw[hd] at h;dsimp only at h;split at h
   ·rename_i hdb;have:=zZ r _ _ h;refine Nat.lt_of_lt_of_le this ?_;rw[List.length_cons,Nat.pow_succ,Nat.mul_comm (b ^r.length) b,<-Nat.mul_assoc];refine Nat.mul_le_mul_right _ ?_;rw[Nat.add_mul];omega
   ·injection h
theorem QD {r:b9} {v:Nat} (h:B7 (48::120::r.take 2)=some v):v<=255:=by
 unfold B7 at h;rw[uZ] at h;dsimp only at h;cases hh:P7 16 0 ((r.take 2).map cG) with
 |none=>rw[hh] at h;injection h
 |some u=>
  rw[hh] at h;dsimp only at h;split at h
  ·injection h
  ·cases h;have:=zZ _ _ _ hh;rw[List.length_map,Nat.zero_add,Nat.one_mul] at this;have h2:(r.take 2).length<=2:=by simp;omega
   have:v<16 ^2:=Nat.lt_of_lt_of_le this (Nat.pow_le_pow_right (by decide) h2);omega
theorem g7 {T:b9} {p c:Nat} {r:b9} (h:T.drop p=c::r):p<T.length/\k6 T p=c/\T.drop (p+1)=r:=by
 have hp:p<T.length:=by
  rcases Nat.lt_or_ge p T.length with z|z
  ·exact z
  ·rw[List.drop_eq_nil_of_le z] at h;injection h
 rw[C2 hp] at h;injection h with h1 h2;exact⟨hp,h1,h2⟩
theorem V2 {q:Nat} (hq:k8 q=false): ∀(n:Nat) (s:b9),((s++[q]).take n).takeWhile k8=(s.take n).takeWhile k8
 |0,s=>by simp
 |n+1,[]=>by simp[hq]
 |n+1,c::r=>by
  simp only[List.cons_append,List.take_succ_cons,List.takeWhile_cons];rw[V2 hq n r]
theorem jM {p:Nat->Bool}: ∀(n:Nat) (s:b9),s.take ((s.take n).takeWhile p).length=(s.take n).takeWhile p
 |0,s=>by simp
 |n+1,[]=>by simp
 |n+1,c::r=>by
  simp only[List.take_succ_cons,List.takeWhile_cons];cases p c with
  |false=>rfl
  |true=>simp only[if_true,List.length_cons,List.take_succ_cons];rw[jM n r]
theorem bH (d:Nat):(([([110],10),([116],9),([114],13),([92],92),([39],39),([34],34)]:List (b9×Int)).lookup [d])=(yA d).map fun v=>(v:Int):=by
 unfold yA;by_cases h1:d=110; · subst h1;rfl
 by_cases h2:d=116; · subst h2;rfl
 by_cases h3:d=114; · subst h3;rfl
 by_cases h4:d=92; · subst h4;rfl
 by_cases h5:d=39; · subst h5;rfl
 by_cases h6:d=34; · subst h6;rfl
 rw[if_neg h1,if_neg h2,if_neg h3,if_neg h4,if_neg h5,if_neg h6];have e: ∀k:Nat,d≠k->(([d]:b9)==[k])=false:=fun k h=>by simp[h]
 simp only[List.lookup_cons,List.lookup_nil,e _ h1,e _ h2,e _ h3,e _ h4,e _ h5,e _ h6,Option.map_none];rfl
theorem N7 {a:b9} {kvs:List (b9×Int)}:w8 .NotIn (.str a) (.dict kvs)=.ok (!(kvs.lookup a).isSome):=JX a kvs
theorem lX {a:b9} {kvs:List (b9×Int)} {i:Int} (h:kvs.lookup a=some i):P1 (.dict kvs) (.str a)=.ok (.int i):=by
 show needR (kvs.lookup a) _=_;rw[h];rfl
noncomputable def yB (g:G) (T:b9) (l:Int) (σ:d9) (acc:List Int):Option (List Nat)->Prop
 |none=>d8 g (some "found") r7.sc σ (i4 r7.body 1) (.err l)\/ ∃(σ':d9) (p':Nat),d8 g (some "found") r7.sc σ (i4 r7.body 1) (.ok (.next,σ'))/\σ'.get "place"=some (.int (p':Nat))/\σ'.get "end"=some (.int ((T.length:Int)-1))/\σ'.get "line"=some (.int l)/\(p':Int)≠(T.length:Int)-1
 |some v=> ∃(σ':d9),d8 g (some "found") r7.sc σ (i4 r7.body 1) (.ok (.next,σ'))/\σ'.get "found"=some (.olist ((acc++v.map fun(n:Nat)=>(n:Int)).map .int))/\σ'.get "place"=some (.int ((T.length:Int)-1))/\σ'.get "end"=some (.int ((T.length:Int)-1))/\σ'.get "line"=some (.int l)
theorem eU {T:b9} {l:Int} {σ σ2:d9} {acc:List Int} {x:Option (List Nat)} {v:Nat} (step: ∀{u:R (Fl×d9)},d8 g (some "found") r7.sc σ2 (i4 r7.body 1) u->d8 g (some "found") r7.sc σ (i4 r7.body 1) u)
  (h:yB g T l σ2 (acc++[(v:Int)]) x):yB g T l σ acc (x.map (v:: ·)):=by
 cases x with
 |none=>
  rcases h with h|⟨σ',p',h,r⟩
  ·exact .inl (step h)
  ·exact .inr ⟨σ',p',step h,r⟩
 |some w=>
  refine r6 h fun σ' h h2 r=> ?_;refine⟨σ',step h,?_,r⟩;rw[h2];simp
set_option maxHeartbeats 4000000 in
theorem vA (hg:N6 g) (hlen:g.fn "len"=none) (hord:g.fn "ord"=none) (hw:g.fn "whole_of"=some x9) (hoe:g.fn "octal_end"=some H7) (hoo:g.fn "octal_of"=some K6) {T:b9} (hl:T.length<=1000) (hasc:j6 T=true) {q:Nat} (hq:RP q) {l:Int} (hline:l.natAbs<1000000)
  {s:b9} {x:Option (List Nat)} (O:fJ s x): ∀(σ:d9) (p:Nat) (acc:List Int),T.drop p=s++[q]->acc.length<=p->σ.get "text"=some (.str T)->σ.get "found"=some (.olist (acc.map .int))->σ.get "place"=some (.int (p:Nat))->σ.get "end"=some (.int ((T.length:Int)-1))->σ.get "line"=some (.int l)->
  yB g T l σ acc x:=by
 have hlim:i0=1048576:=rfl;have hqo:k8 q=false:=by rcases hq with rfl|rfl<;>rfl
 induction O with
 |nil=>
  intro σ p acc hT ha h1 h2 h3 h4 h5;refine n5 (g7 hT) fun hp Z hd=> ?_;have hpe:(p:Int)=(T.length:Int)-1:=by
   have:=congrArg List.length hT;rw[List.length_drop] at this;simp at this;omega
  refine⟨σ,h7 (c7 (by tm_at "e") (by simp;omega)),by rw[h2];simp,by rw[h3,hpe],h4,h5⟩
 | @plain c r x hc O ih=>
  intro σ p acc hT ha h1 h2 h3 h4 h5;refine n5 (g7 hT) fun hp hch hd=> ?_;have hlt:(p:Int)+1<(T.length:Int):=by
   have:=congrArg List.length hT;rw[List.length_drop] at this;simp at this;omega
  refine eU (σ2:=((σ.set "letter" (.str [k6 T p])).set "found" (.olist (acc.map .int++[.int (k6 T p:Nat)]))).set "place" (.int ((p+1:Nat):Int))) (fun h=>i3 (c9 (by tm_at "e") (by simp;omega)) (d5.cons (d7 (by tm_at "e") (by decide) (by decide) rfl)
   (d5.cons (d8.if1 (c9 (by tm_at "e") (by simp[hch,hc])) (d5.cons (d8.append (vs:=acc.map .int) (by tm_at "e") (by tm_at "v") (by decide) rfl (by simp;omega)) (d5.cons (M3 (v:=.int 1) (by tm_at "e") (c8.name (g6 (v:=.int (p:Nat)) (by tm_at "n") rfl (by decide))) (by decide) rfl rfl) d5.nil))) d5.nil)) h) ?_
  have:=ih (((σ.set "letter" (.str [k6 T p])).set "found" (.olist (acc.map .int++[.int (k6 T p:Nat)]))).set "place" (.int ((p+1:Nat):Int))) (p+1) (acc++[(c:Int)]) hd (by simp;omega) (by tm_at "n") (by rw[hch,List.map_append];tm_at "n") (by tm_at "n") (by tm_at "n") (by tm_at "n");exact this
 |bsEnd=>
  intro σ p acc hT ha h1 h2 h3 h4 h5;refine n5 (g7 hT) fun hp hch hd=> ?_;refine n5 (g7 hd) fun hp1 hch1 hd1=> ?_;have hlen2:p+2=T.length:=by
   have:=congrArg List.length hT;rw[List.length_drop] at this;simp at this;omega
  have he:yA q=some q:=by rcases hq with rfl|rfl<;>rfl
  have hlk:=bH (k6 T (p+1));rw[hch1,he] at hlk;have hqx:k6 T (p+1)≠120:=by rw[hch1];rcases hq with rfl|rfl<;>decide
  refine .inr ⟨((σ.set "letter" (.str [k6 T p])).set "found" (.olist (acc.map .int++[.int (q:Nat)]))).set "place" (.int ((p+2:Nat):Int)),p+2,i3 (c9 (by tm_at "e") (by simp;omega)) (d5.cons (d7 (by tm_at "e") (by decide) (by decide) rfl)
   (d5.cons (d8.if0 (c7 (by tm_at "e") (by simp[hch])) (d5.cons (d8.if0 (c7 (by tm_at "e") (by simp[hqx])) (d5.cons (d8.if0 (c7 (e9 (by tm_at "e") (by tm_at "e") (in_str (by decide)) rfl) (by rw[hch1];exact hqo))
    (d5.cons (d8.if0 (c7 (e9 (by tm_at "e") (by tm_at "e") N7 rfl) (by rw[hch1,hlk];rfl)) d5.nil) (d5.cons (d8.append (vs:=acc.map .int) (v:=.int (q:Nat)) (G5 (by tm_at "v") (by tm_at "e") (lX (by rw[hch1];exact hlk)) rfl) (by tm_at "v") (by decide) rfl (by simp;omega))
     (d5.cons (M3 (v:=.int 2) (by tm_at "e") (c8.name (g6 (v:=.int (p:Nat)) (by tm_at "n") rfl (by decide))) (by decide) rfl rfl) d5.nil)))) d5.nil)) d5.nil)) d5.nil)) (h7 (c7 (by tm_at "e") (by simp;omega))),by tm_at "n",by tm_at "n",by tm_at "n",by omega⟩
 | @hexBad r hbad=>
  intro σ p acc hT ha h1 h2 h3 h4 h5;refine n5 (g7 hT) fun hp hch hd=> ?_;refine n5 (g7 hd) fun hp1 hch1 hd1=> ?_;have hll:p+r.length+3=T.length:=by
   have:=congrArg List.length hT;rw[List.length_drop] at this;simp at this;omega
  have hnum:B7 ([48,120]++(T.drop (p+2)).take 2)=none:=by
   rw[show T.drop (p+2)=r++[q] from hd1];by_cases h2:r.length<2
   ·rw[List.take_of_length_le (by simp;omega)];exact LS hq r
   ·rcases hbad with z|z
    ·exact absurd z h2
    ·rw[List.take_append_of_le_length (by omega)];exact z
  have hF:x9 [.str ([48,120]++(T.drop (p+2)).take 2),.int l]=.err l:=by
   show(if _ then _ else _)=_;have hasc':j6 ([48,120]++(T.drop (p+2)).take 2)=true:=by
    unfold j6 at hasc ⊢;rw[List.all_eq_true] at hasc ⊢;intro x hx;rcases List.mem_append.mp hx with z|z
    ·rcases List.mem_cons.mp z with rfl|z
     ·rfl
     ·rcases List.mem_singleton.mp z with rfl;rfl
    ·exact hasc x (List.mem_of_mem_drop (List.mem_of_mem_take z))
   rw[if_pos ⟨by simp;omega,hasc',hline⟩,hnum]
  have hsl:j9 T (some ((p+2:Nat):Int)) (some ((p+4:Nat):Int))=(T.drop (p+2)).take 2:=by rw[S0,show p+4-(p+2)=2 by omega]
  refine .inl (K5 (c9 (by tm_at "e") (by simp;omega)) (d5.cons (d7 (by tm_at "e") (by decide) (by decide) rfl)
   (d5.err (d8.if0 (c7 (by tm_at "e") (by simp[hch])) (d5.err (d8.if1 (c9 (by tm_at "e") (by simp[hch1])) (d5.err (hZ (c8.call (v5.cons (c8.bin (by tm_at "e") (hsl▸c8.slice (by tm_at "v") (by tm_at "e") (by tm_at "e") (by omega)) (add_str (by simp;omega))) (v5.cons (by tm_at "e") v5.nil)) hw hF rfl rfl rfl) (by tm_at "v") (by decide)))))))))
 | @hex r v x h2l hv O ih=>
  intro σ p acc hT ha h1 h2 h3 h4 h5;refine n5 (g7 hT) fun hp hch hd=> ?_;refine n5 (g7 hd) fun hp1 hch1 hd1=> ?_;have hll:p+r.length+3=T.length:=by
   have:=congrArg List.length hT;rw[List.length_drop] at this;simp at this;omega
  have hnum:B7 ([48,120]++(T.drop (p+2)).take 2)=some v:=by
   rw[show T.drop (p+2)=r++[q] from hd1,List.take_append_of_le_length (by omega)];exact hv
  have hF:x9 [.str ([48,120]++(T.drop (p+2)).take 2),.int l]=.ok (.int (v:Nat)):=by
   show(if _ then _ else _)=_;have hasc':j6 ([48,120]++(T.drop (p+2)).take 2)=true:=by
    unfold j6 at hasc ⊢;rw[List.all_eq_true] at hasc ⊢;intro x hx;rcases List.mem_append.mp hx with z|z
    ·rcases List.mem_cons.mp z with rfl|z
     ·rfl
     ·rcases List.mem_singleton.mp z with rfl;rfl
    ·exact hasc x (List.mem_of_mem_drop (List.mem_of_mem_take z))
   rw[if_pos ⟨by simp;omega,hasc',hline⟩,hnum]
  have hsl:j9 T (some ((p+2:Nat):Int)) (some ((p+4:Nat):Int))=(T.drop (p+2)).take 2:=by rw[S0,show p+4-(p+2)=2 by omega]
  have hd4:T.drop (p+4)=r.drop 2++[q]:=by
   rw[show p+4=p+1+1+2 by omega,<-List.drop_drop,hd1];exact List.drop_append_of_le_length (l₂:=[q]) (by omega)
  refine eU (σ2:=((σ.set "letter" (.str [k6 T p])).set "found" (.olist (acc.map .int++[.int (v:Nat)]))).set "place" (.int ((p+4:Nat):Int))) (fun h=>i3 (c9 (by tm_at "e") (by simp;omega)) (d5.cons (d7 (by tm_at "e") (by decide) (by decide) rfl)
   (d5.cons (d8.if0 (c7 (by tm_at "e") (by simp[hch])) (d5.cons (d8.if1 (c9 (by tm_at "e") (by simp[hch1])) (d5.cons (d8.append (vs:=acc.map .int) (c8.call (v5.cons (c8.bin (by tm_at "e") (hsl▸c8.slice (by tm_at "v") (by tm_at "e") (by tm_at "e") (by omega)) (add_str (by simp;omega))) (v5.cons (by tm_at "e") v5.nil)) hw hF rfl rfl rfl) (by tm_at "v") (by decide) rfl (by simp;omega))
    (d5.cons (M3 (v:=.int 4) (by tm_at "e") (c8.name (g6 (v:=.int (p:Nat)) (by tm_at "n") rfl (by decide))) (by decide) rfl rfl) d5.nil))) d5.nil)) d5.nil)) h) ?_
  have:=ih (((σ.set "letter" (.str [k6 T p])).set "found" (.olist (acc.map .int++[.int (v:Nat)]))).set "place" (.int ((p+4:Nat):Int))) (p+4) (acc++[(v:Int)]) hd4 (by simp;omega) (by tm_at "n") (by rw[List.map_append];tm_at "n") (by tm_at "n") (by tm_at "n") (by tm_at "n");exact this
 | @octBad d r ho hv=>
  intro σ p acc hT ha h1 h2 h3 h4 h5;refine n5 (g7 hT) fun hp hch hd=> ?_;refine n5 (g7 hd) fun hp1 hch1 hd1=> ?_;have hll:p+r.length+3=T.length:=by
   have:=congrArg List.length hT;rw[List.length_drop] at this;simp at this;omega
  have htw:((T.drop (p+1)).take 3).takeWhile k8=((d::r).take 3).takeWhile k8:=by rw[hd];exact V2 hqo 3 (d::r)
  have hn3:(((d::r).take 3).takeWhile k8).length<=3:=Nat.le_trans (List.takeWhile_sublist k8).length_le (by simp;omega);generalize hw':((d::r).take 3).takeWhile k8=w at*;have hoc:w.all k8=true:=by rw[<-hw',List.all_takeWhile]
  have hF1:H7 [.str T,.int ((p+1:Nat):Int)]=.ok (.int ((p+1+w.length:Nat):Int)):=by
   show(if _ then _ else _)=_;rw[if_pos ⟨by omega,by omega⟩,show((p+1:Nat):Int).toNat=p+1 from rfl,htw];rfl
  have hsl:j9 T (some ((p+1:Nat):Int)) (some ((p+1+w.length:Nat):Int))=w:=by
   rw[S0,show p+1+w.length-(p+1)=w.length by omega,<-htw];exact jM 3 _
  have hF2:K6 [.str w,.int l]=.err l:=by
   show(if _ then _ else _)=_;rw[if_pos ⟨hn3,hoc,hline⟩,if_pos hv]
  have hqx:k6 T (p+1)≠120:=by rw[hch1];intro z;rw[z] at ho;exact absurd ho (by decide)
  refine .inl (K5 (c9 (by tm_at "e") (by simp;omega)) (d5.cons (d7 (by tm_at "e") (by decide) (by decide) rfl)
   (d5.err (d8.if0 (c7 (by tm_at "e") (by simp[hch])) (d5.err (d8.if0 (c7 (by tm_at "e") (by simp[hqx])) (d5.err (d8.if1 (c9 (e9 (by tm_at "e") (by tm_at "e") (in_str (by decide)) rfl) (by rw[hch1];exact ho))
    (d5.cons (d7 (v:=.int ((p+1+w.length:Nat):Int)) (by tm_at "e") (by decide) (by decide) rfl) (d5.err (hZ (c8.call (v5.cons (hsl▸c8.slice (li:=some ((p+1:Nat):Int)) (hj:=some ((p+1+w.length:Nat):Int)) (by tm_at "v") (by tm_at "e") (by tm_at "e") (by omega)) (v5.cons (by tm_at "e") v5.nil)) hoo hF2 rfl rfl rfl) (by tm_at "v") (by decide))))))))))))
 | @oct d r x ho hv O ih=>
  intro σ p acc hT ha h1 h2 h3 h4 h5;refine n5 (g7 hT) fun hp hch hd=> ?_;refine n5 (g7 hd) fun hp1 hch1 hd1=> ?_;have hll:p+r.length+3=T.length:=by
   have:=congrArg List.length hT;rw[List.length_drop] at this;simp at this;omega
  have htw:((T.drop (p+1)).take 3).takeWhile k8=((d::r).take 3).takeWhile k8:=by rw[hd];exact V2 hqo 3 (d::r)
  have hn3:(((d::r).take 3).takeWhile k8).length<=3:=Nat.le_trans (List.takeWhile_sublist k8).length_le (by simp;omega);have hnr:(((d::r).take 3).takeWhile k8).length<=r.length+1:=Nat.le_trans (List.takeWhile_sublist k8).length_le (by simp;omega);generalize hw':((d::r).take 3).takeWhile k8=w at*;have hoc:w.all k8=true:=by rw[<-hw',List.all_takeWhile]
  have hF1:H7 [.str T,.int ((p+1:Nat):Int)]=.ok (.int ((p+1+w.length:Nat):Int)):=by
   show(if _ then _ else _)=_;rw[if_pos ⟨by omega,by omega⟩,show((p+1:Nat):Int).toNat=p+1 from rfl,htw];rfl
  have hsl:j9 T (some ((p+1:Nat):Int)) (some ((p+1+w.length:Nat):Int))=w:=by
   rw[S0,show p+1+w.length-(p+1)=w.length by omega,<-htw];exact jM 3 _
  have hF2:K6 [.str w,.int l]=.ok (.int (V1 0 w:Nat)):=by
   show(if _ then _ else _)=_;rw[if_pos ⟨hn3,hoc,hline⟩,if_neg (by omega)]
  have hqx:k6 T (p+1)≠120:=by rw[hch1];intro z;rw[z] at ho;exact absurd ho (by decide)
  have hdn:T.drop (p+1+w.length)=(d::r).drop w.length++[q]:=by
   rw[<-List.drop_drop,hd];exact List.drop_append_of_le_length (by simp;omega)
  refine eU (σ2:=(((σ.set "letter" (.str [k6 T p])).set "behind" (.int ((p+1+w.length:Nat):Int))).set "found" (.olist (acc.map .int++[.int (V1 0 w:Nat)]))).set "place" (.int ((p+1+w.length:Nat):Int))) (fun h=>i3 (c9 (by tm_at "e") (by simp;omega)) (d5.cons (d7 (by tm_at "e") (by decide) (by decide) rfl)
   (d5.cons (d8.if0 (c7 (by tm_at "e") (by simp[hch])) (d5.cons (d8.if0 (c7 (by tm_at "e") (by simp[hqx])) (d5.cons (d8.if1 (c9 (e9 (by tm_at "e") (by tm_at "e") (in_str (by decide)) rfl) (by rw[hch1];exact ho))
    (d5.cons (d7 (v:=.int ((p+1+w.length:Nat):Int)) (by tm_at "e") (by decide) (by decide) rfl) (d5.cons (d8.append (vs:=acc.map .int) (c8.call (v5.cons (hsl▸c8.slice (li:=some ((p+1:Nat):Int)) (hj:=some ((p+1+w.length:Nat):Int)) (by tm_at "v") (by tm_at "e") (by tm_at "e") (by omega)) (v5.cons (by tm_at "e") v5.nil)) hoo hF2 rfl rfl rfl) (by tm_at "v") (by decide) rfl (by simp;omega))
    (d5.cons (d7 (by tm_at "e") (by decide) (by decide) rfl) d5.nil)))) d5.nil)) d5.nil)) d5.nil)) h) ?_
  have:=ih ((((σ.set "letter" (.str [k6 T p])).set "behind" (.int ((p+1+w.length:Nat):Int))).set "found" (.olist (acc.map .int++[.int (V1 0 w:Nat)]))).set "place" (.int ((p+1+w.length:Nat):Int))) (p+1+w.length) (acc++[(V1 0 w:Int)]) hdn (by simp;omega) (by tm_at "n") (by rw[List.map_append];tm_at "n") (by tm_at "n") (by tm_at "n") (by tm_at "n");exact this
 | @escBad d r hdx ho he=>
  intro σ p acc hT ha h1 h2 h3 h4 h5;refine n5 (g7 hT) fun hp hch hd=> ?_;refine n5 (g7 hd) fun hp1 hch1 hd1=> ?_;have hll:p+r.length+3=T.length:=by
   have:=congrArg List.length hT;rw[List.length_drop] at this;simp at this;omega
  have hlk:=bH d;rw[he] at hlk;refine .inl (K5 (c9 (by tm_at "e") (by simp;omega)) (d5.cons (d7 (by tm_at "e") (by decide) (by decide) rfl)
   (d5.err (d8.if0 (c7 (by tm_at "e") (by simp[hch])) (d5.err (d8.if0 (c7 (by tm_at "e") (by simp[hch1,hdx])) (d5.err (d8.if0 (c7 (e9 (by tm_at "e") (by tm_at "e") (in_str (by decide)) rfl) (by rw[hch1];exact ho))
    (d5.err (d8.if1 (c9 (e9 (by tm_at "e") (by tm_at "e") N7 rfl) (by rw[hch1,hlk];rfl)) (d5.err (A8 (by tm_at "v") (by decide) ⟨rfl,rfl⟩ hline))))))))))))
 | @esc d v r x hdx ho he O ih=>
  intro σ p acc hT ha h1 h2 h3 h4 h5;refine n5 (g7 hT) fun hp hch hd=> ?_;refine n5 (g7 hd) fun hp1 hch1 hd1=> ?_;have hll:p+r.length+3=T.length:=by
   have:=congrArg List.length hT;rw[List.length_drop] at this;simp at this;omega
  have hlk:=bH d;rw[he] at hlk;refine eU (σ2:=((σ.set "letter" (.str [k6 T p])).set "found" (.olist (acc.map .int++[.int (v:Nat)]))).set "place" (.int ((p+2:Nat):Int))) (fun h=>i3 (c9 (by tm_at "e") (by simp;omega)) (d5.cons (d7 (by tm_at "e") (by decide) (by decide) rfl)
   (d5.cons (d8.if0 (c7 (by tm_at "e") (by simp[hch])) (d5.cons (d8.if0 (c7 (by tm_at "e") (by simp[hch1,hdx])) (d5.cons (d8.if0 (c7 (e9 (by tm_at "e") (by tm_at "e") (in_str (by decide)) rfl) (by rw[hch1];exact ho))
    (d5.cons (d8.if0 (c7 (e9 (by tm_at "e") (by tm_at "e") N7 rfl) (by rw[hch1,hlk];rfl)) d5.nil) (d5.cons (d8.append (vs:=acc.map .int) (v:=.int (v:Nat)) (G5 (by tm_at "v") (by tm_at "e") (lX (by rw[hch1];exact hlk)) rfl) (by tm_at "v") (by decide) rfl (by simp;omega))
     (d5.cons (M3 (v:=.int 2) (by tm_at "e") (c8.name (g6 (v:=.int (p:Nat)) (by tm_at "n") rfl (by decide))) (by decide) rfl rfl) d5.nil)))) d5.nil)) d5.nil)) d5.nil)) h) ?_
  have:=ih (((σ.set "letter" (.str [k6 T p])).set "found" (.olist (acc.map .int++[.int (v:Nat)]))).set "place" (.int ((p+2:Nat):Int))) (p+2) (acc++[(v:Int)]) hd1 (by simp;omega) (by tm_at "n") (by rw[List.map_append];tm_at "n") (by tm_at "n") (by tm_at "n") (by tm_at "n");exact this
end
theorem lY {b:List Int} (h:b.length<=i0) (h':0<b.length):P1 (.bytes b) (.int 0)=.ok (.int (b.getD 0 0)):=by
 show(if b.length<=i0/\(0:Int)<=0/\(0:Int)<b.length then R.ok (V.int (b.getD (0:Int).toNat 0)) else .stuck)=_;rw[if_pos ⟨h,by omega,by omega⟩];rfl
theorem len_bytes {b:List Int} (h:b.length<=i0):fH "len" [.bytes b]=.ok (.int b.length):=if_pos h
theorem fJ.lt {s:b9} {x:Option (List Nat)} (O:fJ s x):(∀c∈s,c<128)-> ∀v,x=some v-> ∀n∈v,n<256:=by
 have step: ∀{y:Option (List Nat)} {a:Nat} {v:List Nat},a<256->(∀v,y=some v-> ∀n∈v,n<256)->y.map (a:: ·)=some v-> ∀n∈v,n<256:=by
  intro y a v ha hy e;cases y with
  |none=>injection e
  |some w=>
   injection e with e;subst e;intro n hn;rcases List.mem_cons.mp hn with rfl|hn
   ·exact ha
   ·exact hy w rfl n hn
 induction O with
 |nil=>intro _ v e n hn;injection e with e;subst e;cases hn
 | @plain c r x hc O ih=>exact fun hs v e=>step (Nat.lt_trans (hs c List.mem_cons_self) (by decide)) (ih fun d hd=>hs d (List.mem_cons_of_mem _ hd)) e
 |bsEnd=>intro _ v e;injection e
 |hexBad _=>intro _ v e;injection e
 | @hex r v x h2 hv O ih=>exact fun hs w e=>step (Nat.lt_succ_of_le (QD hv)) (ih fun d hd=>hs d (List.mem_cons_of_mem _ (List.mem_cons_of_mem _ (List.mem_of_mem_drop hd)))) e
 |octBad _ _=>intro _ v e;injection e
 | @oct d r x ho hv O ih=>exact fun hs w e=>step (Nat.lt_succ_of_le hv) (ih fun d hd=>hs d (List.mem_cons_of_mem _ (List.mem_of_mem_drop hd))) e
 |escBad _ _ _=>intro _ v e;injection e
 | @esc d v r x hdx ho he O ih=>
  refine fun hs w e=>step ?_ (ih fun d hd=>hs d (List.mem_cons_of_mem _ (List.mem_cons_of_mem _ hd))) e;unfold yA at he;repeat (split at he; · injection he with he;subst he;decide)
  injection he
theorem fJ.len {s:b9} {x:Option (List Nat)} (O:fJ s x): ∀v,x=some v->v.length<=s.length:=by
 have step: ∀{y:Option (List Nat)} {a n m:Nat} {v:List Nat},(∀v,y=some v->v.length<=n)->n+1<=m->y.map (a:: ·)=some v->v.length<=m:=by
  intro y a n m v hy hn e;cases y with
  |none=>injection e
  |some w=>injection e with e;subst e;have:=hy w rfl;simp;omega
 induction O with
 |nil=>intro v e;injection e with e;subst e;simp
 |plain _ _ ih=>exact fun v e=>step ih (by simp) e
 |bsEnd=>intro v e;injection e
 |hexBad _=>intro v e;injection e
 | @hex r v x h2 hv O ih=>exact fun w e=>step ih (by first|(simp;done)|(simp;omega)) e
 |octBad _ _=>intro v e;injection e
 | @oct d r x ho hv O ih=>exact fun w e=>step ih (by first|(simp;done)|(simp;omega)) e
 |escBad _ _ _=>intro v e;injection e
 |esc _ _ _ _ ih=>exact fun w e=>step ih (by simp) e
section
variable {g:G} {t:b9}
noncomputable def j8 (T:b9):b9:=(T.drop 1).dropLast
noncomputable def N8 (T:b9):Bool:=decide (2<=T.length) &&decide (T.length<=1000) &&j6 T &&(k6 T (T.length-1)==34||k6 T (T.length-1)==39)
theorem S1 {T:b9}:N8 T=true↔2<=T.length/\T.length<=1000/\j6 T=true/\RP (k6 T (T.length-1)):=by
 unfold N8 RP;simp[and_assoc]
theorem rU {T:b9} (h:N8 T=true):T.drop 1=j8 T++[k6 T (T.length-1)]:=by
 refine f8 (S1.mp h) fun h2 Z=> ?_;have hne:T.drop 1≠[]:=by intro z;have:=congrArg List.length z;simp at this;omega
 have:=List.dropLast_concat_getLast hne;unfold j8;rw[<-this];congr 1
 ·simp
 ·congr 1
  rw[List.getLast_eq_getElem];unfold k6;rw[List.getD_eq_getElem?_getD,List.getElem?_eq_getElem (by omega)];simp;congr 1
  omega
noncomputable def E6:List V->R V:=CN fun T l=>
  if N8 T=true/\l.natAbs<1000000 then (match Q6 (j8 T) with|some v=>.ok (.bytes (v.map fun(n:Nat)=>(n:Int)))|none=>.err l) else .stuck
theorem cA {T:b9}:(j8 T).length<=T.length:=by unfold j8;simp;omega
theorem nW (hg:N6 g) (hlen:g.fn "len"=none) (hord:g.fn "ord"=none) (hby:g.fn "bytes"=none) (hw:g.fn "whole_of"=some x9) (hoe:g.fn "octal_end"=some H7) (hoo:g.fn "octal_of"=some K6) (vs:List V) (hn:E6 vs≠.stuck):
  g8 g (some "found") r7.sc ["text","line"] r7.body vs (E6 vs):=by
 have hlim:i0=1048576:=rfl;refine C0 (K0 hn) fun T l z4r=> ?_;subst z4r;have hc:=D9 hn;refine l5 (if_pos hc) ?_;refine f8 hc fun hQ hline=> ?_;clear hc;refine Q0 (S1.mp hQ) fun h2 hl hasc hq=> ?_;have hsp:=rU hQ;have e0:d8 g (some "found") r7.sc (List.zip ["text","line"] [.str T,.int l]) (i4 r7.body 0) (.ok (.next,d9.set (d9.set (d9.set (List.zip ["text","line"] [.str T,.int l]) "found" (.olist [])) "place" (.int ((1:Nat):Int))) "end" (.int ((T.length:Int)-1)))):=
  i7 (vs:=[.list [],.int 1,.int ((T.length:Int)-1)]) (by tm_at "e") rfl (by decide) rfl
 have L:=vA hg hlen hord hw hoe hoo hl hasc hq hline (L3 (j8 T)) (d9.set (d9.set (d9.set (List.zip ["text","line"] [.str T,.int l]) "found" (.olist [])) "place" (.int ((1:Nat):Int))) "end" (.int ((T.length:Int)-1))) 1 [] hsp (by simp) (by tm_at "n") (by tm_at "n") (by tm_at "n") (by tm_at "n") (by tm_at "n");have hlt:=(L3 (j8 T)).lt (fun c hc=>by
  unfold j6 at hasc;rw[List.all_eq_true] at hasc;have:c∈T:=List.mem_of_mem_drop (List.dropLast_subset _ hc);simpa using hasc c this)
 have hle:=(L3 (j8 T)).len;have hil:=cA (T:=T);cases hx:Q6 (j8 T) with
 |none=>
  rw[hx] at L;rcases L with L|⟨σ',p',L,g1,g2,g3,hne⟩
  ·exact g8.err rfl (d5.cons e0 (d5.err L))
  ·exact g8.err rfl (d5.cons e0 (d5.cons L (d5.err (d8.if1 (c9 (by tm_at "e") (by simp;omega)) (d5.err (A8 (by tm_at "v") (by decide) ⟨rfl,rfl⟩ hline))))))
 |some v=>
  rw[hx] at L;refine DU L fun σ' L g0 g1 g2 g3=> ?_;have hv:=hle v hx;have hf:fH "bytes" [.olist (([]++v.map fun(n:Nat)=>(n:Int)).map V.int)]=.ok (.bytes (v.map fun(n:Nat)=>(n:Int))):=
   CR (by simp;omega) fun n hn=>by
    refine e8 (List.mem_map.mp hn) fun m hm z3r=> ?_;subst z3r;have:=hlt v hx m hm;omega
  exact g8.ret rfl (d5.cons e0 (d5.cons L (d5.cons (d8.if0 (c7 (by tm_at "e") (by simp)) d5.nil) (d5.ret (d8.ret (v:=.bytes (v.map fun(n:Nat)=>(n:Int))) (c8.bcall (by tm_at "e") hby rfl hf rfl rfl))))))
noncomputable def A6:List V->R V:=CN fun a l=>
  if a.length<=1000/\j6 a=true/\l.natAbs<1000000/\a≠[] then
   (if k6 a 0=39 then (if N8 a=true then (match Q6 (j8 a) with|some [v]=>.ok (.int (v:Nat))|_=>.err l) else .stuck)
    else (match B7 a with|some v=>.ok (.int (v:Nat))|none=>.err l)) else .stuck
theorem iV (hg:N6 g) (hlen:g.fn "len"=none) (hw:g.fn "whole_of"=some x9) (hoi:g.fn "octets_in"=some E6) (vs:List V) (hn:A6 vs≠.stuck):
  g8 g none M4.sc ["atom","line"] M4.body vs (A6 vs):=by
 have hlim:i0=1048576:=rfl;refine C0 (K0 hn) fun a l z2r=> ?_;subst z2r;have hc:=D9 hn;have hn:=TO hc hn;refine l5 (if_pos hc) ?_;refine Q0 hc fun hl hasc hline hne=> ?_;clear hc;have hp:0<a.length:=List.length_pos_iff.mpr hne;by_cases hq:k6 a 0=39
 ·rw[if_pos hq] at hn ⊢;by_cases hQ:N8 a=true
  case neg=>exact absurd (D9 (show(if N8 a=true then _ else _)≠R.stuck from hn)) hQ
  rw[if_pos hQ];have hF:E6 [.str a,.int l]=(match Q6 (j8 a) with|some v=>.ok (.bytes (v.map fun(n:Nat)=>(n:Int)))|none=>.err l):=by
   show(if _ then _ else _)=_;rw[if_pos ⟨hQ,hline⟩]
  have hle:=(L3 (j8 a)).len;have hil:=cA (T:=a);cases hx:Q6 (j8 a) with
  |none=>
   rw[hx] at hF;exact g8.err rfl (d5.err (d8.if1 (c9 (by tm_at "e") (by simp[hq])) (d5.err (U2 (by tm_at "e") (by decide) (by decide)))))
  |some v=>
   rw[hx] at hF;have hv:=hle v hx;have hbl:(v.map fun(n:Nat)=>(n:Int)).length<=i0:=by simp;omega
   by_cases h1:v.length=1
   ·refine d6 (List.length_eq_one_iff.mp h1) fun n z1r=> ?_;subst z1r;exact g8.ret rfl (d5.ret (σ':=d9.set (List.zip ["atom","line"] [.str a,.int l]) "octets" (.bytes [(n:Int)])) (d8.if1 (c9 (by tm_at "e") (by simp[hq])) (d5.cons (d7 (v:=.bytes [(n:Int)]) (by tm_at "e") (by decide) (by decide) rfl)
     (d5.cons (d8.if0 (c7 (e9 (c8.bcall (by tm_at "e") hlen rfl (len_bytes hbl) rfl rfl) (by tm_at "e") (EF _ _) rfl) (by simp)) d5.nil) (d5.ret (d8.ret (v:=.int (n:Nat)) (G5 (by tm_at "v") (by tm_at "e") (lY hbl (by simp)) rfl)))))))
   ·have:(match some v with|some [v]=>R.ok (V.int (v:Nat))|_=>.err l)=.err l:=by
     rcases v with _|⟨n,_|⟨m,r⟩⟩
     ·rfl
     ·exact absurd rfl h1
     ·rfl
    rw[this];exact g8.err rfl (d5.err (d8.if1 (c9 (by tm_at "e") (by simp[hq])) (d5.cons (d7 (v:=.bytes (v.map fun(n:Nat)=>(n:Int))) (by tm_at "e") (by decide) (by decide) rfl)
     (d5.err (d8.if1 (c9 (e9 (c8.bcall (by tm_at "e") hlen rfl (len_bytes hbl) rfl rfl) (by tm_at "e") (EF _ _) rfl) (by simp;omega)) (d5.err (A8 (by tm_at "v") (by decide) ⟨rfl,rfl⟩ hline)))))))
 ·rw[if_neg hq];have hF:x9 [.str a,.int l]=(match B7 a with|some v=>.ok (.int (v:Nat))|none=>.err l):=by
   show(if _ then _ else _)=_;rw[if_pos ⟨hl,hasc,hline⟩]<;>cases B7 a<;>rfl
  have e0:d8 g none M4.sc (List.zip ["atom","line"] [.str a,.int l]) (i4 M4.body 0) (.ok (.next,List.zip ["atom","line"] [.str a,.int l])):=d8.if0 (c7 (by tm_at "e") (by simp[hq])) d5.nil;cases hx:B7 a with
  |none=>
   rw[hx] at hF;exact g8.err rfl (d5.cons e0 (d5.err (uO (by tm_at "e"))))
  |some v=>
   rw[hx] at hF;exact g8.ret rfl (d5.cons e0 (d5.ret (d8.ret (v:=.int (v:Nat)) (by tm_at "e"))))
end
noncomputable def iA:b9->Option Nat
 |[]=>none
 |c::r=>if c=39 then (r9 39 r).map (· +1) else if E0 c then some ((c::r).takeWhile E0).length else none
theorem Y9 (c:Nat) (r:b9):iA (c::r)=if c=39 then (r9 39 r).map (· +1) else if E0 c then some ((c::r).takeWhile E0).length else none:=rfl
theorem bI {s:b9} {n:Nat} (h:iA s=some n):1<=n/\n<=s.length:=by
 cases s with
 |nil=>injection h
 |cons c r=>
  rw[Y9] at h;split at h
  ·cases hq:r9 39 r with
   |none=>rw[hq] at h;injection h
   |some k=>rw[hq] at h;injection h with h;subst h;have:=O8 hq;simp;omega
  split at h
  ·rename_i hn;injection h with h;subst h;refine⟨?_,(List.takeWhile_sublist _).length_le⟩;rw[List.takeWhile_cons,hn];simp
  ·injection h
section
variable {g:G} {t:b9}
theorem CS (hg:N6 g) (hlen:g.fn "len"=none) (hl:t.length<=5000) {k:Nat} {l:Int}: ∀(m:Nat) (σ:d9) (e:Nat),t.length-e<=m->e<=t.length->σ.get "text"=some (.str t)->σ.get "end"=some (.int (e:Nat))->σ.get "place"=some (.int (k:Nat))->σ.get "line"=some (.int l)->
  ∃σ',d8 g none D8.sc σ (i4 D8.body 2) (.ok (.next,σ'))/\σ'.get "end"=some (.int ((e+((t.drop e).takeWhile E0).length:Nat):Int))/\σ'.get "place"=some (.int (k:Nat))/\σ'.get "line"=some (.int l):=by
 intro m;have hlim:i0=1048576:=rfl;induction m with
 |zero=>
  intro σ e hm he h1 h2 h3 h4;refine⟨σ,h7 (c7 (j2 (I9.cons (b1:=false) (b2:=true) (c7 (by tm_at "e") (by simp;omega)) fun h=>by injection h)) rfl),?_,h3,h4⟩;rw[h2,List.drop_eq_nil_of_le (by omega)];simp
 |succ m ih=>
  intro σ e hm he h1 h2 h3 h4;by_cases hlt:e<t.length
  case neg=>
   refine⟨σ,h7 (c7 (j2 (I9.cons (b1:=false) (b2:=true) (c7 (by tm_at "e") (by simp;omega)) fun h=>by injection h)) rfl),?_,h3,h4⟩;rw[h2,List.drop_eq_nil_of_le (by omega)];simp
  have hT:c8 g D8.sc σ true (sE (i4 D8.body 2)) (.ok (.bool (decide ((e:Int)<(t.length:Int)) &&E0 (k6 t e)))):=
   j2 (I9.cons (by tm_at "e") fun Z=>I9.one (e9 (by tm_at "e") (by tm_at "e") (in_str (by decide)) rfl))
  rw[show decide ((e:Int)<(t.length:Int))=true by simp;omega,Bool.true_and] at hT;rw[C2 hlt,List.takeWhile_cons];cases hn:E0 (k6 t e) with
  |false=>
   rw[hn] at hT;exact⟨σ,h7 hT,by rw[h2];simp,h3,h4⟩
  |true=>
   rw[hn] at hT;refine iJ (ih (σ.set "end" (.int ((e+1:Nat):Int))) (e+1) (by omega) (by omega) (by tm_at "n") (by tm_at "n") (by tm_at "n") (by tm_at "n")) fun σ' x1 x2 x3 x4=> ?_;refine⟨σ',i3 hT (d5.cons (M3 (v:=.int 1) (by tm_at "e") (by tm_at "e") (by decide) rfl rfl) d5.nil) x1,?_,x3,x4⟩;rw[x2];simp;omega
noncomputable def K7:List V->R V:=QB fun t p l=>
  if t.length<=5000/\0<=p/\p<t.length/\l.natAbs<1000000 then (match iA (t.drop p.toNat) with|some n=>.ok (.int (p+n))|none=>.err l) else .stuck
theorem rV (hg:N6 g) (hlen:g.fn "len"=none) (hqe:g.fn "quoted_end"=some s7) (vs:List V) (hn:K7 vs≠.stuck):g8 g none D8.sc ["text","place","line"] D8.body vs (K7 vs):=by
 have hlim:i0=1048576:=rfl;refine wQ (uT hn) fun t p l z4r=> ?_;subst z4r;have hc:=D9 hn;refine l5 (if_pos hc) ?_;refine Q0 hc fun hl hp0 hp hline=> ?_;clear hc;refine d6 (Int.eq_ofNat_of_zero_le hp0) fun k z3r=> ?_;subst z3r;have hk:k<t.length:=by omega
 rw[show((k:Int)).toNat=k from rfl,C2 hk,Y9];by_cases hq:k6 t k=39
 ·rw[if_pos hq];have hF:s7 [.str t,.int k,.int l]=(match r9 39 (t.drop (k+1)) with|some n=>.ok (.int ((k:Int)+1+n))|none=>.err l):=by
   show(if _ then _ else _)=_;rw[if_pos ⟨hl,by omega,by omega,hline⟩,show((k:Int)).toNat=k from rfl,hq]<;>cases r9 39 (t.drop (k+1))<;>rfl
  cases hs:r9 39 (t.drop (k+1)) with
  |none=>
   rw[hs] at hF;exact g8.err rfl (d5.err (d8.if1 (c9 (by tm_at "e") (by simp[hq])) (d5.err (uO (by tm_at "e")))))
  |some n=>
   rw[hs] at hF;refine g8.ret rfl (d5.ret (σ':=List.zip ["text","place","line"] [.str t,.int k,.int l]) (d8.if1 (c9 (by tm_at "e") (by simp[hq])) (d5.ret (d8.ret (v:=.int ((k:Int)+((n+1:Nat):Int))) ?_))));exact c8.to (c8.call (by tm_at "e") hqe hF rfl rfl rfl) (by show R.ok (V.int ((k:Int)+1+(n:Int)))=_;rw[show(k:Int)+1+(n:Int)=(k:Int)+((n+1:Nat):Int) by omega])
 rw[if_neg hq];have e0:d8 g none D8.sc (List.zip ["text","place","line"] [.str t,.int k,.int l]) (i4 D8.body 0) (.ok (.next,List.zip ["text","place","line"] [.str t,.int k,.int l])):=d8.if0 (c7 (by tm_at "e") (by simp[hq])) d5.nil;have e1:d8 g none D8.sc (List.zip ["text","place","line"] [.str t,.int k,.int l]) (i4 D8.body 1) (.ok (.next,d9.set (List.zip ["text","place","line"] [.str t,.int k,.int l]) "end" (.int (k:Nat)))):=d7 (c8.name (g6 (v:=.int k) rfl rfl (by decide))) (by decide) (by decide) rfl;refine iJ (CS hg hlen hl (k:=k) (l:=l) t.length (d9.set (List.zip ["text","place","line"] [.str t,.int k,.int l]) "end" (.int (k:Nat))) k (by omega) (by omega) (by tm_at "n") (by tm_at "n") (by tm_at "n") (by tm_at "n")) fun σ' x1 x2 x3 x4=> ?_;rw[C2 hk] at x2;cases hnm:E0 (k6 t k) with
 |false=>
  rw[if_neg (by decide)];rw[List.takeWhile_cons,hnm] at x2;have x2:σ'.get "end"=some (.int (k:Nat)):=x2;exact g8.err rfl (d5.cons e0 (d5.cons e1 (d5.cons x1 (d5.err (d8.if1 (c9 (by tm_at "e") (by simp)) (d5.err (A8 (by tm_at "v") (by decide) ⟨rfl,rfl⟩ hline)))))))
 |true=>
  rw[if_pos rfl];have hpos:1<=((k6 t k::t.drop (k+1)).takeWhile E0).length:=by rw[List.takeWhile_cons,hnm];simp
  generalize ((k6 t k::t.drop (k+1)).takeWhile E0).length=n at*;exact g8.ret rfl (d5.cons e0 (d5.cons e1 (d5.cons x1 (d5.cons (d8.if0 (c7 (by tm_at "e") (by simp;omega)) d5.nil) (d5.ret (d8.ret (v:=.int ((k+n:Nat):Int)) (by tm_at "e")))))))
inductive At:Int->Bool->b9->Option (List (Int×b9))->Prop
 |fin {s:Int}:At s false [] (some [])
 |open_ {s:Int}:At s true [] none
 |sgn {s:Int} {w:Bool} {c:Nat} {r:b9} {x:Option (List (Int×b9))}:(c=43\/c=45)->At (if c=45 then -(if w then s else 1) else (if w then s else 1)) true r x->At s w (c::r) x
 |sp {s:Int} {w:Bool} {r:b9} {x:Option (List (Int×b9))}:At s w r x->At s w (32::r) x
 |two {s:Int} {c:Nat} {r:b9}:c≠43->c≠45->c≠32->At s false (c::r) none
 |bad {s:Int} {c:Nat} {r:b9}:c≠43->c≠45->c≠32->iA (c::r)=none->At s true (c::r) none
 |atom {s:Int} {c n:Nat} {r:b9} {x:Option (List (Int×b9))}:c≠43->c≠45->c≠32->iA (c::r)=some n->At 1 false ((c::r).drop n) x->At s true (c::r) (x.map ((s,(c::r).take n):: ·))
theorem At.ex: ∀(n:Nat) (t:b9) (s:Int) (w:Bool),t.length<=n-> ∃x,At s w t x
 |_,[],s,w,_=>by cases w<;>exact⟨_,by constructor⟩
 |0,c::r,_,_,h=>by simp at h
 |n+1,c::r,s,w,h=>by
  rw[List.length_cons] at h;by_cases h1:c=43
  ·obtain⟨x,hx⟩:=At.ex n r _ true (by omega);exact⟨x,.sgn (.inl h1) hx⟩
  by_cases h2:c=45
  ·obtain⟨x,hx⟩:=At.ex n r _ true (by omega);exact⟨x,.sgn (.inr h2) hx⟩
  by_cases h3:c=32
  ·subst h3;refine d6 (At.ex n r s w (by omega)) fun x hx=> ?_;exact⟨x,.sp hx⟩
  cases w with
  |false=>exact⟨_,.two h1 h2 h3⟩
  |true=>
   cases ha:iA (c::r) with
   |none=>exact⟨_,.bad h1 h2 h3 ha⟩
   |some k=>
    have:=bI ha;refine d6 (At.ex n ((c::r).drop k) 1 false (by simp;omega)) fun x hx=> ?_;exact⟨_,.atom h1 h2 h3 ha hx⟩
noncomputable def y0 (t:b9):Option (List (Int×b9)):=Classical.choose (At.ex t.length t 1 true (Nat.le_refl _))
theorem L4 (t:b9):At 1 true t (y0 t):=Classical.choose_spec (At.ex t.length t 1 true (Nat.le_refl _))
noncomputable def w6 (p:Int×b9):V:=.tup [.int p.1,.str p.2]
noncomputable def vB (g:G) (T:b9) (l:Int) (σ:d9) (acc:List (Int×b9)):Option (List (Int×b9))->Prop
 |none=>d8 g (some "found") v1.sc σ (i4 v1.body 1) (.err l)\/ ∃(σ':d9),d8 g (some "found") v1.sc σ (i4 v1.body 1) (.ok (.next,σ'))/\σ'.get "wanted"=some (.bool true)/\σ'.get "line"=some (.int l)
 |some v=> ∃(σ':d9),d8 g (some "found") v1.sc σ (i4 v1.body 1) (.ok (.next,σ'))/\σ'.get "found"=some (.olist ((acc++v).map w6))/\σ'.get "wanted"=some (.bool false)
theorem jN {T:b9} {l:Int} {σ σ2:d9} {acc:List (Int×b9)} {x:Option (List (Int×b9))} (step: ∀{u:R (Fl×d9)},d8 g (some "found") v1.sc σ2 (i4 v1.body 1) u->d8 g (some "found") v1.sc σ (i4 v1.body 1) u)
  (h:vB g T l σ2 acc x):vB g T l σ acc x:=by
 cases x with
 |none=>
  rcases h with h|⟨σ',h,r⟩
  ·exact .inl (step h)
  ·exact .inr ⟨σ',step h,r⟩
 |some w=>refine e8 h fun σ' h r=> ?_;exact⟨σ',step h,r⟩
theorem LT {T:b9} {l:Int} {σ:d9} {acc:List (Int×b9)} {x:Option (List (Int×b9))} {v:Int×b9} (h:vB g T l σ (acc++[v]) x):vB g T l σ acc (x.map (v:: ·)):=by
 cases x with
 |none=>exact h
 |some w=>refine r6 h fun σ' h h2 r=> ?_;exact⟨σ',h,by rw[h2];simp,r⟩
theorem yC (hg:N6 g) (hlen:g.fn "len"=none) (hae:g.fn "atom_end"=some K7) {T:b9} (hl:T.length<=5000) {l:Int} (hline:l.natAbs<1000000) {s:Int} {w:Bool} {t:b9} {x:Option (List (Int×b9))} (A:At s w t x):
  (w=false->s=1)-> ∀(σ:d9) (p:Nat) (acc:List (Int×b9)),p<=T.length->T.drop p=t->acc.length<=p->σ.get "text"=some (.str T)->σ.get "found"=some (.olist (acc.map w6))->σ.get "sign"=some (.int s)->σ.get "place"=some (.int (p:Nat))->σ.get "wanted"=some (.bool w)->σ.get "line"=some (.int l)->
  vB g T l σ acc x:=by
 have hlim:i0=1048576:=rfl;induction A with
 |fin=>
  intro _ σ p acc hp hT ha h1 h2 h3 h4 h5 h6;have hpe:T.length<=p:=by
   have:=congrArg List.length hT;simp at this;omega
  exact⟨σ,h7 (c7 (by tm_at "e") (by simp;omega)),by rw[h2];simp,h5⟩
 |open_=>
  intro _ σ p acc hp hT ha h1 h2 h3 h4 h5 h6;have hpe:T.length<=p:=by
   have:=congrArg List.length hT;simp at this;omega
  exact .inr ⟨σ,h7 (c7 (by tm_at "e") (by simp;omega)),h5,h6⟩
 | @sgn s w c r x hc A ih=>
  intro hw σ p acc hp hT ha h1 h2 h3 h4 h5 h6;refine n5 (g7 hT) fun hlt hch hd=> ?_;have hin:([43,45]:b9).contains (k6 T p)=true:=by rw[hch];rcases hc with rfl|rfl<;>rfl
  cases w with
  |true=>
   simp only[if_true] at A ih;refine jN (σ2:=((σ.set "letter" (.str [k6 T p])).set "sign" (.int (if c=45 then -s else s))).set "place" (.int ((p+1:Nat):Int))) (fun h=>i3 (c9 (by tm_at "e") (by simp;omega)) (d5.cons (d7 (by tm_at "e") (by decide) (by decide) rfl)
    (d5.cons (d8.if1 (c9 (by tm_at "e") hin) (d5.cons (d8.if0 (c7 (by tm_at "e") (by exact rfl)) d5.nil) (d5.cons (d7 (v:=.int (if c=45 then -s else s)) (c8.to (by tm_at "e") (by rw[hch];by_cases h45:c=45<;>simp[h45])) (by decide) (by decide) rfl) (d5.cons (M3 (v:=.int 1) (by tm_at "e") (c8.name (g6 (v:=.int (p:Nat)) (by tm_at "n") rfl (by decide))) (by decide) rfl rfl) d5.nil)))) d5.nil)) h) ?_
   exact ih (fun z=>by injection z) (((σ.set "letter" (.str [k6 T p])).set "sign" (.int (if c=45 then -s else s))).set "place" (.int ((p+1:Nat):Int))) (p+1) acc (by omega) hd (by omega) (by tm_at "n") (by tm_at "n") (by tm_at "n") (by tm_at "n") (by tm_at "n") (by tm_at "n")
  |false=>
   simp only[Bool.false_eq_true,if_false] at A ih;refine jN (σ2:=((((σ.set "letter" (.str [k6 T p])).set "sign" (.int 1)).set "wanted" (.bool true)).set "sign" (.int (if c=45 then -1 else 1))).set "place" (.int ((p+1:Nat):Int))) (fun h=>i3 (c9 (by tm_at "e") (by simp;omega)) (d5.cons (d7 (by tm_at "e") (by decide) (by decide) rfl)
    (d5.cons (d8.if1 (c9 (by tm_at "e") hin) (d5.cons (d8.if1 (c9 (by tm_at "e") (by exact rfl)) (d5.cons (i7 (vs:=[.int 1,.bool true]) (by tm_at "e") rfl (by decide) rfl) d5.nil)) (d5.cons (d7 (v:=.int (if c=45 then -1 else 1)) (c8.to (by tm_at "e") (by rw[hch];by_cases h45:c=45<;>simp[h45])) (by decide) (by decide) rfl) (d5.cons (M3 (v:=.int 1) (by tm_at "e") (c8.name (g6 (v:=.int (p:Nat)) (by tm_at "n") rfl (by decide))) (by decide) rfl rfl) d5.nil)))) d5.nil)) h) ?_
   exact ih (fun z=>by injection z) (((((σ.set "letter" (.str [k6 T p])).set "sign" (.int 1)).set "wanted" (.bool true)).set "sign" (.int (if c=45 then -1 else 1))).set "place" (.int ((p+1:Nat):Int))) (p+1) acc (by omega) hd (by omega) (by tm_at "n") (by tm_at "n") (by tm_at "n") (by tm_at "n") (by tm_at "n") (by tm_at "n")
 | @sp s w r x A ih=>
  intro hw σ p acc hp hT ha h1 h2 h3 h4 h5 h6;refine n5 (g7 hT) fun hlt hch hd=> ?_;refine jN (σ2:=(σ.set "letter" (.str [k6 T p])).set "place" (.int ((p+1:Nat):Int))) (fun h=>i3 (c9 (by tm_at "e") (by simp;omega)) (d5.cons (d7 (by tm_at "e") (by decide) (by decide) rfl)
   (d5.cons (d8.if0 (c7 (by tm_at "e") (by rw[hch];rfl)) (d5.cons (d8.if1 (c9 (by tm_at "e") (by simp[hch])) (d5.cons (M3 (v:=.int 1) (by tm_at "e") (c8.name (g6 (v:=.int (p:Nat)) (by tm_at "n") rfl (by decide))) (by decide) rfl rfl) d5.nil)) d5.nil)) d5.nil)) h) ?_
  exact ih hw ((σ.set "letter" (.str [k6 T p])).set "place" (.int ((p+1:Nat):Int))) (p+1) acc (by omega) hd (by omega) (by tm_at "n") (by tm_at "n") (by tm_at "n") (by tm_at "n") (by tm_at "n") (by tm_at "n")
 | @two s c r c1 c2 c3=>
  intro hw σ p acc hp hT ha h1 h2 h3 h4 h5 h6;refine n5 (g7 hT) fun hlt hch hd=> ?_;have hin:([43,45]:b9).contains (k6 T p)=false:=by rw[hch];simp[c1,c2]
  exact .inl (K5 (c9 (by tm_at "e") (by simp;omega)) (d5.cons (d7 (by tm_at "e") (by decide) (by decide) rfl)
   (d5.err (d8.if0 (c7 (by tm_at "e") hin) (d5.err (d8.if0 (c7 (by tm_at "e") (by simp[hch,c3])) (d5.err (d8.if1 (c9 (by tm_at "e") (by exact rfl)) (d5.err (A8 (by tm_at "v") (by decide) ⟨rfl,rfl⟩ hline))))))))))
 | @bad s c r c1 c2 c3 hbad=>
  intro hw σ p acc hp hT ha h1 h2 h3 h4 h5 h6;refine n5 (g7 hT) fun hlt hch hd=> ?_;have hin:([43,45]:b9).contains (k6 T p)=false:=by rw[hch];simp[c1,c2]
  have hF:K7 [.str T,.int p,.int l]=.err l:=by
   show(if _ then _ else _)=_;rw[if_pos ⟨hl,by omega,by omega,hline⟩,show((p:Int)).toNat=p from rfl,hT,hbad]
  exact .inl (K5 (c9 (by tm_at "e") (by simp;omega)) (d5.cons (d7 (by tm_at "e") (by decide) (by decide) rfl)
   (d5.err (d8.if0 (c7 (by tm_at "e") hin) (d5.err (d8.if0 (c7 (by tm_at "e") (by simp[hch,c3])) (d5.err (d8.if0 (c7 (by tm_at "e") (by exact rfl)) (d5.err (U2 (by tm_at "e") (by decide) (by decide)))))))))))
 | @atom s c n r x c1 c2 c3 hat A ih=>
  intro hw σ p acc hp hT ha h1 h2 h3 h4 h5 h6;refine n5 (g7 hT) fun hlt hch hd=> ?_;refine f8 (bI hat) fun n1 n2=> ?_;have hin:([43,45]:b9).contains (k6 T p)=false:=by rw[hch];simp[c1,c2]
  have hpn:p+n<=T.length:=by
   have:=congrArg List.length hT;rw[List.length_drop] at this;omega
  have hF:K7 [.str T,.int p,.int l]=.ok (.int ((p+n:Nat):Int)):=by
   show(if _ then _ else _)=_;rw[if_pos ⟨hl,by omega,by omega,hline⟩,show((p:Int)).toNat=p from rfl,hT,hat];rfl
  have hsl:j9 T (some (p:Int)) (some ((p+n:Nat):Int))=(c::r).take n:=by
   rw[bE (by omega) hpn,hT,show p+n-p=n by omega]
  have hdn:T.drop (p+n)=(c::r).drop n:=by rw[<-List.drop_drop,hT]
  refine LT (jN (σ2:=(((((σ.set "letter" (.str [k6 T p])).set "end" (.int ((p+n:Nat):Int))).set "found" (.olist (acc.map w6++[.tup [.int s,.str ((c::r).take n)]]))).set "sign" (.int 1)).set "place" (.int ((p+n:Nat):Int))).set "wanted" (.bool false)) (fun h=>i3 (c9 (by tm_at "e") (by simp;omega)) (d5.cons (d7 (by tm_at "e") (by decide) (by decide) rfl)
   (d5.cons (d8.if0 (c7 (by tm_at "e") hin) (d5.cons (d8.if0 (c7 (by tm_at "e") (by simp[hch,c3])) (d5.cons (d8.if0 (c7 (by tm_at "e") (by exact rfl)) (d5.cons (d7 (v:=.int ((p+n:Nat):Int)) (by tm_at "e") (by decide) (by decide) rfl)
    (d5.cons (d8.append (vs:=acc.map w6) (v:=.tup [.int s,.str ((c::r).take n)]) (c8.tup (v5.cons (by tm_at "e") (v5.cons (hsl▸c8.slice (li:=some (p:Int)) (hj:=some ((p+n:Nat):Int)) (by tm_at "v") (by tm_at "e") (by tm_at "e") (by omega)) v5.nil)) rfl (by show 2<=i0;decide)) (by tm_at "v") (by decide) rfl (by simp;omega))
    (d5.cons (i7 (vs:=[.int 1,.int ((p+n:Nat):Int),.bool false]) (by tm_at "e") rfl (by decide) rfl) d5.nil)))) d5.nil)) d5.nil)) d5.nil)) h) ?_)
  exact ih (fun Z=>rfl) ((((((σ.set "letter" (.str [k6 T p])).set "end" (.int ((p+n:Nat):Int))).set "found" (.olist (acc.map w6++[.tup [.int s,.str ((c::r).take n)]]))).set "sign" (.int 1)).set "place" (.int ((p+n:Nat):Int))).set "wanted" (.bool false)) (p+n) (acc++[(s,(c::r).take n)]) hpn hdn (by simp;omega)
   (by tm_at "n") (by rw[List.map_append];tm_at "n") (by tm_at "n") (by tm_at "n") (by tm_at "n") (by tm_at "n")
noncomputable def H8:List V->R V:=CN fun t l=>
  if t.length<=5000/\l.natAbs<1000000 then (match y0 t with|some as=>.ok (.list (as.map w6))|none=>.err l) else .stuck
theorem rW (hg:N6 g) (hlen:g.fn "len"=none) (hae:g.fn "atom_end"=some K7) (vs:List V) (hn:H8 vs≠.stuck):g8 g (some "found") v1.sc ["text","line"] v1.body vs (H8 vs):=by
 have hlim:i0=1048576:=rfl;refine C0 (K0 hn) fun t l z2r=> ?_;subst z2r;have hc:=D9 hn;refine l5 (if_pos hc) ?_;refine f8 hc fun hl hline=> ?_;clear hc;have e0:d8 g (some "found") v1.sc (List.zip ["text","line"] [.str t,.int l]) (i4 v1.body 0) (.ok (.next,d9.set (d9.set (d9.set (d9.set (List.zip ["text","line"] [.str t,.int l]) "found" (.olist [])) "sign" (.int 1)) "place" (.int ((0:Nat):Int))) "wanted" (.bool true))):=
  i7 (vs:=[.list [],.int 1,.int 0,.bool true]) (by tm_at "e") rfl (by decide) rfl
 have L:=yC hg hlen hae hl hline (L4 t) (fun z=>by injection z) (d9.set (d9.set (d9.set (d9.set (List.zip ["text","line"] [.str t,.int l]) "found" (.olist [])) "sign" (.int 1)) "place" (.int ((0:Nat):Int))) "wanted" (.bool true)) 0 [] (by omega) (by simp) (by simp) (by tm_at "n") (by tm_at "n") (by tm_at "n") (by tm_at "n") (by tm_at "n") (by tm_at "n");cases hx:y0 t with
 |none=>
  rw[hx] at L;rcases L with L|⟨σ',L,g1,g2⟩
  ·exact g8.err rfl (d5.cons e0 (d5.err L))
  ·exact g8.err rfl (d5.cons e0 (d5.cons L (d5.err (d8.if1 (c9 (by tm_at "e") (by exact rfl)) (d5.err (A8 (by tm_at "v") (by decide) ⟨rfl,rfl⟩ hline))))))
 |some v=>
  rw[hx] at L;refine r6 L fun σ' L g0 g1=> ?_;exact g8.ret rfl (d5.cons e0 (d5.cons L (d5.cons (d8.if0 (c7 (by tm_at "e") (by exact rfl)) d5.nil) (d5.ret (d8.ret (v:=.olist (v.map w6)) (by tm_at "e"))))))
theorem HI {sc:Scope} {opn:Option Str} {σ:d9} {tg it:Expr} {b:List Stmt} {p:Pos} {l:Int} (h:c8 g sc σ false it (.err l)) (ht:dP sc opn tg=true):d8 g opn sc σ (.For tg it b [] p) (.err l):=by
 refine d6 h fun N h=> ?_;refine⟨N+1,fun n=> ?_⟩;show(if dP sc opn tg=true then (ev g (n+N) false sc σ it).bind fun iv=>(s0 iv).bind fun items=>
    tB (fun σ v=>(s5 σ tg v).bind fun σ'=>D1 (ex g opn sc (n+N)) σ' b) σ items else .stuck)=_
 rw[if_pos ht,h n];rfl
noncomputable def K8 (a:b9):Bool:=a==[46]||(G6 a||B5 a)
theorem iC (hg:N6 g) (hin:g.fn "is_name"=some E1) (hil:g.fn "is_local"=some H6): ∀(as:List (Int×b9)) (σ:d9),(∀p∈as,p.2.length<=5000)->
  (as.any (fun p=>K8 p.2)=true-> ∃σ',P6 g none l9.sc σ (V0 (i4 l9.body 0)) (sB (i4 l9.body 0)) (as.map w6) (.ok (.ret (.bool true),σ')))/\
  (as.any (fun p=>K8 p.2)=false-> ∃σ',P6 g none l9.sc σ (V0 (i4 l9.body 0)) (sB (i4 l9.body 0)) (as.map w6) (.ok (.next,σ')))
 |[],σ,_=>⟨fun z=>by simp at z,fun Z=>⟨σ,P6.nil⟩⟩
 |(s,a)::r,σ,h=>by
  have hlim:i0=1048576:=rfl;refine f8 (iC hg hin hil r ((σ.set "sign" (.int s)).set "atom" (.str a)) (fun p hp=>h p (List.mem_cons_of_mem _ hp))) fun i1 i2=> ?_;have hla:=h (s,a) List.mem_cons_self;have hb:s5 σ (V0 (i4 l9.body 0)) (w6 (s,a))=.ok ((σ.set "sign" (.int s)).set "atom" (.str a)):=rfl;have hF1:E1 [.str a]=.ok (.bool (G6 a)):=if_pos hla;have hF2:H6 [.str a]=.ok (.bool (B5 a)):=if_pos hla;have hT:c8 g l9.sc ((σ.set "sign" (.int s)).set "atom" (.str a)) true (sE (i4 (sB (i4 l9.body 0)) 0)) (.ok (.bool (K8 a))):=
   C1 (Z9.cons (by tm_at "e") fun Z=>Z9.cons (F9 (by tm_at "e") (N3 _)) fun Z=>Z9.one (F9 (by tm_at "e") (N3 _)))
  rw[List.any_cons];cases hp:K8 a with
  |true=>
   rw[hp] at hT;refine⟨fun Z=>⟨_,P6.ret hb (d5.ret (d8.if1 hT (d5.ret (d8.ret (v:=.bool true) (by tm_at "e")))))⟩,fun z=>by simp[hp] at z⟩
  |false=>
   rw[hp] at hT;have st:d5 g none l9.sc ((σ.set "sign" (.int s)).set "atom" (.str a)) (sB (i4 l9.body 0)) (.ok (.next,(σ.set "sign" (.int s)).set "atom" (.str a))):=d5.cons (d8.if0 hT d5.nil) d5.nil;refine⟨fun z=> ?_,fun z=> ?_⟩
   ·refine d6 (i1 (by simpa[hp] using z)) fun σ' x=> ?_;exact⟨σ',P6.cons hb st x⟩
   ·refine d6 (i2 (by simpa[hp] using z)) fun σ' x=> ?_;exact⟨σ',P6.cons hb st x⟩
theorem At.le {s:Int} {w:Bool} {t:b9} {x:Option (List (Int×b9))} (A:At s w t x): ∀v,x=some v->v.length<=t.length/\ ∀p∈v,p.2.length<=t.length/\p.2≠[]:=by
 induction A with
 |fin=>intro v e;injection e with e;subst e;simp
 |open_=>intro v e;injection e
 |sgn _ _ ih=>intro v e;refine f8 (ih v e) fun a b=> ?_;exact⟨by simp;omega,fun p hp=>⟨by have:=(b p hp).1;simp;omega,(b p hp).2⟩⟩
 |sp _ ih=>intro v e;refine f8 (ih v e) fun a b=> ?_;exact⟨by simp;omega,fun p hp=>⟨by have:=(b p hp).1;simp;omega,(b p hp).2⟩⟩
 |two _ _ _=>intro v e;injection e
 |bad _ _ _ _=>intro v e;injection e
 | @atom s c n r x c1 c2 c3 hat A ih=>
  intro v e;refine f8 (bI hat) fun n1 n2=> ?_;cases x with
  |none=>injection e
  |some w=>
   injection e with e;subst e;refine f8 (ih w rfl) fun a b=> ?_;rw[List.length_drop] at a;refine⟨by simp at a ⊢;omega,fun p hp=> ?_⟩;rcases List.mem_cons.mp hp with rfl|hp
   ·refine⟨by simp;omega,?_⟩;obtain⟨k,rfl⟩: ∃k,n=k+1:=⟨n-1,by omega⟩;simp
   ·have:=(b p hp).1;rw[List.length_drop] at this;exact⟨by omega,(b p hp).2⟩
noncomputable def G0:List V->R V:=CN fun t l=>
  if t.length<=5000/\l.natAbs<1000000 then (match y0 t with|some as=>.ok (.bool (as.any fun p=>K8 p.2))|none=>.err l) else .stuck
theorem iW (hg:N6 g) (hao:g.fn "atoms_of"=some H8) (hin:g.fn "is_name"=some E1) (hil:g.fn "is_local"=some H6) (vs:List V) (hn:G0 vs≠.stuck):g8 g none l9.sc ["text","line"] l9.body vs (G0 vs):=by
 have hlim:i0=1048576:=rfl;refine C0 (K0 hn) fun t l z1r=> ?_;subst z1r;have hc:=D9 hn;refine l5 (if_pos hc) ?_;refine f8 hc fun hl hline=> ?_;clear hc;have hF:H8 [.str t,.int l]=(match y0 t with|some as=>.ok (.list (as.map w6))|none=>.err l):=by
  show(if _ then _ else _)=_;rw[if_pos ⟨hl,hline⟩]
 have hle:=(L4 t).le;cases hx:y0 t with
 |none=>
  rw[hx] at hF;exact g8.err rfl (d5.err (HI (by tm_at "e") rfl))
 |some as=>
  rw[hx] at hF;refine f8 (hle as hx) fun l1 l2=> ?_;have hit:s0 (.list (as.map w6))=.ok (as.map w6):=if_pos (by simp;omega);refine f8 (iC hg hin hil as (List.zip ["text","line"] [.str t,.int l]) (fun p hp=>by have:=(l2 p hp).1;omega)) fun i1 i2=> ?_;show g8 g none _ _ _ _ (.ok (.bool (as.any fun p=>K8 p.2)));cases hp:as.any (fun p=>K8 p.2) with
  |true=>
   refine d6 (i1 hp) fun σ' x=> ?_;exact g8.ret rfl (d5.ret (H3 (by tm_at "e") hit rfl x))
  |false=>
   refine d6 (i2 hp) fun σ' x=> ?_;exact g8.ret rfl (d5.cons (H3 (by tm_at "e") hit rfl x) (d5.ret (d8.ret (v:=.bool false) (by tm_at "e"))))
end
theorem J1 {a:b9} {l:List b9} (h:l.length<=i0):w8 .In (.str a) (.list (l.map V.str))=.ok (l.contains a):=by
 rw[OT];show(if (l.map V.str).length<=i0 then needR (M0 (l.map V.str)) (fun l=>R.ok (l.contains a)) else R.stuck)=_;rw[List.length_map,if_pos h,bC];rfl
theorem CT {a:b9} {l:List b9} (h:l.length<=i0):w8 .NotIn (.str a) (.list (l.map V.str))=.ok (!l.contains a):=by
 rw[yV,<-OT,J1 h];rfl
theorem LU {init:List b9} {last:b9} (h:init.length+1<=i0):P1 (.olist ((init++[last]).map V.str)) (.int (-1))=.ok (.str last):=by
 show(if ((init++[last]).map V.str).length<=i0 then needR (G2 (-1) ((init++[last]).map V.str).length) (fun k=>needR ((init++[last]).map V.str)[k]? R.ok) else R.stuck)=_;rw[if_pos (by simp;omega)];have:G2 (-1) ((init++[last]).map V.str).length=some init.length:=by
  unfold G2;rw[if_neg (by omega),if_pos (by simp;omega),List.length_map,List.length_append,List.length_singleton];congr 1;omega
 rw[this];show needR ((init++[last]).map V.str)[init.length]? R.ok=_;rw[show((init++[last]).map V.str)[init.length]? =some (V.str last) by simp];rfl
noncomputable def qc:Option Nat->b9
 |none=>[]
 |some q=>[q]
theorem qB (c:Nat):([[39],[34]]:List b9).contains [c]=nU c:=by
 unfold nU;rw[List.contains_cons,List.contains_cons,List.contains_nil,Bool.or_false,Bool.or_comm];have e: ∀k:Nat,((([c]:b9)==[k]))=(c==k):=fun k=>by simp
 rw[e,e]
section
variable {g:G} {t:b9}
noncomputable def newC (q:Option Nat) (c:Nat):Nat:=if q=none then T6 true c else c
theorem L5 {stop:Option Nat} {σ:d9} {c:Nat} {q:Option Nat} {e:Bool} {init:List b9} {last:b9} (hl1:init.length+2<=6000) (hl2:last.length+1<=6000) (hne: ¬(q=none/\c=44/\e=false/\stop=none))
  (h1:σ.get "found"=some (.olist ((init++[last]).map .str))) (h2:σ.get "quote"=some (.str (qc q))) (h3:σ.get "is_escaped"=some (.bool e)) (h4:σ.get "stop"=some (.str (qc stop))) (h5:σ.get "letter"=some (.str [c])):
  d8 g (some "found") o0.sc σ (i4 (sB (i4 o0.body 1)) 2) (.ok (.next,σ.set "found" (.olist ((init++[last++[newC q c]]).map .str)))):=by
 have hlim:i0=1048576:=rfl;have hcond:c8 g o0.sc σ true (sE (i4 (sB (i4 o0.body 1)) 2)) (.ok (.bool false)):=by
  refine c7 (j2 (I9.cons (by tm_at "e") fun Z=>I9.cons (by tm_at "e") fun Z=>I9.cons (by tm_at "e") fun Z=>I9.one (by tm_at "e"))) ?_;by_cases hc:c=44
  ·cases q<;>cases e<;>cases stop<;>simp_all[qc]
  ·have:(c==44)=false:=by simp[hc]
   simp[this]
 have e4:((init++[last]).map V.str).dropLast++[V.str (last++[newC q c])]=(init++[last++[newC q c]]).map V.str:=by simp
 exact d8.if0 hcond (d5.cons (e4▸GQ (vs:=(init++[last]).map V.str) (c8.bin (G5 (by tm_at "v") (by tm_at "e") (LU (by omega)) rfl) (c8.to (r':=.ok (.str [newC q c])) (by tm_at "e") (by
   unfold newC T6;by_cases h9:c=9
   ·subst h9;cases q<;>simp[qc]
   ·cases q<;>simp[qc,h9])) (add_str (by simp;omega))) (by tm_at "v") ⟨rfl,rfl,rfl,rfl⟩ rfl (by simp) (by simp;omega)) d5.nil)
theorem yD {stop:Option Nat} {σ:d9} {c:Nat} {q:Option Nat} {e:Bool} {init:List b9} {last:b9} (hs:stop=none\/stop=some 35) (hqe:q=none->e=false) (hqq: ∀k,q=some k->nU k=true) (h0: ¬(q=none/\stop=some c)) (hl1:init.length+2<=6000) (hl2:last.length+1<=6000)
  (h1:σ.get "found"=some (.olist ((init++[last]).map .str))) (h2:σ.get "quote"=some (.str (qc q))) (h3:σ.get "is_escaped"=some (.bool e)) (h4:σ.get "stop"=some (.str (qc stop))) (h5:σ.get "letter"=some (.str [c])):
  ∃σ' q' e' init' last',d5 g (some "found") o0.sc σ (sB (i4 o0.body 1)) (.ok (.next,σ'))/\(q'=none->e'=false)/\(∀k,q'=some k->nU k=true)/\init'.length<=init.length+1/\last'.length<=last.length+1/\
   σ'.get "found"=some (.olist ((init'++[last']).map .str))/\σ'.get "quote"=some (.str (qc q'))/\σ'.get "is_escaped"=some (.bool e')/\σ'.get "stop"=some (.str (qc stop))/\
   ∀r,(match pm stop true (c::r) q e with|none=>pm stop true r q' e'=none|some ps=> ∃ps',pm stop true r q' e'=some ps'/\init++A0 last ps=init'++A0 last' ps'):=by
 have hlim:i0=1048576:=rfl;have e0:d8 g (some "found") o0.sc σ (i4 (sB (i4 o0.body 1)) 0) (.ok (.next,σ)):=by
  refine d8.if0 (c7 (by tm_at "e") ?_) d5.nil;cases q with
  |none=>
   have:stop≠some c:=fun z=>h0 ⟨rfl,z⟩;rcases hs with rfl|rfl
   ·rfl
   ·have:c≠35:=fun z=>this (by rw[z]);simp[qc,this]
  |some k=>rfl
 have push1: ∀{x:Option (List b9)} {c':Nat} {y:Option (List b9)},(∀l,x=some l->l≠[])->y=x.map (push c')->(match y with|none=>x=none|some ps=> ∃ps',x=some ps'/\init++A0 last ps=init++A0 (last++[c']) ps'):=by
  intro x c' y hx hy;subst hy;cases x with
  |none=>rfl
  |some l=>exact⟨l,rfl,by rw[zX,bF]⟩
 cases q with
 |none=>
  have he:e=false:=hqe rfl;subst he;have hst:stop≠some c:=fun z=>h0 ⟨rfl,z⟩;cases hQ:nU c with
  |true=>
   have h44:c≠44:=by intro z;rw[z] at hQ;exact absurd hQ (by decide)
   have h9:newC (some c) c=c:=rfl;have e1:d8 g (some "found") o0.sc σ (i4 (sB (i4 o0.body 1)) 1) (.ok (.next,σ.set "quote" (.str [c]))):=
    d8.if0 (c7 (by tm_at "e") (by exact rfl)) (d5.cons (d8.if0 (c7 (by tm_at "e") (by simp[qc])) (d5.cons (d8.if0 (c7 (j2 (I9.cons (b1:=false) (b2:=true) (c7 (by tm_at "e") (by exact rfl)) fun h=>by injection h)) (by exact rfl)) (d5.cons (d8.if1 (c9 (j2 (I9.cons (by tm_at "e") fun Z=>I9.one (e9 (by tm_at "e") (c8.list (vs:=[.str [39],.str [34]]) (by tm_at "e") rfl (by decide)) (J1 (l:=[[39],[34]]) (by decide)) rfl))) (by rw[qB,hQ];rfl)) (d5.cons (d7 (by tm_at "e") (by decide) (by decide) rfl) d5.nil)) d5.nil)) d5.nil)) d5.nil)
   have e2:=L5 (g:=g) (stop:=stop) (q:=some c) (e:=false) (c:=c) (init:=init) (last:=last) (σ:=σ.set "quote" (.str [c])) hl1 hl2 (by rintro ⟨z,_⟩;injection z) (by tm_at "n") (by tm_at "n") (by tm_at "n") (by tm_at "n") (by tm_at "n");refine⟨_,some c,false,init,last++[c],d5.cons e0 (d5.cons e1 (d5.cons e2 d5.nil)),fun z=>(by injection z),fun k z=>(by injection z with z;subst z;exact hQ),by omega,by simp,by rw[h9];tm_at "n",by tm_at "n",by tm_at "n",by tm_at "n",fun r=> ?_⟩;exact push1 (fun l h=>cM h) (by rw[fZ,if_neg hst,hQ,if_pos rfl])
  |false=>
   have e1:d8 g (some "found") o0.sc σ (i4 (sB (i4 o0.body 1)) 1) (.ok (.next,σ)):=
    d8.if0 (c7 (by tm_at "e") (by exact rfl)) (d5.cons (d8.if0 (c7 (by tm_at "e") (by simp[qc])) (d5.cons (d8.if0 (c7 (j2 (I9.cons (b1:=false) (b2:=true) (c7 (by tm_at "e") (by exact rfl)) fun h=>by injection h)) (by exact rfl)) (d5.cons (d8.if0 (c7 (j2 (I9.cons (by tm_at "e") fun Z=>I9.one (e9 (by tm_at "e") (c8.list (vs:=[.str [39],.str [34]]) (by tm_at "e") rfl (by decide)) (J1 (l:=[[39],[34]]) (by decide)) rfl))) (by rw[qB,hQ];rfl)) d5.nil) d5.nil)) d5.nil)) d5.nil)
   by_cases hcm:c=44/\stop=none
   ·refine f8 hcm fun z3r z4r=> ?_;clear hcm;subst z3r;subst z4r;have e2:d8 g (some "found") o0.sc σ (i4 (sB (i4 o0.body 1)) 2) (.ok (.next,σ.set "found" (.olist ((init++[last]).map .str++[.str []])))):=
     d8.if1 (c9 (j2 (I9.cons (by tm_at "e") fun Z=>I9.cons (by tm_at "e") fun Z=>I9.cons (by tm_at "e") fun Z=>I9.one (by tm_at "e"))) (by exact rfl)) (d5.cons (d8.append (by tm_at "e") (by tm_at "v") (by decide) rfl (by simp;omega)) d5.nil)
    refine⟨_,none,false,init++[last],[],d5.cons e0 (d5.cons e1 (d5.cons e2 d5.nil)),fun Z=>rfl,fun k z=>(by injection z),by simp,by simp,by rw[List.map_append (l₁:=init++[last])];tm_at "n",by tm_at "n",by tm_at "n",by tm_at "n",fun r=> ?_⟩;rw[fZ,if_neg hst,hQ,if_neg (by decide),if_pos ⟨rfl,rfl⟩];cases hp:pm none true r none false with
    |none=>rfl
    |some l=>exact⟨l,rfl,by rw[bZ _ (cM hp)];simp[A0]⟩
   ·have e2:=L5 (g:=g) (stop:=stop) (q:=none) (e:=false) (c:=c) (init:=init) (last:=last) (σ:=σ) hl1 hl2 (by rintro ⟨_,z,_,z'⟩;exact hcm ⟨z,z'⟩) h1 h2 h3 h4 h5;refine⟨_,none,false,init,last++[T6 true c],d5.cons e0 (d5.cons e1 (d5.cons e2 d5.nil)),fun Z=>rfl,fun k z=>(by injection z),by omega,by simp,by tm_at "n",by tm_at "n",by tm_at "n",by tm_at "n",fun r=> ?_⟩;exact push1 (fun l h=>cM h) (by rw[fZ,if_neg hst,hQ,if_neg (by decide),if_neg hcm])
 |some k=>
  have hk:=hqq k rfl;have hk92:k≠92:=by intro z;rw[z] at hk;exact absurd hk (by decide)
  cases e with
  |true=>
   have e1:d8 g (some "found") o0.sc σ (i4 (sB (i4 o0.body 1)) 1) (.ok (.next,σ.set "is_escaped" (.bool false))):=
    d8.if1 (c9 (by tm_at "e") (by exact rfl)) (d5.cons (d7 (by tm_at "e") (by decide) (by decide) rfl) d5.nil)
   have e2:=L5 (g:=g) (stop:=stop) (q:=some k) (e:=false) (c:=c) (init:=init) (last:=last) (σ:=σ.set "is_escaped" (.bool false)) hl1 hl2 (by rintro ⟨z,_⟩;injection z) (by tm_at "n") (by tm_at "n") (by tm_at "n") (by tm_at "n") (by tm_at "n");refine⟨_,some k,false,init,last++[c],d5.cons e0 (d5.cons e1 (d5.cons e2 d5.nil)),fun z=>(by injection z),fun k' z=>(by injection z with z;subst z;exact hk),by omega,by simp,by tm_at "n",by tm_at "n",by tm_at "n",by tm_at "n",fun r=> ?_⟩;exact push1 (fun l h=>cM h) (uV ..)
  |false=>
   by_cases h92:c=92
   ·have e1:d8 g (some "found") o0.sc σ (i4 (sB (i4 o0.body 1)) 1) (.ok (.next,σ.set "is_escaped" (.bool true))):=
     d8.if0 (c7 (by tm_at "e") (by exact rfl)) (d5.cons (d8.if1 (c9 (by tm_at "e") (by simp[qc,h92])) (d5.cons (d7 (by tm_at "e") (by decide) (by decide) rfl) d5.nil)) d5.nil)
    have e2:=L5 (g:=g) (stop:=stop) (q:=some k) (e:=true) (c:=c) (init:=init) (last:=last) (σ:=σ.set "is_escaped" (.bool true)) hl1 hl2 (by rintro ⟨z,_⟩;injection z) (by tm_at "n") (by tm_at "n") (by tm_at "n") (by tm_at "n") (by tm_at "n");refine⟨_,some k,true,init,last++[c],d5.cons e0 (d5.cons e1 (d5.cons e2 d5.nil)),fun z=>(by injection z),fun k' z=>(by injection z with z;subst z;exact hk),by omega,by simp,by tm_at "n",by tm_at "n",by tm_at "n",by tm_at "n",fun r=> ?_⟩;exact push1 (fun l h=>cM h) (by rw[lR,if_pos h92])
   ·by_cases hck:c=k
    ·subst hck;have e1:d8 g (some "found") o0.sc σ (i4 (sB (i4 o0.body 1)) 1) (.ok (.next,σ.set "quote" (.str []))):=
      d8.if0 (c7 (by tm_at "e") (by exact rfl)) (d5.cons (d8.if0 (c7 (by tm_at "e") (by simp[h92])) (d5.cons (d8.if1 (c9 (j2 (I9.cons (by tm_at "e") fun Z=>I9.one (by tm_at "e"))) (by simp[qc])) (d5.cons (d7 (by tm_at "e") (by decide) (by decide) rfl) d5.nil)) d5.nil)) d5.nil)
     have h44:c≠44:=by intro z;rw[z] at hk;exact absurd hk (by decide)
     have h9:newC none c=c:=by
      have:c≠9:=by intro z;rw[z] at hk;exact absurd hk (by decide)
      simp[newC,T6,this]
     have e2:=L5 (g:=g) (stop:=stop) (q:=none) (e:=false) (c:=c) (init:=init) (last:=last) (σ:=σ.set "quote" (.str [])) hl1 hl2 (by rintro ⟨_,z,_⟩;exact h44 z) (by tm_at "n") (by tm_at "n") (by tm_at "n") (by tm_at "n") (by tm_at "n");refine⟨_,none,false,init,last++[c],d5.cons e0 (d5.cons e1 (d5.cons e2 d5.nil)),fun Z=>rfl,fun k' z=>(by injection z),by omega,by simp,by rw[h9];tm_at "n",by tm_at "n",by tm_at "n",by tm_at "n",fun r=> ?_⟩;exact push1 (fun l h=>cM h) (by rw[lR,if_neg h92,if_pos rfl])
    ·have e1:d8 g (some "found") o0.sc σ (i4 (sB (i4 o0.body 1)) 1) (.ok (.next,σ)):=
      d8.if0 (c7 (by tm_at "e") (by exact rfl)) (d5.cons (d8.if0 (c7 (by tm_at "e") (by simp[h92])) (d5.cons (d8.if0 (c7 (j2 (I9.cons (by tm_at "e") fun Z=>I9.one (by tm_at "e"))) (by simp[qc,hck])) (d5.cons (d8.if0 (c7 (j2 (I9.cons (b1:=false) (b2:=true) (c7 (by tm_at "e") (by exact rfl)) fun h=>by injection h)) (by exact rfl)) d5.nil) d5.nil)) d5.nil)) d5.nil)
     have e2:=L5 (g:=g) (stop:=stop) (q:=some k) (e:=false) (c:=c) (init:=init) (last:=last) (σ:=σ) hl1 hl2 (by rintro ⟨z,_⟩;injection z) h1 h2 h3 h4 h5;refine⟨_,some k,false,init,last++[c],d5.cons e0 (d5.cons e1 (d5.cons e2 d5.nil)),fun z=>(by injection z),fun k' z=>(by injection z with z;subst z;exact hk),by omega,by simp,by tm_at "n",by tm_at "n",by tm_at "n",by tm_at "n",fun r=> ?_⟩;exact push1 (fun l h=>cM h) (by rw[lR,if_neg h92,if_neg hck])
theorem lZ {stop:Option Nat} (hs:stop=none\/stop=some 35): ∀(r:b9) (σ:d9) (q:Option Nat) (e:Bool) (init:List b9) (last:b9),(q=none->e=false)->(∀k,q=some k->nU k=true)->init.length+r.length+2<=6000->last.length+r.length+1<=6000->
  σ.get "found"=some (.olist ((init++[last]).map .str))->σ.get "quote"=some (.str (qc q))->σ.get "is_escaped"=some (.bool e)->σ.get "stop"=some (.str (qc stop))->
  match pm stop true r q e with
  |none=> ∃σ' k,P6 g (some "found") o0.sc σ (V0 (i4 o0.body 1)) (sB (i4 o0.body 1)) (r.map fun c=>.str [c]) (.ok (.next,σ'))/\σ'.get "quote"=some (.str [k])
  |some ps=> ∃σ',P6 g (some "found") o0.sc σ (V0 (i4 o0.body 1)) (sB (i4 o0.body 1)) (r.map fun c=>.str [c]) (.ok (.next,σ'))/\σ'.get "quote"=some (.str [])/\σ'.get "found"=some (.olist ((init++A0 last ps).map .str))
 |[],σ,none,e,init,last,_,_,_,_,h1,h2,_,_=>⟨σ,P6.nil,h2,by rw[h1];simp[A0]⟩
 |[],σ,some k,e,init,last,_,_,_,_,_,h2,_,_=>⟨σ,k,P6.nil,h2⟩
 |c::r,σ,q,e,init,last,hqe,hqq,hl1,hl2,h1,h2,h3,h4=>by
  have hlim:i0=1048576:=rfl;rw[List.length_cons] at hl1 hl2;have hb:s5 σ (V0 (i4 o0.body 1)) (.str [c])=.ok (σ.set "letter" (.str [c])):=rfl;by_cases h0:q=none/\stop=some c
  ·refine f8 h0 fun z2r hst=> ?_;clear h0;subst z2r;rw[fZ,if_pos hst];have hc:c=35:=by
    rcases hs with z|z
    ·rw[z] at hst;injection hst
    ·rw[z] at hst;exact(Option.some.inj hst).symm
   subst hc;have hst':qc stop=[35]:=by rw[hst];rfl
   refine⟨σ.set "letter" (.str [35]),P6.brk hb (d5.brk (d8.if1 (c9 (by tm_at "e") (by rw[hst'];rfl)) (d5.brk d8.brk))),by tm_at "n",?_⟩;have:(σ.set "letter" (.str [35])).get "found"=some (.olist ((init++[last]).map .str)):=by tm_at "n"
   rw[this];simp[A0]
  ·refine RW (yD (g:=g) (σ:=σ.set "letter" (.str [c])) hs hqe hqq h0 (init:=init) (last:=last) (by omega) (by omega) (by tm_at "n") (by tm_at "n") (by tm_at "n") (by tm_at "n") (by tm_at "n")) fun σ' q' e' init' last' st p1 p2 p3 p4 g1 g2 g3 g4 rel=> ?_;have IH:=lZ hs r σ' q' e' init' last' p1 p2 (by omega) (by omega) g1 g2 g3 g4;have rel:=rel r;cases hp:pm stop true (c::r) q e with
   |none=>
    rw[hp] at rel;rw[rel] at IH;refine r0 IH fun σ2 k x y=> ?_;clear IH;exact⟨σ2,k,P6.cons hb st x,y⟩
   |some ps=>
    rw[hp] at rel;refine e8 rel fun ps' e1 e2=> ?_;clear rel;rw[e1] at IH;refine r6 IH fun σ2 x y z=> ?_;clear IH;exact⟨σ2,P6.cons hb st x,y,by rw[z,e2]⟩
noncomputable def rX (s:b9):Option (Option Nat):=if s=[] then some none else if s=[35] then some (some 35) else none
noncomputable def A7:List V->R V:=
 ZN fun t s=>needR (rX s) fun stop=>if t.length<=5000 then (match pm stop true t none false with|some ps=>.ok (.list (ps.map .str))|none=>.ok .none) else .stuck
theorem nY (vs:List V) (hn:A7 vs≠.stuck):g8 g (some "found") o0.sc ["text","stop"] o0.body vs (A7 vs):=by
 have hlim:i0=1048576:=rfl;refine C0 (LN hn) fun t s zr=> ?_;subst zr;refine e8 (t7 (show needR (rX s) _≠R.stuck from hn)) fun stop hstop hn=> ?_;have hl:=D9 hn;refine l5 (r':=match pm stop true t none false with|some ps=>.ok (.list (ps.map .str))|none=>.ok .none) (by show needR (rX s) _=_;rw[hstop];exact if_pos hl) ?_;have hs:(stop=none\/stop=some 35)/\s=qc stop:=by
  unfold rX at hstop;by_cases h1:s=[]
  ·rw[if_pos h1] at hstop;injection hstop with hstop;subst hstop;exact⟨.inl rfl,h1⟩
  rw[if_neg h1] at hstop;by_cases h2:s=[35]
  ·rw[if_pos h2] at hstop;injection hstop with hstop;subst hstop;exact⟨.inr rfl,h2⟩
  ·rw[if_neg h2] at hstop;injection hstop
 obtain⟨hs,rfl⟩:=hs;have e0:d8 g (some "found") o0.sc (List.zip ["text","stop"] [.str t,.str (qc stop)]) (i4 o0.body 0) (.ok (.next,d9.set (d9.set (d9.set (List.zip ["text","stop"] [.str t,.str (qc stop)]) "found" (.olist [.str []])) "quote" (.str [])) "is_escaped" (.bool false))):=
  i7 (vs:=[.list [.str []],.str [],.bool false]) (by tm_at "e") rfl (by decide) rfl
 have L:=lZ (g:=g) hs t (d9.set (d9.set (d9.set (List.zip ["text","stop"] [.str t,.str (qc stop)]) "found" (.olist [.str []])) "quote" (.str [])) "is_escaped" (.bool false)) none false [] [] (fun Z=>rfl) (fun k z=>by injection z) (by simp;omega) (by simp;omega) (by tm_at "n") (by tm_at "n") (by tm_at "n") (by tm_at "n");have htx:(d9.set (d9.set (d9.set (List.zip ["text","stop"] [.str t,.str (qc stop)]) "found" (.olist [.str []])) "quote" (.str [])) "is_escaped" (.bool false)).get "text"=some (.str t):=by tm_at "n"
 cases hp:pm stop true t none false with
 |none=>
  rw[hp] at L;refine r0 L fun σ' k x y=> ?_;clear L;exact g8.ret rfl (d5.cons e0 (d5.cons (H3 (by tm_at "e") (w5 (by omega)) rfl x) (d5.ret (d8.ret (v:=.none) (c8.if1 (c9 (by tm_at "e") (by exact rfl)) (by tm_at "e"))))))
 |some ps=>
  rw[hp] at L;refine r6 L fun σ' x y z=> ?_;clear L;rw[List.nil_append,bZ _ (cM hp)] at z;exact g8.ret rfl (d5.cons e0 (d5.cons (H3 (by tm_at "e") (w5 (by omega)) rfl x) (d5.ret (d8.ret (v:=.olist (ps.map .str)) (c8.if0 (c7 (by tm_at "e") (by exact rfl)) (by tm_at "e"))))))
end
theorem HJ {v:V} {vs:List V} (h:vs.length+1<=i0):P1 (.list (v::vs)) (.int 0)=.ok v:=by
 show(if (v::vs).length<=i0 then needR (G2 0 (v::vs).length) (fun k=>needR (v::vs)[k]? R.ok) else R.stuck)=_;rw[if_pos (show(v::vs).length<=i0 from h)];have:G2 0 (v::vs).length=some 0:=by
  unfold G2;rw[if_pos (by omega),if_pos (by simp)];rfl
 rw[this];rfl
theorem vC {t:b9}:j9 t none (some 1)=t.take 1:=jJ (b:=1)
theorem HK {t:b9} (h:1<=t.length):j9 t (some 1) none=t.drop 1:=jI (a:=1) h
theorem mF {t:b9}:j9 t (some (-1)) none=t.drop (t.length-1):=by
 unfold j9 AV P4;dsimp only;rw[if_pos (by omega),List.take_length,show(-1+(t.length:Int)).toNat=t.length-1 by omega]
section
variable {g:G} {t:b9}
theorem mG: ∀(t:b9) (σ:d9),t.length<=5000->σ.get "text"=some (.str t)-> ∃σ',d8 g none H5.sc σ (i4 H5.body 0) (.ok (.next,σ'))/\σ'.get "text"=some (.str (t.dropWhile j4))
 |[],σ,hl,h=>by
  have hlim:i0=1048576:=rfl;exact⟨σ,h7 (c7 (e9 (vC (t:=[])▸c8.slice (by tm_at "v") (by tm_at "e") (by tm_at "e") (by simp)) (by tm_at "e") (dR _ _) rfl) (by simp)),h⟩
 |c::r,σ,hl,h=>by
  have hlim:i0=1048576:=rfl;have hsz:(c::r).length<=i0:=by omega
  have hT:c8 g H5.sc σ true (sE (i4 H5.body 0)) (.ok (.bool (j4 c))):=
   c8.to (e9 (vC (t:=c::r)▸c8.slice (by tm_at "v") (by tm_at "e") (by tm_at "e") hsz) (by tm_at "e") (dR _ _) rfl) (by simp[j4])
  rw[List.dropWhile_cons];cases hb:j4 c with
  |false=>
   rw[hb] at hT;exact⟨σ,h7 hT,h⟩
  |true=>
   rw[hb] at hT;refine e8 (mG r (σ.set "text" (.str r)) (by simp at hl;omega) (by tm_at "n")) fun σ' x y=> ?_;exact⟨σ',i3 hT (d5.cons (d7 (v:=.str r) (c8.to (c8.slice (by tm_at "v") (by tm_at "e") (by tm_at "e") hsz) (by rw[HK (t:=c::r) (by simp)];rfl)) (by decide) (by decide) rfl) d5.nil) x,y⟩
theorem CU: ∀(n:Nat) (t:b9) (σ:d9),t.length<=n->t.length<=5000->σ.get "text"=some (.str t)-> ∃σ',d8 g none H5.sc σ (i4 H5.body 1) (.ok (.next,σ'))/\σ'.get "text"=some (.str (t.reverse.dropWhile j4).reverse):=by
 intro n;have hlim:i0=1048576:=rfl;induction n with
 |zero=>
  intro t σ hn hl h;have:t=[]:=List.length_eq_zero_iff.mp (by omega);subst this;exact⟨σ,h7 (c7 (e9 (mF (t:=[])▸c8.slice (by tm_at "v") (by tm_at "e") (by tm_at "e") (by simp)) (by tm_at "e") (dR _ _) rfl) (by simp)),h⟩
 |succ n ih=>
  intro t σ hn hl h;rcases List.eq_nil_or_concat t with rfl|⟨i,c,rfl⟩
  ·exact⟨σ,h7 (c7 (e9 (mF (t:=[])▸c8.slice (by tm_at "v") (by tm_at "e") (by tm_at "e") (by simp)) (by tm_at "e") (dR _ _) rfl) (by simp)),h⟩
  rw[List.concat_eq_append] at*;have hsz:(i++[c]).length<=i0:=by omega
  have hT:c8 g H5.sc σ true (sE (i4 H5.body 1)) (.ok (.bool (j4 c))):=
   c8.to (e9 (mF (t:=i++[c])▸c8.slice (by tm_at "v") (by tm_at "e") (by tm_at "e") hsz) (by tm_at "e") (dR _ _) rfl) (by simp[j4])
  rw[List.reverse_append,List.reverse_singleton,List.singleton_append,List.dropWhile_cons];cases hb:j4 c with
  |false=>
   rw[hb] at hT;exact⟨σ,h7 hT,by rw[h];simp⟩
  |true=>
   rw[hb] at hT;refine e8 (ih i (σ.set "text" (.str i)) (by simp at hn;omega) (by simp at hl;omega) (by tm_at "n")) fun σ' x y=> ?_;have hdl:j9 (i++[c]) none (some (-1))=i:=by rw[eR (by simp)];simp
   exact⟨σ',i3 hT (d5.cons (d7 (v:=.str i) (c8.to (c8.slice (by tm_at "v") (by tm_at "e") (by tm_at "e") hsz) (by rw[hdl])) (by decide) (by decide) rfl) d5.nil) x,y⟩
noncomputable def C7:List V->R V:=fS fun t=>
  if t.length<=5000 then .ok (.str (i6 t)) else .stuck
theorem iX (vs:List V) (hn:C7 vs≠.stuck):g8 g none H5.sc ["text"] H5.body vs (C7 vs):=by
 refine d6 (R8 hn) fun t z4r=> ?_;subst z4r;have hl:=D9 hn;refine l5 (if_pos hl) ?_;refine e8 (mG (g:=g) t (List.zip ["text"] [.str t]) hl rfl) fun wL x1 y1=> ?_;have hd:(t.dropWhile j4).length<=t.length:=(List.dropWhile_sublist _).length_le;refine e8 (CU (g:=g) _ (t.dropWhile j4) wL (Nat.le_refl _) (by omega) y1) fun σ2 x2 y2=> ?_;exact g8.ret rfl (d5.cons x1 (d5.cons x2 (d5.ret (d8.ret (v:=.str (i6 t)) (c8.name (g6 y2 rfl (by decide)))))))
noncomputable def S2:List V->R V:=fS fun t=>
  if t.length<=5000 then (match N0 t with|some b=>.ok (.str b)|none=>.ok .none) else .stuck
theorem rY {stop:Option Nat} {tb:Bool}: ∀{t:b9} {q:Option Nat} {e:Bool} {l:List b9},pm stop tb t q e=some l->l.length<=t.length+1/\ ∀p∈l,p.length<=t.length:=by
 intro t;have one: ∀{x:Option (List b9)} {c n:Nat} {l:List b9},(∀l,x=some l->l.length<=n+1/\ ∀p∈l,p.length<=n)->x.map (push c)=some l->l.length<=n+1+1/\ ∀p∈l,p.length<=n+1:=by
  intro x c n l h e;cases x with
  |none=>injection e
  |some y=>
   refine f8 (h y rfl) fun h1 h2=> ?_;injection e with e;subst e;cases y with
   |nil=>simp[push]
   |cons p ps=>
    refine⟨by simp[push] at h1 ⊢;omega,fun p' hp=> ?_⟩;rcases List.mem_cons.mp hp with rfl|hp
    ·have:=h2 p List.mem_cons_self;simp;omega
    ·have:=h2 p' (List.mem_cons_of_mem _ hp);omega
 induction t with
 |nil=>intro q e l h;cases q<;>cases h;simp
 |cons c r ih=>
  intro q e l h;rw[List.length_cons];cases q with
  |none=>
   rw[fZ] at h;split at h
   ·injection h with h;subst h;simp
   split at h
   ·exact one (fun l z=>ih z) h
   split at h
   ·cases hp:pm stop tb r none false with
    |none=>rw[hp] at h;injection h
    |some y=>
     rw[hp] at h;injection h with h;subst h;refine f8 (ih hp) fun h1 h2=> ?_;refine⟨by simp;omega,fun p hp'=> ?_⟩;rcases List.mem_cons.mp hp' with rfl|hp'
     ·simp
     ·have:=h2 p hp';omega
   exact one (fun l z=>ih z) h
  |some q=>
   cases e with
   |true=>rw[uV] at h;exact one (fun l z=>ih z) h
   |false=>
    rw[lR] at h;split at h
    ·exact one (fun l z=>ih z) h
    split at h
    ·exact one (fun l z=>ih z) h
    ·exact one (fun l z=>ih z) h
theorem rZ (hp:g.fn "_law_parts"=some A7) (ht:g.fn "_law_trimmed"=some C7) (vs:List V) (hn:S2 vs≠.stuck):g8 g none GT.sc ["text"] GT.body vs (S2 vs):=by
 have hlim:i0=1048576:=rfl;refine d6 (R8 hn) fun t z3r=> ?_;subst z3r;have hl:=D9 hn;refine l5 (if_pos hl) ?_;have hF:A7 [.str t,.str [35]]=(match pm (some 35) true t none false with|some ps=>.ok (.list (ps.map .str))|none=>.ok .none):=if_pos hl;unfold N0;cases hpm:pm (some 35) true t none false with
 |none=>
  rw[hpm] at hF;exact g8.ret rfl (d5.cons (d7 (v:=.none) (by tm_at "e") (by decide) (by decide) rfl) (d5.ret (d8.if1 (c9 (by tm_at "e") (by exact rfl)) (d5.ret (d8.ret (v:=.none) (by tm_at "e"))))))
 |some ps=>
  rw[hpm] at hF;refine d6 (Y8 hpm) fun b z2r=> ?_;subst z2r;have hbl:=(rY hpm).2 b List.mem_cons_self;have hF2:C7 [.str b]=.ok (.str (i6 b)):=if_pos (by omega);exact g8.ret rfl (d5.cons (d7 (v:=.list [.str b]) (by tm_at "e") (by decide) (by decide) rfl) (d5.cons (d8.if0 (c7 (by tm_at "e") (by exact rfl)) d5.nil) (d5.ret (d8.ret (v:=.str (i6 b)) (c8.call (v5.cons (G5 (by tm_at "v") (by tm_at "e") (HJ (by decide)) rfl) v5.nil) ht hF2 rfl rfl rfl)))))
theorem vD {csc:Scope} {elt:Expr} {x:Str} {xp:Pos} {σ:d9} {f:b9->V} (hf: ∀c,(f c).open? =false): ∀{r:List b9},(∀c∈r,c8 g csc (σ.set x (.str c)) false elt (.ok (f c)))->Q5 g csc σ (.Name x xp) elt [] (r.map V.str) (r.map f)
 |[],_=>Q5.nil
 |c::r,h=>Q5.take rfl (h c List.mem_cons_self) (hf c) (vD hf fun d hd=>h d (List.mem_cons_of_mem _ hd))
noncomputable def H9:List V->R V:=fS fun t=>
  if t.length<=5000 then (match U9 true t with|some b=>.ok (.list (b.map .str))|none=>.ok .none) else .stuck
theorem gE (hp:g.fn "_law_parts"=some A7) (ht:g.fn "_law_trimmed"=some C7) (vs:List V) (hn:H9 vs≠.stuck):g8 g none A9.sc ["text"] A9.body vs (H9 vs):=by
 have hlim:i0=1048576:=rfl;refine d6 (R8 hn) fun t z1r=> ?_;subst z1r;have hl:=D9 hn;refine l5 (if_pos hl) ?_;unfold U9;by_cases h0:t=[]
 ·rw[if_pos h0];exact g8.ret rfl (d5.ret (d8.if1 (c9 (by tm_at "e") (by simp[h0])) (d5.ret (d8.ret (v:=.list []) (by tm_at "e")))))
 rw[if_neg h0];have e0:d8 g none A9.sc (List.zip ["text"] [.str t]) (i4 A9.body 0) (.ok (.next,List.zip ["text"] [.str t])):=d8.if0 (c7 (by tm_at "e") (by simp[h0])) d5.nil;have hF:A7 [.str t,.str []]=(match pm none true t none false with|some ps=>.ok (.list (ps.map .str))|none=>.ok .none):=if_pos hl;cases hpm:pm none true t none false with
 |none=>
  rw[hpm] at hF;exact g8.ret rfl (d5.cons e0 (d5.cons (d7 (v:=.none) (by tm_at "e") (by decide) (by decide) rfl) (d5.cons (d7 (v:=.none) (c8.if1 (c9 (by tm_at "e") (by exact rfl)) (by tm_at "e")) (by decide) (by decide) rfl) (d5.ret (d8.ret (v:=.none) (c8.if1 (c9 (C1 (Z9.cons (b1:=true) (b2:=true) (c9 (by tm_at "e") (by exact rfl)) fun h=>by injection h)) (by exact rfl)) (by tm_at "e")))))))
 |some ps=>
  rw[hpm] at hF;refine f8 (rY hpm) fun l1 l2=> ?_;have hsz:ps.length<=i0:=by omega
  have hsz2:(ps.map i6).length<=i0:=by simp;omega
  have e1:d8 g none A9.sc (List.zip ["text"] [.str t]) (i4 A9.body 1) (.ok (.next,d9.set (List.zip ["text"] [.str t]) "found" (.list (ps.map .str)))):=d7 (v:=.list (ps.map .str)) (by tm_at "e") (by decide) (by decide) rfl;have hit:s0 (.list (ps.map V.str))=.ok (ps.map V.str):=if_pos (by simp;omega);have e2:d8 g none A9.sc (d9.set (List.zip ["text"] [.str t]) "found" (.list (ps.map .str))) (i4 A9.body 2) (.ok (.next,(d9.set (List.zip ["text"] [.str t]) "found" (.list (ps.map .str))).set "found" (.list ((ps.map i6).map .str)))):=by
   refine d7 (v:=.list ((ps.map i6).map .str)) (c8.if0 (c7 (by tm_at "e") (by exact rfl)) ?_) (by decide) (by decide) rfl;rw[List.map_map];refine J8 (by tm_at "e") hit (vD (f:=V.str ∘ i6) (fun Z=>rfl) fun c hc=> ?_) rfl;have hF2:C7 [.str c]=.ok (.str (i6 c)):=if_pos (by have:=l2 c hc;omega);show c8 _ _ _ _ _ (.ok (.str (i6 c)));tm_at "e"
  have h2:((d9.set (List.zip ["text"] [.str t]) "found" (.list (ps.map .str))).set "found" (.list ((ps.map i6).map .str))).get "found"=some (.list ((ps.map i6).map .str)):=d9.same;show g8 g none A9.sc _ A9.body _ (match (if (ps.map i6).contains [] then none else some (ps.map i6):Option (List b9)) with|some b=>.ok (.list (b.map .str))|none=>.ok .none);have hcond:c8 g A9.sc ((d9.set (List.zip ["text"] [.str t]) "found" (.list (ps.map .str))).set "found" (.list ((ps.map i6).map .str))) true (eK (sE (i4 A9.body 3)) 0) (.ok (.bool ((ps.map i6).contains []))):=
   c8.to (C1 (Z9.cons (by tm_at "e") fun Z=>Z9.one (e9 (by tm_at "e") (by tm_at "e") (J1 hsz2) rfl))) (by simp)
  cases hq:(ps.map i6).contains [] with
  |true=>
   rw[hq] at hcond;rw[if_pos rfl];exact g8.ret rfl (d5.cons e0 (d5.cons e1 (d5.cons e2 (d5.ret (d8.ret (v:=.none) (c8.if1 hcond (by tm_at "e")))))))
  |false=>
   rw[hq] at hcond;rw[if_neg (by decide)];exact g8.ret rfl (d5.cons e0 (d5.cons e1 (d5.cons e2 (d5.ret (d8.ret (v:=.list ((ps.map i6).map .str)) (c8.if0 hcond (by tm_at "e")))))))
end
theorem CV {i:Int} {l:List Int} (h:l.length<=i0):w8 .NotIn (.int i) (.list (l.map V.int))=.ok (!l.contains i):=by
 rw[yV];show(if (l.map V.int).length<=i0 then needR (J3 (l.map V.int)) (fun l=>R.ok (l.contains i)) else R.stuck).map (!·)=_;rw[List.length_map,if_pos h,bD];rfl
theorem LV {us:List V} (h:us.length<=i0):w8 .Eq (.list us) (.list [])=.ok us.isEmpty:=by rw[ST,if_pos h]
section
variable {g:G} {t:b9}
noncomputable def s8 (c:Nat):Int:=if cH c then 1 else if X3 c||([[95],[46],[36]]:List b9).contains [c] then 2 else 0
noncomputable def v4:List V->R V:=fS fun t=>needR (RO t) fun q=>QA (if q.1<128 then .ok (.int (s8 q.1)) else .stuck) q.2
theorem sA (hord:g.fn "ord"=none) (vs:List V) (hn:v4 vs≠.stuck):g8 g none lJ.sc ["letter"] lJ.body vs (v4 vs):=by
 have hlim:i0=1048576:=rfl;refine d6 (R8 hn) fun t zr=> ?_;subst zr;refine e8 (t7 (show needR (RO t) _≠R.stuck from hn)) fun q e hn'=> ?_;have e2:=zW hn';have e:=eQ e;rw[e2] at e;generalize q.1=c at e;subst e;have hc:c<128:=D9 hn;refine l5 (if_pos hc) ?_;unfold s8;have hT:c8 g lJ.sc (List.zip ["letter"] [.str [c]]) true (sE (i4 lJ.body 0)) (.ok (.bool (cH c))):=
  c8.to (j2 (I9.cons (e9 (by tm_at "e") (by tm_at "e") (in_str (by decide)) rfl) fun Z=>I9.one (by tm_at "e"))) (by
   have hlit:([48,49,50,51,52,53,54,55,56,57]:b9)=(List.range 10).map (· +48):=by decide
   rw[hlit];show R.ok (V.bool (cH c &&true))=_;rw[Bool.and_true])
 cases hf:cH c with
 |true=>
  rw[hf] at hT;rw[if_pos rfl];exact g8.ret rfl (d5.ret (d8.if1 hT (d5.ret (d8.ret (v:=.int 1) (by tm_at "e")))))
 |false=>
  rw[hf] at hT;rw[if_neg (by decide)];have h2:c8 g lJ.sc (List.zip ["letter"] [.str [c]]) true (eK (sE (i4 lJ.body 1)) 0) (.ok (.bool (X3 c||([[95],[46],[36]]:List b9).contains [c]))):=by
   refine c8.to (C1 (Z9.cons (j2 (I9.cons (F9 (fX (by tm_at "e") (HB hc) ⟨rfl,rfl⟩) (N3 _)) fun Z=>I9.one (by tm_at "e"))) fun Z=>Z9.one (e9 (by tm_at "e") (c8.list (vs:=[.str [95],.str [46],.str [36]]) (by tm_at "e") rfl (by decide)) (J1 (l:=[[95],[46],[36]]) (by decide)) rfl))) ?_;rw[show decide ((c:Int)<128)=true by simp;omega,Bool.and_true]
  cases hb:X3 c||([[95],[46],[36]]:List b9).contains [c] with
  |true=>
   rw[hb] at h2;rw[if_pos rfl];exact g8.ret rfl (d5.cons (d8.if0 hT d5.nil) (d5.ret (d8.ret (v:=.int 2) (c8.if1 h2 (by tm_at "e")))))
  |false=>
   rw[hb] at h2;rw[if_neg (by decide)];exact g8.ret rfl (d5.cons (d8.if0 hT d5.nil) (d5.ret (d8.ret (v:=.int 0) (c8.if0 h2 (by tm_at "e")))))
theorem mH {c:Nat} (h:123<=c):E0 c=false:=lM rfl h
theorem AA {c:Nat} (h:123<=c):cH c=false:=lM rfl h
theorem mJ {c:Nat} (h:123<=c):s8 c=0:=by
 unfold s8;rw[AA h,show X3 c=false by unfold X3;rw[decide_eq_false (lN (by decide) h),decide_eq_false (lN (by decide) h)];rfl,show([[95],[46],[36]]:List b9).contains [c]=false from ?_]
 ·rfl
 rw[Bool.eq_false_iff];intro z;have:c=95\/c=46\/c=36:=by simpa using z
 rcases this with rfl|rfl|rfl<;>exact absurd h (by decide)
theorem gF (c:Nat):s8 c=0↔E0 c=false:=by
 rcases Nat.lt_or_ge c 123 with h|h
 ·exact of_decide_eq_true (U4 123 (fun c=>decide (s8 c=0↔E0 c=false)) (by decide+kernel) h)
 ·rw[mJ h,mH h];exact⟨fun Z=>rfl,fun Z=>rfl⟩
theorem vE (c:Nat):s8 c=1↔cH c=true:=by
 rcases Nat.lt_or_ge c 123 with h|h
 ·exact of_decide_eq_true (U4 123 (fun c=>decide (s8 c=1↔cH c=true)) (by decide+kernel) h)
 ·rw[mJ h,AA h];exact⟨fun z=>(by cases z),fun z=>(by cases z)⟩
theorem vF (c:Nat):0<s8 c↔E0 c=true:=by
 rcases Nat.lt_or_ge c 123 with h|h
 ·exact of_decide_eq_true (U4 123 (fun c=>decide (0<s8 c↔E0 c=true)) (by decide+kernel) h)
 ·rw[mJ h,mH h];exact⟨fun z=>absurd z (by decide),fun z=>(by injection z)⟩
theorem HL {c:Nat} (h:E0 c=true):s8 c=2↔cH c=false:=
 of_decide_eq_true (U4 123 (fun c=>decide (E0 c=true->(s8 c=2↔cH c=false))) (by decide+kernel) (Nat.lt_of_not_le fun z=>by rw[mH z] at h;injection h)) h
theorem vG {csc:Scope} {elt cnd:Expr} {x:Str} {xp:Pos} {σ:d9} {f:Nat->V} {p:Nat->Bool} (hf: ∀c,(f c).open? =false): ∀{r:b9},(∀c∈r,c8 g csc (σ.set x (.str [c])) true cnd (.ok (.bool (p c))))->(∀c∈r,p c=true->c8 g csc (σ.set x (.str [c])) false elt (.ok (f c)))->
  Q5 g csc σ (.Name x xp) elt [cnd] (r.map fun c=>.str [c]) ((r.filter p).map f)
 |[],_,_=>Q5.nil
 |c::r,h,h'=>by
  have hc:=h c List.mem_cons_self;have ih:=vG (f:=f) (p:=p) (xp:=xp) hf (r:=r) (fun d hd=>h d (List.mem_cons_of_mem _ hd)) (fun d hd=>h' d (List.mem_cons_of_mem _ hd));rw[List.filter_cons];cases hp:p c with
  |true=>
   rw[hp] at hc;exact lH rfl hc (h' c List.mem_cons_self hp) (hf c) ih
  |false=>
   rw[hp] at hc;exact uQ rfl hc ih
noncomputable def I0:List V->R V:=fS fun t=>
  if t.length<=5000/\j6 t=true then .ok (.bool (G6 t)) else .stuck
theorem w7 {t:b9} (h:j6 t=true) {c:Nat} (hc:c∈t):c<128:=by
 unfold j6 at h;rw[List.all_eq_true] at h;simpa using h c hc
theorem HM (t:b9):((!([[],[46]]:List b9).contains t) &&((!(t.map s8).contains 0) &&(t==[]||s8 (k6 t 0)==2)))=G6 t:=by
 unfold G6;cases t with
 |nil=>rfl
 |cons a r=>
  have hch:k6 (a::r) 0=a:=rfl;rw[hch];have e1:((a::r).map s8).contains 0= !(a::r).all E0:=by
   rw[Bool.eq_iff_iff,List.contains_iff_mem,List.mem_map];simp only[Bool.not_eq_true',List.all_eq_false,gF,Bool.not_eq_true]
  rw[e1];have e2:(([[],[46]]:List b9).contains (a::r))=((a::r)==[46]):=by
   show(false||((a::r)==[46]||false))=_;rw[Bool.false_or,Bool.or_false]
  rw[e2];cases hall:(a::r).all E0 with
  |false=>simp
  |true=>
   have ha:E0 a=true:=by rw[List.all_cons,Bool.and_eq_true] at hall;exact hall.1
   have:(s8 a==2)= !cH a:=by
    rw[Bool.eq_iff_iff,beq_iff_eq,HL ha];simp
   rw[this];cases cH a<;>cases ((a::r)==[46])<;>rfl
theorem nZ (hso:g.fn "_law_sort"=some v4) (vs:List V) (hn:I0 vs≠.stuck):g8 g none dA.sc ["text"] dA.body vs (I0 vs):=by
 have hlim:i0=1048576:=rfl;refine d6 (R8 hn) fun t z2r=> ?_;subst z2r;have hc:=D9 hn;refine l5 (if_pos hc) ?_;refine f8 hc fun hl hasc=> ?_;clear hc;have e0:d8 g none dA.sc (List.zip ["text"] [.str t]) (i4 dA.body 0) (.ok (.next,d9.set (List.zip ["text"] [.str t]) "sorts" (.list ((t.map s8).map .int)))):=by
  refine d7 (v:=.list ((t.map s8).map .int)) ?_ (by decide) (by decide) rfl;rw[List.map_map];refine J8 (by tm_at "e") (w5 (by omega)) (Q5.map (f:=V.int ∘ s8) (fun Z=>rfl) fun c hc=> ?_) rfl;have hF:v4 [.str [c]]=.ok (.int (s8 c)):=if_pos (w7 hasc hc);show c8 _ _ _ _ _ (.ok (.int (s8 c)));tm_at "e"
 rw[<-HM];have hsz:(t.map s8).length<=i0:=by simp;omega
 refine g8.ret rfl (d5.cons e0 (d5.ret (σ':=d9.set (List.zip ["text"] [.str t]) "sorts" (.list ((t.map s8).map .int))) (d8.ret (v:=.bool _) ?_)));have h1:c8 g dA.sc (d9.set (List.zip ["text"] [.str t]) "sorts" (.list ((t.map s8).map .int))) false (eK (sE (i4 dA.body 1)) 0) (.ok (.bool (!([[],[46]]:List b9).contains t))):=
  e9 (by tm_at "e") (c8.list (vs:=[.str [],.str [46]]) (by tm_at "e") rfl (by decide)) (CT (l:=[[],[46]]) (by decide)) rfl
 cases t with
 |nil=>exact o7 (b1:=false) h1 fun h=>by injection h
 |cons a r=>
  have hsz2:(r.map (V.int ∘ s8)).length+1<=i0:=by simp at hl ⊢;omega
  refine c8.to (o7 h1 fun Z=>o7 (e9 (by tm_at "e") (by tm_at "e") (CV hsz) rfl) fun Z=>H4 (e9 (G5 (by tm_at "v") (by tm_at "e") (HJ (v:=.int (s8 a)) (vs:=(r.map s8).map .int) (by simp at hl ⊢;omega)) rfl) (by tm_at "e") (yU _ _) rfl)) ?_;rfl
noncomputable def F2:List V->R V:=fS fun t=>
  if t.length<=5000/\j6 t=true then .ok (.bool (B5 t)) else .stuck
theorem mK (hlen:g.fn "len"=none) (hso:g.fn "_law_sort"=some v4) (vs:List V) (hn:F2 vs≠.stuck):g8 g none rO.sc ["text"] rO.body vs (F2 vs):=by
 have hlim:i0=1048576:=rfl;refine d6 (R8 hn) fun t z1r=> ?_;subst z1r;have hc:=D9 hn;refine l5 (if_pos hc) ?_;refine f8 hc fun hl hasc=> ?_;clear hc;refine g8.ret (σ':=List.zip ["text"] [.str t]) rfl (d5.ret (d8.ret (v:=.bool (B5 t)) ?_));by_cases h1:1<t.length
 ·have hd:t.dropLast.length<=i0:=by simp;omega
  have hdl:j9 t none (some (-1))=t.dropLast:=eR (by omega);have hfl:(((t.dropLast).filter fun c=> !(s8 c==1)).map fun c=>V.str [c]).length<=i0:=by
   rw[List.length_map];exact Nat.le_trans (List.length_filter_le _ _) hd
  refine c8.to (o7 (by tm_at "e") fun Z=>o7 (e9 (by tm_at "e") (c8.list (vs:=[.str [98],.str [102]]) (by tm_at "e") rfl (by decide)) (J1 (l:=[[98],[102]]) (by decide)) rfl) fun Z=>H4 (e9 (J8 (iv:=.str t.dropLast) (hdl▸c8.slice (by tm_at "v") (by tm_at "e") (by tm_at "e") (by omega)) (w5 hd) (vG (f:=fun c=>.str [c]) (p:=fun c=> !(s8 c==1)) (fun Z=>rfl) (fun c hc=> ?_) (fun c Z Z=>by tm_at "e")) rfl) (by tm_at "e") (LV hfl) rfl)) ?_
  ·have hF:v4 [.str [c]]=.ok (.int (s8 c)):=if_pos (w7 hasc (List.dropLast_subset _ hc));tm_at "e"
  ·unfold B5;rw[show decide ((1:Int)<(t.length:Int))=true by simp;omega,show decide (1<t.length)=true by simp[h1]];have e1:(([[98],[102]]:List b9).contains [k6 t (t.length-1)])=([98,102]:b9).contains (k6 t (t.length-1)):=by simp
   have e2:(((t.dropLast).filter fun c=> !(s8 c==1)).map fun c=>V.str [c]).isEmpty=t.dropLast.all cH:=by
    rw[Bool.eq_iff_iff,List.isEmpty_iff,List.map_eq_nil_iff,List.filter_eq_nil_iff,List.all_eq_true];constructor
    ·intro h c hc;have:=h c hc;rw[<-vE];simpa using this
    ·intro h c hc;have:=(vE c).mpr (h c hc);simp[this]
   rw[e1,e2,Bool.and_assoc]
 ·refine c8.to (o7 (b1:=false) (b2:=true) (c7 (by tm_at "e") (by simp;omega)) fun h=>by injection h) ?_;simp[B5,h1]
end
theorem eW {us vs:List V} (h:us.length+vs.length<=i0):R0 .Add (.list us) (.list vs)=.ok (.list (us++vs)):=by rw[OR,if_pos h]
noncomputable def RQ:Stmt->List Stmt
 | .If _ _ o _=>o
 |_=>[]
noncomputable def TP:Stmt:=i4 (RQ (i4 (sB (i4 v2.body 1)) 1)) 0
noncomputable def vH:Stmt:=i4 (sB TP) 1
noncomputable def XW:Stmt:=i4 (sB vH) 0
noncomputable def XX:Stmt:=i4 (RQ (i4 (RQ vH) 0)) 0
section
variable {g:G} {T:b9}
theorem Q7 {σ:d9} {x y:Str} {v:V} (h:y≠x):(σ.set x v).get y=σ.get y:=by rw[Y7,if_neg h]
theorem HN (hlen:g.fn "len"=none) (hl:T.length<=5000): ∀(m:Nat) (σ:d9) (e:Nat),T.length+2-e<=m->σ.get "text"=some (.str T)->σ.get "end"=some (.int (e:Nat))->
  ∃(σ':d9) (e':Nat),d8 g none v2.sc σ XW (.ok (.next,σ'))/\σ'.get "end"=some (.int (e':Nat))/\(∀y:Str,y≠"end"->σ'.get y=σ.get y)/\
   (match r9 39 (T.drop e) with|some n=>e'+1=e+n/\e'<T.length|none=>T.length<=e'):=by
 intro m;have hlim:i0=1048576:=rfl;induction m with
 |zero=>
  intro σ e hm h1 h2;have hd:T.drop e=[]:=List.drop_eq_nil_of_le (by omega);refine⟨σ,e,h7 (c7 (j2 (I9.cons (b1:=false) (b2:=true) (c7 (by tm_at "e") (by simp;omega)) fun h=>by injection h)) rfl),h2,fun Z Z=>rfl,?_⟩;rw[hd];show T.length<=e;omega
 |succ m ih=>
  intro σ e hm h1 h2;by_cases he:e<T.length
  case neg=>
   have hd:T.drop e=[]:=List.drop_eq_nil_of_le (by omega);refine⟨σ,e,h7 (c7 (j2 (I9.cons (b1:=false) (b2:=true) (c7 (by tm_at "e") (by simp;omega)) fun h=>by injection h)) rfl),h2,fun Z Z=>rfl,?_⟩;rw[hd];show T.length<=e;omega
  have hdr:=C2 he;by_cases hq:k6 T e=39
  ·refine⟨σ,e,h7 (c7 (by tm_at "e") (by simp[hq])),h2,fun Z Z=>rfl,?_⟩;rw[hdr,R9,if_pos hq];exact⟨rfl,he⟩
  have ht:(decide ((e:Int)<(T.length:Int)) && !(k6 T e==39))=true:=by simp[he,hq]
  have step: ∀(d:Nat),(d=if k6 T e=92 then 2 else 1)-> ∀{u:R (Fl×d9)},d8 g none v2.sc (σ.set "end" (.int ((e+d:Nat):Int))) XW u->d8 g none v2.sc σ XW u:=fun d hd u h=>
   i3 (c9 (by tm_at "e") ht) (d5.cons (d7 (v:=.int ((e+d:Nat):Int)) (c8.bin (u:=.int (d:Int)) (by tm_at "e") (c8.to (by tm_at "e") (by rw[hd];by_cases hb:k6 T e=92<;>simp[hb])) (GV _ _)) (by decide) (by decide) rfl) d5.nil) h
  by_cases hb:k6 T e=92
  ·refine cQ (ih (σ.set "end" (.int ((e+2:Nat):Int))) (e+2) (by omega) (by tm_at "n") (by tm_at "n")) fun σ' e' hx g1 g2 gq=> ?_;refine⟨σ',e',step 2 (by rw[if_pos hb]) hx,g1,fun y hy=>(g2 y hy).trans (Q7 hy),?_⟩;rw[hdr,R9,if_neg hq,if_pos hb];by_cases he2:e+1<T.length
   ·rw[C2 he2];dsimp only;cases hs:r9 39 (T.drop (e+1+1)) with
    |none=>rw[show e+1+1=e+2 from rfl] at hs;rw[hs] at gq;exact gq
    |some n=>rw[show e+1+1=e+2 from rfl] at hs;rw[hs] at gq;dsimp only[Option.map] at gq ⊢;omega
   ·have hd:T.drop (e+1)=[]:=List.drop_eq_nil_of_le (by omega);have hd2:T.drop (e+2)=[]:=List.drop_eq_nil_of_le (by omega);rw[hd];rw[hd2] at gq;exact gq
  ·refine cQ (ih (σ.set "end" (.int ((e+1:Nat):Int))) (e+1) (by omega) (by tm_at "n") (by tm_at "n")) fun σ' e' hx g1 g2 gq=> ?_;refine⟨σ',e',step 1 (by rw[if_neg hb]) hx,g1,fun y hy=>(g2 y hy).trans (Q7 hy),?_⟩;rw[hdr,R9,if_neg hq,if_neg hb];cases hs:r9 39 (T.drop (e+1)) with
   |none=>rw[hs] at gq;exact gq
   |some n=>rw[hs] at gq;dsimp only[Option.map] at gq ⊢;omega
theorem LX (hlen:g.fn "len"=none) (hso:g.fn "_law_sort"=some v4) (hl:T.length<=5000) (hasc:j6 T=true): ∀(m:Nat) (σ:d9) (e:Nat),T.length-e<=m->e<=T.length->σ.get "text"=some (.str T)->σ.get "end"=some (.int (e:Nat))->
  ∃(σ':d9),d8 g none v2.sc σ XX (.ok (.next,σ'))/\σ'.get "end"=some (.int ((e+((T.drop e).takeWhile E0).length:Nat):Int))/\(∀y:Str,y≠"end"->σ'.get y=σ.get y):=by
 intro m;have hlim:i0=1048576:=rfl;have stop: ∀(σ:d9) (e:Nat),e<=T.length-> ¬e<T.length->σ.get "text"=some (.str T)->σ.get "end"=some (.int (e:Nat))-> ∃(σ':d9),d8 g none v2.sc σ XX (.ok (.next,σ'))/\σ'.get "end"=some (.int ((e+((T.drop e).takeWhile E0).length:Nat):Int))/\(∀y:Str,y≠"end"->σ'.get y=σ.get y):=by
  intro σ e he hn h1 h2;refine⟨σ,h7 (c7 (j2 (I9.cons (b1:=false) (b2:=true) (c7 (by tm_at "e") (by simp;omega)) fun h=>by injection h)) rfl),?_,fun Z Z=>rfl⟩;rw[h2,List.drop_eq_nil_of_le (by omega)];simp
 induction m with
 |zero=>intro σ e hm he h1 h2;exact stop σ e he (by omega) h1 h2
 |succ m ih=>
  intro σ e hm he h1 h2;by_cases hlt:e<T.length
  case neg=>exact stop σ e he hlt h1 h2
  have hF:v4 [.str [k6 T e]]=.ok (.int (s8 (k6 T e))):=if_pos (w7 hasc (zV hlt));have hT:c8 g v2.sc σ true (sE XX) (.ok (.bool (decide ((e:Int)<(T.length:Int)) &&decide (0<s8 (k6 T e))))):=
   j2 (I9.cons (by tm_at "e") fun Z=>I9.one (by tm_at "e"))
  rw[show decide ((e:Int)<(T.length:Int))=true by simp;omega,Bool.true_and] at hT;rw[C2 hlt,List.takeWhile_cons];cases hn:E0 (k6 T e) with
  |false=>
   have:decide (0<s8 (k6 T e))=false:=by rw[decide_eq_false_iff_not,vF,hn];decide
   rw[this] at hT;exact⟨σ,h7 hT,by rw[h2];simp,fun Z Z=>rfl⟩
  |true=>
   have:decide (0<s8 (k6 T e))=true:=by rw[decide_eq_true_iff,vF,hn]
   rw[this] at hT;refine r6 (ih (σ.set "end" (.int ((e+1:Nat):Int))) (e+1) (by omega) (by omega) (by tm_at "n") (by tm_at "n")) fun σ' x1 x2 x3=> ?_;refine⟨σ',i3 hT (d5.cons (d7 (v:=.int ((e+1:Nat):Int)) (by tm_at "e") (by decide) (by decide) rfl) d5.nil) x1,?_,fun y hy=>(x3 y hy).trans (Q7 hy)⟩;rw[x2];simp;omega
noncomputable def vI (g:G) (σ:d9) (acc:List (Int×b9)):Option (List (Int×b9))->Prop
 |none=>(∃σ',d8 g none v2.sc σ (i4 v2.body 1) (.ok (.ret .none,σ')))\/ ∃(σ':d9) (n:Nat),d8 g none v2.sc σ (i4 v2.body 1) (.ok (.next,σ'))/\σ'.get "signs"=some (.int ((n+1:Nat):Int))
 |some v=> ∃(σ':d9),d8 g none v2.sc σ (i4 v2.body 1) (.ok (.next,σ'))/\σ'.get "found"=some (.list ((acc++v).map w6))/\σ'.get "signs"=some (.int 0)
theorem sF {σ σ2:d9} {acc:List (Int×b9)} {x:Option (List (Int×b9))} (step: ∀{u:R (Fl×d9)},d8 g none v2.sc σ2 (i4 v2.body 1) u->d8 g none v2.sc σ (i4 v2.body 1) u)
  (h:vI g σ2 acc x):vI g σ acc x:=by
 cases x with
 |none=>
  rcases h with⟨σ',h⟩|⟨σ',n,h,r⟩
  ·exact .inl ⟨σ',step h⟩
  ·exact .inr ⟨σ',n,step h,r⟩
 |some w=>refine e8 h fun σ' h r=> ?_;exact⟨σ',step h,r⟩
theorem LY {σ:d9} {acc:List (Int×b9)} {x:Option (List (Int×b9))} {v:Int×b9} (h:vI g σ (acc++[v]) x):vI g σ acc (x.map (v:: ·)):=by
 cases x with
 |none=>exact h
 |some w=>refine r6 h fun σ' h h2 r=> ?_;exact⟨σ',h,by rw[h2];simp,r⟩
theorem AB (hlen:g.fn "len"=none) (hso:g.fn "_law_sort"=some v4) (hl:T.length<=5000) (hasc:j6 T=true) {σ:d9} {p:Nat} (hp:p<T.length) (h1:σ.get "text"=some (.str T)) (h2:σ.get "letter"=some (.str [k6 T p])) (h3:σ.get "end"=some (.int ((p+1:Nat):Int))):
  match iA (T.drop p) with
  |none=> ∃σ',d8 g none v2.sc σ vH (.ok (.ret .none,σ'))
  |some n=> ∃σ',d8 g none v2.sc σ vH (.ok (.next,σ'))/\σ'.get "end"=some (.int ((p+n:Nat):Int))/\ ∀y:Str,y≠"end"->σ'.get y=σ.get y:=by
 have hlim:i0=1048576:=rfl;rw[C2 hp,Y9];by_cases hq:k6 T p=39
 ·rw[if_pos hq];refine cQ (HN (g:=g) hlen hl (T.length+2) σ (p+1) (by omega) h1 h3) fun σ' e' x g1 g2 gq=> ?_;have g3:σ'.get "text"=some (.str T):=(g2 _ (by decide)).trans h1;cases hs:r9 39 (T.drop (p+1)) with
  |none=>
   rw[hs] at gq;exact⟨_,d8.if1 (c9 (by tm_at "e") (by simp[hq])) (d5.cons x (d5.cons (d7 (v:=.int ((e'+1:Nat):Int)) (by tm_at "e") (by decide) (by decide) rfl) (d5.ret (d8.if1 (c9 (by tm_at "e") (by simp;omega)) (d5.ret (d8.ret (v:=.none) (by tm_at "e")))))))⟩
  |some m=>
   rw[hs] at gq;refine f8 gq fun q1 q2=> ?_;clear gq;refine⟨σ'.set "end" (.int ((e'+1:Nat):Int)),d8.if1 (c9 (by tm_at "e") (by simp[hq])) (d5.cons x (d5.cons (d7 (v:=.int ((e'+1:Nat):Int)) (by tm_at "e") (by decide) (by decide) rfl) (d5.cons (d8.if0 (c7 (by tm_at "e") (by simp;omega)) d5.nil) d5.nil))),?_,fun y hy=>(Q7 hy).trans (g2 y hy)⟩;rw[d9.same,show e'+1=p+(m+1) by omega]
 rw[if_neg hq];have hF:v4 [.str [k6 T p]]=.ok (.int (s8 (k6 T p))):=if_pos (w7 hasc (zV hp));have hT:c8 g v2.sc σ true (sE (i4 (RQ vH) 0)) (.ok (.bool (s8 (k6 T p)==0))):=e9 (by tm_at "e") (by tm_at "e") (yU _ _) rfl;cases hn:E0 (k6 T p) with
 |false=>
  rw[if_neg (by decide)];have:(s8 (k6 T p)==0)=true:=by rw[beq_iff_eq,gF,hn]
  rw[this] at hT;exact⟨_,d8.if0 (c7 (by tm_at "e") (by simp[hq])) (d5.ret (d8.if1 hT (d5.ret (d8.ret (v:=.none) (by tm_at "e")))))⟩
 |true=>
  rw[if_pos rfl];have:(s8 (k6 T p)==0)=false:=by
   rw[beq_eq_false_iff_ne];intro z;rw[gF,hn] at z;injection z
  rw[this] at hT;refine r6 (LX (g:=g) hlen hso hl hasc T.length σ (p+1) (by omega) (by omega) h1 h3) fun σ' x1 x2 x3=> ?_;refine⟨σ',d8.if0 (c7 (by tm_at "e") (by simp[hq])) (d5.cons (d8.if0 hT (d5.cons x1 d5.nil)) d5.nil),?_,x3⟩;rw[x2,List.takeWhile_cons,hn];simp;omega
set_option maxHeartbeats 4000000 in
theorem LZ (hlen:g.fn "len"=none) (hso:g.fn "_law_sort"=some v4) (hl:T.length<=5000) (hasc:j6 T=true) {s:Int} {w:Bool} {t:b9} {x:Option (List (Int×b9))} (A:At s w t x):
  (w=false->s=1)-> ∀(σ:d9) (p n:Nat) (acc:List (Int×b9)),p<=T.length->T.drop p=t->acc.length<=p->n<=p+1->(w=true↔0<n)->σ.get "text"=some (.str T)->σ.get "found"=some (.list (acc.map w6))->σ.get "sign"=some (.int s)->σ.get "signs"=some (.int (n:Nat))->σ.get "k"=some (.int (p:Nat))->
  vI g σ acc x:=by
 have hlim:i0=1048576:=rfl;induction A with
 |fin=>
  intro _ σ p n acc hp hT ha hn hw h1 h2 h3 h4 h5;have hpe:T.length<=p:=by
   have:=congrArg List.length hT;simp at this;omega
  have:n=0:=by
   have: ¬0<n:=fun z=>by have:=hw.mpr z;injection this
   omega
  subst this;exact⟨σ,h7 (c7 (by tm_at "e") (by simp;omega)),by rw[h2];simp,h4⟩
 |open_=>
  intro _ σ p n acc hp hT ha hn hw h1 h2 h3 h4 h5;have hpe:T.length<=p:=by
   have:=congrArg List.length hT;simp at this;omega
  have hn0:0<n:=hw.mp rfl;obtain⟨n',rfl⟩: ∃n',n=n'+1:=⟨n-1,by omega⟩;exact .inr ⟨σ,n',h7 (c7 (by tm_at "e") (by simp;omega)),h4⟩
 | @sgn s w c r x hc A ih=>
  intro hws σ p n acc hp hT ha hn hw h1 h2 h3 h4 h5;refine n5 (g7 hT) fun hlt hch hd=> ?_;have hs1:(if w then s else 1)=s:=by cases w<;>simp_all
  rw[hs1] at A ih;have hin:([[43],[45]]:List b9).contains [k6 T p]=true:=by rw[hch];rcases hc with rfl|rfl<;>rfl
  have hsg:c8 g v2.sc ((σ.set "letter" (.str [k6 T p])).set "end" (.int ((p+1:Nat):Int))) false (eK (sE (i4 (sB (i4 (sB (i4 v2.body 1)) 1)) 0)) 0) (.ok (.int (if c=45 then -s else s))):=
   c8.to (rM (by tm_at "e") (fun Z=>by tm_at "e") (fun Z=>by tm_at "e")) (by rw[hch];by_cases h45:c=45<;>simp[h45])
  refine sF (σ2:=((((σ.set "letter" (.str [k6 T p])).set "end" (.int ((p+1:Nat):Int))).set "sign" (.int (if c=45 then -s else s))).set "signs" (.int ((n+1:Nat):Int))).set "k" (.int ((p+1:Nat):Int))) (fun h=>i3 (c9 (by tm_at "e") (by simp;omega)) (d5.cons (i7 (vs:=[.str [k6 T p],.int ((p+1:Nat):Int)]) (by tm_at "e") rfl (by decide) rfl)
   (d5.cons (d8.if1 (c9 (e9 (by tm_at "e") (c8.list (vs:=[.str [43],.str [45]]) (by tm_at "e") rfl (by decide)) (J1 (l:=[[43],[45]]) (by decide)) rfl) hin) (d5.cons (i7 (vs:=[.int (if c=45 then -s else s),.int ((n+1:Nat):Int)]) (v5.cons hsg (by tm_at "e")) rfl (by decide) rfl) d5.nil))
    (d5.cons (d7 (v:=.int ((p+1:Nat):Int)) (by tm_at "e") (by decide) (by decide) rfl) d5.nil))) h) ?_
  exact ih (fun z=>by injection z) (((((σ.set "letter" (.str [k6 T p])).set "end" (.int ((p+1:Nat):Int))).set "sign" (.int (if c=45 then -s else s))).set "signs" (.int ((n+1:Nat):Int))).set "k" (.int ((p+1:Nat):Int))) (p+1) (n+1) acc (by omega) hd (by omega) (by omega) ⟨fun Z=>by omega,fun Z=>rfl⟩
   (by tm_at "n") (by tm_at "n") (by tm_at "n") (by tm_at "n") (by tm_at "n")
 | @sp s w r x A ih=>
  intro hws σ p n acc hp hT ha hn hw h1 h2 h3 h4 h5;refine n5 (g7 hT) fun hlt hch hd=> ?_;have hin:([[43],[45]]:List b9).contains [k6 T p]=false:=by rw[hch];rfl
  refine sF (σ2:=((σ.set "letter" (.str [k6 T p])).set "end" (.int ((p+1:Nat):Int))).set "k" (.int ((p+1:Nat):Int))) (fun h=>i3 (c9 (by tm_at "e") (by simp;omega)) (d5.cons (i7 (vs:=[.str [k6 T p],.int ((p+1:Nat):Int)]) (by tm_at "e") rfl (by decide) rfl)
   (d5.cons (d8.if0 (c7 (e9 (by tm_at "e") (c8.list (vs:=[.str [43],.str [45]]) (by tm_at "e") rfl (by decide)) (J1 (l:=[[43],[45]]) (by decide)) rfl) hin) (d5.cons (d8.if0 (c7 (by tm_at "e") (by simp[hch])) d5.nil) d5.nil))
    (d5.cons (d7 (v:=.int ((p+1:Nat):Int)) (by tm_at "e") (by decide) (by decide) rfl) d5.nil))) h) ?_
  exact ih hws (((σ.set "letter" (.str [k6 T p])).set "end" (.int ((p+1:Nat):Int))).set "k" (.int ((p+1:Nat):Int))) (p+1) n acc (by omega) hd (by omega) (by omega) hw
   (by tm_at "n") (by tm_at "n") (by tm_at "n") (by tm_at "n") (by tm_at "n")
 | @two s c r c1 c2 c3=>
  intro hws σ p n acc hp hT ha hn hw h1 h2 h3 h4 h5;refine n5 (g7 hT) fun hlt hch hd=> ?_;have:n=0:=by
   have: ¬0<n:=fun z=>by have:=hw.mpr z;injection this
   omega
  subst this;have hin:([[43],[45]]:List b9).contains [k6 T p]=false:=by rw[hch];simp[c1,c2]
  exact .inl ⟨_,N5 (c9 (by tm_at "e") (by simp;omega)) (d5.cons (i7 (vs:=[.str [k6 T p],.int ((p+1:Nat):Int)]) (by tm_at "e") rfl (by decide) rfl)
   (d5.ret (d8.if0 (c7 (e9 (by tm_at "e") (c8.list (vs:=[.str [43],.str [45]]) (by tm_at "e") rfl (by decide)) (J1 (l:=[[43],[45]]) (by decide)) rfl) hin) (d5.ret (d8.if1 (c9 (by tm_at "e") (by simp[hch,c3])) (d5.ret (d8.if1 (c9 (by tm_at "e") (by exact rfl)) (d5.ret (d8.ret (v:=.none) (by tm_at "e"))))))))))⟩
 | @bad s c r c1 c2 c3 hbad=>
  intro hws σ p n acc hp hT ha hn hw h1 h2 h3 h4 h5;refine n5 (g7 hT) fun hlt hch hd=> ?_;have hn0:0<n:=hw.mp rfl;have hin:([[43],[45]]:List b9).contains [k6 T p]=false:=by rw[hch];simp[c1,c2]
  have LA:=AB (g:=g) hlen hso hl hasc (σ:=(σ.set "letter" (.str [k6 T p])).set "end" (.int ((p+1:Nat):Int))) hlt (by tm_at "n") (by tm_at "n") (by tm_at "n");rw[hT,hbad] at LA;refine d6 LA fun σ' LA=> ?_;exact .inl ⟨σ',N5 (c9 (by tm_at "e") (by simp;omega)) (d5.cons (i7 (vs:=[.str [k6 T p],.int ((p+1:Nat):Int)]) (by tm_at "e") rfl (by decide) rfl)
   (d5.ret (d8.if0 (c7 (e9 (by tm_at "e") (c8.list (vs:=[.str [43],.str [45]]) (by tm_at "e") rfl (by decide)) (J1 (l:=[[43],[45]]) (by decide)) rfl) hin) (d5.ret (d8.if1 (c9 (by tm_at "e") (by simp[hch,c3])) (d5.cons (d8.if0 (c7 (by tm_at "e") (by simp;omega)) d5.nil) (d5.ret LA)))))))⟩
 | @atom s c m r x c1 c2 c3 hat A ih=>
  intro hws σ p n acc hp hT ha hn hw h1 h2 h3 h4 h5;refine n5 (g7 hT) fun hlt hch hd=> ?_;refine f8 (bI hat) fun n1 n2=> ?_;have hn0:0<n:=hw.mp rfl;have hin:([[43],[45]]:List b9).contains [k6 T p]=false:=by rw[hch];simp[c1,c2]
  have hpn:p+m<=T.length:=by
   have:=congrArg List.length hT;rw[List.length_drop] at this;omega
  have LA:=AB (g:=g) hlen hso hl hasc (σ:=(σ.set "letter" (.str [k6 T p])).set "end" (.int ((p+1:Nat):Int))) hlt (by tm_at "n") (by tm_at "n") (by tm_at "n");rw[hT,hat] at LA;refine r6 LA fun RS LA k1 k2=> ?_;have f1:RS.get "text"=some (.str T):=(k2 _ (by decide)).trans (by tm_at "n");have f2:RS.get "found"=some (.list (acc.map w6)):=(k2 _ (by decide)).trans (by tm_at "n");have f3:RS.get "sign"=some (.int s):=(k2 _ (by decide)).trans (by tm_at "n");have f5:RS.get "k"=some (.int (p:Nat)):=(k2 _ (by decide)).trans (by tm_at "n");have hsl:j9 T (some (p:Int)) (some ((p+m:Nat):Int))=(c::r).take m:=by
   rw[bE (by omega) hpn,hT,show p+m-p=m by omega]
  have hdn:T.drop (p+m)=(c::r).drop m:=by rw[<-List.drop_drop,hT]
  refine LY (sF (σ2:=(((RS.set "found" (.list (acc.map w6++[.tup [.int s,.str ((c::r).take m)]]))).set "sign" (.int 1)).set "signs" (.int ((0:Nat):Int))).set "k" (.int ((p+m:Nat):Int))) (fun h=>i3 (c9 (by tm_at "e") (by simp;omega)) (d5.cons (i7 (vs:=[.str [k6 T p],.int ((p+1:Nat):Int)]) (by tm_at "e") rfl (by decide) rfl)
   (d5.cons (d8.if0 (c7 (e9 (by tm_at "e") (c8.list (vs:=[.str [43],.str [45]]) (by tm_at "e") rfl (by decide)) (J1 (l:=[[43],[45]]) (by decide)) rfl) hin) (d5.cons (d8.if1 (c9 (by tm_at "e") (by simp[hch,c3])) (d5.cons (d8.if0 (c7 (by tm_at "e") (by simp;omega)) d5.nil) (d5.cons LA (d5.cons (i7 (vs:=[.list (acc.map w6++[.tup [.int s,.str ((c::r).take m)]]),.int 1,.int 0]) (v5.cons (c8.bin (by tm_at "e") (c8.list (v5.cons (c8.tup (v5.cons (by tm_at "e") (v5.cons (hsl▸c8.slice (li:=some (p:Int)) (hj:=some ((p+m:Nat):Int)) (by tm_at "v") (by tm_at "e") (by tm_at "e") (by omega)) v5.nil)) rfl (by show 2<=i0;decide)) v5.nil) rfl (by show 1<=i0;decide)) (eW (by simp;omega))) (by tm_at "e")) rfl (by decide) rfl) d5.nil)))) d5.nil))
    (d5.cons (d7 (v:=.int ((p+m:Nat):Int)) (by tm_at "e") (by decide) (by decide) rfl) d5.nil))) h) ?_)
  exact ih (fun Z=>rfl) ((((RS.set "found" (.list (acc.map w6++[.tup [.int s,.str ((c::r).take m)]]))).set "sign" (.int 1)).set "signs" (.int ((0:Nat):Int))).set "k" (.int ((p+m:Nat):Int))) (p+m) 0 (acc++[(s,(c::r).take m)]) hpn hdn (by simp;omega) (by omega) ⟨fun z=>(by injection z),fun z=>(by omega)⟩
   (by tm_at "n") (by rw[List.map_append];tm_at "n") (by tm_at "n") (by tm_at "n") (by tm_at "n")
noncomputable def O9:List V->R V:=fS fun t=>
  if t.length<=5000/\j6 t=true then (match y0 t with|some as=>.ok (.list (as.map w6))|none=>.ok .none) else .stuck
theorem oA (hlen:g.fn "len"=none) (hso:g.fn "_law_sort"=some v4) (vs:List V) (hn:O9 vs≠.stuck):g8 g none v2.sc ["text"] v2.body vs (O9 vs):=by
 have hlim:i0=1048576:=rfl;refine d6 (R8 hn) fun t z1r=> ?_;subst z1r;have hc:=D9 hn;refine l5 (if_pos hc) ?_;refine f8 hc fun hl hasc=> ?_;clear hc;have e0:d8 g none v2.sc (List.zip ["text"] [.str t]) (i4 v2.body 0) (.ok (.next,d9.set (d9.set (d9.set (d9.set (List.zip ["text"] [.str t]) "found" (.list [])) "sign" (.int 1)) "signs" (.int ((1:Nat):Int))) "k" (.int ((0:Nat):Int)))):=
  i7 (vs:=[.list [],.int 1,.int 1,.int 0]) (by tm_at "e") rfl (by decide) rfl
 have L:=LZ (g:=g) hlen hso hl hasc (L4 t) (fun z=>by injection z) (d9.set (d9.set (d9.set (d9.set (List.zip ["text"] [.str t]) "found" (.list [])) "sign" (.int 1)) "signs" (.int ((1:Nat):Int))) "k" (.int ((0:Nat):Int))) 0 1 [] (by omega) (by simp) (by simp) (by omega) ⟨fun Z=>by omega,fun Z=>rfl⟩ (by tm_at "n") (by tm_at "n") (by tm_at "n") (by tm_at "n") (by tm_at "n");cases hx:y0 t with
 |none=>
  rw[hx] at L;rcases L with⟨σ',L⟩|⟨σ',n,L,g1⟩
  ·exact g8.ret rfl (d5.cons e0 (d5.ret L))
  ·exact g8.ret rfl (d5.cons e0 (d5.cons L (d5.ret (d8.ret (v:=.none) (c8.if0 (c7 (by tm_at "e") (by simp;omega)) (by tm_at "e"))))))
 |some v=>
  rw[hx] at L;refine r6 L fun σ' L g0 g1=> ?_;exact g8.ret rfl (d5.cons e0 (d5.cons L (d5.ret (d8.ret (v:=.list (v.map w6)) (c8.if1 (c9 (by tm_at "e") (by exact rfl)) (by tm_at "e"))))))
end
theorem oE {σ:d9} {p:Str->Bool} {x:Str} (h:p x=true):(σ.filter fun q=>p q.1).lookup x=σ.lookup x:=by
 induction σ with
 |nil=>rfl
 |cons a r ih=>
  obtain⟨y,v⟩:=a;rw[List.filter_cons];by_cases hxy:x=y
  ·subst hxy;simp[h]
  ·have e:(x==y)=false:=by simpa using hxy
   split
   ·rw[List.lookup_cons,List.lookup_cons,e];exact ih
   ·rw[List.lookup_cons,e];exact ih
theorem M7 {σ:d9} {sc csc:Scope} {x:Str} {v:V} (h:σ.get x=some v) (hc:(csc.names.lookup x==some .free &&(sc.names.lookup x==some .cell||sc.names.lookup x==some .free))=true):(i5 σ sc csc).get x=some v:=by
 unfold i5 d9.get;exact(oE (p:=fun y=>csc.names.lookup y==some .free &&(sc.names.lookup y==some .cell||sc.names.lookup y==some .free)) hc).trans h
theorem HO {a b:Int} (h:0<=b/\b<=1000000) (h':a.natAbs<2 ^64):R0 .Pow (.int a) (.int b)=.ok (.int (a ^b.toNat)):=by
 rw[OS,if_pos ⟨h.1,h.2,h'⟩]
theorem NU {vs:List V} {k:Nat} {v:V} (hl:vs.length<=i0) (h:vs[k]? =some v):P1 (.olist vs) (.int (k:Int))=.ok v:=by
 show(if vs.length<=i0 then needR (G2 k vs.length) (fun k=>needR vs[k]? R.ok) else R.stuck)=_;have hk:k<vs.length:=by
  rcases Nat.lt_or_ge k vs.length with z|z
  ·exact z
  ·rw[List.getElem?_eq_none z] at h;injection h
 have:G2 (k:Int) vs.length=some k:=by
  unfold G2;rw[if_pos (by omega),if_pos (by omega)];rfl
 rw[if_pos hl,this];show needR vs[k]? R.ok=_;rw[h];rfl
theorem HP {vs:List V} {k:Nat} {v:V} (hl:vs.length<=i0) (h:vs[k]? =some v):P1 (.list vs) (.int (k:Int))=.ok v:=NU hl h
theorem QE {x:Int} {l:List Int}:fH "max" [.olist ((x::l).map V.int)]=.ok (.int (wU (x::l))):=by
 rw[PS];show needR (J3 ((x::l).map V.int)) _=_;rw[bD];show(if (x::l)≠[] then R.ok (V.int (wU (x::l))) else R.stuck)=_;exact if_pos (List.cons_ne_nil _ _)
theorem HQ {l:List Int}:fH "sum" [.list (l.map V.int)]=.ok (.int l.sum):=by
 rw[PT];show needR (J3 (l.map V.int)) _=_;rw[bD];rfl
theorem vJ {n:Nat} (h:n<=i0):fH "range" [.int (n:Int)]=.ok (.rng n):=by
 rw[GS];exact if_pos (by rw[Int.natAbs_natCast];exact h)
theorem qC {n:Nat} (h:n<=i0):s0 (.rng n)=.ok ((List.range n).map fun(k:Nat)=>V.int (k:Int)):=by
 show(if (n:Int).natAbs<=i0 then R.ok ((List.range (n:Int).toNat).map fun(k:Nat)=>V.int (k:Int)) else .stuck)=_;rw[if_pos (by rw[Int.natAbs_natCast];exact h)];rfl
theorem QF {a:b9} {d:Int} {kvs:List (b9×Int)}:w2 "get" (.dict kvs) [.str a,.int d]=.ok (.int ((kvs.lookup a).getD d)):=rfl
theorem QG {a:b9} {kvs:List (b9×Int)}:w8 .In (.str a) (.dict kvs)=.ok ((kvs.lookup a).isSome):=WC a kvs
theorem mL {g:G} {csc:Scope} {elt:Expr} {x:Str} {xp:Pos} {σ:d9} {f:Nat->V} (hf: ∀c,(f c).open? =false): ∀{r:List Nat},(∀c∈r,c8 g csc (σ.set x (.int (c:Nat))) false elt (.ok (f c)))->Q5 g csc σ (.Name x xp) elt [] (r.map fun(k:Nat)=>V.int (k:Int)) (r.map f)
 |[],_=>Q5.nil
 |c::r,h=>Q5.take rfl (h c List.mem_cons_self) (hf c) (mL hf fun d hd=>h d (List.mem_cons_of_mem _ hd))
noncomputable def eX (b:Int):Int->List Int->Int
 |v,[]=>v
 |v,c::r=>eX b (v*b+c) r
theorem mM (b:Int): ∀(l:List Int) (v:Int),eX b v l=v*b ^l.length+((List.range l.length).map fun k=>l.getD k 0*b ^(l.length-1-k)).sum
 |[],v=>by show v=v*b ^0+0;rw[Int.pow_zero,Int.mul_one,Int.add_zero]
 |c::r,v=>by
  show eX b (v*b+c) r=_;rw[mM b r,List.length_cons,List.range_succ_eq_map,List.map_cons,List.sum_cons,List.map_map];have e:((fun k=>(c::r).getD k 0*b ^(r.length+1-1-k)) ∘ Nat.succ)=fun k=>r.getD k 0*b ^(r.length-1-k):=by
   funext k
   show(c::r).getD (k+1) 0*b ^(r.length+1-1-(k+1))=_;rw[List.getD_cons_succ,show r.length+1-1-(k+1)=r.length-1-k by omega]
  rw[e,List.getD_cons_zero,show r.length+1-1-0=r.length by omega,Int.pow_succ,Int.add_mul,Int.mul_assoc,Int.mul_comm b];rw[Int.add_assoc]
noncomputable def v9 (b:Nat) (c:Nat):Int:=if 48<=c/\c<58 then (c:Int)-48 else if 97<=c/\c<123 then (c:Int)-87 else if (65<=c/\c<91)/\b≠10 then (c:Int)-55 else 99
theorem bJ (b c:Nat):0<=v9 b c:=by
 unfold v9;repeat (split; · omega)
 omega
theorem MA {b c:Nat} (h:c<128):v9 b c<=99:=by
 unfold v9;repeat (split; · omega)
 omega
theorem gG {b:Nat} {cv:Nat->Nat} (h: ∀c,c<128->(match M6 (cv c) with|some d=>if d<b then some d else none|none=>none)=(if v9 b c<b then some (v9 b c).toNat else none)): ∀(fs:b9) (v:Nat),(∀c∈fs,c<128)->
  P7 b v (fs.map cv)=if fs.all (fun c=>decide (v9 b c<b)) then some (eX b v (fs.map (v9 b))).toNat else none
 |[],v,_=>(if_pos rfl).symm
 |c::r,v,hs=>by
  show(match M6 (cv c) with|some d=>if d<b then P7 b (v*b+d) (r.map cv) else none|none=>none)=_;have hc:=h c (hs c List.mem_cons_self);rw[List.all_cons];by_cases hv:v9 b c<b
  ·rw[if_pos hv] at hc;have hn:=bJ b c;cases hd:M6 (cv c) with
   |none=>rw[hd] at hc;injection hc
   |some d=>
    rw[hd] at hc;dsimp only at hc;split at hc
    ·rename_i hdb;injection hc with hc;subst hc;dsimp only;rw[if_pos hdb,gG h r _ (fun d hd=>hs d (List.mem_cons_of_mem _ hd)),decide_eq_true hv,Bool.true_and];show _=if _ then some (eX b ((v:Int)*b+v9 b c) (r.map (v9 b))).toNat else none;rw[show((v:Int)*(b:Int)+v9 b c)=((v*b+(v9 b c).toNat:Nat):Int) by
      rw[Int.natCast_add,Int.natCast_mul,Int.toNat_of_nonneg hn]]
    ·injection hc
  ·rw[if_neg hv] at hc;rw[decide_eq_false hv,Bool.false_and,if_neg (by decide)];cases hd:M6 (cv c) with
   |none=>rfl
   |some d=>
    rw[hd] at hc;dsimp only at hc ⊢;split at hc
    ·injection hc
    ·rename_i hdb;rw[if_neg hdb]
noncomputable def QH (b:Nat) (c:Nat):Option Nat:=match M6 c with|some d=>if d<b then some d else none|none=>none
noncomputable def QI (b:Nat) (c:Nat):Option Nat:=if v9 b c<(b:Int) then some (v9 b c).toNat else none
theorem XY: ∀c:Fin 128,QH 2 (cG c.val)=QI 2 c.val:=by decide+kernel
theorem TQ: ∀c:Fin 128,QH 16 (cG c.val)=QI 16 c.val:=by decide+kernel
theorem TR: ∀c:Fin 128,QH 10 c.val=QI 10 c.val:=by decide+kernel
noncomputable abbrev I1:List (b9×Int):=[([48,120],16),([48,88],16),([48,98],2),([48,66],2)]
noncomputable def P2 (t:b9):b9:=if ([[48,120],[48,88],[48,98],[48,66]]:List b9).contains (t.take 2) then t.drop 2 else t
theorem yE (t:b9):((I1.lookup (t.take 2)).getD 10=((l4 t).1:Int))/\((I1.lookup (t.take 2)).isSome=([[48,120],[48,88],[48,98],[48,66]]:List b9).contains (t.take 2)):=by
 unfold l4;rcases t with _|⟨a,_|⟨b,r⟩⟩
 ·exact⟨rfl,rfl⟩
 ·have e: ∀k:Nat,(([a]:b9)==[48,k])=false:=fun k=>by simp
  refine⟨?_,?_⟩
  ·show(List.lookup [a] I1).getD 10=(((if ([[48,120],[48,88],[48,98],[48,66]]:List b9).contains [a] then _ else _):Nat×b9).1:Int);simp[List.lookup_cons]
  ·simp[List.lookup_cons]
 ·have hch:k6 (a::b::r) 1=b:=rfl;have htk:(a::b::r).take 2=[a,b]:=rfl;rw[hch,htk];by_cases ha:a=48
  ·subst ha;by_cases h1:b=120; · subst h1;exact⟨rfl,rfl⟩
   by_cases h2:b=88; · subst h2;exact⟨rfl,rfl⟩
   by_cases h3:b=98; · subst h3;exact⟨rfl,rfl⟩
   by_cases h4:b=66; · subst h4;exact⟨rfl,rfl⟩
   have e: ∀k:Nat,b≠k->(([48,b]:b9)==[48,k])=false:=fun k h=>by simp[h]
   have el:I1.lookup [48,b]=none:=by simp only[List.lookup_cons,List.lookup_nil,e _ h1,e _ h2,e _ h3,e _ h4]
   have ec:([[48,120],[48,88],[48,98],[48,66]]:List b9).contains [48,b]=false:=by simp[h1,h2,h3,h4]
   rw[el,ec];exact⟨rfl,rfl⟩
  ·have e: ∀k:Nat,(([a,b]:b9)==[48,k])=false:=fun k=>by simp[ha]
   have el:I1.lookup [a,b]=none:=by simp only[List.lookup_cons,List.lookup_nil,e]
   have ec:([[48,120],[48,88],[48,98],[48,66]]:List b9).contains [a,b]=false:=by simp[ha]
   rw[el,ec];exact⟨rfl,rfl⟩
theorem iD {b:Int} (hb:0<=b): ∀(l:List Int) (v:Int),0<=v->(∀x∈l,0<=x)->0<=eX b v l
 |[],v,hv,_=>hv
 |c::r,v,hv,h=>iD hb r _ (Int.add_nonneg (Int.mul_nonneg hv hb) (h c List.mem_cons_self)) fun x hx=>h x (List.mem_cons_of_mem _ hx)
theorem AC {A C C':Prop} [Decidable A] [Decidable C] [Decidable C'] (h:C'↔C) {u:Nat}:(match (if A then some u else none:Option Nat) with|some v=>if C' then none else some v|none=>none)=if C then none else if A then some u else none:=by
 by_cases a:A<;>by_cases c:C<;>simp[a,c,h]
theorem MB {t:b9} (hasc:j6 t=true):B7 t=if P2 t=[]\/((l4 t).1=10/\1<(P2 t).length/\k6 (P2 t) 0=48) then none
  else if (P2 t).all (fun c=>decide (v9 (l4 t).1 c<(l4 t).1)) then some (eX (l4 t).1 0 ((P2 t).map (v9 (l4 t).1))).toNat else none:=by
 have hmem: ∀c∈P2 t,c<128:=fun c hc=>by
  unfold P2 at hc;split at hc
  ·exact w7 hasc (List.mem_of_mem_drop hc)
  ·exact w7 hasc hc
 unfold B7;by_cases hp:([[48,120],[48,88],[48,98],[48,66]]:List b9).contains (t.take 2)=true
 ·have e1:P2 t=t.drop 2:=if_pos hp;have e2:(l4 t).2=(P2 t).map cG:=by unfold l4;rw[if_pos hp,e1]
  have e3:(l4 t).1=16\/(l4 t).1=2:=by
   unfold l4;rw[if_pos hp];dsimp only;split
   ·exact .inl rfl
   ·exact .inr rfl
  have e4:P7 (l4 t).1 0 (l4 t).2=if (P2 t).all (fun c=>decide (v9 (l4 t).1 c<(l4 t).1)) then some (eX (l4 t).1 ((0:Nat):Int) ((P2 t).map (v9 (l4 t).1))).toNat else none:=by
   rw[e2];refine gG (fun c hc=> ?_) _ 0 hmem;rcases e3 with e|e
   ·rw[e];exact TQ ⟨c,hc⟩
   ·rw[e];exact XY ⟨c,hc⟩
  have hne:(l4 t).1≠10:=by rcases e3 with e|e<;>(rw[e];decide)
  rw[e4,e2];refine AC ?_;rw[List.map_eq_nil_iff];constructor
  ·rintro (z|⟨z,_⟩)
   ·exact .inl z
   ·exact absurd z hne
  ·rintro (z|⟨z,_⟩)
   ·exact .inl z
   ·exact absurd z hne
 ·have e1:P2 t=t:=if_neg hp;have e2:l4 t=(10,t):=by unfold l4;rw[if_neg hp]
  rw[e1,e2];rw[e1] at hmem;dsimp only;have e4:P7 10 0 t=if t.all (fun c=>decide (v9 10 c<(10:Nat))) then some (eX (10:Nat) ((0:Nat):Int) (t.map (v9 10))).toNat else none:=by
   have:=gG (b:=10) (cv:=id) (fun c hc=>TR ⟨c,hc⟩) t 0 hmem;rwa[List.map_id] at this
  rw[e4];exact AC Iff.rfl
theorem AD {b:Int}: ∀(l:List Int) (x:Int),l.foldl max x<b↔x<b/\ ∀y∈l,y<b
 |[],x=>by simp
 |c::r,x=>by
  rw[List.foldl_cons,AD r];simp only[List.mem_cons,forall_eq_or_imp,Int.max_lt];constructor
  ·rintro ⟨⟨h1,h2⟩,h3⟩;exact⟨h1,h2,h3⟩
  ·rintro ⟨h1,h2,h3⟩;exact⟨⟨h1,h2⟩,h3⟩
section
variable {g:G} {t:b9}
theorem vK (hord:g.fn "ord"=none) {b:Nat}: ∀(r:b9) (σ:d9) (acc:List Int),acc.length+r.length<=2000->σ.get "base"=some (.int (b:Nat))->σ.get "values"=some (.olist (acc.map .int))->
  ∃σ',P6 g (some "values") j5.sc σ (V0 (i4 j5.body 4)) (sB (i4 j5.body 4)) (r.map fun c=>.str [c]) (.ok (.next,σ'))/\σ'.get "base"=some (.int (b:Nat))/\σ'.get "values"=some (.olist ((acc++r.map (v9 b)).map .int))
 |[],σ,acc,_,h1,h2=>⟨σ,P6.nil,h1,by rw[h2];simp⟩
 |c::r,σ,acc,hl,h1,h2=>by
  have hlim:i0=1048576:=rfl;rw[List.length_cons] at hl;have hb:s5 σ (V0 (i4 j5.body 4)) (.str [c])=.ok (σ.set "figure" (.str [c])):=rfl;refine r6 (vK hord (b:=b) r ((((σ.set "figure" (.str [c])).set "code" (.int (c:Nat))).set "value" (.int (v9 b c))).set "values" (.olist (acc.map .int++[.int (v9 b c)]))) (acc++[v9 b c]) (by simp;omega) (by tm_at "n") (by rw[List.map_append];tm_at "n")) fun σ' x1 x2 x3=> ?_;have hv:d8 g (some "values") j5.sc ((σ.set "figure" (.str [c])).set "code" (.int (c:Nat))) (i4 (sB (i4 j5.body 4)) 1) (.ok (.next,((σ.set "figure" (.str [c])).set "code" (.int (c:Nat))).set "value" (.int (v9 b c)))):=by
   refine d7 (v:=.int (v9 b c)) ?_ (by decide) (by decide) rfl;have g1:((σ.set "figure" (.str [c])).set "code" (.int (c:Nat))).get "base"=some (.int (b:Nat)):=by tm_at "n"
   have g2:((σ.set "figure" (.str [c])).set "code" (.int (c:Nat))).get "code"=some (.int (c:Nat)):=by tm_at "n"
   unfold v9;by_cases h1:48<=c/\c<58
   ·rw[if_pos h1];exact c8.if1 (c9 (by tm_at "e") (by simp;omega)) (by tm_at "e")
   rw[if_neg h1];refine c8.if0 (c7 (by tm_at "e") (by simp;omega)) ?_;by_cases h2:97<=c/\c<123
   ·rw[if_pos h2];exact c8.if1 (c9 (by tm_at "e") (by simp;omega)) (by tm_at "e")
   rw[if_neg h2];refine c8.if0 (c7 (by tm_at "e") (by simp;omega)) ?_;have hT:c8 g j5.sc ((σ.set "figure" (.str [c])).set "code" (.int (c:Nat))) true (eK (eK (eK (sE (i4 (sB (i4 j5.body 4)) 1)) 2) 2) 0) (.ok (.bool (decide ((65<=c/\c<91)/\b≠10)))):=
    c8.to (j2 (I9.cons (by tm_at "e") fun Z=>I9.one (by tm_at "e"))) (by
     congr 2
     rw[Bool.eq_iff_iff];simp;omega)
   by_cases h3:(65<=c/\c<91)/\b≠10
   ·rw[if_pos h3];rw[decide_eq_true h3] at hT;exact c8.if1 hT (by tm_at "e")
   ·rw[if_neg h3];rw[decide_eq_false h3] at hT;exact c8.if0 hT (by tm_at "e")
  refine⟨σ',P6.cons hb (d5.cons (d7 (v:=.int (c:Nat)) (by tm_at "e") (by decide) (by decide) rfl) (d5.cons hv (d5.cons (d8.append (vs:=acc.map .int) (v:=.int (v9 b c)) (by tm_at "e") (by tm_at "v") (by decide) rfl (by simp;omega)) d5.nil))) x1,x2,?_⟩;rw[x3];simp
noncomputable def A4:List V->R V:=fS fun t=>
  if t.length<=1000/\j6 t=true then (match B7 t with|some v=>.ok (.int (v:Nat))|none=>.ok .none) else .stuck
theorem mN (hlen:g.fn "len"=none) (hord:g.fn "ord"=none) (hmax:g.fn "max"=none) (hsum:g.fn "sum"=none) (hrng:g.fn "range"=none) (vs:List V) (hn:A4 vs≠.stuck):g8 g (some "values") j5.sc ["text"] j5.body vs (A4 vs):=by
 have hlim:i0=1048576:=rfl;refine d6 (R8 hn) fun t z2r=> ?_;subst z2r;have hc:=D9 hn;refine l5 (if_pos hc) ?_;refine f8 hc fun hl hasc=> ?_;clear hc;refine f8 (yE t) fun mb1 mb2=> ?_;have hb:(l4 t).1<=16/\2<=(l4 t).1:=by
  unfold l4;split
  ·dsimp only;split<;>omega
  ·dsimp only;omega
 have hs2:j9 t none (some 2)=t.take 2:=jJ (b:=2);have e0:d8 g (some "values") j5.sc (List.zip ["text"] [.str t]) (i4 j5.body 0) (.ok (.next,d9.set (List.zip ["text"] [.str t]) "marks" (.dict I1))):=
  d7 (v:=.dict I1) (c8.dict (kvs:=I1) rfl ⟨by decide,by decide,by decide⟩) (by decide) (by decide) rfl
 have hraw:c8 g j5.sc (d9.set (List.zip ["text"] [.str t]) "marks" (.dict I1)) false (eK (sE (i4 j5.body 1)) 1) (.ok (.str (P2 t))):=by
  have hT:c8 g j5.sc (d9.set (List.zip ["text"] [.str t]) "marks" (.dict I1)) true (eK (eK (sE (i4 j5.body 1)) 1) 0) (.ok (.bool (([[48,120],[48,88],[48,98],[48,66]]:List b9).contains (t.take 2)))):=
   mb2▸e9 (hs2▸c8.slice (by tm_at "v") (by tm_at "e") (by tm_at "e") (by omega)) (by tm_at "e") QG rfl
  unfold P2;cases hp:([[48,120],[48,88],[48,98],[48,66]]:List b9).contains (t.take 2) with
  |true=>
   rw[hp] at hT;rw[if_pos rfl];have h2:2<=t.length:=by
    rcases t with _|⟨a,_|⟨b,r⟩⟩
    ·exact absurd hp (by decide)
    ·exfalso;simp at hp
    ·simp
   have hd2:j9 t (some 2) none=t.drop 2:=jI (a:=2) h2;exact c8.if1 hT (hd2▸c8.slice (by tm_at "v") (by tm_at "e") (by tm_at "e") (by omega))
  |false=>
   rw[hp] at hT;rw[if_neg (by decide)];exact c8.if0 hT (by tm_at "e")
 have hbase:c8 g j5.sc (d9.set (List.zip ["text"] [.str t]) "marks" (.dict I1)) false (eK (sE (i4 j5.body 1)) 0) (.ok (.int ((l4 t).1:Nat))):=
  mb1▸CJ (c8.name (g6 (v:=.dict I1) (by tm_at "n") rfl (by decide))) (hs2▸c8.slice (by tm_at "v") (by tm_at "e") (by tm_at "e") (by omega)) (by tm_at "e") QF ⟨rfl,rfl⟩
 have e1:d8 g (some "values") j5.sc (d9.set (List.zip ["text"] [.str t]) "marks" (.dict I1)) (i4 j5.body 1) (.ok (.next,((d9.set (List.zip ["text"] [.str t]) "marks" (.dict I1)).set "base" (.int ((l4 t).1:Nat))).set "figures" (.str (P2 t)))):=
  i7 (vs:=[.int ((l4 t).1:Nat),.str (P2 t)]) (v5.cons hbase (v5.cons hraw v5.nil)) rfl (by decide) rfl
 have hmem: ∀c∈P2 t,c<128:=fun c hc=>by
  unfold P2 at hc;split at hc
  ·exact w7 hasc (List.mem_of_mem_drop hc)
  ·exact w7 hasc hc
 have hfl:(P2 t).length<=t.length:=by
  unfold P2;split<;>simp
 rw[MB hasc];have g1:(((d9.set (List.zip ["text"] [.str t]) "marks" (.dict I1)).set "base" (.int ((l4 t).1:Nat))).set "figures" (.str (P2 t))).get "base"=some (.int ((l4 t).1:Nat)):=by tm_at "n"
 have g2:(((d9.set (List.zip ["text"] [.str t]) "marks" (.dict I1)).set "base" (.int ((l4 t).1:Nat))).set "figures" (.str (P2 t))).get "figures"=some (.str (P2 t)):=by tm_at "n"
 generalize ((d9.set (List.zip ["text"] [.str t]) "marks" (.dict I1)).set "base" (.int ((l4 t).1:Nat))).set "figures" (.str (P2 t))=wL at*;generalize P2 t=fs at*;generalize (l4 t).1=b at*;have hcond:c8 g j5.sc wL true (sE (i4 j5.body 2)) (.ok (.bool (decide (fs=[]\/(b=10/\1<fs.length/\k6 fs 0=48))))):=by
  by_cases h0:fs=[]
  ·refine c8.to (C1 (Z9.cons (b1:=true) (b2:=true) (c9 (by tm_at "e") (by simp[h0])) fun h=>by injection h)) (by simp[h0])
  ·by_cases h1:1<fs.length
   ·refine c8.to (C1 (Z9.cons (by tm_at "e") fun Z=>Z9.one (j2 (I9.cons (by tm_at "e") fun Z=>I9.cons (by tm_at "e") fun Z=>I9.one (by tm_at "e"))))) ?_;rw[show(fs==[])=false by simp[h0],show decide ((1:Int)<(fs.length:Int))=true by simp;omega];simp[h0,h1];rw[show((b:Int)==10)=decide (b=10) by
     rw[Bool.eq_iff_iff];simp;omega]
    by_cases hb10:b=10<;>by_cases hc0:k6 fs 0=48<;>simp[hb10,hc0]
   ·refine c8.to (C1 (Z9.cons (by tm_at "e") fun Z=>Z9.one (j2 (I9.cons (by tm_at "e") fun Z=>I9.cons (b1:=false) (b2:=true) (c7 (by tm_at "e") (by simp;omega)) fun h=>by injection h)))) ?_;rw[show(fs==[])=false by simp[h0]];simp[h0,h1]
 by_cases hq:fs=[]\/(b=10/\1<fs.length/\k6 fs 0=48)
 ·rw[decide_eq_true hq] at hcond;rw[if_pos hq];exact g8.ret rfl (d5.cons e0 (d5.cons e1 (d5.ret (d8.if1 hcond (d5.ret (d8.ret (v:=.none) (by tm_at "e")))))))
 rw[decide_eq_false hq] at hcond;rw[if_neg hq];have h0:fs≠[]:=fun z=>hq (.inl z);have e3:d8 g (some "values") j5.sc wL (i4 j5.body 3) (.ok (.next,wL.set "values" (.olist []))):=uN (vs:=[]) (by tm_at "e") rfl rfl;refine r6 (vK (g:=g) hord (b:=b) fs (wL.set "values" (.olist [])) [] (by simp;omega) (by tm_at "n") (by tm_at "n")) fun σ' x1 x2 x3=> ?_;rw[List.nil_append] at x3;have e4:d8 g (some "values") j5.sc (wL.set "values" (.olist [])) (i4 j5.body 4) (.ok (.next,σ')):=H3 (by tm_at "e") (w5 (by omega)) rfl x1;have hvl:((fs.map (v9 b)).map V.int).length<=i0:=by simp;omega
 have hn:(fs.map (v9 b)).length=fs.length:=by simp
 have hmx: ∃m:Int,fH "max" [.olist ((fs.map (v9 b)).map V.int)]=.ok (.int m)/\(m<b↔ ∀c∈fs,v9 b c<b):=by
  rcases fs with _|⟨c,r⟩
  ·exact absurd rfl h0
  ·refine⟨_,QE (x:=v9 b c) (l:=r.map (v9 b)),?_⟩;show(r.map (v9 b)).foldl max (v9 b c)<b↔_;rw[AD];simp
 refine e8 hmx fun m hm1 hm2=> ?_;clear hmx;have hT5:c8 g j5.sc σ' true (sE (i4 j5.body 5)) (.ok (.bool (decide ((b:Int)<=m)))):=
  e9 (c8.bcall (by tm_at "e") hmax rfl hm1 rfl rfl) (by tm_at "e") (NJ _ _) rfl
 by_cases hall: ∀c∈fs,v9 b c<b
 case neg=>
  have hlt: ¬m<b:=fun z=>hall (hm2.mp z);rw[decide_eq_true (by omega)] at hT5;have:(fs.all fun c=>decide (v9 b c<b))=false:=by
   rw[List.all_eq_false];apply Classical.byContradiction
   intro z;exact hall fun c hc=>by
    apply Classical.byContradiction
    intro y;exact z ⟨c,hc,by simpa using y⟩
  rw[this,if_neg (by decide)];exact g8.ret rfl (d5.cons e0 (d5.cons e1 (d5.cons (d8.if0 hcond d5.nil) (d5.cons e3 (d5.cons e4 (d5.ret (d8.if1 hT5 (d5.ret (d8.ret (v:=.none) (by tm_at "e"))))))))))
 have hlt:m<b:=hm2.mpr hall;rw[decide_eq_false (by omega)] at hT5;have:(fs.all fun c=>decide (v9 b c<b))=true:=by rw[List.all_eq_true];exact fun c hc=>decide_eq_true (hall c hc)
 rw[this,if_pos rfl];have hsm:eX b 0 (fs.map (v9 b))=((List.range fs.length).map fun k=>(fs.map (v9 b)).getD k 0*(b:Int) ^(fs.length-1-k)).sum:=by
  rw[mM,hn];simp
 have hnn:0<=eX b 0 (fs.map (v9 b)):=iD (by omega) _ _ (by omega) fun x hx=>by
  refine e8 (List.mem_map.mp hx) fun c Z z1r=> ?_;subst z1r;exact bJ b c
 show g8 g (some "values") j5.sc ["text"] j5.body [.str t] (.ok (.int (((eX b 0 (fs.map (v9 b))).toNat:Nat):Int)));rw[Int.toNat_of_nonneg hnn,hsm];refine g8.ret rfl (d5.cons e0 (d5.cons e1 (d5.cons (d8.if0 hcond d5.nil) (d5.cons e3 (d5.cons e4 (d5.cons (d8.if0 hT5 d5.nil) (d5.ret (σ':=σ') (d8.ret (v:=.int _) (c8.bcall (v5.cons (v:=.list (((List.range fs.length).map fun k=>(fs.map (v9 b)).getD k 0*(b:Int) ^(fs.length-1-k)).map V.int)) (J8 (iv:=.rng fs.length) ?_ (qC (by omega)) ?_ rfl) v5.nil) (by assumption) rfl HQ rfl rfl)))))))))
 ·refine c8.bcall (v5.cons (v:=.int (fs.length:Nat)) (c8.to (c8.bcall (by tm_at "e") hlen rfl (lK hvl) rfl rfl) (by simp)) v5.nil) hrng rfl (vJ (by omega)) rfl rfl
 ·rw[List.map_map];refine mL (f:=V.int ∘ fun k=>(fs.map (v9 b)).getD k 0*(b:Int) ^(fs.length-1-k)) (fun Z=>rfl) fun k hk=> ?_;rw[List.mem_range] at hk;have c1:((i5 σ' j5.sc (eS (eK (sE (i4 j5.body 6)) 0))).set "k" (.int (k:Nat))).get "values"=some (.olist ((fs.map (v9 b)).map .int)):=d9.ne (by decide) (M7 x3 rfl);have c2:((i5 σ' j5.sc (eS (eK (sE (i4 j5.body 6)) 0))).set "k" (.int (k:Nat))).get "base"=some (.int (b:Nat)):=d9.ne (by decide) (M7 x2 rfl);have c3:((i5 σ' j5.sc (eS (eK (sE (i4 j5.body 6)) 0))).set "k" (.int (k:Nat))).get "k"=some (.int (k:Nat)):=d9.same;have hget:((fs.map (v9 b)).map V.int)[k]? =some (.int ((fs.map (v9 b)).getD k 0)):=by
   rw[List.getElem?_map,List.getD_eq_getElem?_getD,List.getElem?_eq_getElem (by rw[hn];exact hk)];rfl
  have hv99:((fs.map (v9 b)).getD k 0).natAbs<2 ^64:=by
   rw[List.getD_eq_getElem?_getD,List.getElem?_eq_getElem (by rw[hn];exact hk)];simp only[Option.getD_some,List.getElem_map];have h1:=bJ b (fs[k]);have h2:=MA (b:=b) (hmem fs[k] (List.getElem_mem hk));have:(v9 b fs[k]).natAbs<=99:=by omega
   exact Nat.lt_of_le_of_lt this (by decide)
  have hpw:((b:Int) ^(fs.length-1-k)).natAbs<2 ^4096:=by
   rw[Int.natAbs_pow,Int.natAbs_natCast];refine Nat.lt_of_le_of_lt (Nat.pow_le_pow_left hb.1 _) ?_;refine Nat.lt_of_le_of_lt (Nat.pow_le_pow_right (by decide) (show fs.length-1-k<=1000 by omega)) ?_;rw[show(16:Nat)=2 ^4 by rfl,<-Nat.pow_mul];exact Nat.pow_lt_pow_right (by decide) (by decide)
  have hbs:(b:Int).natAbs<2 ^64:=by rw[Int.natAbs_natCast];exact Nat.lt_of_le_of_lt hb.1 (by decide)
  have hex:(((((fs.map (v9 b)).map V.int).length:Int)-1-(k:Int))).toNat=fs.length-1-k:=by
   rw[List.length_map,hn];omega
  refine c8.to (c8.bin (G5 (g6 c1 rfl (by decide)) (c8.name (g6 c3 rfl (by decide))) (NU hvl hget) rfl) (c8.bin (c8.name (g6 c2 rfl (by decide))) (c8.bin (c8.bin (c8.bcall (v5.cons (c8.name (g6 c1 rfl (by decide))) v5.nil) hlen rfl (lK hvl) rfl rfl) (by tm_at "e") (fL _ _)) (c8.name (g6 c3 rfl (by decide))) (fL _ _)) (HO ⟨by rw[List.length_map,hn];omega,by rw[List.length_map,hn];omega⟩ hbs)) (eT (jL hv99) (by rw[hex];exact hpw))) ?_;rw[hex];rfl
end
theorem MC {t:b9} (h:t.length<=i0):fH "list" [.str t]=.ok (.list ((t.map fun c=>[c]).map V.str)):=by
 show(if t.length<=i0 then R.ok (V.list (t.map fun c=>.str [c])) else .stuck)=_;rw[if_pos h,List.map_map];rfl
theorem eY {c:Nat}: ∀(l:b9),(l.map fun c=>[c]).contains [c]=l.contains c
 |[]=>rfl
 |d::r=>by
  rw[List.map_cons,List.contains_cons,List.contains_cons,eY r];congr 1
  simp
theorem vL: ∀(l:b9),(l.map fun c=>[c]).contains []=false
 |[]=>rfl
 |d::r=>by rw[List.map_cons,List.contains_cons,vL r];rfl
theorem qD: ∀(w:b9) (v:Nat),w.all k8=true->eX 8 v (w.map fun(c:Nat)=>(c:Int)-48)=(V1 v w:Nat)
 |[],v,_=>rfl
 |c::r,v,h=>by
  rw[List.all_cons,Bool.and_eq_true] at h;show eX 8 ((v:Int)*8+((c:Int)-48)) (r.map _)=(V1 (8*v+(c-48)) r:Nat);have:=(lU c).mp h.1;rw[<-qD r _ h.2];congr 1
  omega
noncomputable abbrev V3:List (b9×Int):=[([110],10),([116],9),([114],13),([92],92),([39],39),([34],34)]
noncomputable def TS:Stmt:=i4 (sB (i4 l8.body 2)) 0
noncomputable def vM:Stmt:=i4 (RQ TS) 0
noncomputable def iE:Stmt:=i4 (RQ vM) 0
noncomputable def HR:Stmt:=i4 (sB iE) 1
section
variable {g:G} {I:b9}
theorem HS (hlen:g.fn "len"=none) {w3:b9} (hl:w3.length<=3): ∀(m:Nat) (σ:d9) (k:Nat),w3.length-k<=m->k<=w3.length->σ.get "values"=some (.list ((w3.map fun(c:Nat)=>(c:Int)-48).map .int))->σ.get "count"=some (.int (k:Nat))->
  ∃(σ':d9),d8 g none l8.sc σ HR (.ok (.next,σ'))/\σ'.get "count"=some (.int ((k+((w3.drop k).takeWhile k8).length:Nat):Int))/\(∀y:Str,y≠"count"->σ'.get y=σ.get y):=by
 intro m;have hlim:i0=1048576:=rfl;have hvl:((w3.map fun(c:Nat)=>(c:Int)-48).map V.int).length<=i0:=by simp;omega
 have stop: ∀(σ:d9) (k:Nat),k<=w3.length-> ¬k<w3.length->σ.get "values"=some (.list ((w3.map fun(c:Nat)=>(c:Int)-48).map .int))->σ.get "count"=some (.int (k:Nat))->
   ∃(σ':d9),d8 g none l8.sc σ HR (.ok (.next,σ'))/\σ'.get "count"=some (.int ((k+((w3.drop k).takeWhile k8).length:Nat):Int))/\(∀y:Str,y≠"count"->σ'.get y=σ.get y):=by
  intro σ k hk hn h1 h2;refine⟨σ,h7 (c7 (j2 (I9.cons (b1:=false) (b2:=true) (c7 (e9 (c8.name (g6 h2 rfl (by decide))) (c8.bcall (by tm_at "e") hlen rfl (eO hvl) rfl rfl) (gR _ _) rfl) (by simp;omega)) fun h=>by injection h)) rfl),?_,fun Z Z=>rfl⟩;rw[h2,List.drop_eq_nil_of_le (by omega)];simp
 induction m with
 |zero=>intro σ k hm hk h1 h2;exact stop σ k hk (by omega) h1 h2
 |succ m ih=>
  intro σ k hm hk h1 h2;by_cases hlt:k<w3.length
  case neg=>exact stop σ k hk hlt h1 h2
  have hget:((w3.map fun(c:Nat)=>(c:Int)-48).map V.int)[k]? =some (.int ((k6 w3 k:Int)-48)):=by
   unfold k6;rw[List.map_map,List.getElem?_map,List.getD_eq_getElem?_getD,List.getElem?_eq_getElem hlt];rfl
  have hT:c8 g l8.sc σ true (sE HR) (.ok (.bool (decide ((k:Int)<(w3.length:Int)) &&(decide ((0:Int)<=(k6 w3 k:Int)-48) &&decide ((k6 w3 k:Int)-48<8))))):=
   j2 (I9.cons (c8.to (e9 (c8.name (g6 h2 rfl (by decide))) (c8.bcall (by tm_at "e") hlen rfl (eO hvl) rfl rfl) (gR _ _) rfl) (by simp)) fun Z=>I9.one (c8.cmp2 (by tm_at "e") (G5 (by tm_at "v") (by tm_at "e") (HP hvl hget) rfl) (fun Z=>by tm_at "e") (NH _ _) (fun Z=>gR _ _) rfl))
  rw[show decide ((k:Int)<(w3.length:Int))=true by simp;omega,Bool.true_and,show(decide ((0:Int)<=(k6 w3 k:Int)-48) &&decide ((k6 w3 k:Int)-48<8))=k8 (k6 w3 k) by
   rw[Bool.eq_iff_iff,lU];simp;omega] at hT
  rw[C2 hlt,List.takeWhile_cons];cases hn:k8 (k6 w3 k) with
  |false=>rw[hn] at hT;exact⟨σ,h7 hT,by rw[h2];simp,fun Z Z=>rfl⟩
  |true=>
   rw[hn] at hT;refine r6 (ih (σ.set "count" (.int ((k+1:Nat):Int))) (k+1) (by omega) (by omega) (by tm_at "n") (by tm_at "n")) fun σ' x1 x2 x3=> ?_;refine⟨σ',i3 hT (d5.cons (d7 (v:=.int ((k+1:Nat):Int)) (by tm_at "e") (by decide) (by decide) rfl) d5.nil) x1,?_,fun y hy=>(x3 y hy).trans (Q7 hy)⟩;rw[x2];simp;omega
noncomputable def HT (g:G) (σ:d9) (acc:List Int):Option (List Nat)->Prop
 |none=> ∃σ',d8 g none l8.sc σ (i4 l8.body 2) (.ok (.ret .none,σ'))
 |some v=> ∃(σ':d9),d8 g none l8.sc σ (i4 l8.body 2) (.ok (.next,σ'))/\σ'.get "found"=some (.list ((acc++v.map fun(n:Nat)=>(n:Int)).map .int))
theorem jO {σ σ2:d9} {acc:List Int} {x:Option (List Nat)} {v:Nat} (step: ∀{u:R (Fl×d9)},d8 g none l8.sc σ2 (i4 l8.body 2) u->d8 g none l8.sc σ (i4 l8.body 2) u)
  (h:HT g σ2 (acc++[(v:Int)]) x):HT g σ acc (x.map (v:: ·)):=by
 cases x with
 |none=>refine d6 h fun σ' h=> ?_;exact⟨σ',step h⟩
 |some w=>refine e8 h fun σ' h h2=> ?_;exact⟨σ',step h,by rw[h2];simp⟩
theorem cB {I:b9} {p d:Nat} {r:b9} (hd:I.drop (p+1)=d::r):(I.drop (p+1)).take 1=[d]:=by rw[hd];rfl
theorem S3 (hl:I.length<=1000) {σ:d9} {p:Nat} {w:b9} (h1:σ.get "inner"=some (.str I)) (h3:σ.get "k"=some (.int (p:Nat))) (hp:p<=I.length) (hw:(I.drop (p+1)).take 1=w) {a b c d e f h i j:Pos}:
  c8 g l8.sc σ false (.Subscript (.Name "inner" a) (.Slice (some (.BinOp (.Name "k" b) .Add (.Constant (.int 1) 0 c) d)) (some (.BinOp (.Name "k" e) .Add (.Constant (.int 2) 0 f) h)) none i) j) (.ok (.str w)):=by
 have hlim:i0=1048576:=rfl;have hs1:j9 I (some ((p+1:Nat):Int)) (some ((p+2:Nat):Int))=w:=by rw[S0,show p+2-(p+1)=1 by omega,hw]
 exact c8.to (c8.slice (li:=some ((p+1:Nat):Int)) (hj:=some ((p+2:Nat):Int)) (by tm_at "v") (by tm_at "e") (by tm_at "e") (by omega)) (by rw[hs1])
theorem HU (hlen:g.fn "len"=none) (hnum:g.fn "_law_number"=some A4) (hl:I.length<=1000) (hasc:j6 I=true) {σ:d9} {p:Nat} {r:b9} (h1:σ.get "inner"=some (.str I)) (h3:σ.get "k"=some (.int (p:Nat))) (hp:p<=I.length) (hr:I.drop (p+2)=r):
  ∃(σ':d9) (v:V),(∀{b:List Stmt} {u:R (Fl×d9)},d5 g none l8.sc σ' b u->d5 g none l8.sc σ (i4 (sB vM) 0::i4 (sB vM) 1::b) u)/\σ'=(σ.set "figures" (.str (r.take 2))).set "value" v/\v=(match B7 (48::120::r.take 2) with|some n=>.int (n:Nat)|none=>.none)/\
   c8 g l8.sc σ' true (sE (i4 (sB vM) 2)) (.ok (.bool (decide (r.length<2\/B7 (48::120::r.take 2)=none)))):=by
 have hlim:i0=1048576:=rfl;have hsl:j9 I (some ((p+2:Nat):Int)) (some ((p+4:Nat):Int))=r.take 2:=by rw[S0,show p+4-(p+2)=2 by omega,hr]
 have e1:d8 g none l8.sc σ (i4 (sB vM) 0) (.ok (.next,σ.set "figures" (.str (r.take 2)))):=d7 (hsl▸c8.slice (li:=some ((p+2:Nat):Int)) (hj:=some ((p+4:Nat):Int)) (by tm_at "v") (zT.some (by tm_at "e") (by omega)) (zT.some (by tm_at "e") (by omega)) (by omega)) (by decide) (by decide) rfl;have hasc':j6 ([48,120]++r.take 2)=true:=by
  unfold j6 at hasc ⊢;rw[List.all_eq_true] at hasc ⊢;intro x hx;rcases List.mem_append.mp hx with z|z
  ·rcases List.mem_cons.mp z with rfl|z
   ·rfl
   ·rcases List.mem_singleton.mp z with rfl;rfl
  ·exact hasc x (List.mem_of_mem_drop (hr▸List.mem_of_mem_take z))
 have hF:A4 [.str ([48,120]++r.take 2)]=.ok (match B7 (48::120::r.take 2) with|some n=>.int (n:Nat)|none=>.none):=by
  show(if _ then _ else _)=_;rw[if_pos ⟨by simp;omega,hasc'⟩];show(match B7 (48::120::r.take 2) with|some v=>_|none=>_)=_;cases B7 (48::120::r.take 2)<;>rfl
 refine⟨_,_,fun h=>d5.cons e1 (d5.cons (d7 (c8.call (v5.cons (c8.bin (by tm_at "e") (by tm_at "e") (add_str (by simp;omega))) v5.nil) hnum hF rfl rfl rfl) (by decide) (by decide) (by cases B7 (48::120::r.take 2)<;>rfl)) h),rfl,rfl,?_⟩;have hl2:(r.take 2).length<=2:=by simp;omega
 by_cases h2:r.length<2
 ·rw[decide_eq_true (.inl h2)];exact c8.to (C1 (Z9.cons (b1:=true) (b2:=true) (c9 (by tm_at "e") (by simp;omega)) fun z=>(by injection z))) rfl
 ·have e2:decide (((r.take 2).length:Int)<2)=false:=by simp;omega
  cases hv:B7 (48::120::r.take 2) with
  |none=>exact c8.to (C1 (Z9.cons (b1:=false) (b2:=true) (c7 (by tm_at "e") e2) fun Z=>Z9.one (by tm_at "e"))) (by simp)
  |some n=>exact c8.to (C1 (Z9.cons (b1:=false) (b2:=false) (c7 (by tm_at "e") e2) fun Z=>Z9.one (by tm_at "e"))) (by simp[h2])
theorem HV (hlen:g.fn "len"=none) (hord:g.fn "ord"=none) (hsum:g.fn "sum"=none) (hrng:g.fn "range"=none) (hl:I.length<=1000) (hasc:j6 I=true) {σ:d9} {p:Nat} {d:Nat} {r:b9} (h1:σ.get "inner"=some (.str I)) (h3:σ.get "k"=some (.int (p:Nat))) (hp:p<=I.length) (hd:I.drop (p+1)=d::r) (ho:k8 d=true):
  ∃(σ':d9),(∀{b:List Stmt} {u:R (Fl×d9)},d5 g none l8.sc σ' b u->d5 g none l8.sc σ (i4 (sB iE) 0::i4 (sB iE) 1::i4 (sB iE) 2::b) u)/\(∀y:Str,y≠"values"->y≠"count"->y≠"value"->σ'.get y=σ.get y)/\
   σ'.get "count"=some (.int ((((d::r).take 3).takeWhile k8).length:Nat))/\σ'.get "value"=some (.int (V1 0 (((d::r).take 3).takeWhile k8):Nat)):=by
 have hlim:i0=1048576:=rfl;have hsl:j9 I (some ((p+1:Nat):Int)) (some ((p+4:Nat):Int))=(d::r).take 3:=by rw[S0,show p+4-(p+1)=3 by omega,hd]
 have hw3:((d::r).take 3).length<=3:=by simp;omega
 have hd0:((d::r).take 3).drop 1=r.take 2:=by simp
 have htw:((d::r).take 3).takeWhile k8=d::(r.take 2).takeWhile k8:=by simp[ho]
 have hasc3: ∀c∈(d::r).take 3,c<128:=fun c hc=>w7 hasc (List.mem_of_mem_drop (hd▸List.mem_of_mem_take hc));have hne:1<=((d::r).take 3).length:=by simp
 generalize hw:(d::r).take 3=w3 at*;have e1:d8 g none l8.sc σ (i4 (sB iE) 0) (.ok (.next,(σ.set "values" (.list ((w3.map fun(c:Nat)=>(c:Int)-48).map .int))).set "count" (.int ((1:Nat):Int)))):=by
  refine i7 (vs:=[.list ((w3.map fun(c:Nat)=>(c:Int)-48).map .int),.int 1]) (v5.cons (J8 (iv:=.str w3) (hsl▸c8.slice (li:=some ((p+1:Nat):Int)) (hj:=some ((p+4:Nat):Int)) (by tm_at "v") (zT.some (by tm_at "e") (by omega)) (zT.some (by tm_at "e") (by omega)) (by omega)) (w5 (by omega)) ?_ rfl) (by tm_at "e")) rfl (by decide) rfl;rw[List.map_map];refine Q5.map (f:=V.int ∘ fun(c:Nat)=>(c:Int)-48) (fun Z=>rfl) fun c hc=> ?_;exact c8.bin (c8.bcall (v5.cons (c8.name (g6 d9.same rfl (by decide))) v5.nil) hord rfl GW rfl rfl) (by tm_at "e") (fL _ _)
 refine r6 (HS (g:=g) hlen hw3 w3.length ((σ.set "values" (.list ((w3.map fun(c:Nat)=>(c:Int)-48).map .int))).set "count" (.int ((1:Nat):Int))) 1 (by omega) hne (by tm_at "n") (by tm_at "n")) fun σ' x1 x2 x3=> ?_;have hcl:1+((w3.drop 1).takeWhile k8).length=(w3.takeWhile k8).length:=by rw[hd0,htw,List.length_cons];omega
 rw[hcl] at x2;have x4:σ'.get "values"=some (.list ((w3.map fun(c:Nat)=>(c:Int)-48).map .int)):=(x3 _ (by decide)).trans (by tm_at "n");have hoc:(w3.takeWhile k8).all k8=true:=by rw[List.all_takeWhile]
 have hml:(w3.takeWhile k8).length<=w3.length:=(List.takeWhile_sublist k8).length_le;have htk:w3.take (w3.takeWhile k8).length=w3.takeWhile k8:=by
  have:=jM (p:=k8) w3.length w3;rwa[List.take_length] at this
 have hvl:((w3.map fun(c:Nat)=>(c:Int)-48).map V.int).length<=i0:=by simp;omega
 have hsm:((V1 0 (w3.takeWhile k8):Nat):Int)=((List.range (w3.takeWhile k8).length).map fun k=>(w3.map fun(c:Nat)=>(c:Int)-48).getD k 0*(8:Int) ^((w3.takeWhile k8).length-1-k)).sum:=by
  rw[<-qD _ 0 hoc,mM,List.length_map];simp only[Int.natCast_zero,Int.zero_mul,Int.zero_add];congr 1
  refine List.map_congr_left fun k hk=> ?_;rw[List.mem_range] at hk;congr 1
  rw[<-htk,List.getD_eq_getElem?_getD,List.getD_eq_getElem?_getD,List.getElem?_map,List.getElem?_map,List.getElem?_take,if_pos hk]
 refine⟨σ'.set "value" (.int (V1 0 (w3.takeWhile k8):Nat)),fun h=>d5.cons e1 (d5.cons x1 (d5.cons (d7 ?_ (by decide) (by decide) rfl) h)),fun y hy1 hy2 hy3=>(Q7 hy3).trans ((x3 y hy2).trans ((Q7 hy2).trans (Q7 hy1))),(Q7 (by decide)).trans x2,d9.same⟩;rw[hsm];refine c8.bcall (v5.cons (v:=.list (((List.range (w3.takeWhile k8).length).map fun k=>(w3.map fun(c:Nat)=>(c:Int)-48).getD k 0*(8:Int) ^((w3.takeWhile k8).length-1-k)).map V.int)) (J8 (iv:=.rng (w3.takeWhile k8).length) ?_ (qC (by omega)) ?_ rfl) v5.nil) hsum rfl HQ rfl rfl
 ·exact c8.bcall (v5.cons (v:=.int ((w3.takeWhile k8).length:Nat)) (by tm_at "e") v5.nil) hrng rfl (vJ (by omega)) rfl rfl
 ·rw[List.map_map];refine mL (f:=V.int ∘ fun k=>(w3.map fun(c:Nat)=>(c:Int)-48).getD k 0*(8:Int) ^((w3.takeWhile k8).length-1-k)) (fun Z=>rfl) fun k hk=> ?_;rw[List.mem_range] at hk;have c1:((i5 σ' l8.sc (eS (eK (sE (i4 (sB iE) 2)) 0))).set "at" (.int (k:Nat))).get "values"=some (.list ((w3.map fun(c:Nat)=>(c:Int)-48).map .int)):=d9.ne (by decide) (M7 x4 rfl);have c2:((i5 σ' l8.sc (eS (eK (sE (i4 (sB iE) 2)) 0))).set "at" (.int (k:Nat))).get "count"=some (.int ((w3.takeWhile k8).length:Nat)):=d9.ne (by decide) (M7 x2 rfl);have c3:((i5 σ' l8.sc (eS (eK (sE (i4 (sB iE) 2)) 0))).set "at" (.int (k:Nat))).get "at"=some (.int (k:Nat)):=d9.same;have hk3:k<w3.length:=by omega
  have hget:((w3.map fun(c:Nat)=>(c:Int)-48).map V.int)[k]? =some (.int ((w3.map fun(c:Nat)=>(c:Int)-48).getD k 0)):=by
   rw[List.getElem?_map,List.getD_eq_getElem?_getD,List.getElem?_eq_getElem (by simp;exact hk3)];rfl
  have hv99:((w3.map fun(c:Nat)=>(c:Int)-48).getD k 0).natAbs<2 ^64:=by
   rw[List.getD_eq_getElem?_getD,List.getElem?_eq_getElem (by simp;exact hk3)];simp only[Option.getD_some,List.getElem_map];have:=hasc3 w3[k] (List.getElem_mem hk3);have:((w3[k]:Int)-48).natAbs<=128:=by omega
   exact Nat.lt_of_le_of_lt this (by decide)
  have hpw:((8:Int) ^((w3.takeWhile k8).length-1-k)).natAbs<2 ^4096:=by
   rw[Int.natAbs_pow];refine Nat.lt_of_le_of_lt (Nat.pow_le_pow_right (by decide) (show(w3.takeWhile k8).length-1-k<=3 by omega)) ?_;exact Nat.lt_of_lt_of_le (show(Int.natAbs 8) ^3<2 ^10 by decide) (Nat.pow_le_pow_right (by decide) (by decide))
  have hex:((((w3.takeWhile k8).length:Int)-1-(k:Int))).toNat=(w3.takeWhile k8).length-1-k:=by omega
  refine c8.to (c8.bin (G5 (g6 c1 rfl (by decide)) (c8.name (g6 c3 rfl (by decide))) (HP hvl hget) rfl) (c8.bin (by tm_at "e") (c8.bin (c8.bin (c8.name (g6 c2 rfl (by decide))) (by tm_at "e") (fL _ _)) (c8.name (g6 c3 rfl (by decide))) (fL _ _)) (HO ⟨by omega,by omega⟩ (by decide))) (eT (jL hv99) (by rw[hex];exact hpw))) ?_;rw[hex];rfl
set_option maxHeartbeats 4000000 in
theorem MD (hlen:g.fn "len"=none) (hord:g.fn "ord"=none) (hlist:g.fn "list"=none) (hsum:g.fn "sum"=none) (hrng:g.fn "range"=none) (hnum:g.fn "_law_number"=some A4) (hl:I.length<=1000) (hasc:j6 I=true)
  {s:b9} {x:Option (List Nat)} (O:fJ s x): ∀(σ:d9) (p:Nat) (acc:List Int),I.drop p=s->p<=I.length->acc.length<=p->σ.get "inner"=some (.str I)->σ.get "found"=some (.list (acc.map .int))->σ.get "k"=some (.int (p:Nat))->σ.get "plain"=some (.dict V3)->
  HT g σ acc x:=by
 have hlim:i0=1048576:=rfl;have hlst:fH "list" [.str [48,49,50,51,52,53,54,55]]=.ok (.list ((([48,49,50,51,52,53,54,55]:b9).map fun c=>[c]).map V.str)):=MC (by decide);induction O with
 |nil=>
  intro σ p acc hT hp ha h1 h2 h3 h4;have hpe:I.length<=p:=by
   have:=congrArg List.length hT;simp at this;omega
  exact⟨σ,h7 (c7 (by tm_at "e") (by simp;omega)),by rw[h2];simp⟩
 | @plain c r x hc O ih=>
  intro σ p acc hT hp ha h1 h2 h3 h4;refine n5 (g7 hT) fun hlt hch hd=> ?_;refine jO (σ2:=(σ.set "found" (.list (acc.map .int++[.int (c:Nat)]))).set "k" (.int ((p+1:Nat):Int))) (fun h=>i3 (c9 (by tm_at "e") (by simp;omega)) (d5.cons (d8.if1 (c9 (by tm_at "e") (by simp[hch,hc]))
   (d5.cons (i7 (vs:=[.list (acc.map .int++[.int (c:Nat)]),.int ((p+1:Nat):Int)]) (v5.cons (c8.bin (by tm_at "e") (c8.list (vs:=[.int (c:Nat)]) (v5.cons (c8.bcall (vs:=[.str [k6 I p]]) (by tm_at "e") hord rfl (by rw[hch];exact GW) rfl rfl) v5.nil) rfl (by show 1<=i0;decide)) (eW (by simp;omega))) (by tm_at "e")) rfl (by decide) rfl) d5.nil)) d5.nil) h) ?_
  exact ih ((σ.set "found" (.list (acc.map .int++[.int (c:Nat)]))).set "k" (.int ((p+1:Nat):Int))) (p+1) (acc++[(c:Int)]) hd (by omega) (by simp;omega) (by tm_at "n") (by rw[List.map_append];tm_at "n") (by tm_at "n") (by tm_at "n")
 |bsEnd=>
  intro σ p acc hT hp ha h1 h2 h3 h4;refine n5 (g7 hT) fun hlt hch hd=> ?_;have hw:(I.drop (p+1)).take 1=[]:=by rw[hd];rfl
  exact⟨σ,N5 (c9 (by tm_at "e") (by simp;omega)) (d5.ret (d8.if0 (c7 (by tm_at "e") (by simp[hch])) (d5.ret (d8.if0 (c7 (e9 (S3 hl h1 h3 hp hw) (by tm_at "e") (dR _ _) rfl) rfl)
   (d5.ret (d8.if0 (c7 (e9 (S3 hl h1 h3 hp hw) (c8.bcall (by tm_at "e") hlist rfl hlst rfl rfl) (J1 (by decide)) rfl) (vL _)) (d5.ret (d8.if1 (c9 (e9 (S3 hl h1 h3 hp hw) (by tm_at "e") (N7 (kvs:=V3)) rfl) (by exact rfl)) (d5.ret (d8.ret (v:=.none) (by tm_at "e")))))))))))⟩
 | @hexBad r hbad=>
  intro σ p acc hT hp ha h1 h2 h3 h4;refine n5 (g7 hT) fun hlt hch hd=> ?_;refine n5 (g7 hd) fun hlt1 hch1 hd1=> ?_;have hw:=cB hd;refine cQ (HU (g:=g) hlen hnum hl hasc h1 h3 hp hd1) fun σ' v hstep z4r z5r hT2=> ?_;subst z4r;subst z5r;rw[decide_eq_true hbad] at hT2;exact⟨_,N5 (c9 (by tm_at "e") (by simp;omega)) (d5.ret (d8.if0 (c7 (by tm_at "e") (by simp[hch])) (d5.ret (d8.if1 (c9 (e9 (S3 hl h1 h3 hp hw) (by tm_at "e") (uS _ _) rfl) (by simp))
   (hstep (d5.ret (d8.if1 hT2 (d5.ret (d8.ret (v:=.none) (by tm_at "e"))))))))))⟩
 | @hex r v x h2l hv O ih=>
  intro σ p acc hT hp ha h1 h2 h3 h4;refine n5 (g7 hT) fun hlt hch hd=> ?_;refine n5 (g7 hd) fun hlt1 hch1 hd1=> ?_;have hw:=cB hd;have hll:p+4<=I.length:=by
   have:=congrArg List.length hd1;rw[List.length_drop] at this;omega
  have hd4:I.drop (p+4)=r.drop 2:=by rw[<-hd1,List.drop_drop]
  refine cQ (HU (g:=g) hlen hnum hl hasc h1 h3 hp hd1) fun σ' v' hstep z3r hv' hT2=> ?_;subst z3r;rw[hv] at hv' hT2;subst hv';rw[decide_eq_false (by rintro (z|z)<;>first|omega|injection z)] at hT2;refine jO (σ2:=(((σ.set "figures" (.str (r.take 2))).set "value" (.int (v:Nat))).set "found" (.list (acc.map .int++[.int (v:Nat)]))).set "k" (.int ((p+4:Nat):Int))) (fun h=>i3 (c9 (by tm_at "e") (by simp;omega)) (d5.cons (d8.if0 (c7 (by tm_at "e") (by simp[hch])) (d5.cons (d8.if1 (c9 (e9 (S3 hl h1 h3 hp hw) (by tm_at "e") (uS _ _) rfl) (by simp))
   (hstep (d5.cons (d8.if0 hT2 d5.nil) (d5.cons (i7 (vs:=[.list (acc.map .int++[.int (v:Nat)]),.int ((p+4:Nat):Int)]) (v5.cons (c8.bin (by tm_at "e") (c8.list (vs:=[.int (v:Nat)]) (by tm_at "e") rfl (by show 1<=i0;decide)) (eW (by simp;omega))) (by tm_at "e")) rfl (by decide) rfl) d5.nil)))) d5.nil)) d5.nil) h) ?_
  exact ih ((((σ.set "figures" (.str (r.take 2))).set "value" (.int (v:Nat))).set "found" (.list (acc.map .int++[.int (v:Nat)]))).set "k" (.int ((p+4:Nat):Int))) (p+4) (acc++[(v:Int)]) hd4 (by omega) (by simp;omega) (by tm_at "n") (by rw[List.map_append];tm_at "n") (by tm_at "n") (by tm_at "n")
 | @octBad d r ho hv=>
  intro σ p acc hT hp ha h1 h2 h3 h4;refine n5 (g7 hT) fun hlt hch hd=> ?_;refine n5 (g7 hd) fun hlt1 hch1 hd1=> ?_;have hw:=cB hd;have hdx:d≠120:=by rintro rfl;exact absurd ho (by decide)
  have hwl:(((d::r).take 3).takeWhile k8).length<=r.length+1:=Nat.le_trans (List.takeWhile_sublist k8).length_le (by simp;omega);have hll:p+1+(((d::r).take 3).takeWhile k8).length<=I.length:=by
   have:=congrArg List.length hd;rw[List.length_drop,List.length_cons] at this;omega
  refine iJ (HV (g:=g) hlen hord hsum hrng hl hasc h1 h3 hp hd ho) fun σ' hstep keep hct hval=> ?_;have f1:σ'.get "inner"=some (.str I):=(keep _ (by decide) (by decide) (by decide)).trans h1;have f2:σ'.get "found"=some (.list (acc.map .int)):=(keep _ (by decide) (by decide) (by decide)).trans h2;have f3:σ'.get "k"=some (.int (p:Nat)):=(keep _ (by decide) (by decide) (by decide)).trans h3;have f4:σ'.get "plain"=some (.dict V3):=(keep _ (by decide) (by decide) (by decide)).trans h4;generalize hn:V1 0 (((d::r).take 3).takeWhile k8)=n at*;generalize hm:(((d::r).take 3).takeWhile k8).length=m at*;exact⟨σ',N5 (c9 (by tm_at "e") (by simp;omega)) (d5.ret (d8.if0 (c7 (by tm_at "e") (by simp[hch])) (d5.ret (d8.if0 (c7 (e9 (S3 hl h1 h3 hp hw) (by tm_at "e") (uS _ _) rfl) (by simp[hdx]))
   (d5.ret (d8.if1 (c9 (e9 (S3 hl h1 h3 hp hw) (c8.bcall (by tm_at "e") hlist rfl hlst rfl rfl) (J1 (by decide)) rfl) ((eY _).trans ho)) (hstep (d5.ret (d8.if1 (c9 (by tm_at "e") (by simp;omega)) (d5.ret (d8.ret (v:=.none) (by tm_at "e"))))))))))))⟩
 | @oct d r x ho hv O ih=>
  intro σ p acc hT hp ha h1 h2 h3 h4;refine n5 (g7 hT) fun hlt hch hd=> ?_;refine n5 (g7 hd) fun hlt1 hch1 hd1=> ?_;have hw:=cB hd;have hdx:d≠120:=by rintro rfl;exact absurd ho (by decide)
  have hwl:(((d::r).take 3).takeWhile k8).length<=r.length+1:=Nat.le_trans (List.takeWhile_sublist k8).length_le (by simp;omega);have hll:p+1+(((d::r).take 3).takeWhile k8).length<=I.length:=by
   have:=congrArg List.length hd;rw[List.length_drop,List.length_cons] at this;omega
  refine iJ (HV (g:=g) hlen hord hsum hrng hl hasc h1 h3 hp hd ho) fun σ' hstep keep hct hval=> ?_;have f1:σ'.get "inner"=some (.str I):=(keep _ (by decide) (by decide) (by decide)).trans h1;have f2:σ'.get "found"=some (.list (acc.map .int)):=(keep _ (by decide) (by decide) (by decide)).trans h2;have f3:σ'.get "k"=some (.int (p:Nat)):=(keep _ (by decide) (by decide) (by decide)).trans h3;have f4:σ'.get "plain"=some (.dict V3):=(keep _ (by decide) (by decide) (by decide)).trans h4;generalize hn:V1 0 (((d::r).take 3).takeWhile k8)=n at*;generalize hm:(((d::r).take 3).takeWhile k8).length=m at*;have hdn:I.drop (p+1+m)=(d::r).drop m:=by rw[<-List.drop_drop,hd]
  refine jO (σ2:=(σ'.set "found" (.list (acc.map .int++[.int (n:Nat)]))).set "k" (.int ((p+1+m:Nat):Int))) (fun h=>i3 (c9 (by tm_at "e") (by simp;omega)) (d5.cons (d8.if0 (c7 (by tm_at "e") (by simp[hch])) (d5.cons (d8.if0 (c7 (e9 (S3 hl h1 h3 hp hw) (by tm_at "e") (uS _ _) rfl) (by simp[hdx]))
   (d5.cons (d8.if1 (c9 (e9 (S3 hl h1 h3 hp hw) (c8.bcall (by tm_at "e") hlist rfl hlst rfl rfl) (J1 (by decide)) rfl) ((eY _).trans ho)) (hstep (d5.cons (d8.if0 (c7 (by tm_at "e") (by simp;omega)) d5.nil) (d5.cons (i7 (vs:=[.list (acc.map .int++[.int (n:Nat)]),.int ((p+1+m:Nat):Int)]) (v5.cons (c8.bin (by tm_at "e") (c8.list (vs:=[.int (n:Nat)]) (by tm_at "e") rfl (by show 1<=i0;decide)) (eW (by simp;omega))) (by tm_at "e")) rfl (by decide) rfl) d5.nil)))) d5.nil)) d5.nil)) d5.nil) h) ?_
  exact ih ((σ'.set "found" (.list (acc.map .int++[.int (n:Nat)]))).set "k" (.int ((p+1+m:Nat):Int))) (p+1+m) (acc++[(n:Int)]) hdn hll (by simp;omega) (by tm_at "n") (by rw[List.map_append];tm_at "n") (by tm_at "n") (by tm_at "n")
 | @escBad d r hdx ho he=>
  intro σ p acc hT hp ha h1 h2 h3 h4;refine n5 (g7 hT) fun hlt hch hd=> ?_;refine n5 (g7 hd) fun hlt1 hch1 hd1=> ?_;have hw:=cB hd;have hlk:=bH d;rw[he] at hlk;exact⟨σ,N5 (c9 (by tm_at "e") (by simp;omega)) (d5.ret (d8.if0 (c7 (by tm_at "e") (by simp[hch])) (d5.ret (d8.if0 (c7 (e9 (S3 hl h1 h3 hp hw) (by tm_at "e") (uS _ _) rfl) (by simp[hdx]))
   (d5.ret (d8.if0 (c7 (e9 (S3 hl h1 h3 hp hw) (c8.bcall (by tm_at "e") hlist rfl hlst rfl rfl) (J1 (by decide)) rfl) ((eY _).trans ho)) (d5.ret (d8.if1 (c9 (e9 (S3 hl h1 h3 hp hw) (by tm_at "e") (N7 (kvs:=V3)) rfl) (by rw[hlk];rfl)) (d5.ret (d8.ret (v:=.none) (by tm_at "e")))))))))))⟩
 | @esc d v r x hdx ho he O ih=>
  intro σ p acc hT hp ha h1 h2 h3 h4;refine n5 (g7 hT) fun hlt hch hd=> ?_;refine n5 (g7 hd) fun hlt1 hch1 hd1=> ?_;have hw:=cB hd;have hlk:=bH d;rw[he] at hlk;have hll:p+2<=I.length:=by omega
  refine jO (σ2:=(σ.set "found" (.list (acc.map .int++[.int (v:Nat)]))).set "k" (.int ((p+2:Nat):Int))) (fun h=>i3 (c9 (by tm_at "e") (by simp;omega)) (d5.cons (d8.if0 (c7 (by tm_at "e") (by simp[hch])) (d5.cons (d8.if0 (c7 (e9 (S3 hl h1 h3 hp hw) (by tm_at "e") (uS _ _) rfl) (by simp[hdx]))
   (d5.cons (d8.if0 (c7 (e9 (S3 hl h1 h3 hp hw) (c8.bcall (by tm_at "e") hlist rfl hlst rfl rfl) (J1 (by decide)) rfl) ((eY _).trans ho)) (d5.cons (d8.if0 (c7 (e9 (S3 hl h1 h3 hp hw) (by tm_at "e") (N7 (kvs:=V3)) rfl) (by rw[hlk];rfl)) d5.nil)
    (d5.cons (i7 (vs:=[.list (acc.map .int++[.int (v:Nat)]),.int ((p+2:Nat):Int)]) (v5.cons (c8.bin (by tm_at "e") (c8.list (vs:=[.int (v:Nat)]) (v5.cons (G5 (by tm_at "v") (G5 (by tm_at "v") (by tm_at "e") (NT (by omega) hlt1) rfl) (lX (by rw[hch1];exact hlk)) rfl) v5.nil) rfl (by show 1<=i0;decide)) (eW (by simp;omega))) (by tm_at "e")) rfl (by decide) rfl) d5.nil))) d5.nil)) d5.nil)) d5.nil) h) ?_
  exact ih ((σ.set "found" (.list (acc.map .int++[.int (v:Nat)]))).set "k" (.int ((p+2:Nat):Int))) (p+2) (acc++[(v:Int)]) hd1 (by omega) (by simp;omega) (by tm_at "n") (by rw[List.map_append];tm_at "n") (by tm_at "n") (by tm_at "n")
noncomputable def F3:List V->R V:=fS fun T=>
  if N8 T=true then (match Q6 (j8 T) with|some v=>.ok (.bytes (v.map fun(n:Nat)=>(n:Int)))|none=>.ok .none) else .stuck
theorem CW {l:List Int} (h:l.length<=i0) (h': ∀n∈l,0<=n/\n<256):fH "bytes" [.list (l.map V.int)]=.ok (.bytes l):=by
 rw[uR];show needR (J3 (l.map V.int)) _=_;rw[bD];exact if_pos ⟨h,by rw[List.all_eq_true];exact fun n hn=>by simpa using h' n hn⟩
theorem mO (hlen:g.fn "len"=none) (hord:g.fn "ord"=none) (hby:g.fn "bytes"=none) (hlist:g.fn "list"=none) (hsum:g.fn "sum"=none) (hrng:g.fn "range"=none) (hnum:g.fn "_law_number"=some A4) (vs:List V) (hn:F3 vs≠.stuck):g8 g none l8.sc ["text"] l8.body vs (F3 vs):=by
 have hlim:i0=1048576:=rfl;refine d6 (R8 hn) fun T z2r=> ?_;subst z2r;have hc:=D9 hn;refine l5 (if_pos hc) ?_;refine Q0 (S1.mp hc) fun hl2 hl hasc Z=> ?_;have hil:(j8 T).length<=1000:=Nat.le_trans cA hl;have himem: ∀c∈j8 T,c<128:=fun c h=>w7 hasc (List.mem_of_mem_drop (List.dropLast_subset _ h));have hiasc:j6 (j8 T)=true:=by
  unfold j6;rw[List.all_eq_true];exact fun c h=>by simpa using himem c h
 have hsl:j9 T (some 1) (some (-1))=j8 T:=by
  unfold j9 AV P4 j8;dsimp only;rw[if_neg (by omega),if_pos (by omega),show((1:Int)).toNat=1 from rfl,Nat.min_eq_left (by omega)];rw[List.dropLast_eq_take,List.length_drop,List.drop_take];congr 1
  omega
 have e0:d8 g none l8.sc (List.zip ["text"] [.str T]) (i4 l8.body 0) (.ok (.next,d9.set (d9.set (d9.set (List.zip ["text"] [.str T]) "inner" (.str (j8 T))) "found" (.list [])) "k" (.int ((0:Nat):Int)))):=
  i7 (vs:=[.str (j8 T),.list [],.int 0]) (v5.cons (hsl▸c8.slice (by tm_at "v") (by tm_at "e") (zT.some (rL (by tm_at "e")) (by decide)) (by omega)) (by tm_at "e")) rfl (by decide) rfl
 have e1:d8 g none l8.sc (d9.set (d9.set (d9.set (List.zip ["text"] [.str T]) "inner" (.str (j8 T))) "found" (.list [])) "k" (.int ((0:Nat):Int))) (i4 l8.body 1) (.ok (.next,d9.set (d9.set (d9.set (d9.set (List.zip ["text"] [.str T]) "inner" (.str (j8 T))) "found" (.list [])) "k" (.int ((0:Nat):Int))) "plain" (.dict V3))):=
  d7 (v:=.dict V3) (c8.dict (kvs:=V3) rfl ⟨by decide,by decide,by decide⟩) (by decide) (by decide) rfl
 have L:=MD (g:=g) hlen hord hlist hsum hrng hnum hil hiasc (L3 (j8 T)) (d9.set (d9.set (d9.set (d9.set (List.zip ["text"] [.str T]) "inner" (.str (j8 T))) "found" (.list [])) "k" (.int ((0:Nat):Int))) "plain" (.dict V3)) 0 [] (by simp) (by omega) (by simp) (by tm_at "n") (by tm_at "n") (by tm_at "n") (by tm_at "n");have B:=(L3 (j8 T)).lt himem;have C:=(L3 (j8 T)).len;cases hx:Q6 (j8 T) with
 |none=>
  rw[hx] at L;refine d6 L fun σ' L=> ?_;exact g8.ret rfl (d5.cons e0 (d5.cons e1 (d5.ret L)))
 |some v=>
  rw[hx] at L;refine e8 L fun σ' L g0=> ?_;have B:=B v hx;have C:=C v hx;rw[List.nil_append] at g0;refine g8.ret rfl (d5.cons e0 (d5.cons e1 (d5.cons L (d5.ret (d8.ret (v:=.bytes (v.map fun(n:Nat)=>(n:Int))) (c8.bcall (v5.cons (c8.name (g6 g0 rfl (by decide))) v5.nil) hby rfl (CW (by simp;omega) ?_) rfl rfl))))));intro n hn;refine e8 (List.mem_map.mp hn) fun m hm z1r=> ?_;subst z1r;have:=B m hm;omega
end
noncomputable abbrev mP:b9:=[108,101,116]
noncomputable abbrev yF:b9:=[114,101,102,117,115,101,100]
noncomputable def I2 (v:V) (l:Int):List V:=match v with| .none=>[.str yF,.int l]|v=>[.str mP,v]
noncomputable def L6:List V->R V:=ZP fun v l=>if v.open? =true then .stuck else .ok (.tup (I2 v l))
noncomputable def S4:List V->R V:=ZO fun a b=>.ok (.bool (a==b))
section
variable {g:G}
theorem vN (vs:List V) (hn:L6 vs≠.stuck):g8 g none GU.sc ["found","line"] GU.body vs (L6 vs):=by
 have hlim:i0=1048576:=rfl;refine C0 (LQ hn) fun v l zr=> ?_;subst zr;have ho: ¬v.open? =true:=fun z=>hn (if_pos z);show g8 g none GU.sc ["found","line"] GU.body [v,.int l] (if v.open? =true then R.stuck else .ok (.tup (I2 v l)));rw[if_neg ho];have ho:v.open? =false:=by cases h:v.open? with|true=>exact absurd h ho|false=>rfl
 by_cases hv:v=.none
 ·subst hv;exact g8.ret rfl (d5.ret (d8.ret (v:=.tup [.str yF,.int l]) (c8.if1 (c9 (e9 (v:=.none) (by tm_at "e") (by tm_at "e") T7 rfl) rfl) (c8.tup (vs:=[.str yF,.int l]) (by tm_at "e") rfl (by show 2<=i0;decide)))))
 ·have h1:w8 .Is v .none=.ok false:=by cases v<;>first|rfl|exact absurd rfl hv
  have h2:I2 v l=[.str mP,v]:=by cases v<;>first|rfl|exact absurd rfl hv
  rw[h2];exact g8.ret rfl (d5.ret (d8.ret (v:=.tup [.str mP,v]) (c8.if0 (c7 (e9 (v:=v) (by tm_at "e") (by tm_at "e") h1 rfl) rfl) (c8.tup (vs:=[.str mP,v]) (by tm_at "e") (by show(false||(v.open? ||false))=false;rw[ho];rfl) (by show 2<=i0;decide)))))
theorem yG (vs:List V) (hn:S4 vs≠.stuck):g8 g none WS.sc ["told","due"] WS.body vs (S4 vs):=by
 refine C0 (LP hn) fun a b zr=> ?_;subst zr;cases b with
 |true=>exact g8.ret rfl (d5.ret (d8.ret (v:=.bool (a==true)) (c8.if1 (c9 (bb:=true) (by tm_at "e") rfl) (by tm_at "e"))))
 |false=>exact g8.ret rfl (d5.ret (d8.ret (v:=.bool (a==false)) (c8.if0 (c7 (bb:=false) (by tm_at "e") rfl) (by tm_at "e"))))
end
section
variable {g:G} {sc:Scope} {σ:d9} {a b:Expr} {p:Pos} {r:R V} {us:List V} {tst:Bool}
theorem N9 (h:c8 g sc σ false a (C9 r)) (h':c8 g sc σ false b (.ok (.tup us))) (hr:C9 r=.ok (.tup us)) (hd:Dats us/\deepVs us<=20) (hm:behindInMarks .NotEq b=false):c8 g sc σ tst (.Compare a [.NotEq] [b] p) (.ok (.bool false)):=
 e9 (hr▸h) h' (NG us hd.1 hd.2) hm
theorem dB (h:c8 g sc σ false a (C9 r)) (h':c8 g sc σ false b (.ok (.tup us))) (hr:C9 r=.ok (.tup us)) (hd:Dats us/\deepVs us<=20) (hm:behindInMarks .Eq b=false):c8 g sc σ tst (.Compare a [.Eq] [b] p) (.ok (.bool true)):=
 e9 (hr▸h) h' (NF us hd.1 hd.2) hm
theorem I5 {f x y:Str} {F:List V->R V} {v u:V} {as:Arguments} {lsc:Scope} {fp qp q1 q2 p' lp:Pos} (hf:g.low f=some F) (hx:σ.get x=some v) (hy:σ.get y=some u)
  (hc:(lsc.names.lookup x==some .free &&(sc.names.lookup x==some .cell||sc.names.lookup x==some .free))=true) (hc':(lsc.names.lookup y==some .free &&(sc.names.lookup y==some .cell||sc.names.lookup y==some .free))=true)
  (hd: ¬(x="__debug__"\/x="__classdict__")/\ ¬(y="__debug__"\/y="__classdict__")) (ho:[v,u].any V.open? =false) (hk:aJ lsc f [.Name x q1,.Name y q2]=true) (hl:g.lam=true)
  (hs:sc.names.lookup ("_law_told":Str)=some NameKind.globalImplicit/\aH as lsc=true/\s9 sc lsc=true):
  c8 g sc σ false (.Call (.Name "_law_told" fp) [.Lambda as (.Call (.Name f qp) [.Name x q1,.Name y q2] [] p') lsc lp] [] p) (C9 (F [v,u])):=by
 have s1: ∀z:Str,(lsc.names.lookup z==some .free &&(sc.names.lookup z==some .cell||sc.names.lookup z==some .free))=true->(lsc.names.lookup z==some .local||lsc.names.lookup z==some .cell||lsc.names.lookup z==some .free)=true:=fun z h=>by
  rw[Bool.and_eq_true] at h;rw[h.1];simp
 exact c8.told (c8.call (F:=F) (v5.cons (c8.name (g6 (M7 hx hc) (s1 x hc) hd.1)) (v5.cons (c8.name (g6 (M7 hy hc') (s1 y hc') hd.2)) v5.nil)) hf rfl hk rfl ho) ⟨rfl,hl,hs.1,hs.2.1,hs.2.2⟩
end
noncomputable def cl:b9->Option Nat->Bool->Prop
 |[],none,_=>True
 |[],some _,_=>False
 |c::r,none,_=>c≠9/\cl r (if nU c then some c else none) false
 |_::r,some q,true=>cl r (some q) false
 |c::r,some q,false=>if c=92 then cl r (some q) true else if c=q then cl r none false else cl r (some q) false
theorem Z0 {s:Nat}: ∀(t:b9) (q:Option Nat) (e:Bool) (w:b9),pm (some s) true t q e=some [w]->cl w q e
 |[],none,_,w,h=>by cases h;trivial
 |[],some _,_,w,h=>by injection h
 |c::r,none,e,w,h=>by
  rw[fZ] at h;have one: ∀{d:Nat} {q:Option Nat},(pm (some s) true r q false).map (push d)=some [w]-> ∃w',w=d::w'/\pm (some s) true r q false=some [w']:=fun {d q} h=>by
   cases hx:pm (some s) true r q false with
   |none=>rw[hx] at h;injection h
   |some l=>
    refine d6 (Y8 hx) fun b z12r=> ?_;subst z12r;rw[hx] at h;cases h;exact⟨b,rfl,rfl⟩
  split at h
  ·cases h;trivial
  split at h
  ·rename_i hq;refine e8 (one h) fun w' z11r h'=> ?_;subst z11r;refine⟨?_,?_⟩
   ·rintro rfl;exact absurd hq (by decide)
   ·rw[if_pos hq];exact Z0 r _ _ _ h'
  split at h
  ·rename_i h2;cases h2.2
  ·rename_i hq _;refine e8 (one h) fun w' z10r h'=> ?_;subst z10r;have h9:T6 true c≠9:=by unfold T6;split<;>simp_all
   have hnq:nU (T6 true c)=false:=by
    unfold T6;split
    ·rfl
    ·simpa using hq
   refine⟨h9,?_⟩;rw[hnq];exact Z0 r _ _ _ h'
 |c::r,some q,true,w,h=>by
  rw[uV] at h;cases hx:pm (some s) true r (some q) false with
  |none=>rw[hx] at h;injection h
  |some l=>
   refine d6 (Y8 hx) fun b z9r=> ?_;subst z9r;rw[hx] at h;cases h;show cl b (some q) false;exact Z0 r _ _ _ hx
 |c::r,some q,false,w,h=>by
  rw[lR] at h;have one: ∀{d:Nat} {q:Option Nat} {e:Bool},(pm (some s) true r q e).map (push d)=some [w]-> ∃w',w=d::w'/\pm (some s) true r q e=some [w']:=fun {d q e} h=>by
   cases hx:pm (some s) true r q e with
   |none=>rw[hx] at h;injection h
   |some l=>
    refine d6 (Y8 hx) fun b z8r=> ?_;subst z8r;rw[hx] at h;cases h;exact⟨b,rfl,rfl⟩
  split at h
  ·rename_i hc;refine e8 (one h) fun w' z7r h'=> ?_;subst z7r;show(if c=92 then _ else _);rw[if_pos hc];exact Z0 r _ _ _ h'
  split at h
  ·rename_i hc hq;refine e8 (one h) fun w' z6r h'=> ?_;subst z6r;show(if c=92 then _ else if c=q then _ else _);rw[if_neg hc,if_pos hq];exact Z0 r _ _ _ h'
  ·rename_i hc hq;refine e8 (one h) fun w' z5r h'=> ?_;subst z5r;show(if c=92 then _ else if c=q then _ else _);rw[if_neg hc,if_neg hq];exact Z0 r _ _ _ h'
theorem Z1: ∀(t:b9) (q:Option Nat) (e:Bool),cl t q e->pm none false t q e=pm none true t q e
 |[],none,_,_=>rfl
 |[],some _,_,_=>rfl
 |c::r,none,e,h=>by
  refine f8 h fun h9 h=> ?_;have ht:T6 true c=T6 false c:=by unfold T6;simp[h9]
  rw[fZ,fZ,ht];cases hq:nU c with
  |true=>rw[hq] at h;have h:cl r (some c) false:=h;rw[Z1 r _ _ h];rfl
  |false=>rw[hq] at h;have h:cl r none false:=h;rw[Z1 r _ _ h];rfl
 |c::r,some q,true,h=>by rw[uV,uV,Z1 r _ _ h]
 |c::r,some q,false,h=>by
  have h:(if c=92 then cl r (some q) true else if c=q then cl r none false else cl r (some q) false):=h;rw[lR,lR];split at h
  ·rename_i hc;rw[if_pos hc,if_pos hc,Z1 r _ _ h]
  split at h
  ·rename_i hc hq;rw[if_neg hc,if_neg hc,if_pos hq,if_pos hq,Z1 r _ _ h]
  ·rename_i hc hq;rw[if_neg hc,if_neg hc,if_neg hq,if_neg hq,Z1 r _ _ h]
theorem vO: ∀(t:b9),cl t none false->cl (t.dropWhile j4) none false
 |[],h=>h
 |c::r,h=>by
  rw[List.dropWhile_cons];split
  ·rename_i hb;have:c=32:=by simpa[j4] using hb
   subst this;exact vO r h.2
  ·exact h
theorem cC: ∀(t:b9) (q:Option Nat) (e:Bool),q≠some 32->cl (t++[32]) q e->cl t q e
 |[],none,_,_,_=>trivial
 |[],some q,true,_,h=>h
 |[],some q,false,hq,h=>by
  have h:(if (32:Nat)=92 then cl [] (some q) true else if 32=q then cl [] none false else cl [] (some q) false):=h;rw[if_neg (by decide)] at h;split at h
  ·rename_i z;exact absurd (congrArg some z.symm) hq
  ·exact h
 |c::r,none,e,_,h=>by
  refine⟨h.1,cC r _ _ ?_ h.2⟩;split
  ·rename_i z;intro y;injection y with y;subst y;exact absurd z (by decide)
  ·intro y;injection y
 |c::r,some q,true,hq,h=>cC r _ _ hq h
 |c::r,some q,false,hq,h=>by
  have h:(if c=92 then cl (r++[32]) (some q) true else if c=q then cl (r++[32]) none false else cl (r++[32]) (some q) false):=h;show(if c=92 then cl r (some q) true else if c=q then cl r none false else cl r (some q) false);split at h
  ·rename_i hc;rw[if_pos hc];exact cC r _ _ hq h
  split at h
  ·rename_i hc hq;rw[if_neg hc,if_pos hq];exact cC r _ _ (fun z=>by injection z) h
  ·rename_i hc hq';rw[if_neg hc,if_neg hq'];exact cC r _ _ hq h
theorem AE: ∀(l:b9),cl l.reverse none false->cl (l.dropWhile j4).reverse none false
 |[],h=>h
 |c::r,h=>by
  rw[List.dropWhile_cons];split
  ·rename_i hb;have:c=32:=by simpa[j4] using hb
   subst this;rw[List.reverse_cons] at h;exact AE r (cC _ _ _ (fun z=>by injection z) h)
  ·exact h
theorem HW {t:b9} (h:cl t none false):cl (i6 t) none false:=by
 have:=AE ((t.dropWhile j4).reverse) (by rw[List.reverse_reverse];exact vO t h);exact this
theorem HX {t b:b9} (h:N0 t=some b):U9 false b=U9 true b:=by
 unfold N0 at h;cases hx:pm (some 35) true t none false with
 |none=>rw[hx] at h;injection h
 |some l=>
  refine d6 (Y8 hx) fun w z4r=> ?_;subst z4r;rw[hx] at h;injection h with h;subst h;have:=HW (Z0 t none false w hx);show U9 false (i6 w)=U9 true (i6 w);unfold U9;rw[Z1 _ _ _ this]
theorem qE {t:b9} {c:Nat} (h:c∈i6 t):c∈t:=by
 unfold i6 at h;rw[List.mem_reverse] at h;have:=(List.dropWhile_sublist j4).mem h;rw[List.mem_reverse] at this;exact(List.dropWhile_sublist j4).mem this
theorem HY {stop:Option Nat}: ∀(t:b9) (q:Option Nat) (e:Bool) (l:List b9),pm stop true t q e=some l-> ∀p∈l,∀c∈p,c∈t\/c=32:=by
 intro t;induction t with
 |nil=>
  intro q e l h p hp c hc;cases q with
  |none=>injection h with h;subst h;rcases List.mem_singleton.mp hp with rfl;cases hc
  |some q=>injection h
 |cons a r ih=>
  intro q e l h;have push1: ∀{d:Nat} {q:Option Nat} {e:Bool},(pm stop true r q e).map (push d)=some l->(d=a\/d=32)-> ∀p∈l,∀c∈p,c∈a::r\/c=32:=fun {d q e} h hd p hp c hc=>by
   cases hx:pm stop true r q e with
   |none=>rw[hx] at h;injection h
   |some m=>
    rw[hx] at h;injection h with h;subst h;have ih:=ih q e m hx;rcases m with _|⟨m1,ms⟩
    ·rcases List.mem_singleton.mp hp with rfl;rcases List.mem_singleton.mp hc with rfl;rcases hd with rfl|rfl
     ·exact .inl List.mem_cons_self
     ·exact .inr rfl
    ·rcases List.mem_cons.mp hp with rfl|hp
     ·rcases List.mem_cons.mp hc with rfl|hc
      ·rcases hd with rfl|rfl
       ·exact .inl List.mem_cons_self
       ·exact .inr rfl
      ·rcases ih _ List.mem_cons_self _ hc with z|z
       ·exact .inl (List.mem_cons_of_mem _ z)
       ·exact .inr z
     ·rcases ih p (List.mem_cons_of_mem _ hp) c hc with z|z
      ·exact .inl (List.mem_cons_of_mem _ z)
      ·exact .inr z
  cases q with
  |none=>
   rw[fZ] at h;split at h
   ·injection h with h;subst h;intro p hp c hc;rcases List.mem_singleton.mp hp with rfl;cases hc
   split at h
   ·exact push1 h (.inl rfl)
   split at h
   ·intro p hp c hc;cases hx:pm stop true r none false with
    |none=>rw[hx] at h;injection h
    |some m=>
     rw[hx] at h;injection h with h;subst h;rcases List.mem_cons.mp hp with rfl|hp
     ·cases hc
     ·rcases ih _ _ m hx p hp c hc with z|z
      ·exact .inl (List.mem_cons_of_mem _ z)
      ·exact .inr z
   ·refine push1 h ?_;unfold T6;split
    ·exact .inr rfl
    ·exact .inl rfl
  |some q=>
   cases e with
   |true=>rw[uV] at h;exact push1 h (.inl rfl)
   |false=>
    rw[lR] at h;split at h
    ·exact push1 h (.inl rfl)
    split at h
    ·exact push1 h (.inl rfl)
    ·exact push1 h (.inl rfl)
theorem HZ {t b:b9} (h:N0 t=some b):b.length<=t.length:=by
 unfold N0 at h;cases hx:pm (some 35) true t none false with
 |none=>rw[hx] at h;injection h
 |some l=>
  rw[hx] at h;injection h with h;subst h;refine d6 (Y8 hx) fun w z3r=> ?_;subst z3r;exact Nat.le_trans (pZ _) ((rY hx).2 w List.mem_cons_self)
theorem yH {t b:b9} (h:N0 t=some b) (ha:j6 t=true):j6 b=true:=by
 unfold N0 at h;cases hx:pm (some 35) true t none false with
 |none=>rw[hx] at h;injection h
 |some l=>
  rw[hx] at h;injection h with h;subst h;refine d6 (Y8 hx) fun w z2r=> ?_;subst z2r;unfold j6;rw[List.all_eq_true];intro c hc;rcases HY t none false _ hx w List.mem_cons_self c (qE hc) with z|rfl
  ·exact decide_eq_true (w7 ha z)
  ·rfl
theorem CX {t:b9} {l:List b9} (h:U9 true t=some l) (ha:j6 t=true):l.length<=t.length+1/\ ∀p∈l,p≠[]/\p.length<=t.length/\j6 p=true:=by
 unfold U9 at h;split at h
 ·injection h with h;subst h;exact⟨by simp,fun p hp=>by cases hp⟩
 cases hx:pm none true t none false with
 |none=>rw[hx] at h;injection h
 |some ps=>
  rw[hx] at h;have h:(if (ps.map i6).contains []=true then none else some (ps.map i6))=some l:=h;split at h
  ·injection h
  ·rename_i hn;injection h with h;subst h;refine f8 (rY hx) fun h1 h2=> ?_;refine⟨by rw[List.length_map];exact h1,fun p hp=> ?_⟩;refine e8 (List.mem_map.mp hp) fun p0 hp0 z1r=> ?_;subst z1r;refine⟨?_,Nat.le_trans (pZ _) (h2 p0 hp0),?_⟩
   ·intro z;rw[z] at hp;exact hn (List.contains_iff_mem.mpr hp)
   ·unfold j6;rw[List.all_eq_true];intro c hc;rcases HY t none false _ hx p0 hp0 c (qE hc) with z|rfl
    ·exact decide_eq_true (w7 ha z)
    ·rfl
theorem IA {stop:Option Nat} {tb:Bool} {z:Nat}: ∀(t:b9) (q:Option Nat) (e:Bool),(∀c,q=some c->nU c=true)->pm stop tb t q e=none->pm stop tb (t++[z]) q e≠none->nU z=true:=by
 intro t;induction t with
 |nil=>
  intro q e hq h h';cases q with
  |none=>injection h
  |some q=>
   cases e with
   |true=>exact absurd rfl h'
   |false=>
    have h':(if z=92 then (none:Option (List b9)) else if z=q then some [[z]] else none)≠none:=h';split at h'
    ·exact absurd rfl h'
    split at h'
    ·rename_i hz;rw[hz];exact hq q rfl
    ·exact absurd rfl h'
 |cons a r ih=>
  intro q e hq h h';have nn: ∀{x:Option (List b9)} {f:List b9->List b9},x.map f=none->x=none:=fun {x f} h=>by cases x with|none=>rfl|some _=>injection h
  have mm: ∀{x:Option (List b9)} {f:List b9->List b9},x.map f≠none->x≠none:=fun {x f} h z=>h (by rw[z];rfl);rw[List.cons_append] at h';cases q with
  |none=>
   rw[fZ] at h h';split at h
   ·injection h
   ·rename_i hs;rw[if_neg hs] at h';split at h
    ·rename_i hqa;rw[if_pos hqa] at h';exact ih _ _ (fun c hc=>by injection hc with hc;subst hc;exact hqa) (nn h) (mm h')
    ·rename_i hqa;rw[if_neg hqa] at h';split at h
     ·rename_i hc;rw[if_pos hc] at h';exact ih _ _ (fun c hc=>by injection hc) (nn h) (mm h')
     ·rename_i hc;rw[if_neg hc] at h';exact ih _ _ (fun c hc=>by injection hc) (nn h) (mm h')
  |some q=>
   cases e with
   |true=>rw[uV] at h h';exact ih _ _ hq (nn h) (mm h')
   |false=>
    rw[lR] at h h';split at h
    ·rename_i hc;rw[if_pos hc] at h';exact ih _ _ hq (nn h) (mm h')
    ·rename_i hc;rw[if_neg hc] at h';split at h
     ·rename_i hc;rw[if_pos hc] at h';exact ih _ _ (fun c hc=>by injection hc) (nn h) (mm h')
     ·rename_i hc;rw[if_neg hc] at h';exact ih _ _ hq (nn h) (mm h')
theorem mQ {t:b9} (h2:2<=t.length) (hl:t.length<=1000) (ha:j6 t=true) (h:pm none true t.dropLast none false=none) (h':pm none true t none false≠none):N8 t=true:=by
 have hne:t≠[]:=by rintro rfl;simp at h2
 have e:t=t.dropLast++[k6 t (t.length-1)]:=by
  have:=List.dropLast_concat_getLast hne;rw[List.getLast_eq_getElem] at this;unfold k6;rw[List.getD_eq_getElem?_getD,List.getElem?_eq_getElem (by omega)];exact this.symm
 refine S1.mpr ⟨h2,hl,ha,?_⟩;have hz:nU (k6 t (t.length-1))=true:=IA t.dropLast none false (fun c hc=>by injection hc) h (e▸h');unfold nU at hz;unfold RP;simpa using hz
theorem dE {q:Nat}: ∀(n:Nat) (t:b9) (k:Nat),t.length<=n->r9 q t=some k->k6 t (k-1)=q
 |_,[],k,_,h=>by injection h
 |0,c::r,k,h,_=>by simp at h
 |n+1,c::r,k,hn,h=>by
  rw[R9] at h;rw[List.length_cons] at hn;split at h
  ·rename_i hc;injection h with h;subst h;exact hc
  ·rename_i hc;split at h
   ·rcases r with _|⟨d,r'⟩
    ·injection h
    ·have h:(r9 q r').map (· +2)=some k:=h;cases hx:r9 q r' with
     |none=>rw[hx] at h;injection h
     |some j=>
      rw[hx] at h;injection h with h;subst h;have h1:=(O8 hx).1;have:=dE n r' j (by simp at hn;omega) hx;rw[show j+2-1=(j-1)+1+1 by omega];exact this
   ·cases hx:r9 q r with
    |none=>rw[hx] at h;injection h
    |some j=>
     rw[hx] at h;injection h with h;subst h;have h1:=(O8 hx).1;have:=dE n r j (by omega) hx;rw[show j+1-1=(j-1)+1 by omega];exact this
noncomputable def S5 (n:Nat) (a:b9):Prop:=a≠[]/\a.length<=n/\j6 a=true/\(k6 a 0=39->2<=a.length/\k6 a (a.length-1)=39)
theorem vP {t:b9} {n k:Nat} (h:k<n):k6 (t.take n) k=k6 t k:=by
 unfold k6;rw[List.getD_eq_getElem?_getD,List.getD_eq_getElem?_getD,List.getElem?_take,if_pos h]
theorem CY {c n:Nat} {r:b9} (ha:j6 (c::r)=true) (h:iA (c::r)=some n):S5 (r.length+1) ((c::r).take n):=by
 refine f8 (bI h) fun h1 h2=> ?_;have hl:((c::r).take n).length=n:=by rw[List.length_take];omega
 refine⟨?_,?_,?_,?_⟩
 ·intro z;rw[z] at hl;simp at hl;omega
 ·rw[hl];exact h2
 ·unfold j6;rw[List.all_eq_true];exact fun d hd=>decide_eq_true (w7 ha (List.mem_of_mem_take hd))
 ·intro h39;rw[vP (by omega)] at h39;have h39:c=39:=h39;subst h39;rw[Y9,if_pos rfl] at h;cases hx:r9 39 r with
  |none=>rw[hx] at h;injection h
  |some j=>
   rw[hx] at h;injection h with h;subst h;have:=(O8 hx).1;have hl:((39::r).take (j+1)).length=j+1:=hl;show 2<=((39::r).take (j+1)).length/\k6 ((39::r).take (j+1)) (((39::r).take (j+1)).length-1)=39;refine⟨by rw[hl];omega,?_⟩;rw[hl,vP (by omega),show j+1-1=(j-1)+1 by omega];exact dE r.length r j (Nat.le_refl _) hx
theorem At.good {s:Int} {w:Bool} {t:b9} {x:Option (List (Int×b9))} (A:At s w t x):j6 t=true-> ∀v,x=some v-> ∀p∈v,S5 t.length p.2:=by
 have up: ∀{n m:Nat} {a:b9},n<=m->S5 n a->S5 m a:=fun h g=>⟨g.1,Nat.le_trans g.2.1 h,g.2.2⟩;have ac: ∀{c:Nat} {r:b9},j6 (c::r)=true->j6 r=true:=fun h=>by unfold j6 at h ⊢;rw[List.all_cons,Bool.and_eq_true] at h;exact h.2
 induction A with
 |fin=>intro _ v e;injection e with e;subst e;intro p hp;cases hp
 |open_=>intro _ v e;injection e
 |sgn _ _ ih=>intro ha v e p hp;exact up (by simp) (ih (ac ha) v e p hp)
 |sp _ ih=>intro ha v e p hp;exact up (by simp) (ih (ac ha) v e p hp)
 |two _ _ _=>intro _ v e;injection e
 |bad _ _ _ _=>intro _ v e;injection e
 | @atom s c n r x c1 c2 c3 hat A ih=>
  intro ha v e;cases x with
  |none=>injection e
  |some w=>
   injection e with e;subst e;intro p hp;rcases List.mem_cons.mp hp with rfl|hp
   ·exact CY ha hat
   ·refine up ?_ (ih ?_ w rfl p hp)
    ·simp
    ·unfold j6;rw[List.all_eq_true];exact fun d hd=>decide_eq_true (w7 ha (List.mem_of_mem_drop hd))
theorem mR {t:b9} {v:List (Int×b9)} (ha:j6 t=true) (h:y0 t=some v): ∀p∈v,S5 t.length p.2:=(L4 t).good ha v h
theorem vQ {a:b9} {n:Nat} (h:S5 n a) (hn:n<=1000) (hq:k6 a 0=39):N8 a=true:=
 S1.mpr ⟨(h.2.2.2 hq).1,Nat.le_trans h.2.1 hn,h.2.2.1,.inr (h.2.2.2 hq).2⟩
noncomputable def XZ (a:b9):Bool:=decide (a≠[]) &&decide (a.length<=1000) &&j6 a &&(decide (k6 a 0≠39)||N8 a)
theorem AF {a:b9}:XZ a=true↔a≠[]/\a.length<=1000/\j6 a=true/\(k6 a 0=39->N8 a=true):=by
 unfold XZ;simp only[Bool.and_eq_true,Bool.or_eq_true,decide_eq_true_eq,and_assoc];constructor
 ·rintro ⟨h1,h2,h3,h4⟩;exact⟨h1,h2,h3,fun z=>h4.resolve_left fun y=>y z⟩
 ·rintro ⟨h1,h2,h3,h4⟩;exact⟨h1,h2,h3,by by_cases z:k6 a 0=39;exact .inr (h4 z);exact .inl z⟩
noncomputable def B0:List V->R V:=CN fun a l=>
  if XZ a=true/\l.natAbs<1000000 then .ok (.bool true) else .stuck
noncomputable def Q8:Option Nat->V
 |some v=>.int (v:Nat)
 |none=>.none
theorem mS (n:Option Nat) (l:Int):Dats (I2 (Q8 n) l)/\deepVs (I2 (Q8 n) l)<=20:=by
 cases n<;>exact⟨⟨trivial,trivial,trivial⟩,by show(0:Nat)<=20;omega⟩
noncomputable def eZ (a:b9):Option Nat:=match Q6 (j8 a) with|some [v]=>some v|_=>none
section
variable {g:G}
theorem dF (hlam:g.lam=true) (hlen:g.fn "len"=none) (hin:g.fn "is_name"=some E1) (hil:g.fn "is_local"=some H6) (hnm:g.fn "_law_named"=some I0) (hlk:g.fn "_law_looked"=some F2) (his:g.fn "_law_is"=some S4) (hdu:g.fn "_law_due"=some L6)
  (hoc:g.fn "_law_octets"=some F3) (hnu:g.fn "_law_number"=some A4) (hwh:g.low "whole_of"=some x9) (hpv:g.low "plain_value"=some A6) (vs:List V) (hn:B0 vs≠.stuck):g8 g none n6.sc ["atom","line"] n6.body vs (B0 vs):=by
 have hlim:i0=1048576:=rfl;refine C0 (K0 hn) fun a l z2r=> ?_;subst z2r;have hc:=D9 hn;refine l5 (if_pos hc) ?_;refine f8 hc fun hok hline=> ?_;clear hc;refine Q0 (AF.mp hok) fun hne hl hasc hq=> ?_;have hpos:0<a.length:=List.length_pos_iff.mpr hne;have f1:E1 [.str a]=.ok (.bool (G6 a)):=if_pos (by omega);have f2:I0 [.str a]=.ok (.bool (G6 a)):=if_pos ⟨by omega,hasc⟩;have f3:H6 [.str a]=.ok (.bool (B5 a)):=if_pos (by omega);have f4:F2 [.str a]=.ok (.bool (B5 a)):=if_pos ⟨by omega,hasc⟩;have f5: ∀b:Bool,S4 [.bool b,.bool b]=.ok (.bool true):=fun b=>by show R.ok (V.bool (b==b))=_;rw[beq_self_eq_true]
 have f6:=f5 (G6 a);have f7:=f5 (B5 a);have s1:d9.get (List.zip ["atom","line"] [.str a,.int l]) "atom"=some (.str a):=rfl;have s2:d9.get (List.zip ["atom","line"] [.str a,.int l]) "line"=some (.int l):=rfl;have e0:d8 g none n6.sc (List.zip ["atom","line"] [.str a,.int l]) (i4 n6.body 0) (.ok (.next,List.zip ["atom","line"] [.str a,.int l])):=
  d8.if0 (c8.to (C1 (Z9.cons (b1:=false) (b2:=false) (bA (bb:=true) (F9 (v:=.bool true) (by tm_at "e") rfl)) fun Z=>Z9.one (bA (bb:=true) (F9 (v:=.bool true) (by tm_at "e") rfl)))) rfl) d5.nil
 have hs1:j9 a none (some 1)=[k6 a 0]:=by
  rw[show(some (1:Int))=some ((1:Nat):Int) from rfl,jJ];refine C0 (List.exists_cons_of_ne_nil hne) fun c r z1r=> ?_;subst z1r;rfl
 have hcond:c8 g n6.sc (List.zip ["atom","line"] [.str a,.int l]) true (sE (i4 n6.body 1)) (.ok (.bool (k6 a 0==39))):=
  e9 (hs1▸c8.slice (by tm_at "v") (by tm_at "e") (by tm_at "e") (by omega)) (by tm_at "e") (uS _ _) rfl
 by_cases h39:k6 a 0=39
 ·have hQ:=hq h39;have hOF:F3 [.str a]=.ok (match Q6 (j8 a) with|some v=>.bytes (v.map fun(n:Nat)=>(n:Int))|none=>.none):=by
   show(if _ then _ else _)=_;rw[if_pos hQ]<;>cases Q6 (j8 a)<;>rfl
  have hPF:A6 [.str a,.int l]=(match eZ a with|some v=>.ok (.int (v:Nat))|none=>.err l):=by
   show(if _ then (if _ then (if _ then _ else _) else _) else _)=_;rw[if_pos ⟨hl,hasc,hline,hne⟩,if_pos h39,if_pos hQ];unfold eZ;cases Q6 (j8 a) with
   |none=>rfl
   |some v=>rcases v with _|⟨v,_|_⟩<;>rfl
  have hT:C9 (A6 [.str a,.int l])=.ok (.tup (I2 (Q8 (eZ a)) l)):=by rw[hPF]<;>cases eZ a<;>rfl
  have hd1:c8 g n6.sc (d9.set (List.zip ["atom","line"] [.str a,.int l]) "octets" (match Q6 (j8 a) with|some v=>.bytes (v.map fun(n:Nat)=>(n:Int))|none=>.none)) false (sE (i4 (sB (i4 n6.body 1)) 1)) (.ok (Q8 (eZ a))):=by
   unfold eZ;cases hx:Q6 (j8 a) with
   |none=>exact c8.if0 (c8.to (j2 (I9.cons (b1:=false) (b2:=false) (e9 (v:=.none) (u:=.none) (by tm_at "e") (by tm_at "e") rfl rfl) fun z=>by injection z)) rfl) (by tm_at "e")
   |some v=>
    have hvl:(v.map fun(n:Nat)=>(n:Int)).length<=i0:=by
     have:=(L3 (j8 a)).len v hx;have:=cA (T:=a);simp;omega
    have hb:c8 g n6.sc (d9.set (List.zip ["atom","line"] [.str a,.int l]) "octets" (.bytes (v.map fun(n:Nat)=>(n:Int)))) true (eK (sE (i4 (sB (i4 n6.body 1)) 1)) 0) (.ok (.bool ((v.length:Int)==1))):=
     c8.to (j2 (I9.cons (b1:=true) (e9 (v:=.bytes (v.map fun(n:Nat)=>(n:Int))) (u:=.none) (by tm_at "e") (by tm_at "e") rfl rfl) fun Z=>I9.one (e9 (c8.bcall (v5.cons (v:=.bytes (v.map fun(n:Nat)=>(n:Int))) (by tm_at "e") v5.nil) hlen rfl (len_bytes hvl) rfl rfl) (by tm_at "e") (yU _ _) rfl))) (by simp)
    rcases v with _|⟨v,_|⟨u,r⟩⟩
    ·exact c8.if0 hb (by tm_at "e")
    ·exact c8.if1 hb (G5 (v:=.bytes [(v:Int)]) (by tm_at "v") (by tm_at "e") (lY (b:=[(v:Int)]) hvl (by simp)) rfl)
    ·exact c8.if0 (c7 hb (by simp;omega)) (by tm_at "e")
  have ho:(Q8 (eZ a)).open? =false:=by cases eZ a<;>rfl
  have ho2:(match Q6 (j8 a) with|some v=>V.bytes (v.map fun(n:Nat)=>(n:Int))|none=>V.none).open? =false:=by cases Q6 (j8 a)<;>rfl
  generalize (match Q6 (j8 a) with|some v=>V.bytes (v.map fun(n:Nat)=>(n:Int))|none=>V.none)=ov at*;have e1:d8 g none n6.sc (List.zip ["atom","line"] [.str a,.int l]) (i4 n6.body 1) (.ok (.next,d9.set (d9.set (List.zip ["atom","line"] [.str a,.int l]) "octets" ov) "due" (Q8 (eZ a)))):=
   d8.if1 (c9 hcond (by simp[h39])) (d5.cons (d7 (v:=ov) (c8.call (by tm_at "e") hoc hOF rfl rfl rfl) (by decide) (by decide) ho2) (d5.cons (d7 hd1 (by decide) (by decide) ho) d5.nil))
  have hD:L6 [Q8 (eZ a),.int l]=.ok (.tup (I2 (Q8 (eZ a)) l)):=by
   show(if (Q8 (eZ a)).open? =true then _ else _)=_;rw[ho];rfl
  exact g8.ret rfl (d5.cons e0 (d5.cons e1 (d5.ret (d8.ret (v:=.bool true) (dB (I5 hpv (v:=.str a) (u:=.int l) (by tm_at "n") (by tm_at "n") rfl rfl ⟨by decide,by decide⟩ rfl rfl hlam ⟨rfl,rfl,rfl⟩) (c8.call (vs:=[Q8 (eZ a),.int l]) (by tm_at "e") hdu hD rfl rfl (by show((Q8 (eZ a)).open? ||(false||false))=false;rw[ho];rfl)) hT (mS _ _) rfl)))))
 ·have hNF:A4 [.str a]=.ok (Q8 (B7 a)):=by
   show(if _ then _ else _)=_;rw[if_pos ⟨hl,hasc⟩]<;>cases B7 a<;>rfl
  have hWF:x9 [.str a,.int l]=(match B7 a with|some v=>.ok (.int (v:Nat))|none=>.err l):=by
   show(if _ then _ else _)=_;rw[if_pos ⟨hl,hasc,hline⟩]<;>cases B7 a<;>rfl
  have hPF:A6 [.str a,.int l]=(match B7 a with|some v=>.ok (.int (v:Nat))|none=>.err l):=by
   show(if _ then (if _ then (if _ then _ else _) else _) else _)=_;rw[if_pos ⟨hl,hasc,hline,hne⟩,if_neg h39]<;>cases B7 a<;>rfl
  have hT1:C9 (x9 [.str a,.int l])=.ok (.tup (I2 (Q8 (B7 a)) l)):=by rw[hWF]<;>cases B7 a<;>rfl
  have hT2:C9 (A6 [.str a,.int l])=.ok (.tup (I2 (Q8 (B7 a)) l)):=by rw[hPF]<;>cases B7 a<;>rfl
  have ho:(Q8 (B7 a)).open? =false:=by cases B7 a<;>rfl
  have hD:L6 [Q8 (B7 a),.int l]=.ok (.tup (I2 (Q8 (B7 a)) l)):=by
   show(if (Q8 (B7 a)).open? =true then _ else _)=_;rw[ho];rfl
  have e1:d8 g none n6.sc (List.zip ["atom","line"] [.str a,.int l]) (i4 n6.body 1) (.ok (.next,d9.set (List.zip ["atom","line"] [.str a,.int l]) "due" (Q8 (B7 a)))):=
   d8.if0 (c7 hcond (by simp[h39])) (d5.cons (d7 (v:=Q8 (B7 a)) (c8.call (by tm_at "e") hnu hNF rfl rfl rfl) (by decide) (by decide) ho) (d5.cons (d8.if0 (N9 (I5 hwh (v:=.str a) (u:=.int l) (by tm_at "n") (by tm_at "n") rfl rfl ⟨by decide,by decide⟩ rfl rfl hlam ⟨rfl,rfl,rfl⟩) (c8.call (vs:=[Q8 (B7 a),.int l]) (by tm_at "e") hdu hD rfl rfl (by show((Q8 (B7 a)).open? ||(false||false))=false;rw[ho];rfl)) hT1 (mS _ _) rfl) d5.nil) d5.nil))
  exact g8.ret rfl (d5.cons e0 (d5.cons e1 (d5.ret (d8.ret (v:=.bool true) (dB (I5 hpv (v:=.str a) (u:=.int l) (by tm_at "n") (by tm_at "n") rfl rfl ⟨by decide,by decide⟩ rfl rfl hlam ⟨rfl,rfl,rfl⟩) (c8.call (vs:=[Q8 (B7 a),.int l]) (by tm_at "e") hdu hD rfl rfl (by show((Q8 (B7 a)).open? ||(false||false))=false;rw[ho];rfl)) hT2 (mS _ _) rfl)))))
end
theorem qF (l:List b9):Dats (l.map V.str)/\deepVs (l.map V.str)<=0:=by
 induction l with
 |nil=>exact⟨trivial,Nat.le_refl _⟩
 |cons a r ih=>exact⟨⟨trivial,ih.1⟩,by show max 0 (deepVs (r.map V.str))<=0;omega⟩
theorem mT (l:List (Int×b9)):Dats (l.map w6)/\deepVs (l.map w6)<=1:=by
 induction l with
 |nil=>exact⟨trivial,by show 0<=1;omega⟩
 |cons a r ih=>
  refine⟨⟨⟨trivial,trivial,trivial⟩,ih.1⟩,?_⟩;show max (max 0 (max 0 0)+1) (deepVs (r.map w6))<=1;omega
theorem S6 {v:V} {l:Int} (h:RM v) (h':gQ v<=19):Dats (I2 v l)/\deepVs (I2 v l)<=20:=by
 cases v<;>first
  |exact⟨⟨trivial,trivial,trivial⟩,by show(0:Nat)<=20;omega⟩
  |exact⟨⟨trivial,h,trivial⟩,by show max 0 (max (gQ _) 0)<=20;omega⟩
  |exact absurd h (fun z=>z)
theorem vR {v:V} {l:Int} (h:v.open? =false):L6 [v,.int l]=.ok (.tup (I2 v l)):=by
 show(if v.open? =true then _ else _)=_;rw[h];rfl
theorem QJ {x y:V}:P1 (.tup [x,y]) (.int 1)=.ok y:=by
 show(if [x,y].length<=i0 then needR (G2 1 [x,y].length) (fun k=>needR [x,y][k]? R.ok) else R.stuck)=_;rw[if_pos (by show 2<=i0;decide)];rfl
theorem gH {vs:List V} (h:vs.length<=i0):s0 (.list vs)=.ok vs:=if_pos h
theorem iF {us:List V} (h:us.length<=i0):B2 (.list us)=.ok (!us.isEmpty):=by rw[xA,if_pos h]
theorem IE {us:List V} (h:us.length<=i0):w8 .NotEq (.list us) (.list [])=.ok (!us.isEmpty):=by rw[SU,if_pos h]
theorem gI {g:G} {csc:Scope} {σ:d9} {c:Expr} {x1 x2 x3 xp:Pos} {k:Nat} {q:b9->Bool}: ∀{as:List (Int×b9)},(∀p∈as,c8 g csc ((σ.set "s" (.int p.1)).set "a" (.str p.2)) true c (.ok (.bool (q p.2))))->(csc.names.lookup ("a":Str)==some NameKind.local)=true->
  Q5 g csc σ (.Tuple [.Name "s" x1,.Name "a" x2] k x3) (.Name "a" xp) [c] (as.map w6) ((as.filter fun p=>q p.2).map fun p=>V.str p.2)
 |[],_,_=>Q5.nil
 |p::r,h,hc=>by
  have h1:=h p List.mem_cons_self;have ih:=gI (fun p hp=>h p (List.mem_cons_of_mem _ hp)) hc (x1:=x1) (x2:=x2) (x3:=x3) (xp:=xp) (k:=k);rw[List.map_cons,List.filter_cons];cases hq:q p.2 with
  |false=>rw[hq] at h1;rw[if_neg (by decide)];exact uQ rfl h1 ih
  |true=>rw[hq] at h1;rw[if_pos rfl];exact lH rfl h1 (c8.name (g6 d9.same (by rw[hc];rfl) (by decide))) rfl ih
theorem yI {as:List (Int×b9)} {q:b9->Bool}:(!((as.filter fun p=>q p.2).map fun p=>V.str p.2).isEmpty)=as.any fun p=>q p.2:=by
 induction as with
 |nil=>rfl
 |cons p r ih=>
  rw[List.filter_cons,List.any_cons];cases q p.2 with
  |true=>rfl
  |false=>rw[if_neg (by decide)];exact ih
structure iG (g:G):Prop where
 lam:g.lam=true
 len:g.fn "len"=none
 bare:g.fn "_law_bare"=some S2
 oper:g.fn "_law_operands"=some H9
 atoms:g.fn "_law_atoms"=some O9
 due:g.fn "_law_due"=some L6
 is:g.fn "_law_is"=some S4
 named:g.fn "_law_named"=some I0
 looked:g.fn "_law_looked"=some F2
 aright:g.fn "_law_atom_right"=some B0
 parts:g.fn "_law_parts"=some A7
 octets:g.fn "_law_octets"=some F3
 l_signs:g.low "check_signs"=some o8
 l_bare:g.low "bare"=some gC
 l_parted:g.low "parted"=some W4
 l_atoms:g.low "atoms_of"=some H8
 l_place:g.low "names_place"=some G0
 l_octets:g.low "octets_in"=some E6
noncomputable abbrev wO:List Stmt:=sB (i4 f9.body 6)
noncomputable def B6 (one:b9):V:=match y0 one with|some as=>.list (as.map w6)|none=>.none
noncomputable def o9 (one:b9):V:=match y0 one with|some as=>.bool (as.any fun p=>K8 p.2)|none=>.none
theorem bK (one:b9):(B6 one).open? =false:=by unfold B6;cases y0 one<;>rfl
theorem bL (one:b9):(o9 one).open? =false:=by unfold o9;cases y0 one<;>rfl
theorem W5 {v:V} {l:Int} (h:v.open? =false):[v,V.int l].any V.open? =false:=by show(v.open? ||(false||false))=false;rw[h];rfl
section
variable {g:G}
theorem TU (L:iG g) {one:b9} {l:Int} (hl:one.length<=1000) (hasc:j6 one=true) (hline:l.natAbs<1000000) {σ:d9} (h1:σ.get "one"=some (.str one)) (h2:σ.get "line"=some (.int l)) {b:List Stmt} {u:R (Fl×d9)}
  (h:d5 g none f9.sc (σ.set "atoms" (B6 one)) b u):d5 g none f9.sc σ (i4 wO 0::i4 wO 1::b) u:=by
 have hlim:i0=1048576:=rfl;have f1:O9 [.str one]=.ok (B6 one):=by
  show(if _ then _ else _)=_;rw[if_pos ⟨by omega,hasc⟩];unfold B6;cases y0 one<;>rfl
 have f2:C9 (H8 [.str one,.int l])=.ok (.tup (I2 (B6 one) l)):=by
  have:H8 [.str one,.int l]=(match y0 one with|some as=>.ok (.list (as.map w6))|none=>.err l):=by
   show(if _ then _ else _)=_;rw[if_pos ⟨by omega,hline⟩]<;>cases y0 one<;>rfl
  rw[this];unfold B6;cases y0 one<;>rfl
 have hd:Dats (I2 (B6 one) l)/\deepVs (I2 (B6 one) l)<=20:=by
  unfold B6;cases y0 one with
  |none=>exact S6 trivial (by show 0<=19;omega)
  |some as=>exact S6 (mT as).1 (by show deepVs _+1<=19;have:=(mT as).2;omega)
 exact d5.cons (d7 (v:=B6 one) (c8.call (by tm_at "e") L.atoms f1 rfl rfl rfl) (by decide) (by decide) (bK one))
  (d5.cons (d8.if0 (N9 (I5 L.l_atoms (v:=.str one) (u:=.int l) (by tm_at "n") (by tm_at "n") rfl rfl ⟨by decide,by decide⟩ rfl rfl L.lam ⟨rfl,rfl,rfl⟩)
   (c8.call (vs:=[B6 one,.int l]) (by tm_at "e") L.due (vR (bK one)) rfl rfl (W5 (bK one))) f2 hd rfl) d5.nil) h)
theorem TV (L:iG g) {one:b9} {l:Int} (hl:one.length<=1000) (hasc:j6 one=true) (hline:l.natAbs<1000000) {σ:d9} (h1:σ.get "one"=some (.str one)) (h2:σ.get "line"=some (.int l)) (h3:σ.get "atoms"=some (B6 one)) {b:List Stmt} {u:R (Fl×d9)}
  (h:d5 g none f9.sc ((σ.set "due" (o9 one)).set "told" (.tup (I2 (o9 one) l))) b u):d5 g none f9.sc σ (i4 wO 2::i4 wO 3::i4 wO 4::b) u:=by
 have hlim:i0=1048576:=rfl;have f2:C9 (G0 [.str one,.int l])=.ok (.tup (I2 (o9 one) l)):=by
  have:G0 [.str one,.int l]=(match y0 one with|some as=>.ok (.bool (as.any fun p=>K8 p.2))|none=>.err l):=by
   show(if _ then _ else _)=_;rw[if_pos ⟨by omega,hline⟩]<;>cases y0 one<;>rfl
  rw[this];unfold o9;cases y0 one<;>rfl
 have hd:Dats (I2 (o9 one) l)/\deepVs (I2 (o9 one) l)<=20:=by
  unfold o9;cases y0 one<;>exact S6 trivial (by show 0<=19;omega)
 have e2:d8 g none f9.sc σ (i4 wO 2) (.ok (.next,σ.set "due" (o9 one))):=by
  refine d7 (v:=o9 one) ?_ (by decide) (by decide) (bL one);cases hx:y0 one with
  |none=>
   have a1:B6 one=.none:=by unfold B6;rw[hx]
   have a2:o9 one=.none:=by unfold o9;rw[hx]
   rw[a1] at h3;rw[a2];exact c8.if1 (c9 (e9 (v:=.none) (u:=.none) (by tm_at "e") (by tm_at "e") T7 rfl) rfl) (by tm_at "e")
  |some as=>
   have a1:B6 one=.list (as.map w6):=by unfold B6;rw[hx]
   have a2:o9 one=.bool (as.any fun p=>K8 p.2):=by unfold o9;rw[hx]
   rw[a1] at h3;rw[a2];have hgood:=mR hasc hx;have hlen:=((L4 one).le as hx).1;have hcomp:((as.filter fun p=>K8 p.2).map fun p=>V.str p.2).length<=i0:=by
    rw[List.length_map];have:=(List.filter_sublist (p:=fun p=>K8 p.2) (l:=as)).length_le;omega
   refine c8.if0 (c7 (e9 (v:=.list (as.map w6)) (u:=.none) (by tm_at "e") (by tm_at "e") (gS _) rfl) rfl) ?_;refine c8.to (e9 (J8 (iv:=.list (as.map w6)) (by tm_at "e") (gH (by simp;omega)) (gI (q:=K8) (fun p hp=> ?_) rfl) rfl) (c8.list v5.nil rfl (by show 0<=i0;omega)) (IE hcomp) rfl) (by rw[yI]);have hg:=hgood p hp;have k1:I0 [.str p.2]=.ok (.bool (G6 p.2)):=if_pos ⟨by have:=hg.2.1;omega,hg.2.2.1⟩;have k2:F2 [.str p.2]=.ok (.bool (B5 p.2)):=if_pos ⟨by have:=hg.2.1;omega,hg.2.2.1⟩;have m: ∀{xp:Pos} {csc:Scope} {τ:d9},(csc.names.lookup ("a":Str)==some NameKind.local)=true->c8 g csc ((τ.set "s" (.int p.1)).set "a" (.str p.2)) false (.Name "a" xp) (.ok (.str p.2)):=fun hc=>c8.name (g6 d9.same (by rw[hc];rfl) (by decide));exact C1 (Z9.cons (e9 (m rfl) (by tm_at "e") (dR _ _) rfl) fun Z=>Z9.cons (F9 (v:=.bool (G6 p.2)) (c8.call (v5.cons (m rfl) v5.nil) L.named k1 rfl rfl rfl) rfl) fun Z=>Z9.one (F9 (v:=.bool (B5 p.2)) (c8.call (v5.cons (m rfl) v5.nil) L.looked k2 rfl rfl rfl) rfl))
 have e3:d8 g none f9.sc (σ.set "due" (o9 one)) (i4 wO 3) (.ok (.next,(σ.set "due" (o9 one)).set "told" (.tup (I2 (o9 one) l)))):=
  d7 (v:=.tup (I2 (o9 one) l)) (c8.to (I5 L.l_place (v:=.str one) (u:=.int l) (by tm_at "n") (by tm_at "n") rfl rfl ⟨by decide,by decide⟩ rfl rfl L.lam ⟨rfl,rfl,rfl⟩) f2) (by decide) (by decide) rfl
 have hne:c8 g f9.sc ((σ.set "due" (o9 one)).set "told" (.tup (I2 (o9 one) l))) true (eK (sE (i4 wO 4)) 0) (.ok (.bool false)):=
  e9 (c8.name (g6 d9.same rfl (by decide))) (c8.call (vs:=[o9 one,.int l]) (by tm_at "e") L.due (vR (bL one)) rfl rfl (W5 (bL one))) (NG _ hd.1 hd.2) rfl
 have e4:d8 g none f9.sc ((σ.set "due" (o9 one)).set "told" (.tup (I2 (o9 one) l))) (i4 wO 4) (.ok (.next,(σ.set "due" (o9 one)).set "told" (.tup (I2 (o9 one) l)))):=by
  refine d8.if0 (c8.to (C1 (Z9.cons (b2:=false) hne fun Z=>Z9.one ?_)) rfl) d5.nil;cases hx:y0 one with
  |none=>
   have a2:o9 one=.none:=by unfold o9;rw[hx]
   rw[a2];exact c8.to (j2 (I9.cons (b1:=false) (b2:=false) (e9 (v:=.none) (u:=.none) (by tm_at "e") (by tm_at "e") rfl rfl) fun z=>by injection z)) rfl
  |some as=>
   have a2:o9 one=.bool (as.any fun p=>K8 p.2):=by unfold o9;rw[hx]
   rw[a2];generalize (as.any fun p=>K8 p.2)=bb;have f5:S4 [.bool bb,.bool bb]=.ok (.bool true):=by show R.ok (V.bool (bb==bb))=_;rw[beq_self_eq_true]
   exact c8.to (j2 (I9.cons (b1:=true) (b2:=false) (e9 (v:=.bool bb) (u:=.none) (by tm_at "e") (by tm_at "e") rfl rfl) fun Z=>I9.one (bA (bb:=true) (F9 (v:=.bool true) (c8.call (v5.cons (G5 (v:=.tup [.str mP,.bool bb]) (by tm_at "v") (by tm_at "e") QJ rfl) (v5.cons (by tm_at "e") v5.nil)) L.is f5 rfl rfl rfl) rfl)))) rfl
 exact d5.cons e2 (d5.cons e3 (d5.cons e4 h))
end
noncomputable def mU (one:b9):Bool:=decide (1<one.length) &&(k6 one 0==34 &&((pm none true one.dropLast none false).isNone &&(pm none true one none false).isSome))
noncomputable def cO (one:b9):V:=match Q6 (j8 one) with|some v=>.bytes (v.map fun(n:Nat)=>(n:Int))|none=>.none
theorem mV (one:b9):(cO one).open? =false:=by unfold cO;cases Q6 (j8 one)<;>rfl
section
variable {g:G}
theorem TW (L:iG g) {one:b9} {l:Int} (hl:one.length<=1000) (hasc:j6 one=true) (hline:l.natAbs<1000000) {σ:d9} (h2:σ.get "line"=some (.int l)) (h3:σ.get "atoms"=some (B6 one)) {b:List Stmt} {u:R (Fl×d9)}
  (h:d5 g none f9.sc σ b u):d5 g none f9.sc σ (i4 wO 5::b) u:=by
 have hlim:i0=1048576:=rfl;have key: ∀(as:List (Int×b9)),as.length<=1000->(∀p∈as,S5 1000 p.2)->
   c8 g f9.sc σ false (eI (eK (sE (i4 wO 5)) 0)) (.ok (.list (as.map w6)))->d5 g none f9.sc σ (i4 wO 5::b) u:=by
  intro as hn hg hi;refine d5.cons (d8.if0 (c8.to (e9 (J8 hi (gH (by simp;omega)) (gI (q:=fun Z=>false) (fun p hp=> ?_) rfl) rfl) (c8.list v5.nil rfl (by show 0<=i0;omega)) (IE (by rw[List.length_map];exact Nat.le_trans List.filter_sublist.length_le (by omega))) rfl) (by simp)) d5.nil) h;have hgp:=hg p hp;have k1:B0 [.str p.2,.int l]=.ok (.bool true):=if_pos ⟨AF.mpr ⟨hgp.1,hgp.2.1,hgp.2.2.1,fun z=>vQ hgp (by omega) z⟩,hline⟩;exact bA (bb:=true) (F9 (v:=.bool true) (c8.call (v5.cons (c8.name (g6 d9.same rfl (by decide))) (v5.cons (c8.name (g6 (d9.ne (by decide) (d9.ne (by decide) (M7 h2 rfl))) rfl (by decide))) v5.nil)) L.aright k1 rfl rfl rfl) rfl)
 cases hx:y0 one with
 |none=>
  have a1:B6 one=.none:=by unfold B6;rw[hx]
  rw[a1] at h3;exact key [] (by simp) (fun p hp=>by cases hp) (eN (bb:=false) (by tm_at "e") cT fun Z=>H4 (c8.list v5.nil rfl (by show 0<=i0;omega)))
 |some as=>
  have a1:B6 one=.list (as.map w6):=by unfold B6;rw[hx]
  rw[a1] at h3;have hlen:=((L4 one).le as hx).1;have hgood:=mR hasc hx;have hll:(as.map w6).length<=i0:=by simp;omega
  refine key as (by omega) (fun p hp=>⟨(hgood p hp).1,Nat.le_trans (hgood p hp).2.1 hl,(hgood p hp).2.2⟩) ?_;refine c8.to (eN (bb:= !(as.map w6).isEmpty) (by tm_at "e") (iF hll) fun Z=>H4 (c8.list v5.nil rfl (by show 0<=i0;omega))) ?_;cases as<;>rfl
theorem TX (L:iG g) {one:b9} {l:Int} (hne:one≠[]) (hl:one.length<=1000) (hasc:j6 one=true) (hline:l.natAbs<1000000) {σ:d9} (h1:σ.get "one"=some (.str one)) (h2:σ.get "line"=some (.int l)) {b:List Stmt} {u:R (Fl×d9)}
  (h:d5 g none f9.sc (σ.set "is_quoted" (.bool (mU one))) b u):d5 g none f9.sc σ (i4 wO 6::i4 wO 7::b) u:=by
 have hlim:i0=1048576:=rfl;have hlen:=L.len;have hpos:0<one.length:=List.length_pos_iff.mpr hne;have e6:d8 g none f9.sc σ (i4 wO 6) (.ok (.next,σ.set "is_quoted" (.bool (mU one)))):=by
  refine d7 (v:=.bool (mU one)) ?_ (by decide) (by decide) rfl;have p1:A7 [.str one.dropLast,.str []]=.ok (match pm none true one.dropLast none false with|some ps=>.list (ps.map .str)|none=>.none):=by
   show(if _ then _ else _)=_;rw[if_pos (by simp;omega)]<;>cases pm none true one.dropLast none false<;>rfl
  have p2:A7 [.str one,.str []]=.ok (match pm none true one none false with|some ps=>.list (ps.map .str)|none=>.none):=by
   show(if _ then _ else _)=_;rw[if_pos (by omega)]<;>cases pm none true one none false<;>rfl
  have hsl:j9 one none (some (-1))=one.dropLast:=eR hpos;unfold mU;refine o7 (c8.to (e9 (by tm_at "e") (by tm_at "e") (NI _ _) rfl) (by congr 2;rw[Bool.eq_iff_iff];simp;omega)) fun Z=>o7 (by tm_at "e") fun Z=>o7 (b1:=(pm none true one.dropLast none false).isNone) ?_ fun Z=>H4 ?_
  ·refine e9 (c8.call (v5.cons (hsl▸c8.slice (by tm_at "v") (by tm_at "e") (zT.some (rL (by tm_at "e")) (by decide)) (by omega)) (by tm_at "e")) L.parts p1 rfl rfl rfl) (by tm_at "e") ?_ rfl;cases pm none true one.dropLast none false<;>rfl
  ·refine e9 (c8.call (by tm_at "e") L.parts p2 rfl rfl rfl) (by tm_at "e") ?_ rfl;cases pm none true one none false<;>rfl
 refine d5.cons e6 (d5.cons (d8.if0 (c8.to (j2 (I9.cons (b1:=mU one) (b2:=false) (pY (c8.name (g6 d9.same rfl (by decide))) (N3 _)) fun hq=>I9.one ?_)) (by simp)) d5.nil) h);have hQ:N8 one=true:=by
  unfold mU at hq;simp only[Bool.and_eq_true,decide_eq_true_eq] at hq;refine Q0 hq fun q1 q2 q3 q4=> ?_;clear hq;exact mQ (by omega) hl hasc (Option.isNone_iff_eq_none.mp q3) (by intro z;rw[z] at q4;injection q4)
 have f1:F3 [.str one]=.ok (cO one):=by
  show(if _ then _ else _)=_;rw[if_pos hQ];unfold cO;cases Q6 (j8 one)<;>rfl
 have f2:C9 (E6 [.str one,.int l])=.ok (.tup (I2 (cO one) l)):=by
  have:E6 [.str one,.int l]=(match Q6 (j8 one) with|some v=>.ok (.bytes (v.map fun(n:Nat)=>(n:Int)))|none=>.err l):=by
   show(if _ then _ else _)=_;rw[if_pos ⟨hQ,hline⟩]<;>cases Q6 (j8 one)<;>rfl
  rw[this];unfold cO;cases Q6 (j8 one)<;>rfl
 have hd:Dats (I2 (cO one) l)/\deepVs (I2 (cO one) l)<=20:=by
  unfold cO;cases Q6 (j8 one)<;>exact S6 trivial (by show 0<=19;omega)
 exact N9 (I5 L.l_octets (v:=.str one) (u:=.int l) (by tm_at "n") (by tm_at "n") rfl rfl ⟨by decide,by decide⟩ rfl rfl L.lam ⟨rfl,rfl,rfl⟩)
   (c8.call (vs:=[cO one,.int l]) (v5.cons (c8.call (by tm_at "e") L.octets f1 rfl rfl rfl) (by tm_at "e")) L.due (vR (mV one)) rfl rfl (W5 (mV one))) f2 hd rfl
theorem AG (L:iG g) {l:Int} (hline:l.natAbs<1000000): ∀(ops:List b9) (σ:d9),(∀p∈ops,p≠[]/\p.length<=1000/\j6 p=true)->σ.get "line"=some (.int l)->
  ∃σ',P6 g none f9.sc σ (V0 (i4 f9.body 6)) wO (ops.map V.str) (.ok (.next,σ'))
 |[],σ,_,_=>⟨σ,P6.nil⟩
 |one::r,σ,ho,h2=>by
  refine n5 (ho one List.mem_cons_self) fun p1 p2 p3=> ?_;have hb:s5 σ (V0 (i4 f9.body 6)) (.str one)=.ok (σ.set "one" (.str one)):=rfl;refine d6 (AG L hline r (((((σ.set "one" (.str one)).set "atoms" (B6 one)).set "due" (o9 one)).set "told" (.tup (I2 (o9 one) l))).set "is_quoted" (.bool (mU one))) (fun p hp=>ho p (List.mem_cons_of_mem _ hp)) (by tm_at "n")) fun σ' hr=> ?_;exact⟨σ',P6.cons hb (TU L p2 p3 hline (by tm_at "n") (by tm_at "n") (TV L p2 p3 hline (by tm_at "n") (by tm_at "n") (by tm_at "n") (TW L p2 p3 hline (by tm_at "n") (by tm_at "n") (TX L p1 p2 p3 hline (by tm_at "n") (by tm_at "n") d5.nil)))) hr⟩
noncomputable def E2:List V->R V:=CN fun t l=>
  if t.length<=500/\t.all A3=true/\l.natAbs<1000000 then .ok (.bool true) else .stuck
theorem yJ {t:b9} (h:t.all A3=true):j6 t=true:=by
 unfold j6;rw[List.all_eq_true] at h ⊢;intro c hc;have:=h c hc;unfold A3 at this;simp at this ⊢;omega
noncomputable def Z2 (t:b9):V:=match N0 t with|some b=>.str b|none=>.none
noncomputable def W6 (b:b9):V:=match U9 true b with|some l=>.list (l.map .str)|none=>.none
theorem gJ (t:b9):(Z2 t).open? =false:=by unfold Z2;cases N0 t<;>rfl
theorem gK (t:b9):(W6 t).open? =false:=by unfold W6;cases U9 true t<;>rfl
theorem IF (L:iG g) {t:b9} {l:Int} (hl:t.length<=500) (hs:t.all A3=true) (hline:l.natAbs<1000000) {σ:d9} (g1:σ.get "text"=some (.str t)) (g2:σ.get "line"=some (.int l)) {b:List Stmt} {u:R (Fl×d9)}
  (h:d5 g none f9.sc (σ.set "cut_line" (Z2 t)) b u):d5 g none f9.sc σ (i4 f9.body 0::i4 f9.body 1::i4 f9.body 2::b) u:=by
 have hlim:i0=1048576:=rfl;have f1:C9 (o8 [.str t,.int l])=.ok (.tup [.str mP,.none]):=by
  have:o8 [.str t,.int l]=.ok .none:=by
   show(if _ then (if _ then _ else _) else _)=_;rw[if_pos ⟨by omega,hline⟩,if_pos hs]
  rw[this];rfl
 have f0:S2 [.str t]=.ok (Z2 t):=by
  show(if _ then _ else _)=_;rw[if_pos (by omega)];unfold Z2;cases N0 t<;>rfl
 have f2:C9 (gC [.str t,.int l])=.ok (.tup (I2 (Z2 t) l)):=by
  have:gC [.str t,.int l]=(match N0 t with|some b=>.ok (.str b)|none=>.err l):=by
   show(if _ then _ else _)=_;rw[if_pos ⟨by omega,hline⟩]<;>cases N0 t<;>rfl
  rw[this];unfold Z2;cases N0 t<;>rfl
 have cutD:Dats (I2 (Z2 t) l)/\deepVs (I2 (Z2 t) l)<=20:=by
  unfold Z2;cases N0 t<;>exact S6 trivial (by show 0<=19;omega)
 refine d5.cons (d7 (v:=Z2 t) (c8.call (by tm_at "e") L.bare f0 rfl rfl rfl) (by decide) (by decide) (gJ t)) (d5.cons (σ':=d9.set σ "cut_line" (Z2 t)) ?_ (d5.cons (σ':=d9.set σ "cut_line" (Z2 t)) ?_ h))
 ·exact d8.if0 (N9 (I5 L.l_signs (v:=.str t) (u:=.int l) (by tm_at "n") (by tm_at "n") rfl rfl ⟨by decide,by decide⟩ rfl rfl L.lam ⟨rfl,rfl,rfl⟩)
   (c8.tup (vs:=[.str mP,.none]) (by tm_at "e") rfl (by show 2<=i0;decide)) f1 ⟨⟨trivial,trivial,trivial⟩,by show(0:Nat)<=20;omega⟩ rfl) d5.nil
 ·exact d8.if0 (N9 (I5 L.l_bare (v:=.str t) (u:=.int l) (by tm_at "n") (by tm_at "n") rfl rfl ⟨by decide,by decide⟩ rfl rfl L.lam ⟨rfl,rfl,rfl⟩)
   (c8.call (vs:=[Z2 t,.int l]) (by tm_at "e") L.due (vR (gJ t)) rfl rfl (W5 (gJ t))) f2 cutD rfl) d5.nil
theorem ME (L:iG g) {b:b9} {l:Int} (hl:b.length<=500) (hasc:j6 b=true) (hcut:U9 false b=U9 true b) (hline:l.natAbs<1000000) {σ:d9} (g1:σ.get "cut_line"=some (.str b)) (g2:σ.get "line"=some (.int l)):
  ∃σ',d5 g none f9.sc σ (f9.body.drop 3) (.ok (.ret (.bool true),σ')):=by
 have hlim:i0=1048576:=rfl;have f0:H9 [.str b]=.ok (W6 b):=by
  show(if _ then _ else _)=_;rw[if_pos (by omega)];unfold W6;cases U9 true b<;>rfl
 have f2:C9 (W4 [.str b,.int l])=.ok (.tup (I2 (W6 b) l)):=by
  have:W4 [.str b,.int l]=(match U9 true b with|some b=>.ok (.list (b.map .str))|none=>.err l):=by
   show(if _ then _ else _)=_;rw[if_pos ⟨by omega,hline⟩,hcut]<;>cases U9 true b<;>rfl
  rw[this];unfold W6;cases U9 true b<;>rfl
 have hd:Dats (I2 (W6 b) l)/\deepVs (I2 (W6 b) l)<=20:=by
  unfold W6;cases U9 true b with
  |none=>exact S6 trivial (by show 0<=19;omega)
  |some ps=>exact S6 (qF ps).1 (by show deepVs _+1<=19;have:=(qF ps).2;omega)
 have e3:d8 g none f9.sc σ (i4 f9.body 3) (.ok (.next,σ)):=
  d8.if0 (c7 (e9 (v:=.str b) (u:=.none) (by tm_at "e") (by tm_at "e") (jV _) rfl) rfl) d5.nil
 have e4:d8 g none f9.sc σ (i4 f9.body 4) (.ok (.next,σ.set "operands" (W6 b))):=
  d7 (v:=W6 b) (c8.call (by tm_at "e") L.oper f0 rfl rfl rfl) (by decide) (by decide) (gK b)
 have e5:d8 g none f9.sc (σ.set "operands" (W6 b)) (i4 f9.body 5) (.ok (.next,σ.set "operands" (W6 b))):=
  d8.if0 (N9 (I5 L.l_parted (v:=.str b) (u:=.int l) (by tm_at "n") (by tm_at "n") rfl rfl ⟨by decide,by decide⟩ rfl rfl L.lam ⟨rfl,rfl,rfl⟩)
   (c8.call (vs:=[W6 b,.int l]) (by tm_at "e") L.due (vR (gK b)) rfl rfl (W5 (gK b))) f2 hd rfl) d5.nil
 have key: ∀(ops:List b9),ops.length<=1000->(∀p∈ops,p≠[]/\p.length<=1000/\j6 p=true)->c8 g f9.sc (σ.set "operands" (W6 b)) false (sE (i4 f9.body 6)) (.ok (.list (ops.map V.str)))->
   ∃σ',d5 g none f9.sc σ (f9.body.drop 3) (.ok (.ret (.bool true),σ')):=fun ops hn hops hi=>by
  refine d6 (AG L hline ops (σ.set "operands" (W6 b)) hops (by tm_at "n")) fun σ' hf=> ?_;exact⟨σ',d5.cons e3 (d5.cons e4 (d5.cons e5 (d5.cons (H3 hi (gH (by simp;omega)) rfl hf) (d5.ret (d8.ret (v:=.bool true) (by tm_at "e"))))))⟩
 cases hx:U9 true b with
 |none=>
  have a1:W6 b=.none:=by unfold W6;rw[hx]
  refine key [] (by simp) (fun p hp=>by cases hp) ?_;rw[a1];exact eN (bb:=false) (v:=.none) (by tm_at "e") cT fun Z=>H4 (c8.list v5.nil rfl (by show 0<=i0;omega))
 |some ps=>
  have a1:W6 b=.list (ps.map .str):=by unfold W6;rw[hx]
  refine f8 (CX hx hasc) fun c1 c2=> ?_;refine key ps (by omega) (fun p hp=>⟨(c2 p hp).1,by have:=(c2 p hp).2.1;omega,(c2 p hp).2.2⟩) ?_;rw[a1];have hll:(ps.map V.str).length<=i0:=by simp;omega
  refine c8.to (eN (bb:= !(ps.map V.str).isEmpty) (v:=.list (ps.map V.str)) (by tm_at "e") (iF hll) fun Z=>H4 (c8.list v5.nil rfl (by show 0<=i0;omega))) ?_;cases ps<;>rfl
theorem dG (L:iG g) (vs:List V) (hn:E2 vs≠.stuck):g8 g none f9.sc ["text","line"] f9.body vs (E2 vs):=by
 have hlim:i0=1048576:=rfl;refine C0 (K0 hn) fun t l z1r=> ?_;subst z1r;have hc:=D9 hn;refine l5 (if_pos hc) ?_;refine n5 hc fun hl hs hline=> ?_;clear hc;have hasc:=yJ hs
 suffices h: ∃σ',d5 g none f9.sc (d9.set (List.zip ["text","line"] [.str t,.int l]) "cut_line" (Z2 t)) (f9.body.drop 3) (.ok (.ret (.bool true),σ')) by
  refine d6 h fun σ' h=> ?_;exact g8.ret rfl (IF L hl hs hline rfl rfl h)
 cases hb:N0 t with
 |none=>
  have hcv:Z2 t=.none:=by unfold Z2;rw[hb]
  rw[hcv];exact⟨_,d5.ret (d8.if1 (c9 (e9 (v:=.none) (u:=.none) (by tm_at "e") (by tm_at "e") T7 rfl) rfl) (d5.ret (d8.ret (v:=.bool true) (by tm_at "e"))))⟩
 |some b=>
  have hcv:Z2 t=.str b:=by unfold Z2;rw[hb]
  rw[hcv];exact ME L (Nat.le_trans (HZ hb) hl) (yH hb hasc) (HX hb) hline d9.same (by tm_at "n")
end
end
section
open PySem PySem.W PyProof.Rows
noncomputable abbrev vS (b0 b1:Int) (t0 t1 n:Nat):Obj:=listOf #[.int b0 t0,.int b1 t1] n
noncomputable def D0 (h:Heap) (a:Addr) (c:Nat):Prop:= ∃b0 b1 t0 t1 n,h.get? a=some (vS b0 b1 t0 t1 n)/\(0<=b0/\b0.natAbs<2 ^4096)/\0<=b1/\b1<=c
noncomputable def fA (s:Shared) (a:Addr):Shared:={s with heap:=hideAll s.heap [a]}
section
variable {W:Wd} {C C₀:Cx} {X:Xs} {k:Nat} {env:Env} {sc:Scope} {oa:Option Addr} {σ σ':d9} {s₀ s s₁ s':Shared} {g:G} {n:Nat} {opn:Option Str} {h h' h'':Heap} {a b:Addr} {c:Nat} {o:Obj}
theorem v7 (e:s.heap.get? b=some o) (n:b≠a):(fA s a).heap.get? b=some o:=hideAll_get _ e fun q=>n (List.mem_singleton.mp q)
theorem M8 (e:(fA s a).heap.get? b=some o):s.heap.get? b=some o:=of_hideAll _ e
theorem mW:(fA s a).heap.get? a=none:=hideAll_none _ (.head _)
theorem M9 {xs:Array Value} (hb:s.heap.get? a=some (listOf xs n)) (t:o3 s.heap):o3 (fA s a).heap:=hY t fun b o vs e d=>v7 e fun q=>by rw[q,hb] at e;injection e with e;subst e;injection d
structure qG (W:Wd) (C:Cx) (a:Addr):Prop where
 G:W.G.get? a=none
 base:C.base.get? a=none
 X: ¬C.X a
theorem fC {xs:Array Value} (ok:C.Ok k) (cl:qG W C a) (hb:s.heap.get? a=some (listOf xs n)) (i:aM W C s.heap):aM W C (fA s a).heap:=
 ⟨fun b o e=>v7 (i.G b o e) (fun q=>by rw[q,cl.G] at e;injection e),fun b o e=>v7 (i.base b o e) (fun q=>by rw[q,cl.base] at e;injection e),
  U0 (fun b o n e=>v7 e n) (fun q=>cl.X (ok.locs a q)) i.frames,M9 hb i.tabs,i.Gl⟩
theorem IG {xs:Array Value} (hb:s.heap.get? a=some (listOf xs n)) (hn:h.get? a=none) (gr:Gr C h s.heap):Gr C h (fA s a).heap:=by
 have ne: ∀{b o},h.get? b=some o->b≠a:=fun e q=>by rw[q,hn] at e;injection e
 exact⟨fun b o e n m=>v7 (gr.keep b o e n m) (ne e),fun b o e n=>d6 (gr.slots b o e n) fun sl e'=>⟨sl,v7 e' (ne e)⟩,fun t=>M9 hb (gr.tabs t),
  fun t b o e n nc x hx ps e'=>gr.codes t b o e n nc x hx ps (M8 e')⟩
theorem bM {e:Expr} {v:V} (hE: ∀n,I8 W n) (hg:C5 W k C.tb g) (t:J2 W C X k env sc oa σ s.heap) (x:c8 g sc σ false e (.ok v)):wpAny (model prog w) C.A (eval e env) (g5 C X oa s v) (fun Z Z=>False) s:=by
 refine d6 x fun N hN=> ?_;clear x;have:=(hE (0+N) g C X k env sc oa σ e s hg t).1;rw[hN 0] at this;exact this
theorem MF {e:Expr} {b:Bool} (hE: ∀n,I8 W n) (hg:C5 W k C.tb g) (t:J2 W C X k env sc oa σ s.heap) (x:c8 g sc σ true e (.ok (.bool b))):wpAny (model prog w) C.A (isTrue e env (eval e env)) (P5 C s b) (fun Z Z=>False) s:=by
 refine d6 x fun N hN=> ?_;clear x;have:=(hE (0+N) g C X k env sc oa σ e s hg t).2;rw[hN 0] at this;exact this
theorem j7.nota (f:j7 W C k env sc s₀ opn (some a) σ s):a∉C.locs:=fun m=>(f.newo a rfl).2 (f.sit.ok.locs a m)
theorem j7.same (f:j7 W C k env sc s₀ opn (some a) σ s) (st:k9 C s s') (e:s.heap.get? a=some o):s'.heap.get? a=some o:=
 st.gr.keep a o e (fun z=>(f.sit.live a (.inr rfl)).1 z.2) f.nota
theorem j7.clear (F:L9 W C C₀ env sc s₀) (f:j7 W C k env sc s₀ opn (some a) σ s):qG W C a:=⟨F.notG (f.newo a rfl).1,F.notB (f.newo a rfl).1,(f.newo a rfl).2⟩
theorem MG {s:Shared} {b0 b1 i v:Int} {t0 t1 t m:Nat} (hb:s.heap.get? a=some (vS b0 b1 t0 t1 n)) {Q:Unit->Shared->Prop} {E:Value->Shared->Prop} {A:Around} (hi:i=0\/i=1)
  (hQ: ∀h' m',(∀b,b≠a->h'.get? b=s.heap.get? b)->h'.get? a=some (listOf (#[Value.int b0 t0,.int b1 t1].setIfInBounds i.toNat (.int v m)) m')->Q () {s with heap:=h'}):
  wpAny (model prog w) A (setItem (.ref a) (.int i t) (.int v m)) Q E s:=by
 refine ki_setAt (items:= #[.int b0 t0,.int b1 t1]) hb (by omega) (by omega) (by show i<2;omega) ?_;have d:(vS b0 b1 t0 t1 n).data=.seq #[.int b0 t0,.int b1 t1] n:=rfl;refine d6 (Obj.data_mapSeq d (·.setIfInBounds i.toNat (.int v m))) fun m' hd'=> ?_;refine hQ _ m' (Heap.SameBut.update ..).2 ((Heap.get?_update_self _ hb (Obj.isFreed_of_seq hd')).trans ?_);have e: ∀o:Obj,∀f,o.data=.seq #[.int b0 t0,.int b1 t1] n->Obj.mapSeq f o={o with data:=(Obj.mapSeq f o).data}:=fun o f h=>by
  obtain⟨c,dd,dt,sl⟩:=o;cases dt<;>first|rfl|cases h
 rw[e _ _ d,hd']
theorem II (hE: ∀n,I8 W n) (hg:C5 W k C.tb g) (F:L9 W C C₀ env sc s₀) {b0 b1 i v:Int} {t0 t1:Nat} (f:j7 W C k env sc s₀ (some "box") (some a) σ s) (hv:σ.get "box"=some (.olist [.int b0,.int b1]))
  (hb:s.heap.get? a=some (vS b0 b1 t0 t1 n)) {xp p1 p3 p:Pos} {kk:Nat} {e:Expr} (x:c8 g sc σ false e (.ok (.int v))) (hn:r5 g sc σ "box"=.ok (.olist [.int b0,.int b1])) (hsw:aS e=false) (c0 c1:Int) (hi:(i=0/\c0=v/\c1=b1)\/(i=1/\c0=b0/\c1=v)) {Q:Flow->Shared->Prop} {E:Value->Shared->Prop}
  (hQ: ∀s' t0 t1 n,j7 W C k env sc s₀ (some "box") (some a) (σ.set "box" (.olist [.int c0,.int c1])) s'->s'.heap.get? a=some (vS c0 c1 t0 t1 n)->Q .next s'):
  wpAny (model prog w) C.A (exec (.Assign [.Subscript (.Name "box" xp) (.Constant (.int i) kk p1) p3] e p) env) Q E s:=by
 refine wpAny_Assign_Subscript ?_ (H1 hsw);refine wpAny_mono (bM hE hg f.sit x) (fun u s₁ q=> ?_) fun Z Z z=>z.elim;have f₁:=f.step' q.1;have hname:=O5 hg f₁.sit "box" xp;rw[hn] at hname;refine wpAny_mono hname (fun ov e7 L8=> ?_) fun Z Z x=>x.elim;have n8:=f₁.step' L8.1;have W9:=f₁.same L8.1 (f.same q.1 hb);refine X1 L8.2 fun A o ys mm e1 z2r e3 e4 e5 e6=> ?_;subst z2r;obtain rfl:=Option.some.inj e1;refine d6 (A1 (q.2.plain rfl)) fun tv z1r=> ?_;subst z1r;refine wpAny_Constant_int ?_;have G8:k9 C e7 {e7 with toks:=e7.toks+1}:=.of_keep fun Z Z e=>e;have E3:=n8.step' G8;refine MG (s:={e7 with toks:=e7.toks+1}) W9 (hi.imp (·.1) (·.1)) fun h' m' kp q1=> ?_;rcases hi with⟨rfl,rfl,rfl⟩|⟨rfl,rfl,rfl⟩
 ·exact hQ _ tv t1 m' (eE (s:={e7 with toks:=e7.toks+1}) (tk:=e7.toks+1) (ys:=[.int c0 tv,.int c1 t1]) F E3 rfl hv rfl W9 (fun Z z=>by injection z) kp q1 rfl rfl rfl (.cons (.int _ _) (.cons (.int _ _) .nil)) ⟨_,_,rfl⟩).1 q1
 ·exact hQ _ t0 tv m' (eE (s:={e7 with toks:=e7.toks+1}) (tk:=e7.toks+1) (ys:=[.int c0 t0,.int c1 tv]) F E3 rfl hv rfl W9 (fun Z z=>by injection z) kp q1 rfl rfl rfl (.cons (.int _ _) (.cons (.int _ _) .nil)) ⟨_,_,rfl⟩).1 q1
theorem sG {a b:Int} (h:0<b):R0 .Mod (.int a) (.int b)=.ok (.int (a%b)):=if_pos h
theorem QK {a b:Int} (h:0<b) (h':b.natAbs<2 ^4096):R0 .FloorDiv (.int a) (.int b)=.ok (.int (a/b)):=if_pos ⟨h,decide_eq_true h'⟩
end
section
variable {W:Wd} {C C₀:Cx} {X:Xs} {k:Nat} {env:Env} {sc:Scope} {oa:Option Addr} {σ σ':d9} {s₀ s s₁ s':Shared} {g:G} {n:Nat} {opn:Option Str} {h h' h'':Heap} {a b:Addr} {c:Nat} {o:Obj}
theorem IJ {b c:Int} (h0:0<=b) (h1:b<=c) (hc:c<10000000):(7*b).natAbs<2 ^4096/\b.natAbs<2 ^4096:=by
 have k: ∀{x:Int},0<=x->x<2 ^30->x.natAbs<2 ^4096:=fun a b=>Nat.lt_of_lt_of_le (Int.ofNat_lt.mp ((Int.natAbs_of_nonneg a).symm▸b):_<2 ^30) (Nat.pow_le_pow_right (by decide) (by decide));have h2:=Int.lt_of_le_of_lt h1 hc;exact⟨k (Int.mul_nonneg (by decide) h0) (Int.lt_trans (Int.mul_lt_mul_of_pos_left h2 (by decide)) (by decide)),k h0 (Int.lt_trans h2 (by decide))⟩
theorem jP {x:Str} {u v d:V} {p q:Str} (e:d9.get [(p,u),(q,v)] x=some d):(x=p/\d=u)\/(x=q/\d=v):=by
 unfold d9.get at e;rcases List.mem_cons.mp (mem_of_lookup e) with e|e
 ·injection e with e e2;subst e;subst e2;exact .inl ⟨rfl,rfl⟩
 ·rcases List.mem_singleton.mp e with e;injection e with e e2;subst e;subst e2;exact .inr ⟨rfl,rfl⟩
theorem MH {aT:Addr} {oT:Obj} {fd:FuncData} {m:Int} {tm:Nat} {Q E:Value->Shared->Prop} (hE: ∀n,I8 W n) (hg:C5 W k C.tb g) (wok:W.Ok) (D:Z8 W "_law_take" ["box","many"] U3.body aT oT fd) (hsc:fd.scope=U3.sc)
  (ok:C.Ok (k+1)) (wf:W.Fits C) (hxg: ∀a,C.X a->W.G.get? a=none) (hlive: ∀a,C.X a-> ¬o4 a/\ ∃o,s.heap.get? a=some o) (inv:aM W C s.heap) (cl:qG W C a) (hb:D0 s.heap a c) (hm:0<m/\m<1000000) (hc:c<1000000)
  (hQ: ∀d t s',0<=d->d<m->k9 C (fA s a) s'->D0 s'.heap a (c+1)->Q (.int d t) s'):wpAny (model prog w) C.A (call (.ref aT) [.ref a,.int m tm] []) Q E s:=by
 refine AS hb fun b0 b1 t0 t1 n hb z4n p1 q1=> ?_;refine f8 z4n fun p0 q0=> ?_;clear z4n;refine f8 hm fun m0 m1=> ?_;clear hm;refine wpAny_call (uF (s₀:=fA s a) (X:=C.X) (σ:=[("box",.olist [.int b0,.int b1]),("many",.int m)]) (opn:=some "box") (oa:=some a) wok D ok wf (fun Z x=>x) hxg hlive inv ⟨_,_,rfl⟩ (fun Z Z e=>M8 e)
  (fun b o e=>v7 (inv.base b o e) (fun q=>by rw[q,cl.base] at e;injection e)) (fun b o e=>v7 (inv.G b o e) (fun q=>by rw[q,cl.G] at e;injection e)) (M9 hb inv.tabs) (fun b e=>by injection e with e;subst e;exact⟨mW,cl.X,_,hb⟩) rfl
  (fun x v e=> ?_) (fun x v e z=> ?_) fun env C' s₁ hX htb Z keep F f=> ?_)
 ·rcases jP e with⟨rfl,rfl⟩|⟨rfl,rfl⟩
  ·exact⟨_,rfl,.head _,a,_,[.int b0 t0,.int b1 t1],n,rfl,rfl,hb,⟨rfl,rfl⟩,rfl,.cons (.int _ _) (.cons (.int _ _) .nil)⟩
  ·exact⟨_,rfl,.tail _ (.head _),.int _ _⟩
 ·rcases jP e with⟨rfl,rfl⟩|⟨rfl,rfl⟩
  ·rfl
  ·injection z
 rw[hsc] at F f;have hg':C5 W k C'.tb g:=htb▸hg;have P8:=keep _ _ hb;have i1:P1 (.olist [.int b0,.int b1]) (.int 1)=.ok (.int b1):=rfl;rw[show U3.body=[i4 U3.body 0,i4 U3.body 1,i4 U3.body 2,i4 U3.body 3,i4 U3.body 4] from rfl];refine wpAny_execs_cons (II hE hg' F f rfl P8 (v:=b1+1) (by tm_at "e") (by tm_at "v") rfl b0 (b1+1) (.inr ⟨rfl,rfl,rfl⟩) fun e7 t0 t1 n n8 W9=> ?_);have j0:P1 (.olist [.int b0,.int (b1+1)]) (.int 0)=.ok (.int b0):=rfl;have j1:P1 (.olist [.int b0,.int (b1+1)]) (.int 1)=.ok (.int (b1+1)):=rfl;have bx: ∀s':Shared,s'.heap.get? a=some (vS b0 (b1+1) t0 t1 n)->D0 s'.heap a (c+1):=fun s' e=>⟨_,_,_,_,_,e,⟨p0,q0⟩,by omega,by omega⟩;refine wpAny_execs_cons (wpAny_If (wpAny_mono (MF (b:=b0==0) hE hg' n8.sit (by tm_at "e")) (fun b l6 q=> ?_) fun Z Z z=>z.elim));refine f8 q fun G8 z3r=> ?_;clear q;subst z3r;have E3:=n8.step' G8;have P9:=n8.same G8 W9;by_cases h0:b0=0
 ·rw[show(b0==0)=true by simpa using h0,if_pos rfl];refine f8 (IJ (b:=b1+1) (c:=c+1) (by omega) (by omega) (by omega)) fun s1 s2=> ?_;have s3:(5:Int).natAbs<2 ^4096:=Nat.lt_of_lt_of_le (by decide:5<2 ^3) (Nat.pow_le_pow_right (by decide) (by decide));have s4:(7:Int).natAbs<2 ^4096:=Nat.lt_of_lt_of_le (by decide:7<2 ^3) (Nat.pow_le_pow_right (by decide) (by decide));have k1:=eT s4 s2;have k2:=eT s1 s2;have k3:=eT s3 s2;have k4:=sG (a:=7*(b1+1)*(b1+1)+5*(b1+1)+3) (b:=101) (by decide);have k5:=sG (a:=(7*(b1+1)*(b1+1)+5*(b1+1)+3)%101) m0;refine wpAny_execs_cons (wpAny_Return_some (wpAny_mono (bM hE hg' E3.sit (v:=.int ((7*(b1+1)*(b1+1)+5*(b1+1)+3)%101%m)) (by tm_at "e")) (fun u C4 q=> ?_) fun Z Z z=>z.elim));refine d6 (A1 (q.2.plain rfl)) fun t z2r=> ?_;subst z2r;exact hQ _ t C4 (Int.emod_nonneg _ (by omega)) (Int.emod_lt_of_pos _ m0) (F.back htb (E3.step' q.1).step) (bx _ (E3.same q.1 P9))
 ·rw[show(b0==0)=false by simpa using h0,if_neg (by decide)];refine wpAny_execs_nil ?_;have k1:=sG (a:=b0) m0;have k2:=QK (a:=b0) m0 (Nat.lt_of_lt_of_le (show m.natAbs<2 ^30 by have e:(2:Nat) ^30=1073741824:=rfl;omega) (Nat.pow_le_pow_right (by decide) (by decide)));refine wpAny_execs_cons (wpAny_Assign_Name (wpAny_mono (bM hE hg' E3.sit (v:=.int (b0%m)) (by tm_at "e")) (fun u C4 q=> ?_) fun Z Z z=>z.elim) (H1 rfl));have T5:=E3.step' q.1;have JM:=E3.same q.1 P9;refine wpAny_mono (B4 F T5 (x:="digit") (.inl rfl) q.2 (fun z=>by injection z)) (fun Z C8 q=> ?_) fun Z Z z=>z.elim;refine n5 q fun bR Z kq=> ?_;clear q;have wM:=kq _ _ _ _ JM rfl;refine wpAny_execs_cons (II hE hg' F bR (b0:=b0) (b1:=b1+1) rfl wM (v:=b0/m) (by tm_at "e") (by tm_at "v") rfl (b0/m) (b1+1) (.inl ⟨rfl,rfl,rfl⟩) fun JN t0 t1 n RJ UP=> ?_);refine wpAny_execs_cons (wpAny_Return_some (wpAny_mono (bM hE hg' RJ.sit (v:=.int (b0%m)) (by tm_at "e")) (fun u YV q=> ?_) fun Z Z z=>z.elim));refine d6 (A1 (q.2.plain rfl)) fun t z1r=> ?_;subst z1r;have hd:0<=b0/m:=Int.ediv_nonneg p0 (Int.le_of_lt m0);have hle:b0/m<=b0:=Int.ediv_le_self _ p0;exact hQ _ t YV (Int.emod_nonneg _ (by omega)) (Int.emod_lt_of_pos _ m0) (F.back htb (RJ.step' q.1).step) ⟨_,_,_,_,_,RJ.same q.1 UP,⟨hd,Nat.lt_of_le_of_lt (by omega) q0⟩,by omega,by omega⟩
end
section
variable {W:Wd} {C C₀:Cx} {X:Xs} {k:Nat} {env:Env} {sc:Scope} {oa:Option Addr} {σ σ':d9} {s₀ s s₁ s':Shared} {g:G} {n:Nat} {opn:Option Str} {h h' h'':Heap} {a b:Addr} {c:Nat} {o:Obj}
theorem yK (st:k9 C s s₁):k9 C (fA s a) s₁:=by
 refine r0 st fun h t z7r gr=> ?_;clear st;subst z7r;exact⟨_,t,rfl,Gr.trans (.of_keep fun Z Z e=>M8 e) gr⟩
theorem yL {xs:Array Value} (hb:s₁.heap.get? a=some (listOf xs n)) (st:k9 C (fA s a) s₁) (st':k9 C (fA s₁ a) s'):k9 C (fA s a) s':=by
 refine r0 st fun h t z6r gr=> ?_;clear st;subst z6r;refine r0 st' fun h' t' z5r gr'=> ?_;clear st';subst z5r;exact⟨h',t',rfl,(IG (s:={s with heap:=h,toks:=t}) hb mW gr).trans gr'⟩
theorem IK {x:Str} {xs:Array Value} {ds:List V} {b0 b1:Int} {t0 t1 n':Nat} (ok:C.Ok k) (cl:qG W C a) (i:aM W C s.heap) (hX: ∀b,C.X b->X b) (hXa:X a) (t:St env (some a) X s.heap σ) (only: ∀y v,σ.get y=some v->v.open? =true->y=x) (hv:σ.get x=some (.olist ds))
  (hb:s.heap.get? a=some (listOf xs n)) (st:k9 C (fA s a) s') (hb':s'.heap.get? a=some (vS b0 b1 t0 t1 n')):St env (some a) X s'.heap (σ.set x (.olist [.int b0,.int b1])):=by
 have g:=st.gr;have iR:=fC ok cl hb i;refine e8 t.vals fun m hm hvl=> ?_;have cell: ∀c v,s.heap.IsCell c v->s'.heap.IsCell c v:=fun c v ⟨o,ho,hd⟩=>by
  refine d6 (iR.slot g (v7 ho fun q=>by rw[q,hb] at ho;injection ho with ho;subst ho;injection hd) fun vs z=>by rw[hd] at z;injection z) fun sl hs=> ?_;exact⟨_,hs,hd⟩
 have bind: ∀{x:Str} {u:Value},((env.kindOf x=some .local/\m x=some u)\/((env.kindOf x=some .cell\/env.kindOf x=some .free)/\ ∃c,env.cells.lookup x=some c/\s.heap.IsCell c (some u)))->
   (env.kindOf x=some .local/\m x=some u)\/((env.kindOf x=some .cell\/env.kindOf x=some .free)/\ ∃c,env.cells.lookup x=some c/\s'.heap.IsCell c (some u)):=fun hk=>by
  rcases hk with q|⟨q,c,hc,hi⟩
  ·exact .inl q
  ·exact .inr ⟨q,c,hc,cell c _ hi⟩
 refine⟨fun y hy=> ?_,m,(g.upTo (.inr iR.tabs)).ns ?_,fun y v e=> ?_⟩
 ·refine r0 (t.cells y hy) fun c v hc hi=> ?_;exact⟨c,v,hc,cell c v hi⟩
 ·refine nJ hm fun o es ep e hd r=> ?_;clear hm;exact⟨o,es,ep,v7 e fun q=>(by rw[q,hb] at e;injection e with e;subst e;injection hd),hd,r⟩
 rw[k7] at e;by_cases q:y=x
 ·rw[if_pos q] at e;injection e with e;subst e;refine e8 (hvl x _ hv) fun u hu hk=> ?_;refine sW hu fun a' K9 UK YQ q1 z4r Z=> ?_;clear hu;subst z4r;injection q1 with q1;subst q1;rw[q];exact⟨.ref a,⟨a,_,[.int b0 t0,.int b1 t1],n',rfl,rfl,hb',⟨rfl,rfl⟩,rfl,.cons (.int _ _) (.cons (.int _ _) .nil)⟩,bind hk⟩
 ·rw[if_neg q] at e;refine e8 (hvl y v e) fun u hu hk=> ?_;have hno:v.open? =false:=by
   cases hz:v.open? with
   |false=>rfl
   |true=>exact absurd (only y v e hz) q
  have r:Rp (fA s a).heap X u v:=(hu.plain hno).carry fun b o e nx Z=>v7 e fun q=>nx (q▸hXa);exact⟨u,(B1.of r).gr ok iR g hX,bind hk⟩
theorem IL {x:Str} {xs:Array Value} {ds:List V} {b0 b1:Int} {t0 t1 n':Nat} (F:L9 W C C₀ env sc s₀) (f:j7 W C k env sc s₀ (some x) (some a) σ s) (hv:σ.get x=some (.olist ds))
  (hb:s.heap.get? a=some (listOf xs n)) (st:k9 C (fA s a) s') (hb':s'.heap.get? a=some (vS b0 b1 t0 t1 n')):j7 W C k env sc s₀ (some x) (some a) (σ.set x (.olist [.int b0,.int b1])) s':=by
 have cl:=f.clear F;have iR:=fC f.sit.ok cl hb f.sit.inv;refine⟨?_,⟨f.sit.wok,f.sit.ok,f.sit.wf,f.sit.sub,f.sit.xg,fun b z=> ?_,iR.gr f.sit.ok f.sit.wf st.gr,f.sit.envOk,IK f.sit.ok cl f.sit.inv f.sit.sub (.inr rfl) f.sit.st (fun y v e z=>(Option.some.inj (f.only y v e z)).symm) hv hb st hb',f.sit.oaX⟩,f.newo,eA f.only fun Z=>rfl⟩
 ·refine r0 f.step fun y5 n7 I4 gr=> ?_;refine r0 st fun i8 dJ oO UQ=> ?_;clear st;refine⟨i8,dJ,by rw[oO,I4];rfl,?_⟩;have g1:Gr C s₀.heap s.heap:=by rw[I4];exact gr
  exact(IG hb (f.newo a rfl).1 g1).trans UQ
 ·rcases z with z|z
  ·refine f8 (f.sit.live b (.inl z)) fun nt z3t=> ?_;refine d6 z3t fun o e=> ?_;clear z3t;refine d6 (st.gr.slots b o (v7 e fun q=>cl.X (q▸z)) fun⟨_,t⟩=>nt t) fun sl e'=> ?_;exact⟨nt,_,e'⟩
  ·injection z with z;subst z;exact⟨(f.sit.live a (.inr rfl)).1,_,hb'⟩
theorem sH {es:List Expr} {vs:List V} (p:Pos) (hE: ∀n,I8 W n) (hg:C5 W k C.tb g) (t:J2 W C X k env sc oa σ s.heap) (x:v5 g sc σ es (.ok vs)):
  wpAny (model prog w) C.A (spliced (backTo p (starEach es env))) (xF C X oa s vs) (fun Z Z=>False) s:=by
 refine d6 x fun N hN=> ?_;clear x;have:=Q3 (hE (0+N)) hg p es t;rw[hN 0] at this;exact this
theorem Z3 {f:Str} {aF:Addr} {oF:Obj} {fd:FuncData} {es:List Expr} {fp p:Pos} {Q E:Value->Shared->Prop} (t:J2 W C X k env sc oa σ s.heap) (hk:sc.names.lookup f=some .globalImplicit) (hd:(f==("__debug__":Str))=false) (hn:W.mg f=some (.ref aF)) (ho:W.G.get? aF=some oF) (hfd:oF.data=.func fd)
  (hp:es.any Q1=false) (h:wpAny (model prog w) C.A (spliced (backTo p (starEach es env))) (fun us s₁=>s₁.heap.get? aF=some oF/\wpAny (model prog w) C.A (call (.ref aF) us []) Q E s₁) E s):wpAny (model prog w) C.A (eval (.Call (.Name f fp) es [] p) env) Q E s:=by
 have hk':env.kindOf f=some .globalImplicit:=by
  rcases t.envOk.kinds f _ hk with q|⟨q,_⟩
  ·exact q
  ·injection q
 refine wpAny_Call_NameR (Calls.Name_function_global t.envOk.kind hk' (Calls.loadGlobal_global (mg:=W.mg) ?_ hn ?_) hd)
 ·rw[t.envOk.globals];exact y6 t.wok.g t.inv.G
 ·exact Calls.callWith_function (o:=oF) (fd:=fd) (T9 p hp (wpAny_mono h (fun us s₁ q=>⟨⟨q.1,hfd⟩,q.2⟩) fun Z Z z=>z))
noncomputable def QL (W:Wd) (f:Str) (ps:List Str) (D:Fd):Prop:= ∃a o fd,Z8 W f ps D.body a o fd/\fd.scope=D.sc
theorem qH {m:Int} {b0 b1:Int} {es:List Expr} {fp p:Pos} {Q E:Value->Shared->Prop} {g':G} (hE: ∀n,I8 W n) (hg:C5 W (k+1) C.tb g) (hg':C5 W k C.tb g') (D:QL W "_law_take" ["box","many"] U3) (t:J2 W C X (k+1) env sc (some a) σ s.heap) (cl:qG W C a)
  (hk:sc.names.lookup ("_law_take":Str)=some .globalImplicit) (hp:es.any Q1=false) (x:v5 g sc σ es (.ok [.olist [.int b0,.int b1],.int m])) (hb:D0 s.heap a c) (hm:0<m/\m<1000000) (hc:c<1000000)
  (hQ: ∀d t s',0<=d->d<m->k9 C (fA s a) s'->D0 s'.heap a (c+1)->Q (.int d t) s'):wpAny (model prog w) C.A (eval (.Call (.Name "_law_take" fp) es [] p) env) Q E s:=by
 refine F5 D fun aT oT fd D hsc=> ?_;refine Z3 t hk (by decide) D.name D.obj D.data hp (wpAny_mono (sH p hE hg t x) (fun us s₁ q=>⟨(t.step q.1).inv.G _ _ D.obj,?_⟩) fun Z Z z=>z.elim);have n7:=t.step q.1;have hnt: ¬o4 a:=fun z=>(t.live a (t.oaX a rfl)).1 z;refine V6 hb fun c0 c1 t0 t1 n e r=> ?_;clear hb;have I4:=q.1.gr.keep a _ e (fun z=>hnt z.2) fun m=>cl.X (t.ok.locs a m);have q2:=q.2;rcases us with _|⟨u,_|⟨v,_|_⟩⟩<;>first|exact q2.elim|skip
 ·exact q2.2.elim
 ·refine n5 q2 fun q3 q4 Z=> ?_;clear q2;refine sW q3 fun a' Z Z Z z1 z2r Z=> ?_;clear q3;subst z2r;injection z1 with z1;subst z1;refine d6 (A1 (B1.plain q4 rfl)) fun tv z1r=> ?_;subst z1r;refine MH hE hg' t.wok D hsc t.ok t.wf (fun b z=>t.xg b (t.sub b z)) (fun b z=>n7.live b (t.sub b z)) n7.inv cl ⟨_,_,_,_,_,I4,r⟩ hm hc fun d t s' h0 h1 st hb'=>hQ d t s' h0 h1 ?_ hb';refine V6 hb' fun Z Z Z Z Z e' Z=> ?_;clear hb';exact yL I4 (yK q.1) st
 ·exact q2.2.2.elim
end
section
variable {W:Wd} {C C₀:Cx} {X:Xs} {k:Nat} {env:Env} {sc:Scope} {oa:Option Addr} {σ σ':d9} {s₀ s s₁ e7 s' s'':Shared} {g:G} {n:Nat} {opn:Option Str} {h h' h'' i8:Heap} {a b:Addr} {c:Nat} {o:Obj}
noncomputable abbrev XA (C:Cx) (a Cc D I:Addr):Xs:=XC (Xo C (some a)) Cc D I
structure fD (W:Wd) (C C₀:Cx) (k:Nat) (env:Env) (sc:Scope) (s₀:Shared) (a:Addr) (σ:d9) (s e7:Shared) (I D Cc:Addr) (fp:List Addr) (items:List V) (P:Nat->Value->Prop) (St:Nat->Heap->Prop):Prop where
 F:L9 W C C₀ env sc s₀
 f:j7 W C k env sc s₀ (some "box") (some a) σ s
 hb: ∃xs n,s.heap.get? a=some (listOf xs n)
 itn:DR (Xo C (some a)) I fp items P St e7.heap
 st₂:k9 C s e7
 DC:D≠Cc
 ID:I≠D
 IC:I≠Cc
 sI:s.heap.get? I=none
 sD:s.heap.get? D=none
 sC:s.heap.get? Cc=none
 s₂D:e7.heap.get? D=none
 s₂C:e7.heap.get? Cc=none
noncomputable def MI (h:Heap) (D:Addr) (ts:List b9) (j:Nat):Prop:=
 ∃(o:Obj) (ys:List Value) (m:Nat) (pcs:List b9),h.get? D=some o/\o.cls=.type "list"/\o.data=.seq (Array.mk ys) m/\(∀(h:Heap) (X:Xs),Rps h X ys (pcs.map V.str))/\pcs.length=j/\ ∀t∈pcs,t∈ts
structure TJ (C:Cx) (a:Addr) (c:Nat) (ts:List b9) (s:Shared) (I D Cc:Addr) (St:Nat->Heap->Prop) (i j m:Nat) (s':Shared):Prop where
 step:k9 C (fA s a) s'
 box:D0 s'.heap a (c+m)
 st:St i s'.heap
 ns: ∃m,s'.heap.Ns Cc m
 acc:MI s'.heap D ts j
 nc:u9 s'.heap I
section
variable {I D Cc:Addr} {fp:List Addr} {items:List V} {P:Nat->Value->Prop} {St:Nat->Heap->Prop} {ts:List b9} (Z:fD W C C₀ k env sc s₀ a σ s e7 I D Cc fp items P St) {i j m i' j' m' tk:Nat}
include Z
theorem fD.ne (e:s.heap.get? b=none):b≠a:=fun q=>by refine C0 Z.hb fun xs n z=> ?_;rw[q,z] at e;injection e
theorem fD.nt (e:s.heap.get? b=none): ¬o4 b:=o6 Z.f.sit.inv.tabs e
theorem fD.nl (e:s.heap.get? b=none):b∉C.locs:=fun m=>by refine f8 (Z.f.sit.inv.locSome m) fun Y z2t=> ?_;refine e8 z2t fun o e' Y=> ?_;clear z2t;rw[e] at e';injection e'
theorem fD.inv (J:TJ C a c ts s I D Cc St i j m s'):aM W C s'.heap:=by
 refine C0 Z.hb fun xs n z=> ?_;exact(fC Z.f.sit.ok (Z.f.clear Z.F) z Z.f.sit.inv).gr Z.f.sit.ok Z.f.sit.wf J.step.gr
theorem fD.fpk (hb:b∈fp):b=I\/(b≠Cc/\b≠D/\b∉C.locs/\ ¬o4 b/\b≠a):=(Z.itn.fps b hb).imp id fun⟨o,e,c,_,nx⟩=>
 ⟨fun q=>no (Z.s₂C.symm.trans (q▸e)),fun q=>no (Z.s₂D.symm.trans (q▸e)),fun m=>nx (.inl (Z.f.sit.ok.locs b m)),(fun z=>by
  refine d6 ((Z.f.sit.step Z.st₂).inv.tabNone z) fun ps z'=> ?_;rw[e] at z';rw[Option.some.inj z'] at c;injection c),fun q=>nx (.inr (by rw[q]))⟩
theorem fD.but (J:TJ C a c ts s I D Cc St i j m s') (ha:b=Cc\/b=D\/b=I) (hk: ∀x o,x≠b->s'.heap.get? x=some o->i8.get? x=some o) (mu:nM s'.heap b) (hst:St i' i8) (hns: ∃m,i8.Ns Cc m)
  (hacc:MI i8 D ts j'):TJ C a c ts s I D Cc St i' j' m {s' with heap:=i8,toks:=tk}:=by
 refine C0 Z.hb fun xs n z=> ?_;have sb:s.heap.get? b=none:=ha.elim (fun e=>e▸Z.sC) fun h=>h.elim (fun e=>e▸Z.sD) fun e=>e▸Z.sI;have rb:(fA s a).heap.get? b=none:=by
  cases q:(fA s a).heap.get? b with
  |none=>rfl
  |some o=>have:=M8 q;rw[sb] at this;injection this
 refine⟨?_,?_,hst,hns,hacc,J.nc.but (Z.inv J).tabs mu hk⟩
 ·refine r0 J.step fun h' tk' e gr=> ?_;exact⟨i8,tk,by rw[e],gr.but rb (M9 z Z.f.sit.inv.tabs) (by rw[e] at mu;exact mu) (by rw[e] at hk;exact hk)⟩
 ·refine V6 J.box fun b0 b1 t0 t1 n e r=> ?_;exact⟨b0,b1,t0,t1,n,hk _ _ (Z.ne sb).symm e,r⟩
omit Z in
theorem TJ.ns' (J:TJ C a c ts s I D Cc St i j m s') {h:Heap} (k: ∀o,s'.heap.get? Cc=some o->h.get? Cc=some o): ∃m,h.Ns Cc m:=nK (J.ns) fun m o es ep e r=>⟨m,o,es,ep,k _ e,r⟩
omit Z in
theorem TJ.acc' (J:TJ C a c ts s I D Cc St i j m s') {h:Heap} (k: ∀o,s'.heap.get? D=some o->h.get? D=some o):MI h D ts j:=
 nK (J.acc) fun o ys m pcs e r=>⟨o,ys,m,pcs,k _ e,r⟩
theorem fD.mutI {h:Heap} (st:St i h) (nc:u9 h I):nM h I:=iJ (Z.itn.live _ _ st) fun o e c1 c2 Y=>⟨o,e,.inr ⟨c1,c2,nc⟩⟩
theorem fD.frame (st:St i s'.heap) (ha:b=Cc\/b=D) (hk: ∀x o,x≠b->s'.heap.get? x=some o->i8.get? x=some o):St i i8:=
 (Z.itn.walks _ Z.f.sit.ok.handled).frame _ _ _ st fun x hx o e=>hk x o (fun q=>by
  rcases Z.fpk hx with z|⟨z1,z2,_⟩
  ·rcases ha with y|y
   ·exact Z.IC (z.symm.trans (q.trans y))
   ·exact Z.ID (z.symm.trans (q.trans y))
  ·rcases ha with y|y
   ·exact z1 (q.trans y)
   ·exact z2 (q.trans y)) e
theorem fD.goes (J:TJ C a c ts s I D Cc St i j m s') (st:k9 C (fA s' a) s'') (hb:D0 s''.heap a (c+m')):TJ C a c ts s I D Cc St i j m' s'':=by
 refine V6 J.box fun b0 b1 t0 t1 n e Y=> ?_;have kp: ∀{b o},b∉C.locs-> ¬o4 b->b≠a->s'.heap.get? b=some o->s''.heap.get? b=some o:=fun l t na e=>st.gr.keep _ _ (v7 e na) (fun z=>t z.2) l;have kn: ∀{b o},s.heap.get? b=none->s'.heap.get? b=some o->s''.heap.get? b=some o:=fun sb=>kp (Z.nl sb) (Z.nt sb) (Z.ne sb);refine⟨yL e J.step st,hb,(Z.itn.walks _ Z.f.sit.ok.handled).frame _ _ _ J.st fun x hx o e=> ?_,J.ns' fun o=>kn Z.sC,J.acc' fun o=>kn Z.sD,?_⟩
 ·rcases Z.fpk hx with q|⟨_,_,q1,q2,q3⟩
  ·exact kn (q▸Z.sI) e
  ·exact kp q1 q2 q3 e
 ·refine e8 (Z.itn.live _ _ J.st) fun o e' Y=> ?_;exact st.gr.codes (M9 e (Z.inv J).tabs) I o (v7 e' (Z.ne Z.sI)) (Z.nt Z.sI) fun x hx ps q=>J.nc x hx ps (M8 q)
theorem fD.kx (x:XA C a Cc D I b):Xo C (some a) b\/ ∀o,s.heap.get? b=some o-> ¬I7 o:=x.imp id fun x o e=>by
 rcases x with x|x|x
 ·exact no ((x▸Z.sC).symm.trans e)
 ·exact no ((x▸Z.sD).symm.trans e)
 ·exact no ((x▸Z.sI).symm.trans e)
theorem fD.sit {csc:Scope} {cenv:Env} {σ':d9} (J:TJ C a c ts s I D Cc St i j m s') (ek:V9 cenv csc) (st:Mine.St cenv (some a) (XA C a Cc D I) s'.heap σ'):J2 W C (XA C a Cc D I) k cenv csc (some a) σ' s'.heap:=by
 have hxn: ∀b,s.heap.get? b=none->W.G.get? b=none:=fun b e=>by
  cases q:W.G.get? b with
  |none=>rfl
  |some o=>exact no (e.symm.trans (Z.f.sit.inv.G _ _ q))
 refine⟨Z.f.sit.wok,Z.f.sit.ok,Z.f.sit.wf,fun b x=>.inl (.inl x),fun b x=> ?_,fun b x=> ?_,Z.inv J,ek,st,fun b e=>.inl (.inr e)⟩
 ·rcases x with x|x|x|x
  ·exact Z.f.sit.xg b x
  ·exact x▸hxn _ Z.sC
  ·exact x▸hxn _ Z.sD
  ·exact x▸hxn _ Z.sI
 ·rcases x with(x|x)|x|x|x
  ·refine f8 (Z.f.sit.live b (.inl x)) fun nt z1t=> ?_;refine d6 z1t fun o e=> ?_;clear z1t;refine d6 (J.step.gr.slots b o (v7 e fun q=>(Z.f.newo a rfl).2 (q▸x)) fun⟨_,t⟩=>nt t) fun sl e'=> ?_;exact⟨nt,_,e'⟩
  ·injection x with x;subst x;refine V6 J.box fun b0 b1 t0 t1 n e Y=> ?_;exact⟨(Z.f.sit.live a (.inr rfl)).1,_,e⟩
  ·refine nK J.ns fun m o es ep e Y=> ?_;exact⟨x▸Z.nt Z.sC,x▸⟨o,e⟩⟩
  ·refine nK J.acc fun o ys m Y e Y=> ?_;exact⟨x▸Z.nt Z.sD,x▸⟨o,e⟩⟩
  ·refine e8 (Z.itn.live _ _ J.st) fun o e Y=> ?_;exact⟨x▸Z.nt Z.sI,x▸⟨o,e⟩⟩
end
end
noncomputable def dH:Scope:=eS (eK (sE (i4 M5.body 1)) 0)
section
variable {W:Wd} {C C₀:Cx} {X:Xs} {k:Nat} {env:Env} {oa:Option Addr} {σ σ':d9} {s₀ s s₁ e7 s' s'':Shared} {g g':G} {n:Nat} {opn:Option Str} {h h' h'' i8:Heap} {a b:Addr} {c:Nat} {o:Obj}
variable {I D Cc:Addr} {fp:List Addr} {items:List V} {P:Nat->Value->Prop} {St:Nat->Heap->Prop} {ts:List b9} {i tk:Nat}
theorem J9 (nt: ¬o4 a) (nl:a∉C.locs) (hb:D0 s.heap a c) (st:k9 C s s'):D0 s'.heap a c:=by
 refine V6 hb fun b0 b1 t0 t1 n e r=> ?_;clear hb;exact⟨b0,b1,t0,t1,n,st.gr.keep a _ e (fun z=>nt z.2) nl,r⟩
theorem CZ (hE: ∀n,I8 W n) (hg:C5 W (k+1) C.tb g) (hlen:g.fn "len"=none) (hg':C5 W k C.tb g') (DT:QL W "_law_take" ["box","many"] U3) (Z:fD W C C₀ (k+1) env M5.sc s₀ a σ s e7 I D Cc fp items P St)
  {ds:List V} (hbx:σ.get "box"=some (.olist ds)) (hps:σ.get "pieces"=some (.list (ts.map V.str))) (hts:0<ts.length/\ts.length<1000) (hc:c+i<1000000) (hi:i<1000) (J:TJ C a c ts s I D Cc St i i i s') (hlt:i<items.length) (hint: ∀d,items[i]? =some d-> ∃z,d=.int z)
  {v:Value} (hv:P i v) (hst:St (i+1) i8) (hk: ∀b o,b≠I->s'.heap.get? b=some o->i8.get? b=some o) {kp p1 p2 p3 p4 p5 p6 p7 p8:Pos} (Q:Shared->Prop) (hQ: ∀l6,TJ C a c ts s I D Cc St (i+1) (i+1) (i+1) l6->Q l6):
  wpAny (model prog w) C.A (letOwnedTupleGo (.Name "k" kp) (.ref I) v) (fun Y s₀=>wpAny (model prog w) C.A (assign (.Name "k" kp) (compEnvC dH (F7 env dH.names []) Cc env) v) (fun Y e7=>
     wpAny (model prog w) C.A (forIn ([]:List Expr) true fun c r=>if r=true then do let ok <-isTrue c (compEnvC dH (F7 env dH.names []) Cc env) (eval c (compEnvC dH (F7 env dH.names []) Cc env));pure (ForInStep.yield ok) else pure (ForInStep.yield r)) (fun ok l6=>if ok=true then
      wpAny (model prog w) C.A (eval (.Subscript (.Name "pieces" p1) (.Call (.Name "_law_take" p2) [.Name "box" p3,.Call (.Name "len" p4) [.Name "pieces" p5] [] p6] [] p7) p8) (compEnvC dH (F7 env dH.names []) Cc env)) (fun x C4=>
      wpAny (model prog w) C.A (call (.builtin "list.append") [.ref D,x]) (fun Y C8=>Q C8) (fun Y Y=>False) C4) (fun Y Y=>False) l6
      else Q l6) (fun Y Y=>False) e7)
     (fun Y Y=>False) s₀) (fun Y Y=>False) {s' with heap:=i8,toks:=tk}:=by
 have hlim:i0=1048576:=rfl;have hco:s9 M5.sc dH=true:=by decide+kernel
 refine f8 (J6 hco) fun hn1 Y=> ?_;have ek:V9 (compEnvC dH (F7 env dH.names []) Cc env) dH:=kP hco Z.f.sit.envOk Cc;have cl:=Z.f.clear Z.F;have ok:=Z.f.sit.ok;have nta:=(Z.f.sit.live a (.inr rfl)).1;have cI:TJ C a c ts s I D Cc St (i+1) i i {s' with heap:=i8,toks:=tk}:=Z.but J (.inr (.inr rfl)) hk (Z.mutI J.st J.nc) hst (J.ns' fun o=>hk _ o Z.IC.symm) (J.acc' fun o=>hk _ o Z.ID.symm);refine V6 cI.box fun b0 b1 t0 t1 n e Y=> ?_;refine C0 Z.hb fun xs nn hb=> ?_;have stX:Mine.St env (some a) (XA C a Cc D I) i8 (σ.set "box" (.olist [.int b0,.int b1])):=
  IK (s':={s' with heap:=i8,toks:=tk}) ok cl Z.f.sit.inv (fun b x=>.inl (.inl x)) (.inl (.inr rfl)) (Z.f.sit.st.more fun b=>Z.kx) (fun y v e z=>(Option.some.inj (Z.f.only y v e z)).symm) hbx hb cI.step e
 refine d6 cI.ns fun mC nsC=> ?_;have cst:=aQ (s:=({s' with heap:=i8,toks:=tk}:Shared)) hco Z.f.sit.envOk stX (cenv:=compEnvC dH (F7 env dH.names []) Cc env) rfl (fun x kd e q=>Y4 e q hn1) ek nsC;refine e8 (Z.itn.vals i v hlt hv) fun d hd rd=> ?_;refine d6 (hint d hd) fun z z6r=> ?_;subst z6r;refine d6 (A1 rd) fun tz z5r=> ?_;subst z5r;refine Z.itn.go _ _ (i+1) _ _ _ _ (.inl ⟨_,_,rfl⟩) hst ?_;refine wpAny_mono (pN (C:=C) (h0:=ok.handled) (t:=.Name "k" kp) (σ':=(i5 (σ.set "box" (.olist [.int b0,.int b1])) M5.sc dH).set "k" (.int z)) cst ek (show(dH.names.lookup ("k":Str)==some .local)=true by decide+kernel) (.inr (.inl rfl)) (.int z tz) rfl) (fun Y l6 q=> ?_) fun Y Y x=>x;refine cQ q fun dK cP z4r bP yP G8=> ?_;clear q;subst z4r;have bP: ∀b o,b≠Cc->i8.get? b=some o->dK.get? b=some o:=bP;have W7:TJ C a c ts s I D Cc St (i+1) i i {s' with heap:=dK,toks:=cP}:=Z.but (s':={s' with heap:=i8,toks:=tk}) (tk:=cP) cI (.inl rfl) bP (FQ cI.ns) (Z.frame (s':={s' with heap:=i8,toks:=tk}) cI.st (.inl rfl) bP) yP (cI.acc' fun o=>bP _ o Z.DC);have dM:=Z.sit W7 ek G8;generalize ({s' with heap:=dK,toks:=cP}:Shared)=l6 at W7 dM ⊢;refine wpAny_pure ?_;rw[if_pos rfl];have g1:((i5 (σ.set "box" (.olist [.int b0,.int b1])) M5.sc dH).set "k" (.int z)).get "box"=some (.olist [.int b0,.int b1]):=d9.ne (by decide) (M7 d9.same (by decide+kernel));have g2:((i5 (σ.set "box" (.olist [.int b0,.int b1])) M5.sc dH).set "k" (.int z)).get "pieces"=some (.list (ts.map V.str)):=d9.ne (by decide) (M7 (d9.ne (by decide) hps) (by decide+kernel));have n1:=g6 (sc:=dH) (g:=g) g1 (by decide+kernel) (by decide);have n2:=g6 (sc:=dH) (g:=g) g2 (by decide+kernel) (by decide);have hname:=O5 hg dM "pieces" p1;rw[n2] at hname;refine Subscript_ (wpAny_mono hname (fun ov C4 O0=> ?_) fun Y Y x=>x.elim);have nE:=Z.goes W7 (yK O0.1) (J9 nta Z.f.nota W7.box O0.1);have nF:=dM.step O0.1;have hl:(ts.map V.str).length<=i0:=by rw[List.length_map];omega
 have ex:v5 g dH ((i5 (σ.set "box" (.olist [.int b0,.int b1])) M5.sc dH).set "k" (.int z)) [.Name "box" p3,.Call (.Name "len" p4) [.Name "pieces" p5] [] p6] (.ok [.olist [.int b0,.int b1],.int ((ts.map V.str).length:Nat)]):=
  .cons (.name n1) (.cons (.bcall (.cons (.name n2) .nil) hlen (by decide) (eO hl) (Bool.and_eq_true_iff.mpr ⟨Bool.and_eq_true_iff.mpr ⟨by decide+kernel,by decide⟩,rfl⟩) rfl) .nil)
 rw[List.length_map] at ex;refine qH hE hg hg' DT nF cl (by decide+kernel) rfl ex nE.box ⟨by omega,by omega⟩ hc fun d t C8 h0 h1 wN wM=> ?_;have Z5:=Z.goes (m':=i+1) nE wN wM;refine V6 nE.box fun Y Y Y Y Y YW Y=> ?_;have yR:Rp (fA C4 a).heap (XA C a Cc D I) ov (.list (ts.map V.str)):=(O0.2.plain rfl).carry fun b o e nx Y=>v7 e fun q=>nx (.inl (.inr (by rw[q])));have UR:B1 C8.heap (XA C a Cc D I) (some a) ov (.list (ts.map V.str)):=.of (yR.carry ((fC ok cl YW nF.inv).carry ok wN.gr fun b x=>.inl (.inl x)));refine d6 (Int.eq_ofNat_of_zero_le h0) fun j z3r=> ?_;subst z3r;have hj:j<ts.length:=by omega
 have hix:P1 (.list (ts.map V.str)) (.int (j:Int))=.ok (.str ts[j]):=HP hl (by rw[List.getElem?_map,List.getElem?_eq_getElem hj];rfl);have key:=zA (C:=C) UR (u:=ov) (v:=.int (j:Int) t) (i:=.int (j:Int)) (.int _ _);rw[hix] at key;refine r0 (NQ UR hix) fun T id hT hlk=> ?_;refine subscriptTail_builtin hT hlk (wpAny_mono key (fun x JN RK=> ?_) fun Y Y z=>z.elim) (T8 rfl _ _) (fun Y=>rfl);have MW:=Z.goes Z5 (yK RK.1) (J9 nta Z.f.nota Z5.box RK.1);refine d6 (s6 (RK.2.plain rfl)) fun tx z2r=> ?_;subst z2r;refine X1 MW.acc fun oD ys mD pcs eD cD dD rD lD mm=> ?_;have hyl:ys.length=i:=((rD JN.heap (fun Y=>False)).length.trans (List.length_map _)).trans lD;refine wpAny_list_append ⟨oD,eD,cD,mD,dD⟩ (fun MU wF JG=>hQ _ ?_) (by show ys.length<=_;rw[hyl];have:=D5;omega);refine r6 wF fun QX QY QZ z1t=> ?_;clear wF;refine d6 z1t fun RA RB=> ?_;clear z1t;have wG: ∀b o,b≠D->JN.heap.get? b=some o->MU.get? b=some o:=fun b o nb e=>(JG.2 b nb).trans e;exact Z.but (tk:=JN.toks) MW (.inr (.inl rfl)) wG ⟨oD,eD,.inl fun vs z=>nomatch dD.symm.trans z⟩ (Z.frame MW.st (.inr rfl) wG) (MW.ns' fun o=>wG _ o Z.DC.symm)
  ⟨QX,ys++[.str ⟨ts[j].toArray⟩ tx],RA,pcs++[ts[j]],QY,QZ,by rw[RB];simp,fun h X=>by rw[List.map_append];exact(rD h X).append (.cons (.str _ _) .nil),by rw[List.length_append,lD];rfl,fun t ht=>by
   rcases List.mem_append.mp ht with z|z
   ·exact mm t z
   ·rw[List.mem_singleton.mp z];exact List.getElem_mem hj⟩
end
section
variable {W:Wd} {C C₀:Cx} {X:Xs} {k:Nat} {env:Env} {oa:Option Addr} {σ σ':d9} {s₀ s s₁ e7 s' s'':Shared} {g g':G} {n:Nat} {opn:Option Str} {h h' h'' i8:Heap} {a b:Addr} {c:Nat} {o:Obj} {ts:List b9}
theorem DA (hE: ∀n,I8 W n) (hg:C5 W (k+1) C.tb g) (hlen:g.fn "len"=none) (hg':C5 W k C.tb g') (DT:QL W "_law_take" ["box","many"] U3) (Fr:L9 W C C₀ env M5.sc s₀) (f:j7 W C (k+1) env M5.sc s₀ (some "box") (some a) σ s)
  {ds:List V} (hbx:σ.get "box"=some (.olist ds)) (hps:σ.get "pieces"=some (.list (ts.map V.str))) (hts:0<ts.length/\ts.length<1000) {m:Nat} (hm:m<1000) (hc:c+m<1000000) (hb:D0 s.heap a c) {xv:Value} (r:B1 s.heap (Xo C (some a)) (some a) xv (.rng (m:Int)))
  {kp p1 p2 p3 p4 p5 p6 p7 p8 pos:Pos} {iter:Expr} (RR:Value->Addr->Result->Shared->Prop)
  (hRR: ∀D Cc s',D≠Cc->a≠Cc->(fA s a).heap.get? Cc=none->k9 C (fA s a) s'->D0 s'.heap a (c+m)->(∃m,s'.heap.Ns Cc m)->MI s'.heap D ts m->RR (.ref D) Cc (.ok .next) s'):
  wpAny (model prog w) C.A (pyIter xv) (fun it e7=>wpAny (model prog w) C.A (newList []) (fun acc l6=>wpAny (model prog w) C.A (newFunctionEnv dH env.globals (F7 env dH.names []) [] env.qual none .none (some env)) (fun cenv C4=>
   codeAny (model prog w) C.A (.compStart (.ListComp (.Subscript (.Name "pieces" p1) (.Call (.Name "_law_take" p2) [.Name "box" p3,.Call (.Name "len" p4) [.Name "pieces" p5] [] p6] [] p7) p8) [⟨.Name "k" kp,iter,[],0⟩] dH pos) 0 it acc {cenv with scope:=relabel dH env}) (RR acc cenv.locals) C4) (fun Y Y=>False) l6) (fun Y Y=>False) e7) (fun Y Y=>False) s:=by
 have hlim:i0=1048576:=rfl;have hco:s9 M5.sc dH=true:=by decide+kernel
 refine Q0 (J6 hco) fun hn1 hn2 hn3 hn4=> ?_;have hi:s0 (.rng (m:Int))=.ok ((List.range m).map fun(k:Nat)=>V.int (k:Int)):=if_pos (show(m:Int).natAbs<=i0 by omega);refine wpAny_mono (jF f.sit.ok f.sit.xn r hi) (fun it e7 q=> ?_) fun Y Y x=>x;refine X0 q fun fp P St z3r st₂ V4 itn=> ?_;clear q;subst z3r;generalize hitems:((List.range m).map fun(k:Nat)=>V.int (k:Int))=items at itn;have hil:items.length=m:=by rw[<-hitems,List.length_map,List.length_range]
 have hint: ∀i d,items[i]? =some d-> ∃z,d=V.int z:=fun i d e=>by
  rw[<-hitems,List.getElem?_map] at e;refine e8 (Option.map_eq_some_iff.mp e) fun x Y z2r=> ?_;subst z2r;exact⟨_,rfl⟩
 generalize hI:s.heap.objs.size=I at itn ⊢;refine wpAny_newObj_type (wpAny_newFunctionEnv hn1 (by intro y hy;simp at hy) (fun y5 P3 S9=> ?_) hn4);dsimp only at P3 S9 ⊢;generalize hH2:e7.heap.push {cls:=.type "list",dict:=none,data:=.seq ([]:List Value).toArray}=H2 at P3 S9 ⊢;generalize hD:e7.heap.objs.size=D;have hC:H2.objs.size=D+1:=by rw[<-hH2,Heap.size_push,hD]
 generalize hCc:H2.objs.size=Cc at P3 S9 hC ⊢;have hID:I<D:=by
  refine e8 (itn.live 0 _ itn.st) fun oI eI Y=> ?_;rw[<-hD];exact Heap.lt_size eI
 refine V6 (id hb) fun b0 b1 t0 t1 nb eb rb=> ?_;have Z:fD W C C₀ (k+1) env M5.sc s₀ a σ s e7 I D Cc fp items P St:=
  have h1:D≠Cc:=by omega
  have h2:I≠D:=by omega
  have h3:I≠Cc:=by omega
  ⟨Fr,f,⟨_,_,eb⟩,itn,st₂,h1,h2,h3,A2 (by omega),A2 (by omega),A2 (by omega),A2 (by omega),A2 (by omega)⟩
 have sS: ∀b o,e7.heap.get? b=some o->y5.get? b=some o:=fun b o e=>
  S9.extBut b o (fun q=>no (Z.s₂C.symm.trans (q▸e))) (Heap.get?_push_of_some _ (hH2▸Heap.get?_push_of_some _ e))
 have hacc:y5.get? D=some {cls:=.type "list",dict:=none,data:=.seq ([]:List Value).toArray}:=
  S9.extBut _ _ Z.DC (Heap.get?_push_of_some _ (hH2▸hD▸Heap.get?_push_size _ rfl))
 have nG:St 0 y5:=(itn.walks _ f.sit.ok.handled).frame _ _ _ itn.st fun b Y o e=>sS b o e;have rn: ∀{b},s.heap.get? b=none->(fA s a).heap.get? b=none:=fun {b} e=>by
  cases q:(fA s a).heap.get? b with
  |none=>rfl
  |some o=>have:=M8 q;rw[e] at this;injection this
 have loop: ∀l6:Shared,l6={e7 with heap:=y5,toks:=e7.toks+([]:List (Str×Value)).length}->
   codeAny (model prog w) C.A (.compLoop (.ListComp (.Subscript (.Name "pieces" p1) (.Call (.Name "_law_take" p2) [.Name "box" p3,.Call (.Name "len" p4) [.Name "pieces" p5] [] p6] [] p7) p8) [⟨.Name "k" kp,iter,[],0⟩] dH pos) 0 (.ref I) (.ref D) (compEnvC dH (F7 env dH.names []) Cc env)) (RR (.ref D) Cc) l6:=by
  intro l6 JH;refine tX (fun m' s'=> ∃i,m'=items.length+1-i/\i<=items.length/\TJ C a c ts s I D Cc St i i i s') (fun m' s' hJ=> ?_) (items.length+1) ⟨0,by omega,by omega,?_⟩
  ·refine r6 hJ fun i z1r hile J=> ?_;clear hJ;subst z1r;by_cases hlt:i<items.length
   ·refine(itn.walks _ f.sit.ok.handled).item i s' _ _ hlt J.st fun v i8 tk hv bQ T0=> ?_;exact CZ hE hg hlen hg' DT Z hbx hps hts (by omega) (by omega) J hlt (hint i) hv bQ (fun b o nb e=>T0 b o (fun q=>nb (List.mem_singleton.mp q)) e) _ fun l6 W7=>⟨items.length+1-(i+1),by omega,i+1,rfl,hlt,W7⟩
   ·have him:i=m:=by omega
    refine(itn.walks _ f.sit.ok.handled).done s' _ _ (by rw[show items.length=i by omega];exact J.st) fun i8 tk T0=> ?_;have V5: ∀b o,b≠I->s'.heap.get? b=some o->i8.get? b=some o:=fun b o nb e=>T0 b o (fun q=>nb (List.mem_singleton.mp q)) e;have mI:=Z.mutI J.st J.nc;subst him;refine hRR D Cc _ Z.DC (Z.ne Z.sC).symm (rn Z.sC) ?_ ?_ (J.ns' fun o=>V5 _ o Z.IC.symm) (J.acc' fun o=>V5 _ o Z.ID.symm)
    ·refine r0 J.step fun h' tk' e gr=> ?_;exact⟨i8,tk,by rw[e],gr.but (rn Z.sI) (M9 eb f.sit.inv.tabs) (by rw[e] at mI;exact mI) (by rw[e] at V5;exact V5)⟩
    ·refine V6 J.box fun c0 c1 u0 u1 nn e r=> ?_;exact⟨c0,c1,u0,u1,nn,V5 _ _ (Z.ne Z.sI).symm e,r⟩
  ·rw[JH];refine⟨?_,⟨b0,b1,t0,t1,nb,sS _ _ (V4 _ _ eb),rb⟩,nG,⟨_,P3⟩,⟨_,[],0,[],hacc,rfl,rfl,fun Y Y=>.nil,rfl,fun Y h=>nomatch h⟩,((u9.new f.sit.inv.tabs Z.sI).keeps f.sit.inv.tabs V4).keeps (f.sit.step st₂).inv.tabs sS⟩;refine r0 st₂ fun h' tk' e gr=> ?_;clear st₂;exact⟨y5,_,by rw[e];rfl,.of_keep fun b o e=>sS b o (V4 b o (M8 e))⟩
 exact codeAny_compStart_list (loop _ rfl) ((itn.walks _ f.sit.ok.handled).self 0 _ _ _ nG (loop _ rfl))
end
section
variable {W:Wd} {C C₀:Cx} {X:Xs} {k:Nat} {env:Env} {oa:Option Addr} {σ σ':d9} {s₀ s s₁ e7 s' s'':Shared} {g g':G} {n:Nat} {opn:Option Str} {h h' h'' i8:Heap} {a b:Addr} {c:Nat} {o:Obj} {ts:List b9}
theorem yM: ∀{l ts:List b9} (_: ∀t∈ts,t.length<=10) (_: ∀t∈l,t∈ts),X4 l<=10*l.length
 |[],_,_,_=>Nat.le_refl _
 |x::r,ts,h,m=>by
  have h1:=h x (m x (.head _));have h2:=yM h fun t ht=>m t (.tail _ ht);show x.length+X4 r<=10*(r.length+1);omega
theorem MJ {aT:Addr} {oT:Obj} {fd:FuncData} {m tm:Nat} {Fp:List V->R V} {Q E:Value->Shared->Prop} (hE: ∀n,I8 W n) (hg:C5 W (k+1) C.tb g) (hlen:g.fn "len"=none) (hrng:g.fn "range"=none) (hpc:g.fn "_law_pieces"=some Fp) (hF:Fp []=.ok (.list (ts.map V.str)))
  (hg':C5 W k C.tb g') (DT:QL W "_law_take" ["box","many"] U3) (wok:W.Ok) (D:Z8 W "_law_text" ["box","many"] M5.body aT oT fd) (hsc:fd.scope=M5.sc)
  (ok:C.Ok (k+2)) (wf:W.Fits C) (hxg: ∀a,C.X a->W.G.get? a=none) (hlive: ∀a,C.X a-> ¬o4 a/\ ∃o,s.heap.get? a=some o) (inv:aM W C s.heap) (cl:qG W C a) (hb:D0 s.heap a c) (hm:m<1000) (hc:c+m<1000000) (hts:0<ts.length/\ts.length<1000) (h9: ∀t∈ts,t.length<=10)
  (hQ: ∀pcs t s',pcs.length=m->(∀x∈pcs,x∈ts)->k9 C (fA s a) s'->D0 s'.heap a (c+m)->Q (.str ⟨(List.flatten pcs).toArray⟩ t) s'):wpAny (model prog w) C.A (call (.ref aT) [.ref a,.int (m:Int) tm] []) Q E s:=by
 have hlim:i0=1048576:=rfl;refine V6 hb fun b0 b1 t0 t1 n hb rb=> ?_;refine wpAny_call (uF (s₀:=fA s a) (X:=C.X) (σ:=[("box",.olist [.int b0,.int b1]),("many",.int (m:Int))]) (opn:=some "box") (oa:=some a) wok D ok wf (fun Z x=>x) hxg hlive inv ⟨_,_,rfl⟩ (fun Z Z e=>M8 e)
  (fun b o e=>v7 (inv.base b o e) (fun q=>by rw[q,cl.base] at e;injection e)) (fun b o e=>v7 (inv.G b o e) (fun q=>by rw[q,cl.G] at e;injection e)) (M9 hb inv.tabs) (fun b e=>by injection e with e;subst e;exact⟨mW,cl.X,_,hb⟩) rfl
  (fun x v e=> ?_) (fun x v e z=> ?_) fun env C' s₁ hX htb Z keep F f=> ?_)
 ·rcases jP e with⟨rfl,rfl⟩|⟨rfl,rfl⟩
  ·exact⟨_,rfl,.head _,a,_,[.int b0 t0,.int b1 t1],n,rfl,rfl,hb,⟨rfl,rfl⟩,rfl,.cons (.int _ _) (.cons (.int _ _) .nil)⟩
  ·exact⟨_,rfl,.tail _ (.head _),.int _ _⟩
 ·rcases jP e with⟨rfl,rfl⟩|⟨rfl,rfl⟩
  ·rfl
  ·injection z
 rw[hsc] at F f;have AP:C5 W (k+1) C'.tb g:=htb▸hg;have US:C5 W k C'.tb g':=htb▸hg';have P8:=keep _ _ hb;have nta:=(f.sit.live a (.inr rfl)).1;rw[show M5.body=[i4 M5.body 0,i4 M5.body 1] from rfl];have hl:(ts.map V.str).length<=i0:=by rw[List.length_map];omega
 refine wpAny_execs_cons (wpAny_Assign_Name (wpAny_mono (bM hE AP f.sit (v:=.list (ts.map V.str)) (.call .nil hpc hF (by decide+kernel) rfl rfl)) (fun u e7 q=> ?_) fun Z Z z=>z.elim) (H1 rfl));refine wpAny_mono (B4 F (f.step' q.1) (x:="pieces") (.inr rfl) q.2 (fun z=>by injection z)) (fun Z l6 P0=> ?_) fun Z Z z=>z.elim;refine n5 P0 fun E3 Z kq=> ?_;clear P0;have P9:=kq _ _ _ _ (f.same q.1 P8) rfl;have YX:D0 l6.heap a c:=⟨_,_,_,_,_,P9,rb⟩;refine wpAny_execs_cons (wpAny_Return_some (Call_method1 (jE (Str.ofString "join") rfl) rfl rfl (wpAny_mono (bM hE AP E3.sit (v:=.str []) (.str rfl)) (fun u C4 O0=> ?_) fun Z Z z=>z.elim)));refine d6 (s6 (O0.2.plain rfl)) fun tj z2r=> ?_;subst z2r;have T5:=E3.step' O0.1;have YY:=J9 nta E3.nota YX O0.1;refine SB.join (wpAny_mono (E:=fun Z Z=>False) ?_ (fun Z Z z=>z) fun Z Z z=>z.elim);have hco:s9 M5.sc dH=true:=by decide+kernel
 refine Q0 (J6 hco) fun hn1 hn2 hn3 hn4=> ?_;have hrg:jT [.int (m:Int)]=.ok (.rng (m:Int)):=if_pos (show(m:Int).natAbs<=i0 by omega);show wpAny _ _ (eval (.ListComp _ _ _ _) env) _ _ _;rw[eval_ListComp];refine wpAny_comprehension_free (use:=none) rfl (fun Z=>rfl) (Y3 (R5 hco T5.sit.envOk T5.sit.st)) hn4 hn2
  (wpAny_mono (bM hE AP T5.sit (v:=.rng (m:Int)) (.bcall (.cons (.name (g6 (v:=.int (m:Int)) (d9.ne (by decide) rfl) (by decide+kernel) (by decide))) .nil) hrng (by decide) hrg (by decide+kernel) rfl)) (fun xv C8 fG=> ?_) fun Z Z x=>x.elim)
 have bR:=T5.step' fG.1;have UT:=J9 nta T5.nota YY fG.1;refine V6 (id UT) fun Z Z Z Z Z UU Z=> ?_;refine DA hE AP hlen US DT F bR (ds:=[.int b0,.int b1]) (d9.ne (by decide) rfl) d9.same hts hm hc UT fG.2 (fun acc Cc=>compPost (model prog w) C'.A (fun Z Z=>False) none _ acc Cc) fun DD Cc JN hDC haC rC OD UV hns hacc=> ?_;refine d6 hns fun mm hm'=> ?_;clear hns;refine⟨mm,hm',fun h' hs=> ?_⟩;refine X1 hacc fun oD ys mD pcs eD cD dD rD lD hmem=> ?_;clear hacc;refine e8 (pJ (rD h' C'.X) (l:=pcs) (bC pcs)) fun ps z1r h3=> ?_;subst z1r;refine F5 (D3 hm') fun oc es ep ec dc=> ?_;refine⟨DD,ps,rfl,⟨oD,(hs.2 DD hDC).trans eD,cD,mD,dD⟩,_,h3,pL (Nat.le_trans (yM h9 hmem) (by omega)),fun t' kk=> ?_⟩;have e:Txt.join (S []) (pcs.map S)=S pcs.flatten:=pK pcs;show TH Q (.ret (.str (Txt.join (S []) (pcs.map S)) t')) _;rw[e];refine hQ pcs t' _ lD hmem (F.back htb (yL UU bR.step ?_)) ?_
 ·refine r0 OD fun y5 tk z gr=> ?_;clear OD;exact⟨h',kk,by rw[z],gr.but rC (M9 UU bR.sit.inv.tabs) (by rw[z] at ec;exact⟨oc,ec,.inl fun vs z=>by rw[dc] at z;injection z⟩) fun b o nb e=>(hs.2 b nb).trans (by rw[z];exact e)⟩
 ·refine V6 UV fun c0 c1 u0 u1 nn e r=> ?_;clear UV;exact⟨c0,c1,u0,u1,nn,(hs.2 a haC).trans e,r⟩
end
section
variable {W:Wd} {C C₀:Cx} {X:Xs} {k:Nat} {env:Env} {oa:Option Addr} {σ σ':d9} {s₀ s s₁ e7 s' s'':Shared} {g g':G} {n:Nat} {opn:Option Str} {h h' h'' i8:Heap} {a b:Addr} {c:Nat} {o:Obj}
noncomputable def qI (v x:Int):Int:=v*1000003+(if x<0 then -x else x)%10 ^30*2+(if decide (x<0)=true then 1 else 0)
theorem IM {v x:Int} {e:Nat} (h0:0<=v) (h1:v.toNat<2 ^(102+20*e)):0<=qI v x/\(qI v x).toNat<2 ^(102+20*(e+1)):=by
 have m0:=Int.emod_nonneg (if x<0 then -x else x) (show(10:Int) ^30≠0 by decide);have m1:=Int.emod_lt_of_pos (if x<0 then -x else x) (show(0:Int)<10 ^30 by decide);have p:2 ^(102+20*(e+1))=2 ^(102+20*e)*1048576:=Nat.pow_add 2 (102+20*e) 20;have q:(2:Nat) ^102<=2 ^(102+20*e):=Nat.pow_le_pow_right (by decide) (Nat.le_add_right _ _);unfold qI;generalize (if x<0 then -x else x)%10 ^30=y at*;have hr:0<=(if decide (x<0)=true then 1 else 0:Int)/\(if decide (x<0)=true then 1 else 0:Int)<=1:=by split<;>decide
 generalize (if decide (x<0)=true then 1 else 0:Int)=r at*;generalize 2 ^(102+20*e)=B at*;rw[p];have z:0<=v*1000003+y*2+r:=Int.add_nonneg (Int.add_nonneg (Int.mul_nonneg h0 (by decide)) (Int.mul_nonneg m0 (by decide))) hr.1;exact⟨z,(Int.toNat_lt z).mpr (q88 ((Int.toNat_lt h0).mp h1) (Int.le_trans (Int.add_le_add (Int.mul_le_mul_of_nonneg_right (Int.le_of_lt m1) (by decide)) hr.2) (Int.le_trans (by decide) (Int.ofNat_le.mpr q))) h0)⟩
theorem vT {v:Int} {e:Nat} (h0:0<=v) (h1:v.toNat<2 ^(102+20*e)) (he:e<=30):v.natAbs<2 ^4096:=by
 have:(2:Nat) ^(102+20*e)<=2 ^4096:=Nat.pow_le_pow_right (by decide) (by omega);have z:v.natAbs=v.toNat:=by omega
 rw[z];exact Nat.lt_of_lt_of_le h1 this
theorem sJ {v:Int} (h:v.natAbs<2 ^200):v.natAbs<2 ^4096:=Nat.lt_of_lt_of_le h (Nat.pow_le_pow_right (by decide) (by decide))
theorem TY {y:Int} (h0:0<=y) (h1:y<10 ^30):y.natAbs<2 ^200:=by
 have r:(2:Nat) ^200=1606938044258990275541962092341162602522202993782792835301376:=by decide
 have r':(10:Int) ^30=1000000000000000000000000000000:=by decide
 rw[r];rw[r'] at h1;omega
theorem TZ {x:Int}:fH "abs" [.int x]=.ok (.int (if x<0 then -x else x)):=rfl
theorem UA {b:Bool}:fH "int" [.bool b]=.ok (.int (if b then 1 else 0)):=rfl
theorem vU (habs:g.fn "abs"=none) (hint:g.fn "int"=none): ∀(l:List Int) (σ:d9) (v:Int) (e:Nat),0<=v->v.toNat<2 ^(102+20*e)->e+l.length<=30->σ.get "whole_one"=some (.int v)->
  ∃σ' w,P6 g none bB.sc σ (V0 (i4 bB.body 1)) (sB (i4 bB.body 1)) (l.map V.int) (.ok (.next,σ'))/\σ'.get "whole_one"=some (.int w)/\0<=w/\w.natAbs<2 ^4096
 |[],σ,v,e,h0,h1,he,h2=>⟨σ,v,P6.nil,h2,h0,vT h0 h1 (by simpa using he)⟩
 |x::r,σ,v,e,h0,h1,he,h2=>by
  rw[List.length_cons] at he;have hb:s5 σ (V0 (i4 bB.body 1)) (.int x)=.ok (σ.set "cell" (.int x)):=rfl;refine f8 (IM (x:=x) h0 h1) fun z0 z1=> ?_;refine r0 (vU habs hint r ((σ.set "cell" (.int x)).set "whole_one" (.int (qI v x))) (qI v x) (e+1) z0 z1 (by omega) (by tm_at "n")) fun σ' w x1 x2=> ?_;have s1:=eT (vT h0 h1 (by omega)) (sJ (v:=1000003) (by decide));have m0:=Int.emod_nonneg (if x<0 then -x else x) (show(10:Int) ^30≠0 by decide);have m1:=Int.emod_lt_of_pos (if x<0 then -x else x) (show(0:Int)<10 ^30 by decide);have s2:R0 .Mult (.int ((if x<0 then -x else x)%10 ^30)) (.int 2)=.ok (.int ((if x<0 then -x else x)%10 ^30*2)):=eT (sJ (TY m0 m1)) (sJ (v:=2) (by decide));have s3:R0 .Pow (.int 10) (.int 30)=.ok (.int (10 ^30)):=HO (a:=10) (b:=30) ⟨by decide,by decide⟩ (by decide);have s4:R0 .Mod (.int (if x<0 then -x else x)) (.int (10 ^30))=.ok (.int ((if x<0 then -x else x)%10 ^30)):=sG (by decide);exact⟨σ',w,P6.cons hb (d5.cons (d7 (v:=.int (qI v x)) (c8.bin (c8.bin (c8.bin (by tm_at "e") (by tm_at "e") s1) (c8.bin (c8.bin (c8.bcall (by tm_at "e") habs (by decide) TZ (by decide+kernel) rfl) (c8.bin (by tm_at "e") (by tm_at "e") s3) s4) (by tm_at "e") s2) (cS _ _))
   (c8.bcall (v5.cons (e9 (by tm_at "e") (by tm_at "e") (gR _ _) rfl) v5.nil) hint (by decide) UA rfl rfl) (cS _ _)) (by decide) (by decide) rfl) d5.nil) x1,x2⟩
theorem AH {h:Heap} {X:Xs}: ∀{vs:List Value} {l:List Int},Rps h X vs (l.map V.int)->IntsAre vs l
 |_,[],r=>by rw[K2 r];exact .nil
 |_,x::l,r=>by
  refine v8 (D2 r) fun u us z9r ru rs=> ?_;subst z9r;refine d6 (A1 ru) fun t z8r=> ?_;subst z8r;exact .cons _ _ (AH rs)
theorem AI {h:Heap} {X:Xs} {vs:List Value} {l:List Int} (r:IntsAre vs l):Rps h X vs (l.map V.int):=by
 induction r with
 |nil=>exact .nil
 |cons n t _ ih=>exact .cons (.int _ _) ih
theorem QM {aB:Addr} {oB:Obj} {fd:FuncData} {u:Value} {is:List Int} {Q E:Value->Shared->Prop} (hE: ∀n,I8 W n) (hS: ∀n,xQ W n) (hg:C5 W k C.tb g) (habs:g.fn "abs"=none) (hint:g.fn "int"=none)
  (wok:W.Ok) (D:Z8 W "_law_box" ["script"] bB.body aB oB fd) (hsc:fd.scope=bB.sc) (ok:C.Ok (k+1)) (wf:W.Fits C) (hxg: ∀a,C.X a->W.G.get? a=none) (hlive: ∀a,C.X a-> ¬o4 a/\ ∃o,s.heap.get? a=some o) (inv:aM W C s.heap)
  (r:Rp s.heap C.X u (.list (is.map V.int))) (hlen:is.length<=1000) (hQ: ∀a s',k9 C s s'->s.heap.get? a=none-> ¬C.X a->D0 s'.heap a 0->Q (.ref a) s'):wpAny (model prog w) C.A (call (.ref aB) [u] []) Q E s:=by
 have hlim:i0=1048576:=rfl;refine wpAny_call (uF (s₀:=s) (X:=C.X) (σ:=[("script",.list (is.map V.int))]) (opn:=none) (oa:=none) wok D ok wf (fun Z x=>x) hxg hlive inv ⟨_,_,rfl⟩ (fun Z Z e=>e) inv.base inv.G inv.tabs (fun b e=>by injection e) rfl
  (fun x v e=> ?_) (fun x v e z=> ?_) fun env C' s₁ hX htb Z keep F f=> ?_)
 ·unfold d9.get at e;rcases List.mem_singleton.mp (mem_of_lookup e) with e;injection e with e e2;subst e;subst e2;exact⟨_,rfl,.head _,.of (r.less fun b z=>z.elim id fun z=>by injection z)⟩
 ·unfold d9.get at e;rcases List.mem_singleton.mp (mem_of_lookup e) with e;injection e with e e2;subst e;subst e2;injection z
 rw[hsc] at F f;have hg':C5 W k C'.tb g:=htb▸hg;rw[show bB.body=[i4 bB.body 0,i4 bB.body 1,i4 bB.body 2] from rfl];refine wpAny_execs_cons (wpAny_Assign_Name (wpAny_mono (bM hE hg' f.sit (v:=.int 0) (.const rfl)) (fun v e7 q=> ?_) fun Z Z z=>z.elim) (H1 rfl));refine wpAny_mono (B4 F (f.step' q.1) (x:="whole_one") (.inl rfl) q.2 (fun z=>by injection z)) (fun Z l6 P0=> ?_) fun Z Z z=>z.elim;refine n5 P0 fun E3 Z Z=> ?_;clear P0;refine cQ (vU (g:=g) habs hint (is.take 24) (d9.set [("script",.list (is.map V.int))] "whole_one" (.int 0)) 0 0 (Int.le_refl _) (by decide) (by rw[List.length_take];omega) d9.same) fun σ' w' z7n hw w0 w1=> ?_;refine d6 z7n fun N hN=> ?_;clear z7n;have hfor:wpAny (model prog w) C'.A (exec (i4 bB.body 1) env) (A5 W C' k env bB.sc s none none l6 (.next,σ')) (fun Z Z=>False) l6:=by
  refine wpAny_For ?_ (fun Z=>rfl);refine wpAny_Subscript_list_slice (wpAny_mono (bM hE hg' E3.sit (v:=.list (is.map V.int)) (.name (g6 (d9.ne (by decide) rfl) (by decide+kernel) (by decide)))) (fun ov C4 O0=> ?_) fun Z Z z=>z.elim);have T5:=E3.step' O0.1;refine wpAny_evalPart_none (wpAny_evalPart_some (wpAny_Constant_int ?_));refine v8 (t8 (.inl rfl) O0.2) fun l vs z6r hl hr=> ?_;subst z6r;have hsz:vs.length<=1000:=by rw[hr.length,List.length_map];exact hlen
  refine⟨l,vs.toArray,none,some 24,rfl,hl,by rw[List.size_toArray];have:=D5;omega,.none,.int _ _,?_⟩;have hI:IntsAre (slicePick vs.toArray none (some 24) none).toList (is.take 24):=slice_ints_uptoW (AH hr) (by decide);generalize slicePick vs.toArray none (some 24) none=sl at hI;let o1:Obj:={cls:=.type "slice",data:=.fields #[.none,.int 24 C4.toks,.none]};have wN:k9 C' C4 {C4 with toks:=C4.toks+1,heap:=(C4.heap.push o1).push {cls:=.type "list",data:=.seq sl}}:=.of_keep fun b o e=>Heap.get?_push_of_some _ (Heap.get?_push_of_some _ e);have bR:=T5.step' wN;have nn:C4.heap.get? (C4.heap.objs.size+1)=none:=A2 (Nat.le_succ _);have ge:((C4.heap.push o1).push {cls:=.type "list",data:=.seq sl}).get? (C4.heap.objs.size+1)=some {cls:=.type "list",data:=.seq sl}:=by
   have:=Heap.get?_push_size (C4.heap.push o1) (o:={cls:=.type "list",data:=.seq sl}) rfl;rw[Heap.size_push] at this;exact this
  have rl:B1 ((C4.heap.push o1).push {cls:=.type "list",data:=.seq sl}) (Xo C' none) none (.ref (C4.heap.objs.size+1)) (.list ((is.take 24).map V.int)):=
   .of (.list (vs:=sl.toList) ge rfl rfl (fun z=>by refine f8 (T5.sit.live _ z) fun Z z5t=> ?_;refine d6 z5t fun o e=> ?_;clear z5t;rw[nn] at e;injection e) (AI hI))
  have:=uE (b:=sB (i4 bB.body 1)) (t:=V0 (i4 bB.body 1)) (n:=0+N) (hS _) hg' F bR rfl rl (if_pos (by rw[List.length_map,List.length_take];omega)) (E3.keeps (O0.1.trans wN));rw[show rF g none bB.sc (0+N) _ _ _ _=_ from hN 0] at this;exact this
 refine wpAny_execs_cons (wpAny_mono hfor (fun fl C4 q=> ?_) fun Z Z z=>z.elim);refine r6 q fun oa' T5 Z z4r=> ?_;clear q;subst z4r;refine wpAny_execs_cons (wpAny_Return_some (wpAny_List (wpAny_mono (sH (vs:=[.int w',.int 0]) _ hE hg' T5.sit (.cons (.name (g6 hw (by decide+kernel) (by decide))) (.cons (.const rfl) .nil))) (fun us C8 q=> ?_) fun Z Z z=>z.elim)));have bR:=T5.step' q.1;have q2:=q.2;rcases us with _|⟨u,_|⟨v,_|_⟩⟩<;>first|exact q2.elim|skip
 ·exact q2.2.elim
 ·refine n5 q2 fun q3 q4 Z=> ?_;clear q2;refine d6 (A1 (B1.plain q3 rfl)) fun tu z3r=> ?_;subst z3r;refine d6 (A1 (B1.plain q4 rfl)) fun tv z2r=> ?_;subst z2r;have nn:C8.heap.get? C8.heap.objs.size=none:=A2 (Nat.le_refl _);refine⟨by show 2<=sizeLine;decide,hQ _ _ (F.back htb (bR.step.trans (.of_keep fun Z Z e=>Heap.get?_push_of_some _ e))) (E4 bR nn) (fun z=> ?_) ⟨w',0,tu,tv,0,Heap.get?_push_size _ rfl,⟨w0,w1⟩,Int.le_refl _,Int.le_refl _⟩⟩;refine f8 (hlive _ z) fun Z z1t=> ?_;refine d6 z1t fun o e=> ?_;clear z1t;have:=E4 bR nn;rw[e] at this;injection this
 ·exact q2.2.2.elim
end
structure DE (W:Wd) (tb:Prop) (g0 gp gL:G) (Fp:List V->R V) (ts:List b9):Prop where
 hE: ∀n,I8 W n
 hS: ∀n,xQ W n
 wok:W.Ok
 FB:QL W "_law_box" ["script"] bB
 FT:QL W "_law_take" ["box","many"] U3
 FX:QL W "_law_text" ["box","many"] M5
 og0: ∀k,C5 W k tb g0
 f0: ∀f,g0.fn f=none
 ogp:C5 W 7 tb gp
 len:gp.fn "len"=none
 rng:gp.fn "range"=none
 pc:gp.fn "_law_pieces"=some Fp
 hF:Fp []=.ok (.list (ts.map V.str))
 line:dY W 8 tb "_law_line_right" E2
 ogL:C5 W 8 tb gL
 hts:0<ts.length/\ts.length<1000
 h9: ∀t∈ts,t.length<=10
 hsig: ∀t∈ts,t.all A3=true
section
variable {W:Wd} {C C₀:Cx} {X:Xs} {k:Nat} {env:Env} {sc:Scope} {oa:Option Addr} {σ σ':d9} {s₀ s s₁ e7 s' s'':Shared} {g g':G} {n:Nat} {opn:Option Str} {h h' h'' i8:Heap} {a b:Addr} {c:Nat} {o:Obj} {g0 gp gL:G} {Fp:List V->R V} {ts:List b9}
theorem DF {xs:Array Value} (F:L9 W C C₀ env sc s₀) (f:j7 W C k env sc s₀ opn (some a) σ s) (hb:s.heap.get? a=some (listOf xs n)) (st:k9 C (fA s a) s') {ys:Array Value} {m:Nat} (hb':s'.heap.get? a=some (listOf ys m)):t9 C env (some a) s.heap (some a) s'.heap:=by
 have iR:=fC f.sit.ok (f.clear F) hb f.sit.inv;have i':=iR.gr f.sit.ok f.sit.wf st.gr;refine⟨fun b o e n m Z q=>st.gr.keep b o (v7 e fun z=>q (by rw[z])) (fun z=>m z.2) n,fun b o e=> ?_,fun b o e nt nc=> ?_,.inl rfl⟩
 ·by_cases q:b=a
  ·exact⟨_,q▸hb'⟩
  ·by_cases z:C.tb/\o4 b
   ·refine d6 (i'.tabNone z.2) fun ps e=> ?_;exact⟨_,e⟩
   ·refine d6 (st.gr.slots b o (v7 e q) z) fun sl e'=> ?_;exact⟨_,e'⟩
 ·by_cases q:b=a
  ·subst q;intro x hx ps e pos z;refine f8 (i'.tabs x hx) fun Z z3t=> ?_;refine r6 z3t fun ps' e' Z p3=> ?_;clear z3t;rw[e] at e';cases e';refine sX (p3 pos _ z) fun c o vs tq e1 e2 e3 Z=> ?_;injection e1 with e1;subst e1;rw[hb'] at e2;injection e2 with e2;subst e2;injection e3
  ·exact st.gr.codes (M9 hb f.sit.inv.tabs) b o (v7 e q) nt fun x hx ps z=>nc x hx ps (M8 z)
variable {tb:Prop} (T:DE W tb g0 gp gL Fp ts) (htb:C.tb=tb) (F:L9 W C C₀ env v3.sc s₀) {b0 b1 m:Int} (f:j7 W C 8 env v3.sc s₀ (some "box") (some a) σ s) (hv:σ.get "box"=some (.olist [.int b0,.int b1])) (hb:D0 s.heap a c) (hc:c<1000)
structure LW (W:Wd) (C:Cx) (env:Env) (s₀:Shared) (a:Addr) (σ:d9) (s:Shared) (c:Nat) (s':Shared):Prop where
 f: ∃b0 b1,j7 W C 8 env v3.sc s₀ (some "box") (some a) (σ.set "box" (.olist [.int b0,.int b1])) s'
 box:D0 s'.heap a c
 K:t9 C env (some a) s.heap (some a) s'.heap
include F f hv hb in
theorem LW.of {c':Nat} (st:k9 C (fA s a) s') (hb':D0 s'.heap a c'):LW W C env s₀ a σ s c' s':=by
 refine V6 hb fun Z Z Z Z Z e Z=> ?_;clear hb;refine V6 (id hb') fun Z Z Z Z Z e' Z=> ?_;exact⟨⟨_,_,IL F f hv e st e'⟩,hb',DF F f e st e'⟩
include T htb F f hv hb hc in
theorem AJ {es:List Expr} {fp p:Pos} {Q E:Value->Shared->Prop} (hp:es.any Q1=false) (x:v5 g0 v3.sc σ es (.ok [.olist [.int b0,.int b1],.int m])) (hm:0<m/\m<1000000)
  (hQ: ∀d t s',0<=d->d<m->LW W C env s₀ a σ s (c+1) s'->Q (.int d t) s'):wpAny (model prog w) C.A (eval (.Call (.Name "_law_take" fp) es [] p) env) Q E s:=
 qH (k:=7) T.hE (htb▸T.og0 _) (htb▸T.og0 _) T.FT f.sit (f.clear F) (by decide+kernel) hp x hb hm (by omega) fun d t s' h0 h1 st hb'=>hQ d t s' h0 h1 (.of F f hv hb st hb')
include T htb F f hv hb hc in
theorem gM {es:List Expr} {fp p p1 p2:Pos} {kk:Nat} {z:Int} {Q E:Value->Shared->Prop} (hp:es.any Q1=false) (x:v5 g0 v3.sc σ es (.ok [.olist [.int b0,.int b1],.int m])) (hm:0<m/\m<1000000)
  (hQ: ∀d t s',0<=d->d<m->LW W C env s₀ a σ s (c+1) s'->Q (.int (z+d) t) s'):wpAny (model prog w) C.A (eval (.BinOp (.Constant (.int z) kk p1) .Add (.Call (.Name "_law_take" fp) es [] p) p2) env) Q E s:=by
 refine wpAny_BinOp (wpAny_Constant_int ?_);have st:k9 C s {s with toks:=s.toks+1}:=.of_keep fun Z Z e=>e;refine AJ (s:={s with toks:=s.toks+1}) T htb F (f.step' st) hv hb hc hp x hm fun d t s' h0 h1 L=>add_int ?_;obtain⟨⟨c0,c1,f'⟩,hb',K⟩:=L;exact hQ d _ _ h0 h1 ⟨⟨c0,c1,f'.step' (.of_keep fun Z Z e=>e)⟩,hb',K⟩
include T htb F f hv hb hc in
theorem MK {mu:Int} (hmu:σ.get "much"=some (.int mu)) (hm:0<=mu/\mu<=5) {p1 p2 p3 p4 p5 p6 p7 p8 p9 p10 p11:Pos} {k1 k2:Nat} {Q E:Value->Shared->Prop}
  (hQ: ∀t tk s',t.length<=500->t.all A3=true->LW W C env s₀ a σ s (c+10) s'->Q (.str ⟨List.toArray t⟩ tk) s'):
  wpAny (model prog w) C.A (eval (.Call (.Name "_law_text" p1) [.Name "box" p2,.BinOp (.Constant (.int 3) k1 p3) .Add (.Call (.Name "_law_take" p4) [.Name "box" p5,.BinOp (.Constant (.int 2) k2 p6) .Add (.Name "much" p7) p8] [] p9) p10] [] p11) env) Q E s:=by
 refine F5 T.FX fun aX oX fdX DX hsc=> ?_;refine Z3 f.sit (by decide+kernel) (by decide) DX.name DX.obj DX.data rfl ?_;show wpAny _ _ (spliced [(false,eval (.Name "box" _) env),(false,eval (.BinOp _ _ _ _) env)]) _ _ _;have n1:=g6 (sc:=v3.sc) (g:=g0) hv (by decide+kernel) (by decide);have n2:=g6 (sc:=v3.sc) (g:=g0) hmu (by decide+kernel) (by decide);have hname:=O5 (htb▸T.og0 8) f.sit "box" p2;rw[n1] at hname;refine Calls.spliced_cons (wpAny_mono hname (fun ov s₁ q=> ?_) fun Z Z z=>z.elim);refine sW q.2 fun Z Z Z Z e1 z2r Z=> ?_;subst z2r;injection e1 with e1;subst e1;have f₁:=f.step' q.1;have P8:=J9 (f.sit.live a (.inr rfl)).1 f.nota hb q.1;refine Calls.spliced_cons (gM T htb F f₁ hv P8 hc (m:=2+mu) rfl (.cons (.name n1) (.cons (.bin (.const rfl) (.name n2) (cS _ _)) .nil)) ⟨by omega,by omega⟩ fun d t e7 h0 h1 L=> ?_);obtain⟨⟨c0,c1,n8⟩,W9,cJ⟩:=L;refine Calls.spliced_nil ⟨n8.sit.inv.G _ _ DX.obj,?_⟩;have he:(3+d:Int)=((3+d).toNat:Int):=by omega
 rw[he];refine MJ (k:=6) T.hE (htb▸T.ogp) T.len T.rng T.pc T.hF (htb▸T.og0 _) T.FT T.wok DX hsc n8.sit.ok n8.sit.wf (fun b z=>n8.sit.xg b (.inl z)) (fun b z=>n8.sit.live b (.inl z)) n8.sit.inv (n8.clear F) W9 (by omega) (by omega) T.hts T.h9 fun pcs t l6 hl hmem st P9=> ?_;obtain⟨⟨d0,d1,E3⟩,_,wH⟩:=LW.of F n8 d9.same W9 st P9;refine hQ _ t l6 ?_ ?_ ⟨⟨d0,d1,E3.congr fun y=> ?_⟩,?_,(f.keeps q.1).trans (cJ.trans wH)⟩
 ·have:=yM T.h9 hmem;rw[eP,hl] at this;omega
 ·rw[List.all_flatten,List.all_eq_true];exact fun t ht=>T.hsig t (hmem t ht)
 ·rw[k7,k7,k7];split<;>rfl
 ·refine AS P9 fun x0 x1 u0 u1 nn e r1 r2 r3=> ?_;clear P9;exact⟨x0,x1,u0,u1,nn,e,r1,r2,by omega⟩
include T htb F f hv hb hc in
theorem ML {t:b9} (ht:σ.get "text"=some (.str t)) (hl:t.length<=500) (hs:t.all A3=true) {p1 p2 p3 p4 p5 p6 p7 p8 p9:Pos} {k1 k2:Nat} {Q E:Value->Shared->Prop}
  (hQ: ∀s',LW W C env s₀ a σ s (c+1) s'->Q (.bool true) s'):
  wpAny (model prog w) C.A (eval (.Call (.Name "_law_line_right" p1) [.Name "text" p2,.BinOp (.Constant (.int 1) k1 p3) .Add (.Call (.Name "_law_take" p4) [.Name "box" p5,.Constant (.int 300) k2 p6] [] p7) p8] [] p9) env) Q E s:=by
 refine X0 T.line fun aX oX fdX h1 h2 h3 h4=> ?_;refine Z3 f.sit (by decide+kernel) (by decide) h1 h2 h3 rfl ?_;show wpAny _ _ (spliced [(false,eval (.Name "text" _) env),(false,eval (.BinOp _ _ _ _) env)]) _ _ _;have n1:=g6 (sc:=v3.sc) (g:=g0) hv (by decide+kernel) (by decide);have n2:=g6 (sc:=v3.sc) (g:=g0) ht (by decide+kernel) (by decide);have hname:=O5 (htb▸T.og0 8) f.sit "text" p2;rw[n2] at hname;refine Calls.spliced_cons (wpAny_mono hname (fun ov s₁ q=> ?_) fun Z Z z=>z.elim);refine d6 (s6 (q.2.plain rfl)) fun tt z1r=> ?_;subst z1r;have f₁:=f.step' q.1;have P8:=J9 (f.sit.live a (.inr rfl)).1 f.nota hb q.1;refine Calls.spliced_cons (gM T htb F f₁ hv P8 hc (m:=300) rfl (.cons (.name n1) (.cons (.const rfl) .nil)) ⟨by omega,by omega⟩ fun d t' e7 h0 h1 L=> ?_);obtain⟨⟨c0,c1,n8⟩,W9,cJ⟩:=L;refine Calls.spliced_nil ⟨n8.sit.inv.G _ _ h2,?_⟩;have key:=h4 C (Xo C (some a)) e7 [.str ⟨t.toArray⟩ tt,.int (1+d) t'] [.str t,.int (1+d)] n8.sit.ok n8.sit.wf (by rw[htb]) n8.sit.sub n8.sit.xg n8.sit.live n8.sit.inv (.cons (.str _ _) (.cons (.int _ _) .nil));rw[show E2 [.str t,.int (1+d)]=.ok (.bool true) from if_pos ⟨hl,hs,by omega⟩] at key;refine wpAny_mono key (fun v l6 P0=> ?_) fun Z Z z=>z.elim;obtain rfl:=M1 (P0.2.plain rfl);exact hQ l6 ⟨⟨c0,c1,n8.step' P0.1⟩,J9 (f.sit.live a (.inr rfl)).1 f.nota W9 P0.1,(f.keeps q.1).trans (cJ.trans (n8.keeps P0.1))⟩
end
section
variable {W:Wd} {C C₀:Cx} {X:Xs} {k:Nat} {env:Env} {sc:Scope} {oa:Option Addr} {σ σ':d9} {s₀ s s₁ e7 s' s'':Shared} {g g':G} {n:Nat} {opn:Option Str} {h h' h'' i8:Heap} {a b:Addr} {c:Nat} {o:Obj} {g0 gp gL:G} {Fp:List V->R V} {ts:List b9}
theorem DG (F:L9 W C C₀ env sc s₀) (f:j7 W C k env sc s₀ opn none σ s) (st:k9 C s e7) (an:s.heap.get? a=none) (nX: ¬C.X a) (hb:e7.heap.get? a=some o):
  j7 W C k env sc s₀ opn (some a) σ e7/\t9 C env none s.heap (some a) e7.heap:=by
 have kx: ∀b,Xo C (some a) b->Xo C none b\/ ∀o,s.heap.get? b=some o-> ¬I7 o:=fun b q=>by
  rcases q with q|q
  ·exact .inl (.inl q)
  ·injection q with q;subst q;exact .inr fun o e=>by rw[an] at e;injection e
 have n8:=f.step' st;have s0n:=E4 f an;have kp:=f.keeps st;refine⟨⟨n8.step,⟨n8.sit.wok,n8.sit.ok,n8.sit.wf,fun b q=>.inl q,fun b q=> ?_,fun b q=> ?_,n8.sit.inv,n8.sit.envOk,?_,fun b q=>.inr q⟩,fun b q=>by injection q with q;subst q;exact⟨s0n,nX⟩,f.only⟩,kp.keep,kp.live,kp.codes,.inr fun b q=>by injection q with q;subst q;exact an⟩
 ·rcases q with q|q
  ·exact f.sit.xg b (.inl q)
  ·injection q with q;subst q;exact F.notG s0n
 ·rcases q with q|q
  ·exact n8.sit.live b (.inl q)
  ·injection q with q;subst q;exact⟨o6 f.sit.inv.tabs an,_,hb⟩
 ·have t:=(f.sit.st.more kx).gr f.sit.ok f.sit.inv st.gr fun b z=>.inl z;exact⟨t.cells,e8 (t.vals) fun m hm hv=>⟨m,hm,fun x v e=>e8 (hv x v e) fun u hu hk=>⟨u,hu.any,hk⟩⟩⟩
variable {tb:Prop} (T:DE W tb g0 gp gL Fp ts) (htb:C.tb=tb) (F:L9 W C C₀ env v3.sc s₀)
include T htb F
theorem YA {is:List Int} (f:j7 W C 8 env v3.sc s₀ (some "box") none σ s) (hsc:σ.get "script"=some (.list (is.map V.int))) (hlen:is.length<=63) {Q:Flow->Shared->Prop} {E:Value->Shared->Prop}
  (hQ: ∀a σ' mu b0 b1 s',j7 W C 8 env v3.sc s₀ (some "box") (some a) σ' s'->σ'.get "box"=some (.olist [.int b0,.int b1])->σ'.get "much"=some (.int mu)->0<=mu/\mu<=5->D0 s'.heap a 0->Q .next s'):
  wpAny (model prog w) C.A (exec (i4 v3.body 0) env) Q E s:=by
 have hlim:i0=1048576:=rfl;refine Y6 (k:=8) (opn:=some "box") (xs:=["box","much"]) F rfl rfl Q E ?_;show wpAny _ _ (spliced [(false,eval (.Call (.Name "_law_box" _) [.Name "script" _] [] _) env),(false,eval (.Call (.Name "min" _) _ [] _) env)]) _ _ _;refine F5 T.FB fun aB oB fdB DB hscB=> ?_;have n1:=g6 (sc:=v3.sc) (g:=g0) hsc (by decide+kernel) (by decide);refine Calls.spliced_cons (Z3 f.sit (by decide+kernel) (by decide) DB.name DB.obj DB.data rfl (wpAny_mono (sH (vs:=[.list (is.map V.int)]) _ T.hE (htb▸T.og0 8) f.sit (.cons (.name n1) .nil)) (fun us s₁ q=>⟨(f.step' q.1).sit.inv.G _ _ DB.obj,?_⟩) fun Z Z z=>z.elim));have f₁:=f.step' q.1;have q2:=q.2;rcases us with _|⟨u,_|_⟩<;>first|exact q2.elim|skip
 case cons.cons=>exact q2.2.elim
 refine QM (k:=7) T.hE T.hS (htb▸T.og0 7) (T.f0 _) (T.f0 _) T.wok DB hscB f₁.sit.ok f₁.sit.wf (fun b z=>f₁.sit.xg b (.inl z)) (fun b z=>f₁.sit.live b (.inl z)) f₁.sit.inv ((B1.plain q2.1 rfl).less fun b z=>.inl z) (by omega) fun a e7 st an nX hb=> ?_;refine V6 hb fun b0 b1 t0 t1 nb eb rb=> ?_;clear hb;refine f8 (DG F f₁ st an nX eb) fun n8 cJ=> ?_;have hln:(is.map V.int).length<=i0:=by rw[List.length_map];omega
 refine Calls.spliced_cons (wpAny_mono (bM T.hE (htb▸T.og0 8) n8.sit (v:=.int (min ((is.map V.int).length:Nat) 5)) (.bcall (.cons (.bcall (.cons (.name n1) .nil) (T.f0 _) (by decide) (eO hln) (by decide+kernel) rfl) (.cons (.const rfl) .nil)) (T.f0 _) (by decide) (rR _ _) (by decide+kernel) rfl)) (fun v l6 P0=> ?_) fun Z Z z=>z.elim);have E3:=n8.step' P0.1;have UW:=n8.same P0.1 eb;refine d6 (A1 (P0.2.plain rfl)) fun tm z1r=> ?_;subst z1r;refine Calls.spliced_nil ⟨by show 2<=sizeLine;decide,rfl,⟨_,_,E3⟩,fun i8 rts kp=> ?_⟩;have AQ:k9 C l6 ({l6 with heap:=i8}:Shared):=⟨i8,l6.toks,rfl,.of_keep fun b o e=>kp b o (Heap.get?_push_of_some _ e)⟩;have T5:=E3.step' AQ;have JO:=E3.same AQ UW;have yR:v6 i8 (Xo C (some a)) (some a) [.ref a,.int (min ((is.map V.int).length:Nat) 5) tm] [.olist [.int b0,.int b1],.int (min ((is.map V.int).length:Nat) 5)]:=
  ⟨⟨a,_,[.int b0 t0,.int b1 t1],nb,rfl,rfl,JO,⟨rfl,rfl⟩,rfl,.cons (.int _ _) (.cons (.int _ _) .nil)⟩,.int _ _,trivial⟩
 have hq:F0 (some "box") σ ["box","much"] [.olist [.int b0,.int b1],.int (min ((is.map V.int).length:Nat) 5)]=.ok ((σ.set "box" (.olist [.int b0,.int b1])).set "much" (.int (min ((is.map V.int).length:Nat) 5))):=rfl;have g1:((σ.set "box" (.olist [.int b0,.int b1])).set "much" (.int (min ((is.map V.int).length:Nat) 5))).get "box"=some (.olist [.int b0,.int b1]):=d9.ne (by decide) d9.same;have hmu:0<=(min ((is.map V.int).length:Nat) 5:Int)/\(min ((is.map V.int).length:Nat) 5:Int)<=5:=by omega
 refine⟨fun ht=>wpAny_mono (N4 F ht T5 (by decide+kernel) yR hq) (fun Z C8 q=> ?_) fun Z Z z=>z.elim,fun ht hl=> ?_⟩
 ·exact hQ a _ _ b0 b1 C8 q.1 g1 d9.same hmu ⟨b0,b1,t0,t1,nb,q.2.2 _ _ _ _ JO rfl,rb⟩
 ·refine e8 (cY hq (by decide) hl) fun W8 hq' he'=> ?_;refine wpAny_mono (N4 F ht T5 (by decide+kernel) yR.rev hq') (fun Z C8 q=> ?_) fun Z Z z=>z.elim;exact hQ a _ _ b0 b1 C8 (q.1.congr he') g1 d9.same hmu ⟨b0,b1,t0,t1,nb,q.2.2 _ _ _ _ JO rfl,rb⟩
end
section
variable {W:Wd} {C C₀:Cx} {X:Xs} {k:Nat} {env:Env} {sc:Scope} {oa:Option Addr} {σ σ':d9} {s₀ s s₁ e7 s' s'':Shared} {g g':G} {n:Nat} {opn:Option Str} {h h' h'' i8:Heap} {a b:Addr} {c:Nat} {o:Obj} {g0 gp gL:G} {Fp:List V->R V} {ts:List b9}
variable {tb:Prop} (T:DE W tb g0 gp gL Fp ts) (htb:C.tb=tb) (F:L9 W C C₀ env v3.sc s₀)
include T htb F
theorem YB {b0 b1:Int} (f:j7 W C 8 env v3.sc s₀ (some "box") (some a) σ s) (hv:σ.get "box"=some (.olist [.int b0,.int b1])) (hb:D0 s.heap a c) (hc:c<900) {Q:Flow->Shared->Prop} {E:Value->Shared->Prop}
  (hQ: ∀σ' d l s',j7 W C 8 env v3.sc s₀ (some "box") (some a) σ' s'->σ'.get "code"=some (.int d)->σ'.get "line"=some (.int l)->0<=d/\d<300->1<=l/\l<=300->Q .next s'):
  wpAny (model prog w) C.A (exec (i4 v3.body 2) env) Q E s:=by
 refine Y6 (k:=8) (opn:=some "box") (xs:=["code","line"]) F rfl rfl Q E ?_;show wpAny _ _ (spliced [(false,eval (.Call (.Name "_law_take" _) _ [] _) env),(false,eval (.BinOp _ _ _ _) env)]) _ _ _;have n1:=g6 (sc:=v3.sc) (g:=g0) hv (by decide+kernel) (by decide);refine Calls.spliced_cons (AJ T htb F f hv hb (by omega) (m:=300) rfl (.cons (.name n1) (.cons (.const rfl) .nil)) ⟨by omega,by omega⟩ fun d td s₁ d0 d1 L=> ?_);obtain⟨⟨c0,c1,f₁⟩,P8,_⟩:=L;have n2:=g6 (sc:=v3.sc) (g:=g0) (d9.same (σ:=σ) (x:="box") (v:=.olist [.int c0,.int c1])) (by decide+kernel) (by decide);refine Calls.spliced_cons (gM T htb F f₁ d9.same P8 (by omega) (m:=300) rfl (.cons (.name n2) (.cons (.const rfl) .nil)) ⟨by omega,by omega⟩ fun l tl e7 l0 l1 L=> ?_);obtain⟨⟨e0,e1,n8⟩,W9,_⟩:=L;refine Calls.spliced_nil ⟨by show 2<=sizeLine;decide,rfl,⟨_,_,n8⟩,fun i8 rts kp=> ?_⟩;have AQ:k9 C e7 ({e7 with heap:=i8}:Shared):=⟨i8,e7.toks,rfl,.of_keep fun b o e=>kp b o (Heap.get?_push_of_some _ e)⟩;have T5:=n8.step' AQ;have yR:v6 i8 (Xo C (some a)) (some a) [.int d td,.int (1+l) tl] [.int d,.int (1+l)]:=⟨.int _ _,.int _ _,trivial⟩;have hq:F0 (some "box") ((σ.set "box" (.olist [.int c0,.int c1])).set "box" (.olist [.int e0,.int e1])) ["code","line"] [.int d,.int (1+l)]=.ok ((((σ.set "box" (.olist [.int c0,.int c1])).set "box" (.olist [.int e0,.int e1])).set "code" (.int d)).set "line" (.int (1+l))):=rfl;refine⟨fun ht=>wpAny_mono (N4 F ht T5 (by decide+kernel) yR hq) (fun Z C8 q=> ?_) fun Z Z z=>z.elim,fun ht hl=> ?_⟩
 ·exact hQ _ d (1+l) C8 q.1 (d9.ne (by decide) d9.same) d9.same ⟨d0,d1⟩ ⟨by omega,by omega⟩
 ·refine e8 (cY hq (by decide) hl) fun W8 hq' he'=> ?_;refine wpAny_mono (N4 F ht T5 (by decide+kernel) yR.rev hq') (fun Z C8 q=> ?_) fun Z Z z=>z.elim;exact hQ _ d (1+l) C8 (q.1.congr he') (d9.ne (by decide) d9.same) d9.same ⟨d0,d1⟩ ⟨by omega,by omega⟩
end
section
variable {gL:G} {σ:d9} {d l:Int}
noncomputable def S7 (d:Int):Bool:=d==9||(decide (32<=d) &&decide (d<127))
theorem DH (h:0<=d):[97,d.toNat].all A3=S7 d:=by
 refine d6 (Int.eq_ofNat_of_zero_le h) fun n z1r=> ?_;subst z1r;rcases Nat.lt_or_ge n 127 with h|h
 ·exact of_decide_eq_true (U4 127 (fun n=>decide ([97,(n:Int).toNat].all A3=S7 n)) (by decide+kernel) h)
 ·have e:A3 n=false:=by
   unfold A3;rw[decide_eq_false (p:=n<=126) (Nat.not_le.mpr h),Bool.and_false,Bool.false_or];exact beq_eq_false_iff_ne.mpr (fun z=>absurd h (by rw[z];decide))
  have e':S7 n=false:=by
   unfold S7;rw[decide_eq_false (p:=(n:Int)<127) (Int.not_lt.mpr (Int.ofNat_le.mpr h)),Bool.and_false,Bool.or_false];exact beq_eq_false_iff_ne.mpr (fun z=>absurd h (by rw[Int.ofNat.inj z];decide))
  show(A3 97 &&(A3 n &&true))=_;rw[e,e',Bool.false_and,Bool.and_false]
theorem IN (hlam:gL.lam=true) (hcs:gL.low "check_signs"=some o8) (hchr:gL.low "chr"=none) (hin:gL.fn "is_name"=some E1) (h1:σ.get "code"=some (.int d)) (h2:σ.get "line"=some (.int l)) (hd:0<=d/\d<300) (hl:1<=l/\l<=300):
  ∃σ',d5 gL (some "box") v3.sc σ [i4 v3.body 3,i4 v3.body 4] (.ok (.ret (.bool true),σ')):=by
 have hlim:i0=1048576:=rfl;have e3:d8 gL (some "box") v3.sc σ (i4 v3.body 3) (.ok (.next,σ.set "due" (if S7 d then .tup [.str mP,.none] else .tup [.str yF,.int l]))):=
  d7 (rM (bb:=S7 d) (by unfold S7;tm_at "e") (fun Z=>c8.tup (vs:=[.str mP,.none]) (by tm_at "e") rfl (by show 2<=i0;decide)) (fun Z=>c8.tup (vs:=[.str yF,.int l]) (by tm_at "e") rfl (by show 2<=i0;decide))) (by decide) (by decide) (by cases S7 d<;>rfl)
 have r:C9 (o8 [.str [97,d.toNat],.int l])=.ok (if S7 d then .tup [.str mP,.none] else .tup [.str yF,.int l]):=by
  rw[show o8 [.str [97,d.toNat],.int l]=(if [97,d.toNat].all A3 then .ok .none else .err l) from if_pos ⟨by show 2<=5000;decide,by omega⟩,DH hd.1];cases S7 d<;>rfl
 have hus: ∀b:Bool,∃us,(if b then V.tup [.str mP,.none] else .tup [.str yF,.int l])=.tup us/\Dats us/\deepVs us<=20:=fun b=>by
  cases b
  ·exact⟨_,rfl,⟨trivial,trivial,trivial⟩,Nat.le_of_ble_eq_true rfl⟩
  ·exact⟨_,rfl,⟨trivial,trivial,trivial⟩,Nat.le_of_ble_eq_true rfl⟩
 refine r6 (hus (S7 d)) fun us hu h5 h6=> ?_;rw[hu] at e3 r;have hch:fH "chr" [.int d]=.ok (.str [d.toNat]):=by
  show(if 0<=d/\d<=1114111 then R.ok (V.str [d.toNat]) else .stuck)=_;exact if_pos ⟨by omega,by omega⟩
 have c1:(i5 (σ.set "due" (.tup us)) v3.sc (eS (eK (eK (eK (sE (i4 v3.body 4)) 0) 0) 0))).get "code"=some (.int d):=M7 (d9.ne (by decide) h1) (by decide+kernel);have c2:(i5 (σ.set "due" (.tup us)) v3.sc (eS (eK (eK (eK (sE (i4 v3.body 4)) 0) 0) 0))).get "line"=some (.int l):=M7 (d9.ne (by decide) h2) (by decide+kernel);have hn:E1 [.str []]=.ok (.bool false):=rfl;refine⟨_,d5.cons e3 (d5.ret (d8.ret (v:=.bool true) (c8.to (o7 (b1:=true) (b2:=true) (dB (r:=o8 [.str [97,d.toNat],.int l]) (us:=us) (c8.told (c8.call (v5.cons (c8.bin (c8.str rfl) (c8.bcall (v5.cons (c8.name (g6 c1 (by decide+kernel) (by decide))) v5.nil) hchr (by decide) hch (by decide+kernel) rfl) (add_str (by show 1+1<=i0;decide))) (v5.cons (c8.name (g6 c2 (by decide+kernel) (by decide))) v5.nil)) hcs rfl (by decide+kernel) rfl rfl) ⟨rfl,hlam,by decide+kernel,by decide+kernel,by decide+kernel⟩)
  (by tm_at "e") r ⟨h5,h6⟩ rfl) fun Z=>H4 (e9 (c8.call (v5.cons (c8.str rfl) v5.nil) hin hn (by decide+kernel) rfl rfl) (by tm_at "e") (yW _ _) rfl)) rfl)))⟩
end
section
variable {W:Wd} {C C₀:Cx} {X:Xs} {k:Nat} {env:Env} {sc:Scope} {oa:Option Addr} {σ σ':d9} {s₀ s s₁ e7 s' s'':Shared} {g g':G} {n:Nat} {opn:Option Str} {h h' h'' i8:Heap} {a b:Addr} {c:Nat} {o:Obj} {g0 gp gL:G} {Fp:List V->R V} {ts:List b9}
variable {tb:Prop} (T:DE W tb g0 gp gL Fp ts) (htb:C.tb=tb) (F:L9 W C C₀ env v3.sc s₀)
noncomputable def bN (mu:Int) (σ:d9):Prop:=(∃b0 b1,σ.get "box"=some (.olist [.int b0,.int b1]))/\σ.get "much"=some (.int mu)
theorem bN.box {mu b0 b1:Int} (p:bN mu σ):bN mu (σ.set "box" (.olist [.int b0,.int b1])):=⟨⟨_,_,d9.same⟩,d9.ne (by decide) p.2⟩
theorem bN.other {mu:Int} {x:Str} {v:V} (p:bN mu σ) (h1:x≠"box") (h2:x≠"much"):bN mu (σ.set x v):=let ⟨⟨b0,b1,e⟩,e'⟩:=p;⟨⟨b0,b1,d9.ne (Ne.symm h1) e⟩,d9.ne (Ne.symm h2) e'⟩
include T htb F
theorem IP {mu:Int} (hm:0<=mu/\mu<=5) (f:j7 W C 8 env v3.sc s₀ (some "box") (some a) σ s) (p:bN mu σ) (hb:D0 s.heap a c) (hc:c<900) {Q:Flow->Shared->Prop} {E:Value->Shared->Prop}
  (hQ: ∀σ' s',j7 W C 8 env v3.sc s₀ (some "box") (some a) σ' s'->bN mu σ'->t9 C env (some a) s.heap (some a) s'.heap->D0 s'.heap a (c+11)->Q .next s'):
  wpAny (model prog w) C.A (execs (sB (i4 v3.body 1)) env) Q E s:=by
 refine f8 (id p) fun z4n hmu=> ?_;refine C0 z4n fun b0 b1 hv=> ?_;clear z4n;rw[show sB (i4 v3.body 1)=[i4 (sB (i4 v3.body 1)) 0,i4 (sB (i4 v3.body 1)) 1] from rfl];refine wpAny_execs_cons (wpAny_Assign_Name (MK T htb F f hv hb (by omega) hmu hm fun t tk s₁ hl hs L=> ?_) (H1 rfl));obtain⟨⟨c0,c1,f₁⟩,P8,YZ⟩:=L;refine wpAny_mono (B4 F f₁ (x:="text") (.inl (by decide+kernel)) (v:=.str t) (.str _ _) (fun z=>by injection z)) (fun Y e7 q=> ?_) fun Y Y z=>z.elim;refine n5 q fun n8 cJ kq=> ?_;clear q;refine V6 P8 fun d0 d1 u0 u1 nn e r=> ?_;clear P8;have W9:D0 e7.heap a (c+10):=⟨d0,d1,u0,u1,nn,kq _ _ _ _ e rfl,r⟩;refine wpAny_execs_cons (wpAny_If (wpAny_isTrue_Not (wpAny_isTrue_value (ML T htb F n8 (d9.ne (by decide) d9.same) W9 (by omega) d9.same hl hs fun l6 L=> ?_) rfl)));obtain⟨⟨e0,e1,E3⟩,P9,wH⟩:=L;have key:=V8 (C:=C) (X:=Xo C (some a)) (oa:=some a) (s:=l6) (x:=.bool true) (u:=.bool true) (.of (.bool true));rw[N3] at key;refine wpAny_mono key (fun b C4 q=> ?_) fun Y Y z=>z.elim;refine f8 q fun st z3r=> ?_;clear q;subst z3r;rw[if_neg (by decide)];refine wpAny_execs_nil (wpAny_execs_nil (hQ _ C4 (E3.step' st) ((p.box.other (by decide) (by decide)).box) (YZ.trans (cJ.trans (wH.trans (E3.keeps st)))) (J9 (E3.sit.live a (.inr rfl)).1 E3.nota P9 st)))
theorem YC {mu:Int} (hm:0<=mu/\mu<=5) (f:j7 W C 8 env v3.sc s₀ (some "box") (some a) σ s) (p:bN mu σ) (hb:D0 s.heap a 0) {Q:Flow->Shared->Prop} {E:Value->Shared->Prop}
  (hQ: ∀σ' s',j7 W C 8 env v3.sc s₀ (some "box") (some a) σ' s'->bN mu σ'->D0 s'.heap a 100->Q .next s'):wpAny (model prog w) C.A (exec (i4 v3.body 1) env) Q E s:=by
 have hlim:i0=1048576:=rfl;have nta:=(f.sit.live a (.inr rfl)).1;have n2:=g6 (sc:=v3.sc) (g:=g0) p.2 (by decide+kernel) (by decide);have hrg:jT [.int (1+mu)]=.ok (.rng (1+mu)):=if_pos (show(1+mu).natAbs<=i0 by omega);refine wpAny_For (wpAny_mono (bM T.hE (htb▸T.og0 8) f.sit (v:=.rng (1+mu)) (.bcall (.cons (.bin (.const rfl) (.name n2) (cS _ _)) .nil) (T.f0 _) (by decide) hrg (by decide+kernel) rfl)) (fun xv s₁ q=> ?_) fun Y Y z=>z.elim) (fun Y=>rfl);have f₁:=f.step' q.1;have P8:=J9 nta f.nota hb q.1;have hi:s0 (.rng (1+mu))=.ok ((List.range (1+mu).toNat).map fun(k:Nat)=>V.int (k:Int)):=if_pos (show(1+mu).natAbs<=i0 by omega);generalize hitems:((List.range (1+mu).toNat).map fun(k:Nat)=>V.int (k:Int))=items at hi;have hil:items.length=(1+mu).toNat:=by rw[<-hitems,List.length_map,List.length_range]
 refine wpAny_mono (jF f₁.sit.ok f₁.sit.xn q.2 hi) (fun it' e7 B8=> ?_) fun Y Y x=>x.elim;refine X0 B8 fun fp P St z2r st₂ V4 itn=> ?_;clear B8;subst z2r;generalize hI:s₁.heap.objs.size=I at itn ⊢;have Z:iQ W C C₀ 8 env v3.sc s₀ (some "box") (some a) σ s₁ e7 I fp items P St:=⟨F,f₁,st₂,itn,A2 (Nat.le_of_eq hI)⟩;have aI:a≠I:=fun z=>by
  refine V6 P8 fun Y Y Y Y Y e Y=> ?_;clear P8;have:=Z.sI;rw[<-z,e] at this;injection this
 refine codeAny_forLoop_any (fun m s'=> ∃i σ',m=items.length+1-i/\i<=items.length/\FJ W C 8 env v3.sc s₀ (some "box") (some a) s₁ e7 I St i σ' (some a) s'/\bN mu σ'/\D0 s'.heap a (11*i)) (fun m s' hJ=> ?_) (items.length+1)
  ⟨0,σ,rfl,Nat.zero_le _,⟨f₁.step' st₂,f₁.keeps st₂,itn.st,(u9.new f₁.sit.inv.tabs Z.sI).keeps f₁.sit.inv.tabs V4,fun Y Y e Y Y=>e,(fun Y o e=>⟨o,e⟩),.inl rfl⟩,p,J9 nta f₁.nota P8 st₂⟩
 refine iK hJ fun i σ' z1r hile J pi hbi=> ?_;clear hJ;subst z1r;have boxk: ∀i8 tk,(∀b o,b≠I->s'.heap.get? b=some o->i8.get? b=some o)->D0 (Shared.heap {s' with heap:=i8,toks:=tk}) a (11*i):=fun i8 tk kp=>by
  refine V6 hbi fun d0 d1 u0 u1 nn e r=> ?_;clear hbi;exact⟨d0,d1,u0,u1,nn,kp _ _ aI e,r⟩
 by_cases hlt:i<items.length
 ·refine(itn.walks _ f.sit.ok.handled).item i s' _ _ hlt J.st fun v i8 tk hv bQ T0=> ?_;have kp: ∀b o,b≠I->s'.heap.get? b=some o->i8.get? b=some o:=fun b o nb e=>T0 b o (fun q=>nb (List.mem_singleton.mp q)) e;have W7:=Z.but (tk:=tk) J bQ kp;have P9:=boxk i8 tk kp;refine e8 (itn.vals i v hlt hv) fun d hd rd=> ?_;refine itn.go _ _ (i+1) _ v _ _ (.inl ⟨_,_,rfl⟩) bQ ?_;have rd':=Z.item W7 rd;generalize ({s' with heap:=i8,toks:=tk}:Shared)=l6 at W7 P9 rd' ⊢;refine wpAny_assign_Name (wpAny_mono (B4 F W7.f (x:="lap") (.inl (by decide+kernel)) (.of rd') (fun z=>absurd (rd'.not_open.symm.trans z) Bool.false_ne_true)) (fun Y C4 O0=> ?_) fun Y Y x=>x.elim);refine n5 O0 fun T5 JL kq=> ?_;clear O0;have nE:=Z.goes W7 T5 JL;refine V6 P9 fun d0 d1 u0 u1 nn e r=> ?_;clear P9;have JM:D0 C4.heap a (11*i):=⟨d0,d1,u0,u1,nn,kq _ _ _ _ e rfl,r⟩;refine IP T htb F hm nE.f (pi.other (by decide) (by decide)) JM (by omega) fun UX C8 bR ZA RF wM=> ?_;exact⟨items.length+1-(i+1),by omega,i+1,UX,rfl,hlt,Z.goes nE bR RF,ZA,wM⟩
 ·refine(itn.walks _ f.sit.ok.handled).done s' _ _ (by rw[show items.length=i by omega];exact J.st) fun i8 tk T0=>wpAny_execs_nil ?_;have mI:=Z.mut J.st J.nc;have kp: ∀b o,b≠I->s'.heap.get? b=some o->i8.get? b=some o:=fun b o nb e=>T0 b o (fun q=>nb (List.mem_singleton.mp q)) e;refine hQ σ' _ (J.f.other (tk:=tk) F (E4 f₁ Z.sI) mI (Z.at_ J.st) (Z.nX' J.oaf) kp) pi ?_;refine AS (boxk i8 tk kp) fun d0 d1 u0 u1 nn e r1 r2 r3=> ?_;exact⟨d0,d1,u0,u1,nn,e,r1,r2,by omega⟩
end
section
variable {W:Wd} {C:Cx} {s:Shared} {g0 gp gL:G} {Fp:List V->R V} {ts:List b9} {tb:Prop}
theorem QN (T:DE W tb g0 gp gL Fp ts) (htb:C.tb=tb) (hlam:gL.lam=true) (hcs:gL.low "check_signs"=some o8) (hchr:gL.low "chr"=none) (hin:gL.fn "is_name"=some E1)
  {aL:Addr} {oL:Obj} {fd:FuncData} (D:Z8 W "law" ["script"] v3.body aL oL fd) (hsc:fd.scope=v3.sc) (ok:C.Ok 9) (wf:W.Fits C) (hxg: ∀a,C.X a->W.G.get? a=none) (hlive: ∀a,C.X a-> ¬o4 a/\ ∃o,s.heap.get? a=some o) (inv:aM W C s.heap)
  {u:Value} {is:List Int} (r:Rp s.heap C.X u (.list (is.map V.int))) (hlen:is.length<=63):codeAny (model prog w) C.A (.call (.ref aL) ⟨[u],[]⟩) (PP (fun v s'=>v=.bool true/\k9 C s s'/\aM W C s'.heap) fun Z Z=>False) s:=by
 refine uF (k:=8) (s₀:=s) (X:=C.X) (σ:=[("script",.list (is.map V.int))]) (opn:=some "box") (oa:=none) T.wok D ok wf (fun Z x=>x) hxg hlive inv ⟨_,_,rfl⟩ (fun Z Z e=>e) inv.base inv.G inv.tabs (fun b e=>by injection e) rfl
  (fun x v e=> ?_) (fun x v e z=> ?_) fun env C' s₁ hX htb' Z keep F f=> ?_
 ·unfold d9.get at e;rcases List.mem_singleton.mp (mem_of_lookup e) with e;injection e with e e2;subst e;subst e2;exact⟨_,rfl,.head _,.of (r.less fun b z=>z.elim id fun z=>by injection z)⟩
 ·unfold d9.get at e;rcases List.mem_singleton.mp (mem_of_lookup e) with e;injection e with e e2;subst e;subst e2;injection z
 rw[hsc] at F f;have ht:C'.tb=tb:=htb'.trans htb;rw[show v3.body=[i4 v3.body 0,i4 v3.body 1,i4 v3.body 2,i4 v3.body 3,i4 v3.body 4] from rfl];refine wpAny_execs_cons (YA T ht F f rfl hlen fun a nH mu b0 b1 e7 n8 hv hmu hm hb=> ?_);refine wpAny_execs_cons (YC T ht F hm n8 ⟨⟨_,_,hv⟩,hmu⟩ hb fun σ₂ l6 E3 p P9=> ?_);refine f8 p fun z3n Z=> ?_;clear p;refine C0 z3n fun c0 c1 UY=> ?_;clear z3n;refine wpAny_execs_cons (YB T ht F E3 UY P9 (by decide) fun AO d l C4 T5 hd hl h1 h2=> ?_);refine C0 (IN hlam hcs hchr hin hd hl h1 h2) fun σ' N hN=> ?_;have key:=R6 (T.hS (0+N)) (ht▸T.ogL) F [i4 v3.body 3,i4 v3.body 4] T5;rw[hN 0] at key;refine wpAny_mono key (fun fl C8 q=> ?_) fun Z Z z=>z.elim;refine r6 q fun oa' bR Z z2t=> ?_;clear q;refine e8 z2t fun v z1r hr=> ?_;clear z2t;subst z1r;obtain rfl:=M1 hr;have st:=F.back htb' bR.step;exact⟨rfl,st,inv.gr ok wf st.gr⟩
end
end
end
section
open PySem PySem.W PyProof.Rows
theorem cE {v:Option Value} {s:String} (h:jR v s=true): ∃t,v=some (.str (Str.ofString s) t):=by
 cases v with
 |none=>injection h
 |some v=>cases v with
  |str x t=>exact⟨t,by rw[eq_of_beq (show(x==Str.ofString s)=true from h)]⟩
  |_=>injection h
theorem IQ {c:Option CFound} {v:Value} (h:MX c v=true):c=some (.val v):=by
 cases c with
 |none=>injection h
 |some c=>cases c with
  |val u=>rw[eq_of_beq (show(u==v)=true from h)]
  |get _ _ _ _=>injection h
theorem gN (h:Heap): ∀(as:List Addr) (a:Addr) (o:Obj),(as.filterMap fun a=>(h.get? a).map fun o=>(a,o)).lookup a=some o->h.get? a=some o
 |[],_,_,e=>nomatch e
 |b::r,a,o,e=>by
  rw[List.filterMap_cons] at e;cases hb:h.get? b with
  |none=>rw[hb] at e;exact gN h r a o e
  |some ob=>
   rw[hb] at e;have e:((b,ob)::r.filterMap fun a=>(h.get? a).map fun o=>(a,o)).lookup a=some o:=e;rw[List.lookup_cons] at e;cases hab:a==b with
   |true=>rw[hab] at e;rw[eq_of_beq hab,hb];exact e
   |false=>rw[hab] at e;exact gN h r a o e
theorem dI (h:Heap): ∀(as:List Addr) (a:Addr) (o:Obj),(as.filterMap fun a=>(h.get? a).map fun o=>(a,o)).lookup a=some o->a∈as
 |[],_,_,e=>nomatch e
 |b::r,a,o,e=>by
  rw[List.filterMap_cons] at e;cases hb:h.get? b with
  |none=>rw[hb] at e;exact .tail _ (dI h r a o e)
  |some ob=>
   rw[hb] at e;have e:((b,ob)::r.filterMap fun a=>(h.get? a).map fun o=>(a,o)).lookup a=some o:=e;rw[List.lookup_cons] at e;cases hab:a==b with
   |true=>rw[eq_of_beq hab];exact .head _
   |false=>rw[hab] at e;exact .tail _ (dI h r a o e)
theorem IR: ∀a∈([2,52,32,31,51,29,49]:List Addr),¬o4 a:=by unfold o4;decide
theorem y3 {p0 p1 p2 G:Prop} (h:(p0/\p1)/\p2) (k:p0->p1->p2->G):G:=k h.1.1 h.1.2 h.2
theorem y4 {p0 p1 p2 p3 G:Prop} (h:((p0/\p1)/\p2)/\p3) (k:p0->p1->p2->p3->G):G:=k h.1.1.1 h.1.1.2 h.1.2 h.2
theorem y7 {p0 p1 p2 p3 p4 p5 p6 G:Prop} (h:(((((p0/\p1)/\p2)/\p3)/\p4)/\p5)/\p6) (k:p0->p1->p2->p3->p4->p5->p6->G):G:=k h.1.1.1.1.1.1 h.1.1.1.1.1.2 h.1.1.1.1.2 h.1.1.1.2 h.1.1.2 h.1.2 h.2
theorem y8 {p0 p1 p2 p3 p4 p5 p6 p7 G:Prop} (h:((((((p0/\p1)/\p2)/\p3)/\p4)/\p5)/\p6)/\p7) (k:p0->p1->p2->p3->p4->p5->p6->p7->G):G:=k h.1.1.1.1.1.1.1 h.1.1.1.1.1.1.2 h.1.1.1.1.1.2 h.1.1.1.1.2 h.1.1.1.2 h.1.1.2 h.1.2 h.2
theorem y11 {p0 p1 p2 p3 p4 p5 p6 p7 p8 p9 p10 G:Prop} (h:(((((((((p0/\p1)/\p2)/\p3)/\p4)/\p5)/\p6)/\p7)/\p8)/\p9)/\p10) (k:p0->p1->p2->p3->p4->p5->p6->p7->p8->p9->p10->G):G:=k h.1.1.1.1.1.1.1.1.1.1 h.1.1.1.1.1.1.1.1.1.2 h.1.1.1.1.1.1.1.1.2 h.1.1.1.1.1.1.1.2 h.1.1.1.1.1.1.2 h.1.1.1.1.1.2 h.1.1.1.1.2 h.1.1.1.2 h.1.1.2 h.1.2 h.2
theorem QO (s:Shared) (h:VV s=true):RL (s.heap.nsMap mainGlobals) s.heap:=by
 unfold VV at h;simp only[Bool.and_eq_true,Option.isNone_iff_eq_none,beq_iff_eq,List.all_eq_true] at h;refine y7 h fun h1 h2 hc hm ht h9 hk=> ?_;refine y11 hc fun c1 c2 c3 c4 c5 b4 b5 b1 b2 b3 ci=> ?_;refine y8 hm fun m1 m2 m3 m4 m5 m6 m7 m8=> ?_;refine y4 ht fun t1 t2 t3 t4=> ?_;refine y3 hk fun k1 k2 k3=> ?_;exact⟨_,_,_,.of_isNs h1,.of_isNs h2,gN s.heap _,fun a o e=>IR a (dI _ _ _ _ e),⟨c1,c2,c3,c4,c5,ci⟩,⟨b1,b2,b3,b4,b5⟩,⟨m1,m2,m3,m4,m5,m6,m7,m8⟩,⟨cE t1,cE t2,cE t3,cE t4⟩,
  fun f hf=>h9 f (List.contains_iff_mem.mp hf),k1,IQ k2,k3⟩
theorem RL.keeps (mg:Str->Option Value) (h h':Heap) (x:RL mg h) (k: ∀b o,h.get? b=some o->h'.get? b=some o):RL mg h':=by
 refine wQ x fun mC mB K x=> ?_;exact⟨mC,mB,K,x.nC.keeps k,x.nB.keeps k,x.kin.keeps k,x.kt,x.c,x.b,x.m,x.t,x.nine,x.k⟩
theorem IS {h:Heap} {a:Addr} {fd:FuncData} (e:(h.get? a).map OI=some (some (.type "function",fd))):DY h a fd:=by
 refine e8 (Option.map_eq_some_iff.mp e) fun o h1 h2=> ?_;refine⟨o,h1,?_⟩;unfold OI at h2;cases hd:o.data with
 |func f=>rw[hd] at h2;refine f8 (Prod.mk.inj (Option.some.inj h2)) fun e1 e2=> ?_;exact⟨by rw[e2],e1⟩
 |_=>rw[hd] at h2;injection h2
theorem fE {h:Heap} {a:Addr} {c:Value} (e:(h.get? a).map wR=some (some (.type "function",c))):X2 h a c:=by
 refine e8 (Option.map_eq_some_iff.mp e) fun o h1 h2=> ?_;unfold wR at h2;cases hd:o.data with
 |func f=>rw[hd] at h2;refine f8 (Prod.mk.inj (Option.some.inj h2)) fun e1 e2=> ?_;exact⟨o,f,h1,hd,e2,e1⟩
 |_=>rw[hd] at h2;injection h2
theorem AK {h:Heap} {a:Addr} {c:Value} (e:(h.get? a).map qM=some (some (some c))):AT h a c:=by
 refine e8 (Option.map_eq_some_iff.mp e) fun o h1 h2=> ?_;unfold qM at h2;cases hd:o.data with
 |fields f=>rw[hd] at h2;exact⟨o,f,h1,hd,Option.some.inj h2⟩
 |_=>rw[hd] at h2;injection h2
theorem UB (w:World) (s:Shared) (e:Yf s=Ya w):GY w s.heap:=by
 unfold Yf Ya at e;simp only[List.map_cons,List.map_nil,Prod.mk.injEq,List.cons.injEq,and_true] at e;refine VQ e fun z1n z2n z3n d0 d1 d2 d3=> ?_;clear e;refine RV z1n fun a1 a2 a3 a4 a5 a6 a7 a8 a9 a10=> ?_;clear z1n;refine f8 z2n fun b1 b2=> ?_;clear z2n;refine f8 z3n fun c1 c2=> ?_;clear z3n;exact⟨a1,a2,a3,⟨a4,a5,a6,a7,a8,a9⟩,a10,IS b1,IS b2,AK c1,AK c2,fE d0,fE d1,fE d2,fE d3⟩
theorem GY.keeps (w:World) (h h':Heap) (x:GY w h) (k: ∀b o,h.get? b=some o->h'.get? b=some o):GY w h':=by
 have kf: ∀{a fd},DY h a fd->DY h' a fd:=fun⟨o,e,r⟩=>⟨o,k _ _ e,r⟩;have kc: ∀{a c},X2 h a c->X2 h' a c:=fun⟨o,fd,e,r⟩=>⟨o,fd,k _ _ e,r⟩;have kl: ∀{a c},AT h a c->AT h' a c:=fun⟨o,fd,e,r⟩=>⟨o,fd,k _ _ e,r⟩;refine JQ x.t fun t1 t2 t3 t4 t5 t6=> ?_;exact⟨k _ _ x.o52,k _ _ x.o32,k _ _ x.o22,⟨k _ _ t1,k _ _ t2,k _ _ t3,k _ _ t4,k _ _ t5,k _ _ t6⟩,k _ _ x.o55,kf x.f29,kf x.f49,kl x.c28,kl x.c48,kc x.c242,kc x.c263,kc x.c268,kc x.c275⟩
noncomputable def bO:List (Addr×Addr):=[(262,258),(267,265),(274,270)]
theorem Q9 {h:Heap} {nm:String} {t l n ref P c:Nat} {x1 x2 x3:Value} {tt:Nat} (e:h.get? c=some (wS nm t l n ref P x1 x2 x3 tt)) (hne:c≠P):CodeHd h c P:=
 ⟨_,_,_,_,_,_,_,_,_,e,rfl,rfl,rfl,rfl,rfl,rfl,rfl,rfl,hne⟩
section
variable {h:Heap} {mg mb:Str->Option Value} (Y:GY w h)
include Y
theorem jQ:TabsAt bO h:=fun q hq=>by
 refine JQ Y.t fun t1 t2 t3 t4 t5 t6=> ?_;rcases hq with _|⟨_,_|⟨_,_|⟨_,hq⟩⟩⟩
 ·exact⟨Q9 t1 (by decide),t2⟩
 ·exact⟨Q9 t3 (by decide),t4⟩
 ·exact⟨Q9 t5 (by decide),t6⟩
 ·cases hq
theorem MM:o3 h:=fun q hq=>by
 refine JQ Y.t fun t1 t2 t3 t4 t5 t6=> ?_;have em: ∀(c P:Addr) (q:Str),CodeHd h c P->h.get? P=some (tabObj #[])->NM h c P q:=fun c P q a b=>⟨a,#[],b,by unfold TriplesOk;trivial,fun pos cv e=>nomatch e⟩;rcases hq with _|⟨_,_|⟨_,_|⟨_,hq⟩⟩⟩
 ·exact em _ _ _ (Q9 t1 (by decide)) t2
 ·exact em _ _ _ (Q9 t3 (by decide)) t4
 ·exact em _ _ _ (Q9 t5 (by decide)) t6
 ·cases hq
omit Y
noncomputable abbrev dO (h:Heap) (mg mb:Str->Option Value):Wd:=⟨ghostOf h bO,mg,mb⟩
theorem gk {b:Addr} {o:Obj} (e:h.get? b=some o) (hb: ¬o4 b):(ghostOf h bO).get? b=some o:=ghost_ne e fun q=>hb (by
 rcases q with _|⟨_,_|⟨_,_|⟨_,q⟩⟩⟩
 ·exact .inl rfl
 ·exact .inr (.inl rfl)
 ·exact .inr (.inr rfl)
 ·cases q)
theorem AL {b:Addr} {o:Obj} (e:(ghostOf h bO).get? b=some o):h.get? b=some o:=of_hideAll _ e
theorem QP {a:Addr} (t:o4 a):(ghostOf h bO).get? a=none:=hideAll_none _ (by
 rcases t with rfl|rfl|rfl
 ·exact .head _
 ·exact .tail _ (.head _)
 ·exact .tail _ (.tail _ (.head _)))
variable {q:Program} {loose:List Str} {mean:ExcName->Option Value} (T:Top q loose mean mg mb h)
include Y T
theorem iH:(dO h mg mb).Ok:=by
 have hT:=jQ Y;refine⟨ghost_ns hT T.g,ghost_ns hT T.b,e8 (T.nolimit) fun mc a r=>⟨mc,ghost_ns hT a,r⟩,T.builtins,fun P hP=> ?_⟩;refine OF T.bmain fun bm ob b1 b2 b3 b4 b5 b6=> ?_;have e:=ghost_get hT b3 fun q=>by rw[q] at b4;injection b4
 refine⟨bm,ob,b1,b2,fun z=> ?_,fun z=> ?_,e,b4,b5,b6⟩
 ·refine nJ T.g fun o es ep g1 g2 Z=> ?_;rw[<-z,b3] at g1;rw[Option.some.inj g1,g2] at b6;injection b6
 ·rw[z,QP hP] at e;injection e
end
section
theorem iB1:iB 1=zQ:=by kernel_rfl
theorem iB2:iB 2=zR:=by kernel_rfl
theorem iP1: ∃p p',iP 1=⟨[],[⟨"self",none,p⟩,⟨"reason",none,p'⟩],none,[],[],none,[.Constant (.str "") 0 ⟨4,30,4,32⟩]⟩:=by
 refine⟨⟨4,17,4,21⟩,⟨4,23,4,29⟩,?_⟩;kernel_rfl
theorem iP2: ∃p p' p'',iP 2=⟨[],[⟨"self",none,p⟩,⟨"line",none,p'⟩,⟨"reason",none,p''⟩],none,[],[],none,[]⟩:=⟨⟨9,17,9,21⟩,⟨9,23,9,27⟩,⟨9,29,9,35⟩,by kernel_rfl⟩
end
section
variable {h:Heap} {mg mb:Str->Option Value} {mC mB:Str->Option Value} {K:Frag} (Y:GY w h) (X:GX mg h mC mB K)
theorem notab {a:Addr} (h1:a≠258) (h2:a≠265) (h3:a≠270): ¬o4 a:=fun t=>by
 rcases t with e|e|e
 ·exact h1 e
 ·exact h2 e
 ·exact h3 e
include Y in
theorem IT {c:Addr} {v:Value} {q:Str} {t:Tok} (x:AT h c v) (hv:v=.str q t) (hn: ¬o4 c):(ghostOf h bO).CodeRec (.ref c) q:=
 v8 (x) fun o vs e d z=>⟨c,o,vs,t,rfl,gk e hn,d,hv▸z⟩
theorem YD:(["self","line","reason"]:List Str).all (fun x=>(iS 2).names.lookup x==some .local)=true:=by kernel_rfl
theorem YE:(["self","reason"]:List Str).all (fun x=>(iS 1).names.lookup x==some .local)=true:=by kernel_rfl
theorem YF:((iS 2).names.lookup ("BoardError":Str)==some .globalImplicit &&(iS 2).names.all (fun x=>x.2 !=.cell) && !(iS 2).isCoroutine && !(iS 2).isGenerator &&(iS 2).kind==.function)=true:=by kernel_rfl
theorem YG:((iS 1).names.lookup ("ValueError":Str)==some .globalImplicit &&(iS 1).names.all (fun x=>x.2 !=.cell) && !(iS 1).isCoroutine && !(iS 1).isGenerator &&(iS 1).kind==.function)=true:=by kernel_rfl
include Y in
theorem IU:lF (ghostOf h bO) 3 49 ["self","line","reason"] "BoardError" zR (JP "BadText.__init__" 2 .none 48):=by
 refine r6 Y.f49 fun o e d c=> ?_;have b:=YF;simp only[Bool.and_eq_true,beq_iff_eq,List.all_eq_true,bne_iff_ne,Bool.not_eq_true'] at b;refine f8 b fun z2n b5=> ?_;clear b;obtain⟨⟨⟨b1,b2⟩,b3⟩,b4⟩:=z2n;refine⟨⟨o,gk e (notab (by decide) (by decide) (by decide)),d,c⟩,IT Y Y.c48 rfl (notab (by decide) (by decide) (by decide)),congrArg _ iB2,fun s us Z hl=>.of_eq ?_,rfl,rfl,fun x hx=>beq_iff_eq.mp (List.all_eq_true.mp YD x hx),b1,b2,b3,b4,b5⟩;refine wQ iP2 fun p p' p'' hp=> ?_;rcases us with _|⟨u1,_|⟨u2,_|⟨u3,_|_⟩⟩⟩<;>try cases hl
 unfold JP;rw[hp];rfl
include Y in
theorem IV:lF (ghostOf h bO) 3 29 ["self","reason"] "ValueError" zQ (JP "BoardError.__init__" 1 (.ref 22) 28):=by
 refine r6 Y.f29 fun o e d c=> ?_;have b:=YG;simp only[Bool.and_eq_true,beq_iff_eq,List.all_eq_true,bne_iff_ne,Bool.not_eq_true'] at b;refine f8 b fun z1n b5=> ?_;clear b;obtain⟨⟨⟨b1,b2⟩,b3⟩,b4⟩:=z1n;refine⟨⟨o,gk e (notab (by decide) (by decide) (by decide)),d,c⟩,IT Y Y.c28 rfl (notab (by decide) (by decide) (by decide)),congrArg _ iB1,fun s us k hl=> ?_,rfl,rfl,fun x hx=>beq_iff_eq.mp (List.all_eq_true.mp YE x hx),b1,b2,b3,b4,b5⟩;refine C0 iP1 fun p p' hp=> ?_;rcases us with _|⟨u1,_|⟨u2,_|_⟩⟩<;>try cases hl
 have e22:=k _ _ (gk Y.o22 (notab (by decide) (by decide) (by decide)));unfold JP;rw[hp];exact .of_defaults (T:=22) rfl e22 rfl rfl rfl
end
end
section
open PySem PySem.W PyProof.Rows PySem.Calls
theorem IW:recsOf qv=oP.map K1:=by kernel_rfl
noncomputable def gO (P:Arguments):Option (List Arg):=
 if (P.posonlyargs.isEmpty &&P.vararg.isNone &&P.kwonlyargs.isEmpty &&P.kw_defaults.isEmpty &&P.kwarg.isNone &&P.defaults.isEmpty)=true then some P.args else none
theorem qJ {P:Arguments} {as:List Arg} (h:gO P=some as):P=⟨[],as,none,[],[],none,[]⟩:=by
 unfold gO at h;by_cases c:(P.posonlyargs.isEmpty &&P.vararg.isNone &&P.kwonlyargs.isEmpty &&P.kw_defaults.isEmpty &&P.kwarg.isNone &&P.defaults.isEmpty)=true
 ·rw[if_pos c] at h;simp only[Bool.and_eq_true,List.isEmpty_iff,Option.isNone_iff_eq_none] at c;obtain⟨a,b,d,e,f,k,m⟩:=P;refine f8 c fun c c6=> ?_;refine f8 c fun c c5=> ?_;refine f8 c fun c c4=> ?_;refine f8 c fun c c3=> ?_;refine f8 c fun c1 c2=> ?_;clear c;rw[show a=[] from c1,show d=none from c2,show e=[] from c3,show f=[] from c4,show k=none from c5,show m=[] from c6,show b=as from Option.some.inj h]
 ·rw[if_neg c] at h;exact no h
theorem y9 {p0 p1 p2 p3 p4 p5 p6 p7 p8 G:Prop} (h:(((((((p0/\p1)/\p2)/\p3)/\p4)/\p5)/\p6)/\p7)/\p8) (k:p0->p1->p2->p3->p4->p5->p6->p7->p8->G):G:=k h.1.1.1.1.1.1.1.1 h.1.1.1.1.1.1.1.2 h.1.1.1.1.1.1.2 h.1.1.1.1.1.2 h.1.1.1.1.2 h.1.1.1.2 h.1.1.2 h.1.2 h.2
noncomputable def MN (i:Nat) (f:Str) (ps:List Str):Bool:=
 let d:=K1 i;let ns:=d.scope.names
 d.name==f &&(match gO d.params with|some as=>as.map (·.arg)==ps|none=>false) &&decide ps.Nodup &&ps.all (fun x=>ns.lookup x==some .local||ns.lookup x==some .cell) &&
 ns.all (fun p=>p.2 !=.cell||ns.lookup p.1==some .cell) &&ns.all (fun p=>p.2 !=.free) && !d.scope.isCoroutine && !d.scope.isGenerator &&d.scope.kind==.function
noncomputable def L7 (ps:List Str):Prop:= ∀(as:List Arg) (us:List Value) (n:Str) (b:List Stmt) (sc:Scope) (pm cd doc:Value),as.map (·.arg)=ps->us.length=ps.length->
 bindArgs (docDef n ⟨[],as,none,[],[],none,[]⟩ b sc pm cd doc) ⟨us,[]⟩=pure (ps.zip us)
theorem bp0:L7 []:=by
 intro as us n b sc pm cd doc h hl;cases as with
 |cons _ _=>injection h
 |nil=>cases us with
  |cons _ _=>cases hl
  |nil=>rfl
theorem DI {as:List Arg} {a:Str} {r:List Str} (h:as.map (·.arg)=a::r): ∃n q t,as=⟨a,n,q⟩::t/\t.map (·.arg)=r:=by
 cases as with
 |nil=>injection h
 |cons x t=>obtain⟨x1,x2,x3⟩:=x;injection h with h1 h2;exact⟨x2,x3,t,by rw[<-h1],h2⟩
theorem DJ {us:List Value} {n:Nat} (h:us.length=n+1): ∃u t,us=u::t/\t.length=n:=by
 cases us with
 |nil=>injection h
 |cons x t=>injection h with h;exact⟨x,t,rfl,h⟩
theorem VC {a:Str} (H: ∀(n:Str) (b:List Stmt) (sc:Scope) (pm cd doc:Value) (n0:Option Expr) (q0:Pos) (u0:Value),bindArgs (docDef n ⟨[],[⟨a,n0,q0⟩],none,[],[],none,[]⟩ b sc pm cd doc) ⟨[u0],[]⟩=pure [(a,u0)]):L7 [a]:=by
 intro as us n b sc pm cd doc h0 l0;refine F5 (DI h0) fun n0 q0 as0 e0 h1=> ?_;refine r0 (DJ l0) fun u0 us0 d0 l1=> ?_;rw[e0,List.map_eq_nil_iff.mp h1,d0,List.length_eq_zero_iff.mp l1];exact H _ _ _ _ _ _ _ _ _
theorem NV {a a2:Str} (H: ∀(n:Str) (b:List Stmt) (sc:Scope) (pm cd doc:Value) (n0:Option Expr) (q0:Pos) (u0:Value) (n1:Option Expr) (q1:Pos) (u1:Value),bindArgs (docDef n ⟨[],[⟨a,n0,q0⟩,⟨a2,n1,q1⟩],none,[],[],none,[]⟩ b sc pm cd doc) ⟨[u0,u1],[]⟩=pure [(a,u0),(a2,u1)]):L7 [a,a2]:=by
 intro as us n b sc pm cd doc h0 l0;refine F5 (DI h0) fun n0 q0 as0 e0 h1=> ?_;refine F5 (DI h1) fun n1 q1 as1 e1 h2=> ?_;refine r0 (DJ l0) fun u0 us0 d0 l1=> ?_;refine r0 (DJ l1) fun u1 us1 d1 l2=> ?_;rw[e0,e1,List.map_eq_nil_iff.mp h2,d0,d1,List.length_eq_zero_iff.mp l2];exact H _ _ _ _ _ _ _ _ _ _ _ _
theorem bp3 {a a2 a3:Str} (H: ∀(n:Str) (b:List Stmt) (sc:Scope) (pm cd doc:Value) (n0:Option Expr) (q0:Pos) (u0:Value) (n1:Option Expr) (q1:Pos) (u1:Value) (n2:Option Expr) (q2:Pos) (u2:Value),bindArgs (docDef n ⟨[],[⟨a,n0,q0⟩,⟨a2,n1,q1⟩,⟨a3,n2,q2⟩],none,[],[],none,[]⟩ b sc pm cd doc) ⟨[u0,u1,u2],[]⟩=pure [(a,u0),(a2,u1),(a3,u2)]):L7 [a,a2,a3]:=by
 intro as us n b sc pm cd doc h0 l0;refine F5 (DI h0) fun n0 q0 as0 e0 h1=> ?_;refine F5 (DI h1) fun n1 q1 as1 e1 h2=> ?_;refine F5 (DI h2) fun n2 q2 as2 e2 h3=> ?_;refine r0 (DJ l0) fun u0 us0 d0 l1=> ?_;refine r0 (DJ l1) fun u1 us1 d1 l2=> ?_;refine r0 (DJ l2) fun u2 us2 d2 l3=> ?_;rw[e0,e1,e2,List.map_eq_nil_iff.mp h3,d0,d1,d2,List.length_eq_zero_iff.mp l3];exact H _ _ _ _ _ _ _ _ _ _ _ _ _ _ _
theorem O3:L7 ["text"]:=VC fun Z Z Z Z Z Z Z Z Z=>rfl
theorem qK:L7 ["script"]:=VC fun Z Z Z Z Z Z Z Z Z=>rfl
theorem DL:L7 ["letter"]:=VC fun Z Z Z Z Z Z Z Z Z=>rfl
theorem MO:L7 ["call"]:=VC fun Z Z Z Z Z Z Z Z Z=>rfl
theorem C3:L7 ["text","line"]:=NV fun Z Z Z Z Z Z Z Z Z Z Z Z=>rfl
theorem oG:L7 ["text","place"]:=NV fun Z Z Z Z Z Z Z Z Z Z Z Z=>rfl
theorem iY:L7 ["figures","line"]:=NV fun Z Z Z Z Z Z Z Z Z Z Z Z=>rfl
theorem fF:L7 ["atom","line"]:=NV fun Z Z Z Z Z Z Z Z Z Z Z Z=>rfl
theorem iI:L7 ["box","many"]:=NV fun Z Z Z Z Z Z Z Z Z Z Z Z=>rfl
theorem sK:L7 ["text","stop"]:=NV fun Z Z Z Z Z Z Z Z Z Z Z Z=>rfl
theorem oH:L7 ["found","line"]:=NV fun Z Z Z Z Z Z Z Z Z Z Z Z=>rfl
theorem vV:L7 ["told","due"]:=NV fun Z Z Z Z Z Z Z Z Z Z Z Z=>rfl
theorem IX:L7 ["text","place","line"]:=bp3 fun Z Z Z Z Z Z Z Z Z Z Z Z Z Z Z=>rfl
section
variable {h:Heap} {mg mb:Str->Option Value} {mC mB:Str->Option Value} {K:Frag} (Y:GY w h) (X:GX mg h mC mB K) {loose:List Str} {mean:ExcName->Option Value} (T:Top qv loose mean mg mb h)
include Y X T
theorem UC:CD (dO h mg mb) K mC mB mg (JP "BadText.__init__" 2 .none 48) (JP "BoardError.__init__" 1 (.ref 22) 28):=by
 have hT:=jQ Y;refine JQ X.c fun c1 c2 c3 Z Z ci=> ?_;refine OE X.b fun b1 b2 b3 Z Z=> ?_;refine OE X.m fun m1 m2 Z m4 Z=> ?_;exact⟨⟨⟨⟨"BadText","BadText",[.ref 32],[],[],none,none,some (.ref 36),none,some (.str "BadText" 217),some (.str "BadText" 225),some (.bool true)⟩,gk Y.o52 (notab (by decide) (by decide) (by decide))⟩,
   ⟨_,_,gk Y.o32 (notab (by decide) (by decide) (by decide)),rfl,rfl⟩,ghost_ns hT X.nC,ghost_ns hT X.nB⟩,
  fun a o e=>gk (X.kin a o e) (X.kt a o e),ghost_ns hT T.g,m1,m4,m2,c1,c2,c3,b1,b2,b3,ci,X.k.1,X.k.2.1,X.k.2.2,IU Y,IV Y⟩
omit X in
theorem IY {i:Nat} (hi:i∈oP): ∃a o pm code doc,mg (K1 i).name=some (.ref a)/\(ghostOf h bO).get? a=some o/\o.data=.func (docDef (K1 i).name (K1 i).params (K1 i).body (K1 i).scope pm code doc)/\(ghostOf h bO).CodeRec code (K1 i).name:=by
 have hT:=jQ Y;refine AS (T.fn (K1 i) (IW▸List.mem_map_of_mem hi)) fun a o pm code doc h1 h2 h3 z5t=> ?_;refine sW z5t fun c oc vs t e1 e2 z4n=> ?_;clear z5t;refine f8 z4n fun e3 e4=> ?_;clear z4n;refine⟨a,o,pm,code,doc,h1,ghost_get hT h2 (fun q=>by rw[q] at h3;injection h3),h3,c,oc,vs,t,e1,ghost_get hT e2 (fun q=> ?_),e3,e4⟩;rw[q] at e3;injection e3 with e3;subst e3;injection e4
omit X in
theorem IZ {i:Nat} {f:Str} {ps:List Str} {body:List Stmt} {sc:Scope} (hi:i∈oP) (hbp:L7 ps) (hc:MN i f ps=true) (hb:(K1 i).body=body) (hs:(K1 i).scope=sc)
  (told:sc.names.lookup ("_law_told":Str)=some .globalImplicit-> ∃a c,mg f=some (.ref a)/\X2 h a (.ref c)/\ ∃P,(c,P,f++(".<locals>.":Str)++("<lambda>":Str))∈E8):
  ∃a o fd,Z8 (dO h mg mb) f ps body a o fd/\fd.scope=sc:=by
 refine AS (IY Y T hi) fun a o pm code doc h1 h2 h3 h4=> ?_;unfold MN at hc;simp only[Bool.and_eq_true] at hc;refine y9 hc fun hn hp hnd hpar hcell hfree hco hgen hkind=> ?_;clear hc;rw[eq_of_beq hn] at h1 h3 h4;cases hP:gO (K1 i).params with
 |none=>rw[hP] at hp;injection hp
 |some as=>
  rw[hP] at hp;have hps:=eq_of_beq hp;rw[qJ hP] at h3;refine⟨a,o,_,⟨h1,h2,h3,h4,congrArg _ hb,fun us hl=> ?_,rfl,rfl,rfl,of_decide_eq_true hnd,fun x hx=> ?_,fun x hx=> ?_,fun x hx=> ?_,Bool.not_eq_true' _ |>.mp hco,Bool.not_eq_true' _ |>.mp hgen,eq_of_beq hkind,fun ht=> ?_⟩,hs⟩
  ·exact hbp as us _ _ _ _ _ _ hps hl
  ·exact(Bool.or_eq_true_iff.mp (List.all_eq_true.mp hpar x hx)).imp eq_of_beq eq_of_beq
  ·rcases Bool.or_eq_true_iff.mp (List.all_eq_true.mp hcell _ hx) with z|z
   ·injection z
   ·exact eq_of_beq z
  ·obtain⟨p,hm,e⟩: ∃p∈(K1 i).scope.names,p.2=.free:=⟨_,mem_of_lookup hx,rfl⟩;have:=List.all_eq_true.mp hfree _ hm;rw[e] at this;injection this
  ·refine v8 (told (hs▸ht)) fun a' c e1 z1n z2t=> ?_;refine d6 z2t fun P hm=> ?_;clear z2t;refine cQ z1n fun o' fd' e2 e3 e4 Z=> ?_;clear z1n;obtain rfl:=Value.ref.inj (Option.some.inj (h1.symm.trans e1));obtain rfl:=Option.some.inj (e2.symm.trans (AL h2));rw[h3] at e3;injection e3 with e3;subst e3;exact⟨_,hm,e4,rfl⟩
end
end
section
open PySem PySem.W PyProof.Rows
section
variable {W:Wd} {k k':Nat} {tb:Prop} {g:G} {f:Str} {F:List V->R V}
theorem dY.more (h:k<=k') (x:dY W k tb f F):dY W k' tb f F:=
 X0 (x) fun a o fd h1 h2 h3 q=>⟨a,o,fd,h1,h2,h3,fun C X s us vs ok=>q C X s us vs (ok.less h)⟩
theorem dY.of (wok:W.Ok) {ps:List Str} {body:List Stmt} {sc:Scope} (D: ∃a o fd,Z8 W f ps body a o fd/\fd.scope=sc) (hS: ∀n,xQ W n) (hg:C5 W k tb g) (opn:Option Str)
  (run: ∀vs,F vs≠.stuck->g8 g opn sc ps body vs (F vs)):dY W (k+1) tb f F:=by
 obtain⟨a,o,fd,D,rfl⟩:=D;refine⟨a,o,fd,D.name,D.obj,D.data,fun C X s us vs ok wf ht hs hx hl i r=> ?_⟩;by_cases hn:F vs=.stuck
 ·rw[hn];trivial
 refine d6 (run vs hn) fun N hN=> ?_;have e:=hN 0;rw[Nat.zero_add] at e;obtain⟨a',o',fd',h1,_,_,q⟩:=GH wok D hS hg opn N;obtain rfl:=Value.ref.inj (Option.some.inj (D.name.symm.trans h1));rw[<-e];exact q C X s us vs ok wf ht hs hx hl i r
noncomputable abbrev Tb:=List (Str×(List V->R V))
noncomputable def DS (fs low:Tb) (lam:Bool):G:=⟨fun x=>rP.lookup x,fun f=>fs.lookup f,fun f=>low.lookup f,lam⟩
variable (W k tb) in
noncomputable def S8 (fs:Tb):Prop:= ∀p∈fs,dY W k tb p.1 p.2
noncomputable def ZQ (fs:Tb):Bool:=m9.all fun f=>(fs.map (·.1)).all (f != ·)
theorem QQ {fs:Tb} (h:ZQ fs=true) (f:Str) (hf:m9.contains f=true):fs.lookup f=none:=by
 have:=List.all_eq_true.mp h f (List.contains_iff_mem.mp hf);rw[List.lookup_eq_none_iff];intro p hp;have:=List.all_eq_true.mp this p.1 (List.mem_map_of_mem hp);exact this
theorem AM {fs low:Tb} {lam:Bool} (h:ZQ fs=true):N6 (DS fs low lam):=⟨rfl,QQ h⟩
variable (W) in
noncomputable def sL:Prop:=(∀x v,rP.lookup x=some v->v.open? =false/\ ∃u,W.mg x=some u/\ ∀(h:Heap) (X:Xs),(∀b o,W.G.get? b=some o->h.get? b=some o)->(∀a,X a->W.G.get? a=none)->Rp h X u v)/\ ∀f,m9.contains f=true->W.mg f=none
theorem QR {fs:Tb} (c:sL W) (t:S8 W k tb fs):C5 W k tb (DS fs [] false):=
 ⟨c.1,fun f F e=>t _ (mem_of_lookup e),fun f hf Z=>c.2 f hf,fun z=>nomatch z⟩
theorem QS {fs low:Tb} (c:sL W) (t:S8 W k tb fs) (ht:tb) (hk:k'+2<=k) (l:S8 W k' False low):C5 W k tb (DS fs low true):=
 ⟨c.1,fun f F e=>t _ (mem_of_lookup e),fun f hf Z=>c.2 f hf,fun Z=>⟨ht,⟨k',hk,fun f F e=>l _ (mem_of_lookup e)⟩,fun f hf Z=>c.2 f hf⟩⟩
theorem S8.more {fs:Tb} (h:k<=k') (t:S8 W k tb fs):S8 W k' tb fs:=fun p hp=>(t p hp).more h
theorem S8.nil:S8 W k tb []:=fun Z h=>nomatch h
theorem S8.cons {fs:Tb} (a:dY W k tb f F) (t:S8 W k tb fs):S8 W k tb ((f,F)::fs):=fun p hp=>by
 rcases List.mem_cons.mp hp with rfl|hp
 ·exact a
 ·exact t p hp
theorem S8.app {fs fs':Tb} (a:S8 W k tb fs) (t:S8 W k tb fs'):S8 W k tb (fs++fs'):=fun p hp=>(List.mem_append.mp hp).elim (a p) (t p)
theorem sM {h:Heap} {X:Xs} {S:Str} {t:b9} {tk:Tok} (e:S.cps.toList=t):Rp h X (.str S tk) (.str t):=by subst e;exact .str _ _
theorem vW (w:World) (x:b9): ∀L:List (String×Nat×Int),match (L.map fun e=>((Str.ofString e.1).cps.toList,e.2.2)).lookup x with
   |some i=> ∃t,((L.map fun e=>jS w e.1 e.2.1 e.2.2).find? fun e=>Value.isStrOf ⟨x.toArray⟩ e.key).map (·.val)=some (.int i t)
   |none=>((L.map fun e=>jS w e.1 e.2.1 e.2.2).find? fun e=>Value.isStrOf ⟨x.toArray⟩ e.key).map (·.val)=none
 |[]=>rfl
 |(k,t,v)::L=>by
  have ih:=vW w x L;rw[List.map_cons,List.map_cons,List.lookup_cons,List.find?_cons];have:Value.isStrOf ⟨x.toArray⟩ (jS w k t v).key=(x==(Str.ofString k).cps.toList):=by
   show(Str.ofString k==⟨x.toArray⟩)=_;rw[Bool.eq_iff_iff,beq_iff_eq,beq_iff_eq];exact⟨fun e=>by rw[e],fun e=>by rw[e]⟩
  rw[this];cases x==(Str.ofString k).cps.toList with
  |true=>exact⟨_,rfl⟩
  |false=>exact ih
end
section
variable {h:Heap} {mg mb:Str->Option Value} {mC mB:Str->Option Value} {K:Frag} (Y:GY w h) (X:GX mg h mC mB K) {loose:List Str} {mean:ExcName->Option Value} (T:Top qv loose mean mg mb h)
noncomputable def QT:List (String×Nat×Int):=[("n",245,10),("t",247,9),("r",249,13),("\\",251,92),("'",253,39),("\"",255,34)]
include Y X
theorem G1:sL (dO h mg mb):=by
 refine Q0 X.t fun z3n z4n z5n z6n=> ?_;obtain⟨t1,h1⟩:=z3n;obtain⟨t2,h2⟩:=z4n;obtain⟨t3,h3⟩:=z5n;obtain⟨t4,h4⟩:=z6n;refine⟨fun x v e=> ?_,X.nine⟩;have e:=mem_of_lookup e;rcases List.mem_cons.mp e with e|e
 ·injection e with e e2;subst e;subst e2;refine⟨rfl,_,X.m.2.2.1,fun h' X' k hx=> ?_⟩;have e55:=k _ _ (gk Y.o55 (notab (by decide) (by decide) (by decide)));refine .dict (f:=fun k=>findBy Value.isStrOf ((QT.map fun e=>jS w e.1 e.2.1 e.2.2).toArray) k) ⟨_,_,6,e55,⟨rfl,rfl,rfl⟩,rfl,?_,fun Z=>rfl⟩ (by decide) (fun z=> ?_) fun x=> ?_
  ·have: ∀L:List (String×Nat×Int),KeysOf (strKind prog w) (L.map fun e=>jS w e.1 e.2.1 e.2.2).toArray:=fun L e he=>by
    refine e8 (List.mem_map.mp (List.mem_toArray.mp he)) fun z1n Z z2r=> ?_;obtain⟨k,t,v⟩:=z1n;subst z2r;exact⟨Str.ofString k,beq_self_eq_true _,rfl⟩
   exact this QT
  ·have:=hx _ z;rw[gk Y.o55 (notab (by decide) (by decide) (by decide))] at this;injection this
  ·have:=vW w x QT;unfold findBy;rw[List.find?_toArray];exact this
 rcases List.mem_cons.mp e with e|e
 ·injection e with e e2;subst e;subst e2;exact⟨rfl,_,h1,fun Z Z Z Z=>sM rfl⟩
 rcases List.mem_cons.mp e with e|e
 ·injection e with e e2;subst e;subst e2;exact⟨rfl,_,h2,fun Z Z Z Z=>sM rfl⟩
 rcases List.mem_cons.mp e with e|e
 ·injection e with e e2;subst e;subst e2;exact⟨rfl,_,h3,fun Z Z Z Z=>sM (by decide)⟩
 rcases List.mem_cons.mp e with e|e
 ·injection e with e e2;subst e;subst e2;exact⟨rfl,_,h4,fun Z Z Z Z=>sM rfl⟩
 ·cases e
end
end
section
open PySem PySem.W PyProof.Rows PySem.Calls
noncomputable def T1:Tb:=[("check_signs",o8),("quoted_end",s7),("octal_end",H7),("octal_of",K6),("whole_of",x9),("is_name",E1),("is_local",H6),("_law_parts",A7),("_law_trimmed",C7),("_law_number",A4),("_law_sort",v4),("_law_due",L6),("_law_is",S4)]
noncomputable def T2:Tb:=[("bare",gC),("parted",W4),("octets_in",E6),("atom_end",K7),("_law_bare",S2),("_law_operands",H9),("_law_octets",F3),("_law_named",I0),("_law_looked",F2),("_law_atoms",O9)]
noncomputable def T3:Tb:=[("atoms_of",H8),("plain_value",A6)]
noncomputable def T4:Tb:=[("names_place",G0)]
noncomputable def JA:Tb:=T4++(T3++(T2++T1))
section
variable {h:Heap} {mg mb:Str->Option Value} {mC mB:Str->Option Value} {K:Frag} (Y:GY w h) (X:GX mg h mC mB K) {loose:List Str} {mean:ExcName->Option Value} (T:Top qv loose mean mg mb h)
noncomputable def r8 (i:Nat) (f:Str) (ps:List Str) (D:Fd):Prop:=i∈oP/\MN i f ps=true/\(K1 i).body=D.body/\(K1 i).scope=D.sc/\D.sc.names.lookup ("_law_told":Str)=none
include Y T in
theorem i9 {i:Nat} {f:Str} {ps:List Str} {D:Fd} (p:r8 i f ps D) (b:L7 ps): ∃a o fd,Z8 (dO h mg mb) f ps D.body a o fd/\fd.scope=D.sc:=
 IZ Y T p.1 b p.2.1 p.2.2.1 p.2.2.2.1 fun e=>by rw[p.2.2.2.2] at e;injection e
theorem mX:r8 10 "check_signs" ["text","line"] r4:=⟨by decide,by kernel_rfl,by kernel_rfl,by kernel_rfl,by kernel_rfl⟩
theorem oJ:r8 11 "quoted_end" ["text","place","line"] E5:=⟨by decide,by kernel_rfl,by kernel_rfl,by kernel_rfl,by kernel_rfl⟩
theorem sN:r8 15 "octal_end" ["text","place"] F1:=⟨by decide,by kernel_rfl,by kernel_rfl,by kernel_rfl,by kernel_rfl⟩
theorem vX:r8 16 "octal_of" ["figures","line"] D7:=⟨by decide,by kernel_rfl,by kernel_rfl,by kernel_rfl,by kernel_rfl⟩
theorem vY:r8 17 "whole_of" ["text","line"] j3:=⟨by decide,by kernel_rfl,by kernel_rfl,by kernel_rfl,by kernel_rfl⟩
theorem yN:r8 18 "is_name" ["text"] lI:=⟨by decide,by kernel_rfl,by kernel_rfl,by kernel_rfl,by kernel_rfl⟩
theorem vZ:r8 19 "is_local" ["text"] fY:=⟨by decide,by kernel_rfl,by kernel_rfl,by kernel_rfl,by kernel_rfl⟩
theorem sO:r8 29 "_law_parts" ["text","stop"] o0:=⟨by decide,by kernel_rfl,by kernel_rfl,by kernel_rfl,by kernel_rfl⟩
theorem mY:r8 30 "_law_trimmed" ["text"] H5:=⟨by decide,by kernel_rfl,by kernel_rfl,by kernel_rfl,by kernel_rfl⟩
theorem oK:r8 33 "_law_number" ["text"] j5:=⟨by decide,by kernel_rfl,by kernel_rfl,by kernel_rfl,by kernel_rfl⟩
theorem wA:r8 35 "_law_sort" ["letter"] lJ:=⟨by decide,by kernel_rfl,by kernel_rfl,by kernel_rfl,by kernel_rfl⟩
theorem yO:r8 40 "_law_due" ["found","line"] GU:=⟨by decide,by kernel_rfl,by kernel_rfl,by kernel_rfl,by kernel_rfl⟩
theorem DM:r8 41 "_law_is" ["told","due"] WS:=⟨by decide,by kernel_rfl,by kernel_rfl,by kernel_rfl,by kernel_rfl⟩
theorem MP:r8 12 "bare" ["text","line"] O7:=⟨by decide,by kernel_rfl,by kernel_rfl,by kernel_rfl,by kernel_rfl⟩
theorem DN:r8 13 "parted" ["text","line"] n9:=⟨by decide,by kernel_rfl,by kernel_rfl,by kernel_rfl,by kernel_rfl⟩
theorem sP:r8 14 "octets_in" ["text","line"] r7:=⟨by decide,by kernel_rfl,by kernel_rfl,by kernel_rfl,by kernel_rfl⟩
theorem wB:r8 20 "atom_end" ["text","place","line"] D8:=⟨by decide,by kernel_rfl,by kernel_rfl,by kernel_rfl,by kernel_rfl⟩
theorem wC:r8 31 "_law_bare" ["text"] GT:=⟨by decide,by kernel_rfl,by kernel_rfl,by kernel_rfl,by kernel_rfl⟩
theorem iZ:r8 32 "_law_operands" ["text"] A9:=⟨by decide,by kernel_rfl,by kernel_rfl,by kernel_rfl,by kernel_rfl⟩
theorem oM:r8 34 "_law_octets" ["text"] l8:=⟨by decide,by kernel_rfl,by kernel_rfl,by kernel_rfl,by kernel_rfl⟩
theorem sQ:r8 36 "_law_named" ["text"] dA:=⟨by decide,by kernel_rfl,by kernel_rfl,by kernel_rfl,by kernel_rfl⟩
theorem oN:r8 37 "_law_looked" ["text"] rO:=⟨by decide,by kernel_rfl,by kernel_rfl,by kernel_rfl,by kernel_rfl⟩
theorem sR:r8 38 "_law_atoms" ["text"] v2:=⟨by decide,by kernel_rfl,by kernel_rfl,by kernel_rfl,by kernel_rfl⟩
theorem wD:r8 21 "atoms_of" ["text","line"] v1:=⟨by decide,by kernel_rfl,by kernel_rfl,by kernel_rfl,by kernel_rfl⟩
theorem mZ:r8 23 "plain_value" ["atom","line"] M4:=⟨by decide,by kernel_rfl,by kernel_rfl,by kernel_rfl,by kernel_rfl⟩
theorem nA:r8 22 "names_place" ["text","line"] l9:=⟨by decide,by kernel_rfl,by kernel_rfl,by kernel_rfl,by kernel_rfl⟩
variable {tb:Prop} (hS: ∀n,xQ (dO h mg mb) n)
include Y X T hS
theorem VD:S8 (dO h mg mb) 1 tb T1:=by
 have wok:=iH Y T;have hg:=QR (W:=dO h mg mb) (tb:=tb) (k:=0) (G1 Y X) (S8.nil);have hb:N6 (DS ([]) [] false):=AM (by kernel_rfl);unfold T1;refine .cons (.of wok (i9 Y T mX C3) hS hg none fun vs hn=>iU (by kernel_rfl) vs hn) ?_;refine .cons (.of wok (i9 Y T oJ IX) hS hg none fun vs hn=>lP (by kernel_rfl) vs hn) ?_;refine .cons (.of wok (i9 Y T sN oG) hS hg none fun vs hn=>nV hb (by kernel_rfl) (by kernel_rfl) vs hn) ?_;refine .cons (.of wok (i9 Y T vX iY) hS hg none fun vs hn=>rS hb vs hn) ?_;refine .cons (.of wok (i9 Y T vY C3) hS hg none fun vs hn=>rT hb (by kernel_rfl) vs hn) ?_;refine .cons (.of wok (i9 Y T yN O3) hS hg none fun vs hn=>uX hb (by kernel_rfl) vs hn) ?_;refine .cons (.of wok (i9 Y T vZ O3) hS hg none fun vs hn=>rQ hb (by kernel_rfl) (by kernel_rfl) vs hn) ?_;refine .cons (.of wok (i9 Y T sO sK) hS hg (some "found") fun vs hn=>nY vs hn) ?_;refine .cons (.of wok (i9 Y T mY O3) hS hg none fun vs hn=>iX vs hn) ?_;refine .cons (.of wok (i9 Y T oK O3) hS hg (some "values") fun vs hn=>mN (by kernel_rfl) (by kernel_rfl) (by kernel_rfl) (by kernel_rfl) (by kernel_rfl) vs hn) ?_;refine .cons (.of wok (i9 Y T wA DL) hS hg none fun vs hn=>sA (by kernel_rfl) vs hn) ?_;refine .cons (.of wok (i9 Y T yO oH) hS hg none fun vs hn=>vN vs hn) ?_;refine .cons (.of wok (i9 Y T DM vV) hS hg none fun vs hn=>yG vs hn) ?_;exact .nil
theorem st2:S8 (dO h mg mb) 2 tb T2:=by
 have wok:=iH Y T;have hg:=QR (W:=dO h mg mb) (tb:=tb) (G1 Y X) (VD Y X T hS);have hb:N6 (DS (T1) [] false):=AM (by kernel_rfl);unfold T2;refine .cons (.of wok (i9 Y T MP C3) hS hg (some "found") fun vs hn=>HF hb (by kernel_rfl) (by kernel_rfl) vs hn) ?_;refine .cons (.of wok (i9 Y T DN C3) hS hg (some "found") fun vs hn=>xY hb (by kernel_rfl) (by kernel_rfl) vs hn) ?_;refine .cons (.of wok (i9 Y T sP C3) hS hg (some "found") fun vs hn=>nW hb (by kernel_rfl) (by kernel_rfl) (by kernel_rfl) (by kernel_rfl) (by kernel_rfl) (by kernel_rfl) vs hn) ?_;refine .cons (.of wok (i9 Y T wB IX) hS hg none fun vs hn=>rV hb (by kernel_rfl) (by kernel_rfl) vs hn) ?_;refine .cons (.of wok (i9 Y T wC O3) hS hg none fun vs hn=>rZ (by kernel_rfl) (by kernel_rfl) vs hn) ?_;refine .cons (.of wok (i9 Y T iZ O3) hS hg none fun vs hn=>gE (by kernel_rfl) (by kernel_rfl) vs hn) ?_;refine .cons (.of wok (i9 Y T oM O3) hS hg none fun vs hn=>mO (by kernel_rfl) (by kernel_rfl) (by kernel_rfl) (by kernel_rfl) (by kernel_rfl) (by kernel_rfl) (by kernel_rfl) vs hn) ?_;refine .cons (.of wok (i9 Y T sQ O3) hS hg none fun vs hn=>nZ (by kernel_rfl) vs hn) ?_;refine .cons (.of wok (i9 Y T oN O3) hS hg none fun vs hn=>mK (by kernel_rfl) (by kernel_rfl) vs hn) ?_;refine .cons (.of wok (i9 Y T sR O3) hS hg none fun vs hn=>oA (by kernel_rfl) (by kernel_rfl) vs hn) ?_;exact .nil
theorem ZR:S8 (dO h mg mb) 3 tb T3:=by
 have wok:=iH Y T;have hg:=QR (W:=dO h mg mb) (tb:=tb) (G1 Y X) ((st2 Y X T hS).app ((VD Y X T hS).more (by decide)));have hb:N6 (DS (T2++T1) [] false):=AM (by kernel_rfl);unfold T3;refine .cons (.of wok (i9 Y T wD C3) hS hg (some "found") fun vs hn=>rW hb (by kernel_rfl) (by kernel_rfl) vs hn) ?_;refine .cons (.of wok (i9 Y T mZ fF) hS hg none fun vs hn=>iV hb (by kernel_rfl) (by kernel_rfl) (by kernel_rfl) vs hn) ?_;exact .nil
theorem st4:S8 (dO h mg mb) 4 tb T4:=by
 have wok:=iH Y T;have hg:=QR (W:=dO h mg mb) (tb:=tb) (G1 Y X) ((ZR Y X T hS).app (((st2 Y X T hS).more (by decide)).app ((VD Y X T hS).more (by decide))));have hb:N6 (DS (T3++(T2++T1)) [] false):=AM (by kernel_rfl);unfold T4;refine .cons (.of wok (i9 Y T nA C3) hS hg none fun vs hn=>iW hb (by kernel_rfl) (by kernel_rfl) (by kernel_rfl) vs hn) ?_;exact .nil
end
section
variable {h:Heap} {mg mb:Str->Option Value} {mC mB:Str->Option Value} {K:Frag} (Y:GY w h) (X:GX mg h mC mB K) {loose:List Str} {mean:ExcName->Option Value} (T:Top qv loose mean mg mb h)
theorem YH:(K1 39).body=GN:=by kernel_rfl
theorem YI:((K1 39).name=="_law_told" &&(K1 39).scope.names.lookup ("call":Str)==some .local &&(K1 39).scope.names.lookup ("BadText":Str)==some .globalImplicit &&(K1 39).scope.names.all (fun x=>x.2 !=.cell) && !(K1 39).scope.isCoroutine && !(K1 39).scope.isGenerator &&(K1 39).scope.kind==.function &&
 (K1 39).scope.names.lookup ("e":Str)==some .local &&(match gO (K1 39).params with|some as=>as.map (·.arg)==(["call"]:List Str)|none=>false))=true:=by kernel_rfl
include Y X T
theorem UD: ∃fd,uM (dO h mg mb) mC mB 242 fd:=by
 refine AS (IY Y T (i:=39) (by decide)) fun a o pm code doc h1 h2 h3 h4=> ?_;have b:=YI;simp only[Bool.and_eq_true,beq_iff_eq,List.all_eq_true,bne_iff_ne,Bool.not_eq_true'] at b;refine f8 b fun z1n b8=> ?_;clear b;refine f8 z1n fun z1n b7=> ?_;obtain⟨⟨⟨⟨⟨⟨bn,b1⟩,b2⟩,b3⟩,b4⟩,b5⟩,b6⟩:=z1n;rw[bn] at h1 h3 h4;obtain rfl:=Value.ref.inj (Option.some.inj (h1.symm.trans X.m.2.2.2.2.1));refine cQ Y.c242 fun o' fd' e2 e3 e4 ec=> ?_;obtain rfl:=Option.some.inj (e2.symm.trans (AL h2));cases hP:gO (K1 39).params with
 |none=>rw[hP] at b8;injection b8
 |some as=>
 rw[hP] at b8;have hps:=eq_of_beq b8;rw[qJ hP] at h3;refine⟨_,h1,⟨⟨o',h2,h3,ec⟩,h4,congrArg _ YH,fun s us Z hl=>.of_eq (MO as us _ _ _ _ _ _ hps hl),rfl,rfl,fun x hx=> ?_,b2,b3,b4,b5,b6⟩,b7,X.c.2.2.2.1,X.b.2.2.2.1,X.c.2.2.2.2.1,X.b.2.2.2.2,X.c.2.1,X.b.2.1⟩;rcases List.mem_singleton.mp hx with rfl;exact b1
theorem UE:G4 (dO h mg mb).G mC mB:=(UC Y X T).at_
theorem NW: ∀n,I8 (dO h mg mb) n:=by
 refine d6 (UD Y X T) fun fd t=> ?_;exact zK (WP t (UE Y X T) X.m.2.1)
theorem wE (n:Nat):xQ (dO h mg mb) n:=LH (NW Y X T) (PR (UC Y X T)) n n (Nat.le_refl _)
theorem cF {tb:Prop}:S8 (dO h mg mb) 4 tb JA:=by
 have hS:=wE Y X T;exact(st4 Y X T hS).app (((ZR Y X T hS).more (by decide)).app (((st2 Y X T hS).more (by decide)).app ((VD Y X T hS).more (by decide))))
noncomputable def gA:G:=DS JA JA true
theorem UF:C5 (dO h mg mb) 6 True gA:=QS (G1 Y X) ((cF Y X T).more (by decide)) trivial (Nat.le_refl 6) (cF Y X T)
omit X in
theorem nD {i:Nat} {f:Str} {ps:List Str} {D:Fd} (hi:i∈oP) (hc:MN i f ps=true) (hb:(K1 i).body=D.body) (hs:(K1 i).scope=D.sc) (b:L7 ps)
  (told: ∃a c,mg f=some (.ref a)/\X2 h a (.ref c)/\ ∃P,(c,P,f++(".<locals>.":Str)++("<lambda>":Str))∈E8): ∃a o fd,Z8 (dO h mg mb) f ps D.body a o fd/\fd.scope=D.sc:=
 IZ Y T hi b hc hb hs fun Z=>told
theorem DO:dY (dO h mg mb) 7 True "_law_atom_right" B0:=
 .of (iH Y T) (nD Y T (i:=42) (D:=n6) (by decide) (by kernel_rfl) (by kernel_rfl) (by kernel_rfl) fF ⟨263,262,X.m.2.2.2.2.2.1,Y.c263,258,.head _⟩) (wE Y X T) (UF Y X T) none
  fun vs hn=>dF rfl (by kernel_rfl) (by kernel_rfl) (by kernel_rfl) (by kernel_rfl) (by kernel_rfl) (by kernel_rfl) (by kernel_rfl) (by kernel_rfl) (by kernel_rfl) (by kernel_rfl) (by kernel_rfl) vs hn
noncomputable def gB:G:=DS (("_law_atom_right",B0)::JA) JA true
theorem UG:C5 (dO h mg mb) 7 True gB:=QS (G1 Y X) (.cons (DO Y X T) ((cF Y X T).more (by decide))) trivial (k':=4) (by decide) (cF Y X T)
theorem MQ:dY (dO h mg mb) 8 True "_law_line_right" E2:=
 .of (iH Y T) (nD Y T (i:=43) (D:=f9) (by decide) (by kernel_rfl) (by kernel_rfl) (by kernel_rfl) C3 ⟨268,267,X.m.2.2.2.2.2.2.1,Y.c268,265,.tail _ (.head _)⟩) (wE Y X T) (UG Y X T) none
  fun vs hn=>dG ⟨rfl,by kernel_rfl,by kernel_rfl,by kernel_rfl,by kernel_rfl,by kernel_rfl,by kernel_rfl,by kernel_rfl,by kernel_rfl,by kernel_rfl,by kernel_rfl,by kernel_rfl,by kernel_rfl,by kernel_rfl,by kernel_rfl,by kernel_rfl,by kernel_rfl,by kernel_rfl⟩ vs hn
end
theorem qL: ∀{vs:List V} {ts:List b9},M0 vs=some ts->vs=ts.map V.str
 |[],ts,h=>by injection h with h;subst h;rfl
 |d::r,ts,h=>by
  refine v8 (fO h) fun c l z2r q z3r=> ?_;subst z2r;subst z3r;rw[qL q];rfl
noncomputable def NX:List V->R V:=wY (DS [] [] false) none rN.sc [] rN.body 12
noncomputable def NY:R V->Option (List b9)
 | .ok (.list vs)=>M0 vs
 |_=>none
noncomputable def JB (o:Option (List b9)):Bool:=match o with
 |some ts=>decide (0<ts.length) &&decide (ts.length<1000) &&ts.all fun t=>decide (t.length<=10) &&t.all A3
 |none=>false
theorem QU:JB (NY (NX []))=true:=by kernel_rfl
theorem pcs: ∃ts:List b9,NX []=.ok (.list (ts.map V.str))/\(0<ts.length/\ts.length<1000)/\(∀t∈ts,t.length<=10)/\ ∀t∈ts,t.all A3=true:=by
 have h:=QU;cases hp:NY (NX []) with
 |none=>rw[hp] at h;injection h
 |some ts=>
  rw[hp] at h;have hf:NX []=.ok (.list (ts.map V.str)):=by
   cases hF:NX [] with
   |ok v=>
    rw[hF] at hp;cases v with
    |list vs=>rw[qL (show M0 vs=some ts from hp)]
    |_=>injection hp
   |_=>rw[hF] at hp;injection hp
  simp only[JB,Bool.and_eq_true,decide_eq_true_eq,List.all_eq_true] at h;refine f8 h fun z1n h3=> ?_;clear h;obtain⟨h1,h2⟩:=z1n;exact⟨ts,hf,⟨h1,h2⟩,fun t ht=>(h3 t ht).1,fun t ht=>List.all_eq_true.mpr (h3 t ht).2⟩
section
variable {h:Heap} {mg mb:Str->Option Value} {mC mB:Str->Option Value} {K:Frag} (Y:GY w h) (X:GX mg h mC mB K) {loose:List Str} {mean:ExcName->Option Value} (T:Top qv loose mean mg mb h)
theorem QV:r8 25 "_law_box" ["script"] bB:=⟨by decide,by kernel_rfl,by kernel_rfl,by kernel_rfl,by kernel_rfl⟩
theorem MR:r8 26 "_law_take" ["box","many"] U3:=⟨by decide,by kernel_rfl,by kernel_rfl,by kernel_rfl,by kernel_rfl⟩
theorem DP:r8 27 "_law_pieces" [] rN:=⟨by decide,by kernel_rfl,by kernel_rfl,by kernel_rfl,by kernel_rfl⟩
theorem MS:r8 28 "_law_text" ["box","many"] M5:=⟨by decide,by kernel_rfl,by kernel_rfl,by kernel_rfl,by kernel_rfl⟩
include Y X T
theorem DQ {tb:Prop}:dY (dO h mg mb) 7 tb "_law_pieces" NX:=by
 refine F5 (i9 Y T DP bp0) fun a o fd D hs=> ?_;have:=GH (tb:=tb) (k:=6) (iH Y T) D (wE Y X T) (QR (W:=dO h mg mb) (tb:=tb) (G1 Y X) S8.nil) none 12;rw[hs] at this;exact this
theorem YJ: ∃ts,DE (dO h mg mb) True (DS [] [] false) (DS [("_law_pieces",NX)] [] false) gA NX ts:=by
 refine iJ pcs fun ts h1 h2 h3 h4=> ?_;exact⟨ts,NW Y X T,wE Y X T,iH Y T,i9 Y T QV qK,i9 Y T MR iI,i9 Y T MS iI,fun k=>QR (G1 Y X) S8.nil,fun Z=>rfl,
  QR (G1 Y X) (.cons (DQ Y X T) .nil),rfl,rfl,rfl,h1,MQ Y X T,QS (k':=4) (G1 Y X) ((cF Y X T).more (by decide)) trivial (by decide) (cF Y X T),h2,h3,h4⟩
omit X in
theorem MT (X:GX mg h mC mB K): ∃a o fd,Z8 (dO h mg mb) "law" ["script"] v3.body a o fd/\fd.scope=v3.sc:=
 nD Y T (i:=44) (D:=v3) (by decide) (by kernel_rfl) (by kernel_rfl) (by kernel_rfl) qK ⟨275,274,X.m.2.2.2.2.2.2.2,Y.c275,270,.tail _ (.tail _ (.head _))⟩
end
section
theorem JC:(K1 44).name="law":=by kernel_rfl
noncomputable def c0 (h:Heap):Cx:={A:=callerA,fr:=[],base:=ghostOf h bO,X:=fun Z=>False,tb:=True}
set_option tactic.hygienic true in
theorem JD:Wk w:=by
 intro v s₀ s₁ mg mb G ⟨Y,ev⟩ a o pm cd doc dV kV ho hd hcd hD hmg hgens args vals as hpre hlay hrd hwl hlo;subst ev;rw[<-JS];refine wQ G.X fun mC mB K X=> ?_;have T:=G.T;refine d6 (YJ Y X T) fun ts L=> ?_;refine F5 (MT Y T X) fun aL oL fd D hsc=> ?_;obtain rfl:aL=a:=Value.ref.inj (Option.some.inj (D.name.symm.trans (JC▸hmg)))
 wrow_args hpre hlay hrd hwl hlo
 rename_i is _ _ _ _ _ _ _ l vs _ hl _ _ _ hI _ hc _;refine r6 hl fun ol e1 e2 z6t=> ?_;clear hl;refine d6 z6t fun n e3=> ?_;clear z6t;have hlen:is.length<=63:=by omega
 have r:Rp s₁.heap (c0 s₁.heap).X (.ref l) (.list (is.map V.int)):=.list e1 e2 e3 (fun z=>z) (AI hI);have ok:(c0 s₁.heap).Ok 9:=⟨rfl,rfl,(by show callerA.depth+9+10<recursionLimit;decide),(by show callerA.units+8*9+40<cLine;decide),fun a z=>(nomatch (show a∈([]:List Addr) from z)),fun Z a z=>QP z,fun a z=>(nomatch (show a∈([]:List Addr) from z))⟩;have wf:(dO s₁.heap mg mb).Fits (c0 s₁.heap):=⟨fun Z a z=>QP z⟩;have inv:aM (dO s₁.heap mg mb) (c0 s₁.heap) s₁.heap:=⟨fun b o e=>AL e,fun b o e=>AL e,trivial,MM Y,fun a z=>(nomatch (show a∈([]:List Addr) from z))⟩;refine enter_call (kn_post (jQ Y) (fun Z Z=>rfl) (codeAny_mono (QN (C:=c0 s₁.heap) L rfl rfl (by kernel_rfl) (by kernel_rfl) (by kernel_rfl) D hsc ok wf (fun Z z=>z.elim) (fun Z z=>z.elim) inv r hlen) fun rr s' q=> ?_));cases rr with
 |error e=>exact q.elim
 |ok fl=>
  cases fl with
  |ret v=>
   refine n5 q fun z5r st i'=> ?_;clear q;subst z5r;refine r0 st fun h' tk z4r gr=> ?_;clear st;subst z4r;refine⟨⟨.inl ⟨.bool true,.bool true,[],rfl,fun Z=>rfl,.bool true,by wrow_post,fun Z=>⟨List.nodup_nil,fun a z=>(nomatch z)⟩⟩,fun b o e=>i'.base b o e,rfl,hgens⟩,?_⟩;have t:=i'.tabs;refine f8 (t (262,258,_) (.head _)) fun Z z3t=> ?_;refine e8 z3t fun p1 q1 Z=> ?_;clear z3t;refine f8 (t (267,265,_) (.tail _ (.head _))) fun Z z2t=> ?_;refine e8 z2t fun p2 q2 Z=> ?_;clear z2t;refine f8 (t (274,270,_) (.tail _ (.tail _ (.head _)))) fun Z z1t=> ?_;refine e8 z1t fun p3 q3 Z=> ?_;clear z1t;exact⟨⟨p1,q1⟩,⟨p2,q2⟩,⟨p3,q3⟩,trivial⟩
  |_=>exact q.elim
theorem law_holds:PySem.Challenge.rw_tk0066_01.Holds:=
 PySem.W.holds_law RZ fun k1=>holds_open SA UB GY.keeps QO RL.keeps (d:=K1 44) (kwd:=[]) (by kernel_rfl) (by kernel_rfl) (by kernel_rfl) (fun Z Z=>recFacts_nil rfl) (by kernel_rfl) k1 (by decide+kernel) ⟨rfl,rfl,rfl,rfl,rfl,by decide+kernel⟩
  ⟨[.list []],by decide+kernel,by decide+kernel⟩ fun v s₀ s₁ mg mb G Y=>OJ JD v v s₀ s₁ mg mb G ⟨Y,rfl⟩
end
end
end
end Mine
theorem PySem.Challenge.cw_tk0066_01_holds : PySem.Challenge.rw_tk0066_01.Holds :=
 Mine.law_holds
