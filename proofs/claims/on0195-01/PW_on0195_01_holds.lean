import PyProof.Rows.All
import Wide.All
import OpenK.AllK
import Wide.FinOn
import PySem.Challenge.RW_on0195_01
open PySem PySem.W PyProof.Rows PyProof.Rows.LCg PySem.Calls PySem.Spec
set_option Elab.async false
set_option linter.unusedVariables false
set_option maxRecDepth 100000
set_option maxHeartbeats 2000000
set_option genInjectivity false
set_option genSizeOf false
set_option genCtorIdx false
set_option tactic.hygienic false
set_option maxHeartbeats 8000000
namespace Mine
theorem aj{n m:Nat}(h:Nat.ble n m=true):n≤m:=Nat.le_of_ble_eq_true h
@[elab_as_elim] theorem yW{α:Sort u}{a b:α}{motive:α→Prop}(h:a=b)(k:motive b):motive a:=h▸k
theorem o1{a b c:Nat}(h:a≤b)(k:Nat.ble b c=true):a≤c:=Nat.le_trans h (Nat.le_of_ble_eq_true k)
theorem o2{a b c:Nat}(h:a < b)(k:Nat.ble b c=true):a < c:=Nat.lt_of_lt_of_le h (Nat.le_of_ble_eq_true k)
theorem o3{a b c:Nat}(h:a≤b)(k:Nat.ble (b+1) c=true):a < c:=Nat.lt_of_le_of_lt h (Nat.le_of_ble_eq_true k)
theorem o4{a b c:Nat}(h:a < b)(k:Nat.ble b (c+1)=true):a≤c:=Nat.le_of_lt_succ (Nat.lt_of_lt_of_le h (Nat.le_of_ble_eq_true k))
theorem o5{a b c d e:Nat}(h:a≤c)(h':b≤d)(k:Nat.ble (c+d) e=true):a+b≤e:=Nat.le_trans (Nat.add_le_add h h') (Nat.le_of_ble_eq_true k)
theorem o6{a j:Nat}(h:a≤j)(k:j < a+1):j=a:=Nat.le_antisymm (Nat.le_of_lt_succ k) h
theorem o7{a b:Int}{c:Nat}(h:0≤a)(k:a < b)(q:b≤(c:Int)):a.natAbs < c:=Int.ofNat_lt.mp (by rewrite [Int.natAbs_of_nonneg h];exact Int.lt_of_lt_of_le k q)
theorem o8{a b:Int}{c:Nat}(h:0 < a)(k:a < b)(q:b≤(c:Int)):a.natAbs < c:=o7 (Int.le_of_lt h) k q
theorem o9{a b:Nat}{c:Int}(h:a < b)(q:(b:Int)≤c):(a:Int) < c:=Int.lt_of_lt_of_le (Int.ofNat_lt.mpr h) q
theorem o10{a:Int}(h:0≤a):a=(a.toNat:Int):=(Int.toNat_of_nonneg h).symm
theorem o11{a:Int}{c:Nat}(h:0≤a)(k:a < (c:Int)):a.toNat < c:=(Int.toNat_lt h).mpr k
theorem o13{i a b c:Nat}{z:Int}(h:i < a)(e:a=b)(k:b < c)(q:(c:Int)≤z):(i:Int) < z:=o9 (Nat.lt_trans (e▸h) k) q
theorem o14{a b c d:Nat}(e:a=b)(h:b≤c)(k:Nat.ble (c+1) d=true):a < d:=e▸o3 h k
theorem o15{a b:Int}{c:Nat}(h:0 < a)(k:a≤b)(q:b < (c:Int)):a.natAbs < c:=Int.ofNat_lt.mp (by rewrite [Int.natAbs_of_nonneg (Int.le_of_lt h)];exact Int.lt_of_le_of_lt k q)
theorem o16{a b c:Nat}(h:a < b)(e:b=c):a < c:=e▸h
theorem p1{a r n:Nat}(h:a+(r+1)+1 < n):a+1+r+1 < n:=by rewrite [Nat.add_right_comm a 1 r];exact h
theorem p2{a r n:Nat}(h:a+(r+1)+1 < n):a+r+1 < n:=Nat.lt_of_succ_lt h
theorem p3{a r n:Nat}(h:a+r+1 < n):a < n:=Nat.lt_of_le_of_lt (Nat.le_trans (Nat.le_add_right a r) (Nat.le_succ _)) h
theorem u1{a r k n:Nat}(h:a+16 * (r+1)+64 < n)(hk:k≤16):a+k+16 * r+64 < n:=Nat.lt_of_le_of_lt (Nat.add_le_add_right (by rewrite [Nat.mul_succ,Nat.add_assoc,Nat.add_comm k];exact Nat.add_le_add_left (Nat.add_le_add_left hk _) _) 64) h
theorem u2{a r n:Nat}(h:a+16 * r+64 < n):a+64 < n:=Nat.lt_of_le_of_lt (Nat.add_le_add_right (Nat.le_add_right a _) 64) h
theorem u3{a r n:Nat}(h:a+16 * r+64 < n):a < n:=Nat.lt_of_le_of_lt (Nat.le_trans (Nat.le_add_right a (16 * r)) (Nat.le_add_right _ 64)) h
theorem u4{a r n:Nat}(h:a+16 * (r+1)+64 < n):a+1+1+16 * r+64 < n:=u1 (k:=2) h (by decide)
theorem w1{n L b:Nat}(e:n=L - b)(h:(b:Int) < (L:Int)):n=n - 1+1:=by subst e;exact (Nat.sub_add_cancel (Nat.sub_pos_of_lt (Int.ofNat_lt.mp h))).symm
theorem w2{n L b:Nat}(e:n+1=L - b)(h:(b:Int) < (L:Int)):n=L - (b+1):=by rewrite [Nat.sub_add_eq,← e];rfl
theorem w3{n L b:Nat}(e:n=L - b)(h:¬ (b:Int) < (L:Int)):n=0:=e.trans (Nat.sub_eq_zero_of_le (Nat.le_of_not_lt fun q=>h (Int.ofNat_lt.mpr q)))
theorem w4{n a b:Nat}(e:a - b=n+1):a - (b+1)=n:=by rewrite [Nat.sub_add_eq,e];rfl
theorem t9{a1 a2 a3:Bool}{p1 p2 p3 P:Prop}(h:(a1&&a2&&a3)=true)(e1:a1=true→p1)(e2:a2=true→p2)(e3:a3=true→p3)(k:p1→p2→p3→P):P:=by
 simp only [Bool.and_eq_true] at h;exact k (e1 h.1.1) (e2 h.1.2) (e3 h.2)
theorem wz{a1 a2 a3 a4 a5 a6 a7:Bool}{p1 p2 p3 p4 p5 p6 p7 P:Prop}(h:(a1&&a2&&a3&&a4&&a5&&a6&&a7)=true)(e1:a1=true→p1)(e2:a2=true→p2)(e3:a3=true→p3)(e4:a4=true→p4)(e5:a5=true→p5)(e6:a6=true→p6)(e7:a7=true→p7)(k:p1→p2→p3→p4→p5→p6→p7→P):P :=
 t9 h id id e7 fun h h6 h7=>t9 h id id id fun h h4 h5=>t9 h e1 e2 e3 fun h1 h2 h3=>k h1 h2 h3 (e4 h4) (e5 h5) (e6 h6) h7
theorem wB{a1 a2 a3 a4 a5 a6 a7 a8 a9 a10 a11:Bool}{P:Prop}{p1 p2 p3 p4 p5 p6 p7 p8 p9 p10 p11:Prop}(h:(a1&&a2&&a3&&a4&&a5&&a6&&a7&&a8&&a9&&a10&&a11)=true)(e1:a1=true→p1)(e2:a2=true→p2)(e3:a3=true→p3)(e4:a4=true→p4)(e5:a5=true→p5)(e6:a6=true→p6)(e7:a7=true→p7)(e8:a8=true→p8)(e9:a9=true→p9)(e10:a10=true→p10)(e11:a11=true→p11)(k:p1→p2→p3→p4→p5→p6→p7→p8→p9→p10→p11→P):P :=
 t9 h id e10 e11 fun h h10 h11=>t9 h id e8 e9 fun h h8 h9=>wz h e1 e2 e3 e4 e5 e6 e7 fun h1 h2 h3 h4 h5 h6 h7=>k h1 h2 h3 h4 h5 h6 h7 h8 h9 h10 h11
theorem bA{a b:Bool}(h:(a&&b)=true):a=true∧b=true:=Bool.and_eq_true_iff.mp h
theorem i1{a b c:Int}(h:a < b)(q:b≤c):a < c:=Int.lt_of_lt_of_le h q
theorem i2{a b c:Int}(h:a≤b)(q:b≤c):a≤c:=Int.le_trans h q
theorem i3{a b c:Int}(h:a≤b)(q:b < c):a < c:=Int.lt_of_le_of_lt h q
theorem i4{a b c:Int}(h:a < b)(q:b≤c):a≤c:=Int.le_of_lt (i1 h q)
theorem i5{a b c:Int}(h:b≤a)(q:c < b):c < a:=Int.lt_of_lt_of_le q h
theorem i6{a b c:Int}(h:b < a)(q:c≤b):c < a:=Int.lt_of_le_of_lt q h
theorem i7{a b c:Int}(h:b≤a)(q:c≤b):c≤a:=Int.le_trans q h
theorem i8{a b c:Int}(h:b < a)(q:c≤b):c≤a:=Int.le_of_lt (i6 h q)
theorem i9{b:Int}(h:0 < b):¬ b=0:=fun e=>Int.lt_irrefl 0 (e▸h)
theorem i10{b:Int}(h:0≤b):¬ b < 0:=Int.not_lt.mpr h
theorem i11{n b c:Nat}(h:n < b)(q:b≤c):(n:Int).natAbs < c:=Int.natAbs_natCast n▸Nat.lt_of_lt_of_le h q
theorem i12{n:Nat}{c:Int}(q:c≤0):c≤(n:Int):=Int.le_trans q (Int.natCast_nonneg n)
theorem i13{n:Nat}{c:Int}(q:c < 0):c < (n:Int):=Int.lt_of_lt_of_le q (Int.natCast_nonneg n)
theorem i14{n L:Nat}:-(L:Int)≤(n:Int):=i12 (Int.neg_nonpos_of_nonneg (Int.natCast_nonneg L))
theorem i15{n b:Nat}{c:Int}(h:n≤b)(q:(b:Int)≤c):(n:Int)≤c:=Int.le_trans (Int.ofNat_le.mpr h) q
theorem i16{n b:Nat}{c:Int}(h:n < b)(q:(b:Int)≤c):(n:Int)≤c:=Int.le_of_lt (o9 h q)
theorem i17{i m L:Nat}(h:i < m)(k:m≤L):(i:Int) < (L:Int):=Int.ofNat_lt.mpr (Nat.lt_of_lt_of_le h k)
theorem i18{a b:Int}{c:Nat}(h:0≤a)(k:a < b)(q:b≤(c:Int)):a.toNat < c:=(Int.toNat_lt h).mpr (Int.lt_of_lt_of_le k q)
theorem i19{a:Int}(h:a < 0):-a=(a.natAbs:Int):=(Int.ofNat_natAbs_of_nonpos (Int.le_of_lt h)).symm
theorem i20{a:Int}(h:¬ a < 0):a=(a.natAbs:Int):=(Int.natAbs_of_nonneg (Int.not_lt.mp h)).symm
theorem i21{a:Int}(h:0≤a):(a.natAbs:Int)=a:=Int.natAbs_of_nonneg h
theorem i22{a:Int}{n:Nat}(h:0≤a)(k:a.toNat < n):a < (n:Int):=(Int.toNat_lt h).mp k
theorem i23{n b d:Nat}{c:Int}(h:n < b)(k:b < d)(q:(d:Int)≤c):(n:Int) < c:=o9 (Nat.lt_trans h k) q
theorem n1{L i n:Nat}(e:L=i+(n+1)):L=i+1+n:=e.trans (Nat.add_right_comm i n 1)
theorem n2{L i n:Nat}(e:L=i+(n+1)):i < L:=e▸Nat.lt_add_of_pos_right (Nat.succ_pos n)
theorem n3{L i:Nat}(e:L=i+0):i=L:=e.symm
theorem n4{i L:Nat}(h:i < L)(k:¬ i+1 < L):i+1=L:=Nat.le_antisymm h (Nat.le_of_not_lt k)
theorem n5{i L:Nat}(k:¬ i < L):L≤i:=Nat.le_of_not_lt k
theorem n6{i L:Nat}(h:i < L+1)(k:¬ i < L):i=L:=Nat.le_antisymm (Nat.le_of_lt_succ h) (Nat.le_of_not_lt k)
theorem n7{a b:Nat}(e:a=b+1):0 < a:=e▸Nat.succ_pos b
theorem n8{a b:Nat}(e:a=b+1):b < a:=e▸Nat.lt_succ_self b
theorem n9{i j:Nat}(h:i≤j):j=i+(j - i):=(Nat.add_sub_of_le h).symm
theorem n10{i j:Nat}(h:i < j):j=i+(j - i):=n9 (Nat.le_of_lt h)
theorem n11{a b c k:Nat}(h:a≤k)(q:b≤k * c):a+b≤k * (c+1):=Nat.le_trans (Nat.add_le_add h q) (Nat.le_of_eq (Nat.add_comm ..))
theorem n12{a n:Nat}(h:a≤2 * n+1):a+1≤2 * (n+1):=Nat.succ_le_succ h
theorem n14{a b:Nat}(h:a < b):a < b+1+1:=Nat.lt_succ_of_lt (Nat.lt_succ_of_lt h)
theorem n15{a b c d:Nat}(h:a < b)(k:b≤c)(q:Nat.ble c d=true):a≤d:=Nat.le_trans (Nat.le_of_lt (Nat.lt_of_lt_of_le h k)) (Nat.le_of_ble_eq_true q)
theorem n16{a b c d:Nat}(h:a≤b)(k:b≤c)(q:Nat.ble c d=true):a≤d:=Nat.le_trans (Nat.le_trans h k) (Nat.le_of_ble_eq_true q)
theorem n17{a b c:Nat}(h:a≤b)(q:Nat.ble (b+1) c=true):a+1≤c:=Nat.le_trans (Nat.succ_le_succ h) (Nat.le_of_ble_eq_true q)
theorem n18{a b c d:Nat}(e:a=b)(h:b < c)(q:Nat.ble c (d+1)=true):a≤d:=o4 (e▸h) q
theorem n19{a b c d:Nat}(e:a=b)(h:b < c)(q:Nat.ble c d=true):a < d:=o2 (e▸h) q
theorem n20{a b:Nat}(e:a=b):b≤a:=Nat.le_of_eq e.symm
theorem n21{a b c d:Nat}(h:a+b≤c)(q:Nat.ble c d=true):a≤d:=Nat.le_trans (Nat.le_trans (Nat.le_add_right a b) h) (Nat.le_of_ble_eq_true q)
theorem n22{r n:Nat}(h:r < n+1)(k:r≠n):r < n:=Nat.lt_of_le_of_ne (Nat.le_of_lt_succ h) k
theorem x1{i j n:Nat}(h:i < j)(k:j < n):2 * (min (i+1) n+1 - 1)+1 < 2 * (min (j+1) n+1 - 1)+1:=by
 rewrite [Nat.min_eq_left k,Nat.min_eq_left (Nat.lt_trans h k)];exact Nat.succ_lt_succ (Nat.mul_lt_mul_of_pos_left (Nat.succ_lt_succ h) (Nat.succ_pos 1))
theorem x2{n:Nat}:max 0 (min (-1+(n:Int)) (n:Int))=((n - 1:Nat):Int):=by
 cases n with
 | zero=>rfl
 | succ m =>
  have e:-1+((m+1:Nat):Int)=(m:Int):=by rewrite [Nat.add_comm];exact Int.neg_add_cancel_left 1 m
  rewrite [e,Int.min_eq_left (Int.ofNat_le.mpr (Nat.le_succ m)),Int.max_eq_right (Int.natCast_nonneg m)];rfl
theorem x3{n:Nat}(h:2≤n)(k:n≤5):n=2∨n=3∨n=4∨n=5:=(by decide:∀ n,n < 6→2≤n→(n=2∨n=3∨n=4∨n=5)) n (Nat.lt_succ_of_le k) h
theorem x4{x n:Nat}(h:x=2 * (n+1 - 1)):x+1+1=2 * (n+1+1 - 1):=congrArg (·+2) h
theorem xn{q:Int}{B:Nat}(h:0≤q)(k:q < (B:Int)):q.natAbs < B:=Int.ofNat_lt.mp (by rewrite [Int.natAbs_of_nonneg h];exact k)
theorem x6{x q:Int}(h:x < 10 ^ 15)(k:0≤q∧q≤x):q.natAbs < 2 ^ 100:=xn k.1 (Int.lt_trans (Int.lt_of_le_of_lt k.2 h) (by decide))
theorem x7{p q:Int}(h:0≤q)(k:0≤p)(e:p.toNat=q.toNat):p=q:=by rewrite [← Int.toNat_of_nonneg k,e];exact Int.toNat_of_nonneg h
theorem x8{b:Int}(h:0≤b):b.toNat=b.natAbs:=Int.ofNat.inj ((Int.toNat_of_nonneg h).trans (Int.natAbs_of_nonneg h).symm)
theorem x9{m f:Int}(h1:0 < m)(h2:m≤10 ^ 4)(h3:0≤f∧f < m):(f+m).natAbs < 2 ^ 100 :=
 xn (Int.add_nonneg h3.1 (Int.le_of_lt h1)) (Int.lt_trans (Int.add_lt_add_of_lt_of_le (Int.lt_of_lt_of_le h3.2 h2) h2) (by decide))
theorem x10{n e t p v:Nat}(h2:n≤5)(h3:e < n)(h4:t=e)(h5:p≤10 * t)(h6:v≤10):p+v≤16777216 :=
 Nat.le_trans (Nat.add_le_add (Nat.le_trans h5 (Nat.mul_le_mul_left 10 (h4▸Nat.le_of_lt (Nat.lt_of_lt_of_le h3 h2)))) h6) (by decide)
theorem x11{n:Nat}:(-1+((n+1:Nat):Int)).toNat=n:=by rewrite [Nat.add_comm];exact congrArg Int.toNat (Int.neg_add_cancel_left 1 (n:Int))
theorem x12{m i k:Nat}(h:k < 1000)(q:m≤0+min i k):m≤16777216:=Nat.le_trans (Nat.le_trans q (by rewrite [Nat.zero_add];exact Nat.le_trans (Nat.min_le_right i k) (Nat.le_of_lt h))) (by decide)
theorem x13{i n:Nat}(h:i < n)(k:n≤5):(i:Int) < 2 ^ 63:=Int.lt_trans (Int.ofNat_lt.mpr (Nat.lt_of_lt_of_le h k)) (by decide)
theorem x14{a n:Nat}(h:a+1≤n)(k:n≤5):a≤900:=Nat.le_trans (Nat.le_of_lt (Nat.le_trans h k)) (by decide)
theorem x15{i n o:Nat}(h:o≤2 * (n - i)):o≤2 * n:=Nat.le_trans h (Nat.mul_le_mul_left 2 (Nat.sub_le n i))
theorem x16{b:Int}(h:0 < b)(k:b < 10 ^ 6):(2 * b).natAbs < 1073741824:=xn (Int.mul_nonneg (by decide) (Int.le_of_lt h)) (Int.lt_trans (Int.mul_lt_mul_of_pos_left k (by decide)) (by decide))
theorem x17{f:Int}(h:0≤f∧f < 10 ^ 15):(10 ^ 15+f).natAbs < 2 ^ 100:=xn (Int.add_nonneg (by decide) h.1) (Int.lt_trans (Int.add_lt_add_of_le_of_lt (Int.le_refl _) h.2) (by decide))
theorem x18{i n:Nat}(h:i < n)(k:¬ i+1 < n):i=n - 1:=Nat.eq_sub_of_add_eq (n4 h k)
theorem x19{d n:Nat}(h:d≤1+2 * n):d+1+1≤1+2 * (n+1):=Nat.succ_le_succ (Nat.succ_le_succ h)
theorem x20{i n:Nat}(h:n≤5):min (i+1) n+1≤400:=Nat.le_trans (Nat.succ_le_succ (Nat.le_trans (Nat.min_le_right _ _) h)) (by decide)
theorem x21{n e d:Nat}(h2:n≤5)(h3:e < n)(h:d≤1+2 * e):d≤11:=Nat.le_trans h (Nat.add_le_add_left (Nat.mul_le_mul_left 2 (Nat.le_of_lt (Nat.lt_of_lt_of_le h3 h2))) 1)
theorem x22{k:Nat}:k - 0=k:=rfl
theorem x23{g:Nat}{b:Int}(h:b < 1000000000)(k:(g:Int)≤b):((g:Int)).natAbs < 1073741824:=xn (Int.natCast_nonneg g) (Int.lt_trans (Int.lt_of_le_of_lt k h) (by decide))
theorem x24{i k:Nat}(e:k - i=0)(h:i≤k):i=k:=Nat.le_antisymm h (Nat.sub_eq_zero_iff_le.mp e)
theorem x25{t b:Int}(h:0≤t)(k:0 < b):0≤2 * t * 10 ^ 15+b:=Int.add_nonneg (Int.mul_nonneg (Int.mul_nonneg (by decide) h) (by decide)) (Int.le_of_lt k)
theorem x26{i n:Nat}(h:i+1 < n)(e:i=n - 1):False:=Nat.lt_irrefl n (Nat.lt_of_le_of_lt (Nat.le_add_of_sub_le (e▸Nat.le_refl _)) h)
theorem x27{n e d:Nat}(h:n≤5)(k:e < d)(q:d≤1+2 * n):e < 20:=Nat.lt_of_lt_of_le (Nat.lt_of_lt_of_le k (Nat.le_trans q (Nat.add_le_add_left (Nat.mul_le_mul_left 2 h) 1))) (by decide)
theorem x29{i k n:Nat}(e:k - i=n+1):i < k:=Nat.lt_of_sub_eq_succ e
theorem x30{d n:Nat}(h:d≤1+2 * n):d+1≤1+2 * (n+1):=Nat.succ_le_succ (Nat.le_succ_of_le h)
theorem x31{x r:Nat}(h:x≤2 * (r+1)):x+1+1≤2 * (r+1+1):=Nat.succ_le_succ (Nat.succ_le_succ h)
theorem x32{n m:Nat}(h:n - 1≤m):n≤m+1:=Nat.le_add_of_sub_le h
theorem x34{p i:Nat}(h:p≤i * 6+6):p≤(i+1) * 6:=(Nat.succ_mul i 6).symm▸h
theorem x35{a b k s:Nat}(h:a+(b+1)≤900)(q:k+s≤b):s+k≤1000:=Nat.le_trans (Nat.le_of_eq (Nat.add_comm s k)) (Nat.le_trans q (Nat.le_trans (Nat.le_trans (Nat.le_succ b) (Nat.le_trans (Nat.le_add_left (b+1) a) h)) (by decide)))
theorem x36{e t:Nat}(h:e≤2 * t)(k:t≤400):e+1+(0+1+1)≤10000:=Nat.le_trans (Nat.add_le_add_right (Nat.succ_le_succ (Nat.le_trans h (Nat.mul_le_mul_left 2 k))) 2) (by decide)
theorem x37{m s r k:Nat}(h:m≤s+r)(q:s≤k+1):m≤k+(r+1):=Nat.le_trans h (Nat.le_trans (Nat.add_le_add_right q r) (Nat.le_of_eq (Nat.add_right_comm k 1 r)))
theorem x38{n e:Nat}(h2:n≤5)(h3:e < n):e+1≤1000:=Nat.le_trans h3 (Nat.le_trans h2 (by decide))
theorem x39{o t s:Nat}(h:o≤900)(k:t≤o)(q:s≤10 * t):s≤16777216:=Nat.le_trans q (Nat.le_trans (Nat.mul_le_mul_left 10 (Nat.le_trans k h)) (by decide))
theorem x42{n:Nat}:-((n+1:Nat):Int)≤-1:=Int.neg_le_neg (Int.ofNat_le.mpr (Nat.succ_le_succ (Nat.zero_le n)))
theorem yy1{t b x q:Int}(h4:0≤q∧q≤x)(h3:0≤x∧x≤2 * t * 10 ^ 15+b)(h1:t < 10 ^ 6)(h2:b < 10 ^ 6):q.natAbs < 2 ^ 100 :=
 xn h4.1 (Int.lt_trans (Int.lt_of_le_of_lt (Int.le_trans h4.2 h3.2) (Int.add_lt_add (Int.mul_lt_mul_of_pos_right (Int.mul_lt_mul_of_pos_left h1 (by decide)) (by decide)) h2)) (by decide))
theorem yy3{n:Nat}:(((n:Int) - 0).toNat:Int)=(n:Int):=by rewrite [Int.sub_zero];rfl
theorem yy29{m:Nat}:((m+1:Nat):Int) - 1=(m:Int):=Int.add_sub_cancel (m:Int) 1
theorem yy4{n m:Nat}:-(n:Int)≤((m+1:Nat):Int) - 1:=Int.le_trans (i14 (n:=m)) (Int.le_of_eq yy29.symm)
theorem yy18{n m:Nat}(h:m+1≤n):((m+1:Nat):Int) - 1 < (n:Int):=Int.lt_of_le_of_lt (Int.le_of_eq yy29) (Int.ofNat_lt.mpr h)
theorem yy5{n:Nat}{k:Int}(h:n≤100000000)(a:-(n:Int)≤k)(b:k < (n:Int)):-9223372036854775808≤k∧k < 9223372036854775808:=⟨Int.le_trans (Int.le_trans (by decide) (Int.neg_le_neg (Int.ofNat_le.mpr h))) a,Int.lt_of_lt_of_le b (Int.le_trans (Int.ofNat_le.mpr h) (by decide))⟩
theorem yy6{n:Nat}(h:n < 2∨3 < n):(n:Int) < 2∨3 < (n:Int):=h.imp Int.ofNat_lt.mpr Int.ofNat_lt.mpr
theorem yy7{n:Nat}(h:n < 2∨2 < n):(n:Int) < 2∨2 < (n:Int):=h.imp Int.ofNat_lt.mpr Int.ofNat_lt.mpr
theorem yy8{o n:Nat}(h:o≤2 * n+1):o≤2 * (n+1):=Nat.le_succ_of_le h
theorem yy9{d:Nat}(h:d < 899):d+1 < 900:=Nat.succ_lt_succ h
theorem yy10{p:Int}{q:Nat}(e:p=(q:Int))(h:q≤10 ^ 4):p≤10 ^ 4:=e▸Int.le_trans (Int.ofNat_le.mpr h) (by decide)
theorem yy11{n:Nat}(h:¬ n < 2)(k:¬ (2:Int) < (n:Int)):(n:Int)=((2:Nat):Int):=congrArg Nat.cast (Nat.le_antisymm (Nat.le_of_not_lt fun q=>k (Int.ofNat_lt.mpr q)) (Nat.le_of_not_lt h))
theorem yy12{n:Nat}{e:Int}(k:e < (n:Int))(h:n < 1000):e < 2 ^ 63:=Int.lt_trans k (Int.lt_trans (Int.ofNat_lt.mpr h) (by decide))
theorem yy13{r p:Nat}(k:p≤r * 6)(h:r≤5):p≤30:=Nat.le_trans k (Nat.mul_le_mul_right 6 h)
theorem yy14{b:Int}(h:0 < b):0 < 2 * b:=Int.mul_pos (by decide) h
theorem yy15{j L:Nat}(h:j+1 < L):j < L:=Nat.lt_of_succ_lt h
theorem yy16{n o:Nat}(k:o≤2 * n)(h:n≤5):o≤900:=Nat.le_trans k (Nat.le_trans (Nat.mul_le_mul_left 2 h) (by decide))
theorem yy17{p:Int}{q:Nat}(e:p=(q:Int))(h:q≤10 ^ 8):p < 1000000000:=e▸Int.lt_of_le_of_lt (Int.ofNat_le.mpr h) (by decide)
theorem yy19{n:Nat}(h:n≤50):(-1000:Int)≤1 - (n:Int):=Int.le_trans (by decide:(-1000:Int)≤1 - ((50:Nat):Int)) (Int.sub_le_sub_left (Int.ofNat_le.mpr h) 1)
theorem yy24{k:Nat}:(-2 ^ 64:Int) < 7919 * (k:Int):=Int.lt_of_lt_of_le (by decide) (Int.mul_nonneg (by decide) (Int.natCast_nonneg k))
theorem yy25{k:Nat}(h:k < 2):7919 * (k:Int) < 2 ^ 64:=Int.lt_trans (Int.mul_lt_mul_of_pos_left (Int.ofNat_lt.mpr h) (by decide)) (by decide)
theorem yy26{b:Int}(h:0 < b)(e:2 * b=0):False:=Int.lt_irrefl 0 (Int.lt_of_lt_of_le (Int.mul_pos (by decide:(0:Int) < 2) h) (Int.le_of_eq e))
theorem yy27{z:Int}:z % 2147483647 < 2147483647:=Int.emod_lt_of_pos z (by decide)
theorem yy28{z:Int}:0≤z % 2147483647:=Int.emod_nonneg z (by decide)
theorem yy30{n:Nat}:1 - (n:Int)≤1000:=Int.le_trans (Int.sub_le_self 1 (Int.natCast_nonneg n)) (by decide)
theorem yy31{L i n:Nat}(e:L=i+(n+1)):i < L+1:=Nat.lt_succ_of_lt (n2 e)
theorem yy32{a b:Nat}(h:a < b)(k:b < a):False:=Nat.lt_asymm h k
theorem yy33{d:Nat}(h:0 < d)(e:0=d):False:=Nat.ne_of_lt h e
theorem yy35{n L:Nat}(h:¬ n+1 < L):L≤n+1+1:=Nat.le_succ_of_le (Nat.le_of_not_lt h)
theorem yy36{a b c:Nat}(h:a < b)(k:b≤c):a < c:=Nat.lt_of_lt_of_le h k
theorem yy38{r:Nat}(h:r≤5):r * 6≤1000:=Nat.le_trans (Nat.mul_le_mul_right 6 h) (by decide)
theorem yy39{n:Nat}(h:¬ (0:Int) < (n:Int)):n=0:=Nat.eq_zero_of_not_pos fun q=>h (Int.ofNat_lt.mpr q)
theorem yy40{v k j:Nat}(e:v=k)(h:j < k):j < v:=e.symm▸h
theorem yy41{p:Nat}(h:p≤30):p≤1000:=Nat.le_trans h (by decide)
theorem yy44{d:Nat}(h:d≤11):d+1 < 898:=Nat.lt_of_le_of_lt (Nat.succ_le_succ h) (by decide)
theorem yy45{k:Nat}(h:k < 64):k+1≤16777216+1:=Nat.le_trans h (by decide)
theorem yy47{m:Nat}(h:(m:Int) < 5):1+m≤5:=Nat.add_comm 1 m▸Int.ofNat_lt.mp h
theorem yy46{m:Nat}(h:(m:Int) < 5):1+m≤1000:=Nat.le_trans (yy47 h) (by decide)
theorem yy48{m:Nat}:0 < 1+m:=Nat.add_pos_left (by decide) m
theorem yy49{n:Nat}(h:1 < n):(n:Int) < 0∨1 < (n:Int):=.inr (Int.ofNat_lt.mpr h)
theorem yy50{n:Nat}(h:0 < n):(n:Int) < 0∨0 < (n:Int):=.inr (Int.ofNat_lt.mpr h)
theorem yy51{n:Nat}(h:0 < n):(0:Int) < (n:Int):=Int.ofNat_lt.mpr h
theorem yy52{q:Int}{e:Nat}(h:q=(e:Int)):0≤q:=h▸Int.natCast_nonneg e
theorem yy53{r:Nat}(h:r≤1):(r:Int)+1≤2:=Int.ofNat_le.mpr (Nat.succ_le_succ h)
theorem yy54{x:Nat}(h:x≤1000):x+2≤16777216:=Nat.le_trans (Nat.add_le_add_right h 2) (by decide)
theorem yy55{e:Nat}(h:e≤5):e < 1000:=Nat.lt_of_le_of_lt h (by decide)
theorem aJ{α:Type u}{P:Prop}(o:Option α)(k0:o=none→P)(k1:∀ a,o=some a→P):P:=by
 cases o with
 | none=>exact k0 rfl
 | some a=>exact k1 a rfl
theorem xo{G:Prop}(h:let P:Prop:=G;P):G:=h
theorem xG{P:Prop}(b:Bool)(k1:b=true→P)(k0:b=false→P):P:=by
 cases b with
 | true=>exact k1 rfl
 | false=>exact k0 rfl
set_option compiler.extract_closed false
open Lean in
def xV (rs : Array Syntax) (h : Option (TSyntax `ident)) : MacroM (TSyntax `tactic) := do
  let mut ts : Array (TSyntax `tactic) := #[]
  for x in rs do
    let r : TSyntax `Lean.Parser.Tactic.rwRule := ⟨x⟩
    let e : Term := ⟨x[1]⟩
    let e ← `($e ..)
    let q ← if x[0].isNone then pure e else `(Eq.symm $e)
    ts := ts.push (← match h with
      | none => `(tactic| first | with_reducible_and_instances refine yW $q ?_ | rewrite [$r:rwRule])
      | some h => `(tactic| first | with_reducible_and_instances replace $h := $q ▸ $h | rewrite [$r:rwRule] at $h:ident))
  ts := ts.push (← `(tactic| try (with_reducible rfl)))
  `(tactic| ($[$ts:tactic];*))
local macro_rules
  | `(tactic| rw [$rs,*]) => xV rs.getElems none
  | `(tactic| rw [$rs,*] at $h:ident) => xV rs.getElems (some h)
open Lean in
local macro_rules
  | `(tactic| omega) => do
    let ts ← ("o1 o2 o3 o4 Nat.le_of_lt o5 o6 o7 o8 o9 o10 o11 o13 o14 o15 p1 p2 p3 u1 u4 u2 u3 w1 w2 w3 w4 o16 Nat.lt_succ_of_lt Nat.lt_succ_of_le Nat.lt_succ_self Nat.le_add_right Nat.succ_pos Nat.succ_le_succ i1 i2 i3 i4 i5 i6 i7 i8 i9 i10 i11 i12 i13 i14 i15 i16 i17 i18 i19 i20 i21 i22 i23 n1 n2 n3 n4 n6 n5 n7 n9 n10 n11 n12 n14 n15 n16 n17 n18 n19 n20 n21 n22 x1 x2 x3 x4 x6 x7 x8 x9 x10 x11 x12 x13 x14 x15 x16 x17 x18 x19 x20 x21 x22 x23 x24 x25 x26 x27 x29 x30 x31 x32 x34 x35 x36 x37 x38 x39 x42 yy1 yy3 yy29 yy4 yy18 yy5 yy6 yy7 yy8 yy9 yy10 yy11 yy12 yy13 yy14 yy15 yy16 yy17 yy19 yy24 yy25 yy26 yy27 yy28 yy30 yy31 yy32 yy33 yy35 yy36 yy38 yy39 yy40 yy41 yy44 yy45 yy47 yy46 yy48 yy49 yy50 yy51 yy52 yy53 yy54 yy55".splitOn " ").toArray.mapM fun n => `(Lean.Parser.Tactic.tacticSeq| apply $(mkIdent n.toName) <;> first | assumption | decide)
    `(tactic| first | (with_reducible first | assumption | decide | exact Nat.zero_le _ | exact Nat.le_refl _ | exact Int.natCast_nonneg _ $[| $ts]*) | omega +splitDisjunctions)
open Lean in
local macro_rules
  | `(tactic| obtain ⟨$ps,*⟩ := $e:term) => do
    let z := mkIdent `Zz
    `(tactic| (refine xo ?_; intro $z:ident; (rcases $e:term with ⟨$ps,*⟩) <;> (unfold $z; clear $z)))
section
set_option tactic.hygienic true
noncomputable def st(i:Nat):Stmt:=PySem.Challenge.pw_on0195_01.main.body.getD i (.Pass default)
set_option backward.match.sparseCases false in
noncomputable def me(i j:Nat):Stmt:=match st i with | .ClassDef _ _ _ b _ _ _ _ _ _ _=>b.getD j (.Pass default) | x=>x
noncomputable abbrev s'(x:String)(t:Tok):Value:=.str (Str.ofString x) t
noncomputable abbrev r'(a:Addr):Value:=.ref a
noncomputable abbrev i'(n:Int)(t:Tok):Value:=.int n t
noncomputable def tu(l:List Value):Obj:={cls:=.type "tuple",data:=.seq l.toArray}
noncomputable def co(l:List Value):Obj:={cls:=.type "code",data:=.fields l.toArray}
set_option backward.match.sparseCases false in
noncomputable def fo(d:Stmt)(q:String)(df:Value)(mo:String)(t:Tok)(c:Addr):Obj:=match d with
 | .FunctionDef n ps b _ _ _ sc _ _ _=>{cls:=.type "function",data:=.func {name:=n,qualname:=Str.ofString q,params:=ps,body:=.stmts b,scope:=sc,globals:=3,closure:=[],defaults:=df,kwdefaults:=.none,pyModule:=.str (Str.ofString mo) t,code:=.ref c}}
 | _=>{cls:=.none,data:=.plain}
noncomputable def en(P:Params):List (String × Tok × Value)→List DictEntry
 | []=>[]
 | (x,t,v)::l=>{hash:=PyData.keyHash P (Str.ofString x),key:=.str (Str.ofString x) t,val:=v}::en P l
noncomputable def di(P:Params)(l:List (String × Tok × Value))(n:Nat):Obj:={cls:=.type "dict",data:=.dict (en P l).toArray n}
noncomputable def dn(P:Params)(l:List (String × Tok × Value))(n:Nat):Obj:={cls:=.none,data:=.dict (en P l).toArray n}
theorem In.sub{K K0:Frag}{h:Heap}(e:K=(K.map (·.1)).filterMap fun k=>(K0.lookup k).map fun o=>(k,o))(X:K0.In h):K.In h:=fun a o q=>by
 have m:∀ {l:Frag},l.lookup a=some o→(a,o)∈l:=fun {l}=>by
  induction l with
  | nil=>exact fun q=>nomatch q
  | cons p r ih =>
   rw [List.lookup_cons]
   split
   ·rename_i z;exact fun q=>by rw [← Option.some.inj q,eq_of_beq z];exact .head _
   ·exact fun q=>.tail _ (ih q)
 have:=m q
 rw [e] at this
 obtain (⟨k,_,hk⟩):=List.mem_filterMap.mp this
 refine aJ (K0.lookup k) (fun z=>?_) (fun o' z=>?_)
 ·rw [z] at hk;cases hk
 ·rw [z] at hk;cases hk;exact X _ _ z
noncomputable def K39:Params→Frag:=fun P=>(nat_lit 2,dn P [("type.__subclasses__.Exception.0",221,i' 38 0),("type.__subclasses__.Exception.n",222,i' 1 0)] 2) ::
(nat_lit 3,di P [("__name__",165,s' "law_on0195_01" 1070),("__doc__",166,.none),("__package__",167,.none),("__loader__",168,.builtin "__main__.__loader__#opaque"),("__spec__",169,.none),("__annotations__",170,r' 6),("__builtins__",171,r' 4),("__file__",173,s' "/claim/cut.py" 172),("__cached__",174,.none),("_wall",193,r' 21),("MarkupError",224,r' 38),("TreeFault",240,r' 51),("PathFault",256,r' 63),("SheetFault",272,r' 75),("KeyIndex",338,r' 122),("found_by_texts",350,r' 133),("PICTURE_SIGNS",354,s' "#0,." 353),("Picture",395,r' 150),("check_digits",403,r' 161),("read_picture",413,r' 168),("half_even",423,r' 175),("grouped",432,r' 182),("digits_of",446,r' 189),("formatted_number",461,r' 196),("NAN",466,r' 197),("SPACES",468,s' " \t\n\x0d" 467),("DIGITS",470,s' "0123456789" 469),("common_divisor",480,r' 204),("sign_of",487,r' 211),("number_of",497,r' 219),("is_nan",504,r' 226),("negated",511,r' 233),("digits_end",519,r' 240),("trimmed",528,r' 247),("whole_of",537,r' 254),("read_number",551,r' 261),("write_number",566,r' 269),("lines_down",577,r' 276),("place_among",587,r' 283),("place_of",599,r' 290),("in_order",605,r' 295),("beneath",616,r' 302),("string_value",622,r' 307),("as_text",632,r' 314),("as_number",640,r' 321),("check_many",652,r' 328),("texts_of",658,r' 333),("key_call",667,r' 340),("current_call",675,r' 347),("generate_id_call",684,r' 354),("format_number_call",693,r' 361),("sheet_calls",700,r' 368),("Context",775,r' 407),("PARENTS",780,r' 412),("NodeRow",822,r' 429),("Tree",1069,r' 618),("_law_values",1078,r' 623),("_law_pool",1089,r' 630),("_law_take",1098,r' 637),("_law_one",1106,r' 644),("_law_grown",1112,r' 649),("_law_pairs",1118,r' 654),("_law_index",1129,r' 661),("_law_some",1135,r' 666),("_law_wanted",1141,r' 671),("_law_number_told",1147,r' 676),("_law_picture",1163,r' 683),("_law_answer",1172,r' 690),("_law_key_right",1178,r' 695),("_law_names_right",1184,r' 700),("law",1210,r' 707)] 71) ::
(nat_lit 22,tu [.type "Exception"]) ::
(nat_lit 34,co [s' "__init__" 208,s' "MarkupError.__init__" 209,s' "/claim/cut.py" 210,i' 7 0,i' 2 0,i' 0 0,i' 0 0,i' 3 0,r' 29,.bool true,i' 181 0,r' 30,.none,r' 31,r' 32,r' 33,i' 213 0,i' 7 0,s' "/claim/cut.py" 214]) ::
(nat_lit 35,fo (me 2 0) "MarkupError.__init__" (.none) "markupmill.errors" 194 34) ::
(nat_lit 37,di P [("__module__",203,s' "markupmill.errors" 194),("__firstlineno__",207,i' 5 206),("__init__",215,r' 35),("__static_attributes__",217,r' 36),("__weakref__",219,r' 39),("__doc__",220,.none)] 3) ::
(nat_lit 38,{cls:=.type "type",data:=.cls {name:=Str.ofString "MarkupError",bases:=[.type "Exception"],mro:=[.ref 38,.type "Exception",.type "BaseException",.type "object"],ns:=37,qualname:=Str.ofString "MarkupError",subclasses:=[.ref 51,.ref 63,.ref 75]},slots:=#[some (.ref 22),none,some (s' "MarkupError" 196),some (s' "MarkupError" 204),some (.builtin "Exception.__new__"),some (.bool true)]}) ::
(nat_lit 39,{cls:=.type "getset_descriptor",data:=.fields #[s' "__weakref__" 218,.ref 38,.builtin "ExceptionGroup.__weakref__",.none]}) ::
(nat_lit 42,tu [r' 38]) ::
(nat_lit 50,di P [("__module__",232,s' "markupmill.errors" 194),("__firstlineno__",236,i' 10 235),("__static_attributes__",237,r' 49),("__doc__",238,.none)] 2) ::
(nat_lit 51,{cls:=.type "type",data:=.cls {name:=Str.ofString "TreeFault",bases:=[.ref 38],mro:=[.ref 51,.ref 38,.type "Exception",.type "BaseException",.type "object"],ns:=50,qualname:=Str.ofString "TreeFault"},slots:=#[some (.ref 42),none,some (s' "TreeFault" 225),some (s' "TreeFault" 233),some (.builtin "Exception.__new__"),some (.bool true)]}) ::
(nat_lit 54,tu [r' 38]) ::
(nat_lit 62,di P [("__module__",248,s' "markupmill.errors" 194),("__firstlineno__",252,i' 12 251),("__static_attributes__",253,r' 61),("__doc__",254,.none)] 2) ::
(nat_lit 63,{cls:=.type "type",data:=.cls {name:=Str.ofString "PathFault",bases:=[.ref 38],mro:=[.ref 63,.ref 38,.type "Exception",.type "BaseException",.type "object"],ns:=62,qualname:=Str.ofString "PathFault"},slots:=#[some (.ref 54),none,some (s' "PathFault" 241),some (s' "PathFault" 249),some (.builtin "Exception.__new__"),some (.bool true)]}) ::
(nat_lit 66,tu [r' 38]) ::
(nat_lit 74,di P [("__module__",264,s' "markupmill.errors" 194),("__firstlineno__",268,i' 14 267),("__static_attributes__",269,r' 73),("__doc__",270,.none)] 2) ::
(nat_lit 75,{cls:=.type "type",data:=.cls {name:=Str.ofString "SheetFault",bases:=[.ref 38],mro:=[.ref 75,.ref 38,.type "Exception",.type "BaseException",.type "object"],ns:=74,qualname:=Str.ofString "SheetFault"},slots:=#[some (.ref 66),none,some (s' "SheetFault" 257),some (s' "SheetFault" 265),some (.builtin "Exception.__new__"),some (.bool true)]}) ::
(nat_lit 90,co [s' "__init__" 287,s' "KeyIndex.__init__" 288,s' "/claim/cut.py" 289,i' 19 0,i' 1 0,i' 0 0,i' 0 0,i' 3 0,r' 85,.bool true,i' 181 0,r' 86,.none,r' 87,r' 88,r' 89,i' 291 0,i' 19 0,s' "/claim/cut.py" 292]) ::
(nat_lit 91,fo (me 7 0) "KeyIndex.__init__" (.none) "markupmill.keys" 273 90) ::
(nat_lit 97,co [s' "declare" 294,s' "KeyIndex.declare" 295,s' "/claim/cut.py" 296,i' 22 0,i' 2 0,i' 0 0,i' 0 0,i' 3 0,r' 92,.bool true,i' 181 0,r' 93,.none,r' 94,r' 95,r' 96,i' 299 0,i' 22 0,s' "/claim/cut.py" 300]) ::
(nat_lit 98,fo (me 7 1) "KeyIndex.declare" (.none) "markupmill.keys" 273 97) ::
(nat_lit 104,co [s' "add" 302,s' "KeyIndex.add" 303,s' "/claim/cut.py" 304,i' 26 0,i' 4 0,i' 0 0,i' 0 0,i' 3 0,r' 99,.bool true,i' 181 0,r' 100,.none,r' 101,r' 102,r' 103,i' 310 0,i' 26 0,s' "/claim/cut.py" 311]) ::
(nat_lit 105,fo (me 7 2) "KeyIndex.add" (.none) "markupmill.keys" 273 104) ::
(nat_lit 111,co [s' "find" 313,s' "KeyIndex.find" 314,s' "/claim/cut.py" 315,i' 32 0,i' 3 0,i' 0 0,i' 0 0,i' 3 0,r' 106,.bool true,i' 181 0,r' 107,.none,r' 108,r' 109,r' 110,i' 319 0,i' 32 0,s' "/claim/cut.py" 320]) ::
(nat_lit 112,fo (me 7 3) "KeyIndex.find" (.none) "markupmill.keys" 273 111) ::
(nat_lit 121,di P [("__module__",282,s' "markupmill.keys" 273),("__firstlineno__",286,i' 17 285),("__init__",293,r' 91),("declare",301,r' 98),("add",312,r' 105),("find",321,r' 112),("values",329,r' 119),("__static_attributes__",331,r' 120),("__dict__",333,r' 123),("__weakref__",335,r' 124),("__doc__",336,.none)] 4) ::
(nat_lit 122,{cls:=.type "type",data:=.cls {name:=Str.ofString "KeyIndex",bases:=[.type "object"],mro:=[.ref 122,.type "object"],ns:=121,qualname:=Str.ofString "KeyIndex"},slots:=#[none,none,some (s' "KeyIndex" 275),some (s' "KeyIndex" 283),some (.builtin "object.__new__"),some (.bool true)]}) ::
(nat_lit 123,{cls:=.type "getset_descriptor",data:=.fields #[s' "__dict__" 332,.ref 122,.builtin "function.__dict__",.builtin "function.__dict__#set"]}) ::
(nat_lit 124,{cls:=.type "getset_descriptor",data:=.fields #[s' "__weakref__" 334,.ref 122,.builtin "ExceptionGroup.__weakref__",.none]}) ::
(nat_lit 132,co [s' "found_by_texts" 339,s' "found_by_texts" 340,s' "/claim/cut.py" 341,i' 39 0,i' 4 0,i' 0 0,i' 0 0,i' 3 0,r' 127,.bool true,i' 181 0,r' 128,.none,r' 129,r' 130,r' 131,i' 348 0,i' 39 0,s' "/claim/cut.py" 349]) ::
(nat_lit 133,fo (st 8) "found_by_texts" (.none) "markupmill.keys" 273 132) ::
(nat_lit 146,co [s' "__init__" 367,s' "Picture.__init__" 368,s' "/claim/cut.py" 369,i' 48 0,i' 4 0,i' 0 0,i' 0 0,i' 3 0,r' 141,.bool true,i' 181 0,r' 142,.none,r' 143,r' 144,r' 145,i' 378 0,i' 48 0,s' "/claim/cut.py" 379]) ::
(nat_lit 147,fo (me 11 0) "Picture.__init__" (.none) "markupmill.number_format" 351 146) ::
(nat_lit 149,di P [("__module__",362,s' "markupmill.number_format" 351),("__firstlineno__",366,i' 46 365),("__init__",380,r' 147),("__static_attributes__",388,r' 148),("__dict__",390,r' 151),("__weakref__",392,r' 152),("__doc__",393,.none)] 4) ::
(nat_lit 150,{cls:=.type "type",data:=.cls {name:=Str.ofString "Picture",bases:=[.type "object"],mro:=[.ref 150,.type "object"],ns:=149,qualname:=Str.ofString "Picture"},slots:=#[none,none,some (s' "Picture" 355),some (s' "Picture" 363),some (.builtin "object.__new__"),some (.bool true)]}) ::
(nat_lit 151,{cls:=.type "getset_descriptor",data:=.fields #[s' "__dict__" 389,.ref 150,.builtin "function.__dict__",.builtin "function.__dict__#set"]}) ::
(nat_lit 152,{cls:=.type "getset_descriptor",data:=.fields #[s' "__weakref__" 391,.ref 150,.builtin "ExceptionGroup.__weakref__",.none]}) ::
(nat_lit 160,co [s' "check_digits" 396,s' "check_digits" 397,s' "/claim/cut.py" 398,i' 63 0,i' 2 0,i' 0 0,i' 0 0,i' 3 0,r' 155,.bool true,i' 181 0,r' 156,.none,r' 157,r' 158,r' 159,i' 401 0,i' 63 0,s' "/claim/cut.py" 402]) ::
(nat_lit 161,fo (st 12) "check_digits" (.none) "markupmill.number_format" 351 160) ::
(nat_lit 167,co [s' "read_picture" 404,s' "read_picture" 405,s' "/claim/cut.py" 406,i' 68 0,i' 1 0,i' 0 0,i' 0 0,i' 3 0,r' 162,.bool true,i' 181 0,r' 163,.none,r' 164,r' 165,r' 166,i' 411 0,i' 68 0,s' "/claim/cut.py" 412]) ::
(nat_lit 168,fo (st 13) "read_picture" (.none) "markupmill.number_format" 351 167) ::
(nat_lit 174,co [s' "half_even" 414,s' "half_even" 415,s' "/claim/cut.py" 416,i' 79 0,i' 2 0,i' 0 0,i' 0 0,i' 3 0,r' 169,.bool true,i' 181 0,r' 170,.none,r' 171,r' 172,r' 173,i' 421 0,i' 79 0,s' "/claim/cut.py" 422]) ::
(nat_lit 175,fo (st 14) "half_even" (.none) "markupmill.number_format" 351 174) ::
(nat_lit 181,co [s' "grouped" 424,s' "grouped" 425,s' "/claim/cut.py" 426,i' 85 0,i' 2 0,i' 0 0,i' 0 0,i' 3 0,r' 176,.bool true,i' 181 0,r' 177,.none,r' 178,r' 179,r' 180,i' 430 0,i' 85 0,s' "/claim/cut.py" 431]) ::
(nat_lit 182,fo (st 15) "grouped" (.none) "markupmill.number_format" 351 181) ::
(nat_lit 188,co [s' "digits_of" 433,s' "digits_of" 434,s' "/claim/cut.py" 435,i' 93 0,i' 3 0,i' 0 0,i' 0 0,i' 3 0,r' 183,.bool true,i' 181 0,r' 184,.none,r' 185,r' 186,r' 187,i' 444 0,i' 93 0,s' "/claim/cut.py" 445]) ::
(nat_lit 189,fo (st 16) "digits_of" (.none) "markupmill.number_format" 351 188) ::
(nat_lit 195,co [s' "formatted_number" 447,s' "formatted_number" 448,s' "/claim/cut.py" 449,i' 105 0,i' 2 0,i' 0 0,i' 0 0,i' 3 0,r' 190,.bool true,i' 181 0,r' 191,.none,r' 192,r' 193,r' 194,i' 459 0,i' 105 0,s' "/claim/cut.py" 460]) ::
(nat_lit 196,fo (st 17) "formatted_number" (.none) "markupmill.number_format" 351 195) ::
(nat_lit 197,tu [i' 0 464,i' 0 465]) ::
(nat_lit 203,co [s' "common_divisor" 471,s' "common_divisor" 472,s' "/claim/cut.py" 473,i' 128 0,i' 2 0,i' 0 0,i' 0 0,i' 3 0,r' 198,.bool true,i' 181 0,r' 199,.none,r' 200,r' 201,r' 202,i' 478 0,i' 128 0,s' "/claim/cut.py" 479]) ::
(nat_lit 204,fo (st 22) "common_divisor" (.none) "markupmill.numbers" 462 203) ::
(nat_lit 210,co [s' "sign_of" 481,s' "sign_of" 482,s' "/claim/cut.py" 483,i' 133 0,i' 1 0,i' 0 0,i' 0 0,i' 3 0,r' 205,.bool true,i' 181 0,r' 206,.none,r' 207,r' 208,r' 209,i' 485 0,i' 133 0,s' "/claim/cut.py" 486]) ::
(nat_lit 211,fo (st 23) "sign_of" (.none) "markupmill.numbers" 462 210) ::
(nat_lit 212,tu [i' 1 488]) ::
(nat_lit 218,co [s' "number_of" 489,s' "number_of" 490,s' "/claim/cut.py" 491,i' 139 0,i' 2 0,i' 0 0,i' 0 0,i' 3 0,r' 213,.bool true,i' 181 0,r' 214,.none,r' 215,r' 216,r' 217,i' 495 0,i' 139 0,s' "/claim/cut.py" 496]) ::
(nat_lit 219,fo (st 24) "number_of" (.ref 212) "markupmill.numbers" 462 218) ::
(nat_lit 225,co [s' "is_nan" 498,s' "is_nan" 499,s' "/claim/cut.py" 500,i' 146 0,i' 1 0,i' 0 0,i' 0 0,i' 3 0,r' 220,.bool true,i' 181 0,r' 221,.none,r' 222,r' 223,r' 224,i' 502 0,i' 146 0,s' "/claim/cut.py" 503]) ::
(nat_lit 226,fo (st 25) "is_nan" (.none) "markupmill.numbers" 462 225) ::
(nat_lit 232,co [s' "negated" 505,s' "negated" 506,s' "/claim/cut.py" 507,i' 148 0,i' 1 0,i' 0 0,i' 0 0,i' 3 0,r' 227,.bool true,i' 181 0,r' 228,.none,r' 229,r' 230,r' 231,i' 509 0,i' 148 0,s' "/claim/cut.py" 510]) ::
(nat_lit 233,fo (st 26) "negated" (.none) "markupmill.numbers" 462 232) ::
(nat_lit 239,co [s' "digits_end" 512,s' "digits_end" 513,s' "/claim/cut.py" 514,i' 150 0,i' 2 0,i' 0 0,i' 0 0,i' 3 0,r' 234,.bool true,i' 181 0,r' 235,.none,r' 236,r' 237,r' 238,i' 517 0,i' 150 0,s' "/claim/cut.py" 518]) ::
(nat_lit 240,fo (st 27) "digits_end" (.none) "markupmill.numbers" 462 239) ::
(nat_lit 246,co [s' "trimmed" 520,s' "trimmed" 521,s' "/claim/cut.py" 522,i' 154 0,i' 1 0,i' 0 0,i' 0 0,i' 3 0,r' 241,.bool true,i' 181 0,r' 242,.none,r' 243,r' 244,r' 245,i' 526 0,i' 154 0,s' "/claim/cut.py" 527]) ::
(nat_lit 247,fo (st 28) "trimmed" (.none) "markupmill.numbers" 462 246) ::
(nat_lit 253,co [s' "whole_of" 529,s' "whole_of" 530,s' "/claim/cut.py" 531,i' 161 0,i' 1 0,i' 0 0,i' 0 0,i' 3 0,r' 248,.bool true,i' 181 0,r' 249,.none,r' 250,r' 251,r' 252,i' 535 0,i' 161 0,s' "/claim/cut.py" 536]) ::
(nat_lit 254,fo (st 29) "whole_of" (.none) "markupmill.numbers" 462 253) ::
(nat_lit 260,co [s' "read_number" 538,s' "read_number" 539,s' "/claim/cut.py" 540,i' 166 0,i' 1 0,i' 0 0,i' 0 0,i' 3 0,r' 255,.bool true,i' 181 0,r' 256,.none,r' 257,r' 258,r' 259,i' 549 0,i' 166 0,s' "/claim/cut.py" 550]) ::
(nat_lit 261,fo (st 30) "read_number" (.none) "markupmill.numbers" 462 260) ::
(nat_lit 262,tu [i' 15 552]) ::
(nat_lit 268,co [s' "write_number" 553,s' "write_number" 554,s' "/claim/cut.py" 555,i' 179 0,i' 2 0,i' 0 0,i' 0 0,i' 3 0,r' 263,.bool true,i' 181 0,r' 264,.none,r' 265,r' 266,r' 267,i' 564 0,i' 179 0,s' "/claim/cut.py" 565]) ::
(nat_lit 269,fo (st 31) "write_number" (.ref 262) "markupmill.numbers" 462 268) ::
(nat_lit 275,co [s' "lines_down" 569,s' "lines_down" 570,s' "/claim/cut.py" 571,i' 196 0,i' 2 0,i' 0 0,i' 0 0,i' 3 0,r' 270,.bool true,i' 181 0,r' 271,.none,r' 272,r' 273,r' 274,i' 575 0,i' 196 0,s' "/claim/cut.py" 576]) ::
(nat_lit 276,fo (st 33) "lines_down" (.none) "markupmill.order" 567 275) ::
(nat_lit 282,co [s' "place_among" 578,s' "place_among" 579,s' "/claim/cut.py" 580,i' 202 0,i' 3 0,i' 0 0,i' 0 0,i' 3 0,r' 277,.bool true,i' 181 0,r' 278,.none,r' 279,r' 280,r' 281,i' 585 0,i' 202 0,s' "/claim/cut.py" 586]) ::
(nat_lit 283,fo (st 34) "place_among" (.none) "markupmill.order" 567 282) ::
(nat_lit 289,co [s' "place_of" 588,s' "place_of" 589,s' "/claim/cut.py" 590,i' 209 0,i' 2 0,i' 0 0,i' 0 0,i' 3 0,r' 284,.bool true,i' 181 0,r' 285,.none,r' 286,r' 287,r' 288,i' 597 0,i' 209 0,s' "/claim/cut.py" 598]) ::
(nat_lit 290,fo (st 35) "place_of" (.none) "markupmill.order" 567 289) ::
(nat_lit 294,co [s' "in_order" 600,s' "in_order" 601,s' "/claim/cut.py" 602,i' 215 0,i' 2 0,i' 0 0,i' 0 0,i' 3 0,r' 291,.bool true,i' 181 0,r' 292,.none,.none,.none,r' 293,i' 603 0,i' 215 0,s' "/claim/cut.py" 604]) ::
(nat_lit 295,fo (st 36) "in_order" (.none) "markupmill.order" 567 294) ::
(nat_lit 301,co [s' "beneath" 606,s' "beneath" 607,s' "/claim/cut.py" 608,i' 218 0,i' 2 0,i' 0 0,i' 0 0,i' 3 0,r' 296,.bool true,i' 181 0,r' 297,.none,r' 298,r' 299,r' 300,i' 614 0,i' 218 0,s' "/claim/cut.py" 615]) ::
(nat_lit 302,fo (st 37) "beneath" (.none) "markupmill.order" 567 301) ::
(nat_lit 306,co [s' "string_value" 617,s' "string_value" 618,s' "/claim/cut.py" 619,i' 226 0,i' 2 0,i' 0 0,i' 0 0,i' 3 0,r' 303,.bool true,i' 181 0,r' 304,.none,.none,.none,r' 305,i' 620 0,i' 226 0,s' "/claim/cut.py" 621]) ::
(nat_lit 307,fo (st 38) "string_value" (.none) "markupmill.order" 567 306) ::
(nat_lit 313,co [s' "as_text" 625,s' "as_text" 626,s' "/claim/cut.py" 627,i' 231 0,i' 2 0,i' 0 0,i' 0 0,i' 3 0,r' 308,.bool true,i' 181 0,r' 309,.none,r' 310,r' 311,r' 312,i' 630 0,i' 231 0,s' "/claim/cut.py" 631]) ::
(nat_lit 314,fo (st 40) "as_text" (.none) "markupmill.compare" 623 313) ::
(nat_lit 320,co [s' "as_number" 633,s' "as_number" 634,s' "/claim/cut.py" 635,i' 239 0,i' 2 0,i' 0 0,i' 0 0,i' 3 0,r' 315,.bool true,i' 181 0,r' 316,.none,r' 317,r' 318,r' 319,i' 638 0,i' 239 0,s' "/claim/cut.py" 639]) ::
(nat_lit 321,fo (st 41) "as_number" (.none) "markupmill.compare" 623 320) ::
(nat_lit 327,co [s' "check_many" 643,s' "check_many" 644,s' "/claim/cut.py" 645,i' 246 0,i' 4 0,i' 0 0,i' 0 0,i' 3 0,r' 322,.bool true,i' 181 0,r' 323,.none,r' 324,r' 325,r' 326,i' 650 0,i' 246 0,s' "/claim/cut.py" 651]) ::
(nat_lit 328,fo (st 43) "check_many" (.none) "markupmill.sheet_calls" 641 327) ::
(nat_lit 332,co [s' "texts_of" 653,s' "texts_of" 654,s' "/claim/cut.py" 655,i' 249 0,i' 2 0,i' 0 0,i' 0 0,i' 3 0,r' 329,.bool true,i' 181 0,r' 330,.none,.none,.none,r' 331,i' 656 0,i' 249 0,s' "/claim/cut.py" 657]) ::
(nat_lit 333,fo (st 44) "texts_of" (.none) "markupmill.sheet_calls" 641 332) ::
(nat_lit 339,co [s' "key_call" 659,s' "key_call" 660,s' "/claim/cut.py" 661,i' 253 0,i' 1 0,i' 0 0,i' 0 0,i' 3 0,r' 334,.bool true,i' 181 0,r' 335,.none,r' 336,r' 337,r' 338,i' 665 0,i' 253 0,s' "/claim/cut.py" 666]) ::
(nat_lit 340,fo (st 45) "key_call" (.none) "markupmill.sheet_calls" 641 339) ::
(nat_lit 346,co [s' "current_call" 668,s' "current_call" 669,s' "/claim/cut.py" 670,i' 261 0,i' 2 0,i' 0 0,i' 0 0,i' 3 0,r' 341,.bool true,i' 181 0,r' 342,.none,r' 343,r' 344,r' 345,i' 673 0,i' 261 0,s' "/claim/cut.py" 674]) ::
(nat_lit 347,fo (st 46) "current_call" (.none) "markupmill.sheet_calls" 641 346) ::
(nat_lit 353,co [s' "generate_id_call" 676,s' "generate_id_call" 677,s' "/claim/cut.py" 678,i' 264 0,i' 2 0,i' 0 0,i' 0 0,i' 3 0,r' 348,.bool true,i' 181 0,r' 349,.none,r' 350,r' 351,r' 352,i' 682 0,i' 264 0,s' "/claim/cut.py" 683]) ::
(nat_lit 354,fo (st 47) "generate_id_call" (.none) "markupmill.sheet_calls" 641 353) ::
(nat_lit 360,co [s' "format_number_call" 685,s' "format_number_call" 686,s' "/claim/cut.py" 687,i' 270 0,i' 2 0,i' 0 0,i' 0 0,i' 3 0,r' 355,.bool true,i' 181 0,r' 356,.none,r' 357,r' 358,r' 359,i' 691 0,i' 270 0,s' "/claim/cut.py" 692]) ::
(nat_lit 361,fo (st 48) "format_number_call" (.none) "markupmill.sheet_calls" 641 360) ::
(nat_lit 367,co [s' "sheet_calls" 694,s' "sheet_calls" 695,s' "/claim/cut.py" 696,i' 274 0,i' 1 0,i' 0 0,i' 0 0,i' 3 0,r' 362,.bool true,i' 181 0,r' 363,.none,r' 364,r' 365,r' 366,i' 698 0,i' 274 0,s' "/claim/cut.py" 699]) ::
(nat_lit 368,fo (st 49) "sheet_calls" (.none) "markupmill.sheet_calls" 641 367) ::
(nat_lit 376,tu [i' 1 715,i' 1 716,.none,.none,.none,.none,.none]) ::
(nat_lit 382,co [s' "__init__" 717,s' "Context.__init__" 718,s' "/claim/cut.py" 719,i' 279 0,i' 10 0,i' 0 0,i' 0 0,i' 3 0,r' 377,.bool true,i' 181 0,r' 378,.none,r' 379,r' 380,r' 381,i' 730 0,i' 279 0,s' "/claim/cut.py" 731]) ::
(nat_lit 383,fo (me 51 0) "Context.__init__" (.ref 376) "markupmill.context" 701 382) ::
(nat_lit 389,co [s' "at" 733,s' "Context.at" 734,s' "/claim/cut.py" 735,i' 290 0,i' 4 0,i' 0 0,i' 0 0,i' 3 0,r' 384,.bool true,i' 181 0,r' 385,.none,r' 386,r' 387,r' 388,i' 740 0,i' 290 0,s' "/claim/cut.py" 741]) ::
(nat_lit 390,fo (me 51 1) "Context.at" (.none) "markupmill.context" 701 389) ::
(nat_lit 406,di P [("__module__",710,s' "markupmill.context" 701),("__firstlineno__",714,i' 277 713),("__init__",732,r' 383),("at",742,r' 390),("variable",750,r' 397),("uri_of",758,r' 404),("__static_attributes__",768,r' 405),("__dict__",770,r' 408),("__weakref__",772,r' 409),("__doc__",773,.none)] 4) ::
(nat_lit 407,{cls:=.type "type",data:=.cls {name:=Str.ofString "Context",bases:=[.type "object"],mro:=[.ref 407,.type "object"],ns:=406,qualname:=Str.ofString "Context"},slots:=#[none,none,some (s' "Context" 703),some (s' "Context" 711),some (.builtin "object.__new__"),some (.bool true)]}) ::
(nat_lit 408,{cls:=.type "getset_descriptor",data:=.fields #[s' "__dict__" 769,.ref 407,.builtin "function.__dict__",.builtin "function.__dict__#set"]}) ::
(nat_lit 409,{cls:=.type "getset_descriptor",data:=.fields #[s' "__weakref__" 771,.ref 407,.builtin "ExceptionGroup.__weakref__",.none]}) ::
(nat_lit 412,tu [s' "root" 778,s' "element" 779]) ::
(nat_lit 425,co [s' "__init__" 793,s' "NodeRow.__init__" 794,s' "/claim/cut.py" 795,i' 302 0,i' 7 0,i' 0 0,i' 0 0,i' 3 0,r' 420,.bool true,i' 181 0,r' 421,.none,r' 422,r' 423,r' 424,i' 803 0,i' 302 0,s' "/claim/cut.py" 804]) ::
(nat_lit 426,fo (me 54 0) "NodeRow.__init__" (.none) "markupmill.tree" 776 425) ::
(nat_lit 428,di P [("__module__",788,s' "markupmill.tree" 776),("__firstlineno__",792,i' 300 791),("__init__",805,r' 426),("__static_attributes__",815,r' 427),("__dict__",817,r' 430),("__weakref__",819,r' 431),("__doc__",820,.none)] 4) ::
(nat_lit 429,{cls:=.type "type",data:=.cls {name:=Str.ofString "NodeRow",bases:=[.type "object"],mro:=[.ref 429,.type "object"],ns:=428,qualname:=Str.ofString "NodeRow"},slots:=#[none,none,some (s' "NodeRow" 781),some (s' "NodeRow" 789),some (.builtin "object.__new__"),some (.bool true)]}) ::
(nat_lit 430,{cls:=.type "getset_descriptor",data:=.fields #[s' "__dict__" 816,.ref 429,.builtin "function.__dict__",.builtin "function.__dict__#set"]}) ::
(nat_lit 431,{cls:=.type "getset_descriptor",data:=.fields #[s' "__weakref__" 818,.ref 429,.builtin "ExceptionGroup.__weakref__",.none]}) ::
(nat_lit 446,co [s' "__init__" 835,s' "Tree.__init__" 836,s' "/claim/cut.py" 837,i' 314 0,i' 1 0,i' 0 0,i' 0 0,i' 3 0,r' 441,.bool true,i' 181 0,r' 442,.none,r' 443,r' 444,r' 445,i' 839 0,i' 314 0,s' "/claim/cut.py" 840]) ::
(nat_lit 447,fo (me 55 0) "Tree.__init__" (.none) "markupmill.tree" 776 446) ::
(nat_lit 453,co [s' "new_row" 842,s' "Tree.new_row" 843,s' "/claim/cut.py" 844,i' 317 0,i' 7 0,i' 0 0,i' 0 0,i' 3 0,r' 448,.bool true,i' 181 0,r' 449,.none,r' 450,r' 451,r' 452,i' 852 0,i' 317 0,s' "/claim/cut.py" 853]) ::
(nat_lit 454,fo (me 55 1) "Tree.new_row" (.none) "markupmill.tree" 776 453) ::
(nat_lit 460,co [s' "row" 855,s' "Tree.row" 856,s' "/claim/cut.py" 857,i' 321 0,i' 2 0,i' 0 0,i' 0 0,i' 3 0,r' 455,.bool true,i' 181 0,r' 456,.none,r' 457,r' 458,r' 459,i' 860 0,i' 321 0,s' "/claim/cut.py" 861]) ::
(nat_lit 461,fo (me 55 2) "Tree.row" (.none) "markupmill.tree" 776 460) ::
(nat_lit 467,co [s' "new_root" 863,s' "Tree.new_root" 864,s' "/claim/cut.py" 865,i' 326 0,i' 1 0,i' 0 0,i' 0 0,i' 3 0,r' 462,.bool true,i' 181 0,r' 463,.none,r' 464,r' 465,r' 466,i' 867 0,i' 326 0,s' "/claim/cut.py" 868]) ::
(nat_lit 468,fo (me 55 3) "Tree.new_root" (.none) "markupmill.tree" 776 467) ::
(nat_lit 474,co [s' "add_child" 870,s' "Tree.add_child" 871,s' "/claim/cut.py" 872,i' 329 0,i' 7 0,i' 0 0,i' 0 0,i' 3 0,r' 469,.bool true,i' 181 0,r' 470,.none,r' 471,r' 472,r' 473,i' 881 0,i' 329 0,s' "/claim/cut.py" 882]) ::
(nat_lit 475,fo (me 55 4) "Tree.add_child" (.none) "markupmill.tree" 776 474) ::
(nat_lit 481,co [s' "add_element" 884,s' "Tree.add_element" 885,s' "/claim/cut.py" 886,i' 337 0,i' 5 0,i' 0 0,i' 0 0,i' 3 0,r' 476,.bool true,i' 181 0,r' 477,.none,r' 478,r' 479,r' 480,i' 892 0,i' 337 0,s' "/claim/cut.py" 893]) ::
(nat_lit 482,fo (me 55 5) "Tree.add_element" (.none) "markupmill.tree" 776 481) ::
(nat_lit 488,co [s' "add_text" 895,s' "Tree.add_text" 896,s' "/claim/cut.py" 897,i' 340 0,i' 3 0,i' 0 0,i' 0 0,i' 3 0,r' 483,.bool true,i' 181 0,r' 484,.none,r' 485,r' 486,r' 487,i' 901 0,i' 340 0,s' "/claim/cut.py" 902]) ::
(nat_lit 489,fo (me 55 6) "Tree.add_text" (.none) "markupmill.tree" 776 488) ::
(nat_lit 537,co [s' "kind" 962,s' "Tree.kind" 963,s' "/claim/cut.py" 964,i' 361 0,i' 2 0,i' 0 0,i' 0 0,i' 3 0,r' 532,.bool true,i' 181 0,r' 533,.none,r' 534,r' 535,r' 536,i' 967 0,i' 361 0,s' "/claim/cut.py" 968]) ::
(nat_lit 538,fo (me 55 13) "Tree.kind" (.none) "markupmill.tree" 776 537) ::
(nat_lit 565,co [s' "value" 994,s' "Tree.value" 995,s' "/claim/cut.py" 996,i' 373 0,i' 2 0,i' 0 0,i' 0 0,i' 3 0,r' 560,.bool true,i' 181 0,r' 561,.none,r' 562,r' 563,r' 564,i' 999 0,i' 373 0,s' "/claim/cut.py" 1000]) ::
(nat_lit 566,fo (me 55 17) "Tree.value" (.none) "markupmill.tree" 776 565) ::
(nat_lit 572,co [s' "parent" 1002,s' "Tree.parent" 1003,s' "/claim/cut.py" 1004,i' 376 0,i' 2 0,i' 0 0,i' 0 0,i' 3 0,r' 567,.bool true,i' 181 0,r' 568,.none,r' 569,r' 570,r' 571,i' 1007 0,i' 376 0,s' "/claim/cut.py" 1008]) ::
(nat_lit 573,fo (me 55 18) "Tree.parent" (.none) "markupmill.tree" 776 572) ::
(nat_lit 579,co [s' "children" 1010,s' "Tree.children" 1011,s' "/claim/cut.py" 1012,i' 379 0,i' 2 0,i' 0 0,i' 0 0,i' 3 0,r' 574,.bool true,i' 181 0,r' 575,.none,r' 576,r' 577,r' 578,i' 1015 0,i' 379 0,s' "/claim/cut.py" 1016]) ::
(nat_lit 580,fo (me 55 19) "Tree.children" (.none) "markupmill.tree" 776 579) ::
(nat_lit 600,co [s' "root_of" 1034,s' "Tree.root_of" 1035,s' "/claim/cut.py" 1036,i' 388 0,i' 2 0,i' 0 0,i' 0 0,i' 3 0,r' 595,.bool true,i' 181 0,r' 596,.none,r' 597,r' 598,r' 599,i' 1039 0,i' 388 0,s' "/claim/cut.py" 1040]) ::
(nat_lit 601,fo (me 55 22) "Tree.root_of" (.none) "markupmill.tree" 776 600) ::
(nat_lit 617,di P [("__module__",830,s' "markupmill.tree" 776),("__firstlineno__",834,i' 312 833),("__init__",841,r' 447),("new_row",854,r' 454),("row",862,r' 461),("new_root",869,r' 468),("add_child",883,r' 475),("add_element",894,r' 482),("add_text",903,r' 489),("add_comment",912,r' 496),("add_instruction",922,r' 503),("element_row",930,r' 510),("set_attribute",942,r' 517),("add_namespace",952,r' 524),("set_value",961,r' 531),("kind",969,r' 538),("name",977,r' 545),("uri",985,r' 552),("local",993,r' 559),("value",1001,r' 566),("parent",1009,r' 573),("children",1017,r' 580),("attributes",1025,r' 587),("namespaces",1033,r' 594),("root_of",1041,r' 601),("is_above",1050,r' 608),("attribute_value",1060,r' 615),("__static_attributes__",1062,r' 616),("__dict__",1064,r' 619),("__weakref__",1066,r' 620),("__doc__",1067,.none)] 4) ::
(nat_lit 618,{cls:=.type "type",data:=.cls {name:=Str.ofString "Tree",bases:=[.type "object"],mro:=[.ref 618,.type "object"],ns:=617,qualname:=Str.ofString "Tree"},slots:=#[none,none,some (s' "Tree" 823),some (s' "Tree" 831),some (.builtin "object.__new__"),some (.bool true)]}) ::
(nat_lit 619,{cls:=.type "getset_descriptor",data:=.fields #[s' "__dict__" 1063,.ref 618,.builtin "function.__dict__",.builtin "function.__dict__#set"]}) ::
(nat_lit 620,{cls:=.type "getset_descriptor",data:=.fields #[s' "__weakref__" 1065,.ref 618,.builtin "ExceptionGroup.__weakref__",.none]}) ::
(nat_lit 623,{cls:=.type "list",data:=.seq #[s' "a" 1072,s' "1" 1073,s' "2.5" 1074,s' "true" 1075,s' "" 1076,s' "b" 1077]}) ::
(nat_lit 629,co [s' "_law_pool" 1079,s' "_law_pool" 1080,s' "/claim/cut.py" 1081,i' 400 0,i' 2 0,i' 0 0,i' 0 0,i' 3 0,r' 624,.bool true,i' 181 0,r' 625,.none,r' 626,r' 627,r' 628,i' 1087 0,i' 400 0,s' "/claim/cut.py" 1088]) ::
(nat_lit 630,fo (st 58) "_law_pool" (.none) "law_on0195_01" 1070 629) ::
(nat_lit 636,co [s' "_law_take" 1090,s' "_law_take" 1091,s' "/claim/cut.py" 1092,i' 405 0,i' 2 0,i' 0 0,i' 0 0,i' 3 0,r' 631,.bool true,i' 181 0,r' 632,.none,r' 633,r' 634,r' 635,i' 1096 0,i' 405 0,s' "/claim/cut.py" 1097]) ::
(nat_lit 637,fo (st 59) "_law_take" (.none) "law_on0195_01" 1070 636) ::
(nat_lit 643,co [s' "_law_one" 1099,s' "_law_one" 1100,s' "/claim/cut.py" 1101,i' 412 0,i' 2 0,i' 0 0,i' 0 0,i' 3 0,r' 638,.bool true,i' 181 0,r' 639,.none,r' 640,r' 641,r' 642,i' 1104 0,i' 412 0,s' "/claim/cut.py" 1105]) ::
(nat_lit 644,fo (st 60) "_law_one" (.none) "law_on0195_01" 1070 643) ::
(nat_lit 648,co [s' "_law_grown" 1107,s' "_law_grown" 1108,s' "/claim/cut.py" 1109,i' 414 0,i' 2 0,i' 0 0,i' 0 0,i' 3 0,r' 645,.bool true,i' 181 0,r' 646,.none,.none,.none,r' 647,i' 1110 0,i' 414 0,s' "/claim/cut.py" 1111]) ::
(nat_lit 649,fo (st 61) "_law_grown" (.none) "law_on0195_01" 1070 648) ::
(nat_lit 653,co [s' "_law_pairs" 1113,s' "_law_pairs" 1114,s' "/claim/cut.py" 1115,i' 423 0,i' 2 0,i' 0 0,i' 0 0,i' 3 0,r' 650,.bool true,i' 181 0,r' 651,.none,.none,.none,r' 652,i' 1116 0,i' 423 0,s' "/claim/cut.py" 1117]) ::
(nat_lit 654,fo (st 62) "_law_pairs" (.none) "law_on0195_01" 1070 653) ::
(nat_lit 660,co [s' "_law_index" 1119,s' "_law_index" 1120,s' "/claim/cut.py" 1121,i' 428 0,i' 1 0,i' 0 0,i' 0 0,i' 3 0,r' 655,.bool true,i' 181 0,r' 656,.none,r' 657,r' 658,r' 659,i' 1127 0,i' 428 0,s' "/claim/cut.py" 1128]) ::
(nat_lit 661,fo (st 63) "_law_index" (.none) "law_on0195_01" 1070 660) ::
(nat_lit 665,co [s' "_law_some" 1130,s' "_law_some" 1131,s' "/claim/cut.py" 1132,i' 435 0,i' 2 0,i' 0 0,i' 0 0,i' 3 0,r' 662,.bool true,i' 181 0,r' 663,.none,.none,.none,r' 664,i' 1133 0,i' 435 0,s' "/claim/cut.py" 1134]) ::
(nat_lit 666,fo (st 64) "_law_some" (.none) "law_on0195_01" 1070 665) ::
(nat_lit 670,co [s' "_law_wanted" 1136,s' "_law_wanted" 1137,s' "/claim/cut.py" 1138,i' 437 0,i' 2 0,i' 0 0,i' 0 0,i' 3 0,r' 667,.bool true,i' 181 0,r' 668,.none,.none,.none,r' 669,i' 1139 0,i' 437 0,s' "/claim/cut.py" 1140]) ::
(nat_lit 671,fo (st 65) "_law_wanted" (.none) "law_on0195_01" 1070 670) ::
(nat_lit 675,co [s' "_law_number_told" 1142,s' "_law_number_told" 1143,s' "/claim/cut.py" 1144,i' 446 0,i' 5 0,i' 0 0,i' 0 0,i' 3 0,r' 672,.bool true,i' 181 0,r' 673,.none,.none,.none,r' 674,i' 1145 0,i' 446 0,s' "/claim/cut.py" 1146]) ::
(nat_lit 676,fo (st 66) "_law_number_told" (.none) "law_on0195_01" 1070 675) ::
(nat_lit 682,co [s' "_law_picture" 1148,s' "_law_picture" 1149,s' "/claim/cut.py" 1150,i' 455 0,i' 1 0,i' 0 0,i' 0 0,i' 3 0,r' 677,.bool true,i' 181 0,r' 678,.none,r' 679,r' 680,r' 681,i' 1161 0,i' 455 0,s' "/claim/cut.py" 1162]) ::
(nat_lit 683,fo (st 67) "_law_picture" (.none) "law_on0195_01" 1070 682) ::
(nat_lit 689,co [s' "_law_answer" 1164,s' "_law_answer" 1165,s' "/claim/cut.py" 1166,i' 467 0,i' 3 0,i' 0 0,i' 0 0,i' 3 0,r' 684,.bool true,i' 181 0,r' 685,.none,r' 686,r' 687,r' 688,i' 1170 0,i' 467 0,s' "/claim/cut.py" 1171]) ::
(nat_lit 690,fo (st 68) "_law_answer" (.none) "law_on0195_01" 1070 689) ::
(nat_lit 694,co [s' "_law_key_right" 1173,s' "_law_key_right" 1174,s' "/claim/cut.py" 1175,i' 474 0,i' 6 0,i' 0 0,i' 0 0,i' 3 0,r' 691,.bool true,i' 181 0,r' 692,.none,.none,.none,r' 693,i' 1176 0,i' 474 0,s' "/claim/cut.py" 1177]) ::
(nat_lit 695,fo (st 69) "_law_key_right" (.none) "law_on0195_01" 1070 694) ::
(nat_lit 699,co [s' "_law_names_right" 1179,s' "_law_names_right" 1180,s' "/claim/cut.py" 1181,i' 483 0,i' 4 0,i' 0 0,i' 0 0,i' 3 0,r' 696,.bool true,i' 181 0,r' 697,.none,.none,.none,r' 698,i' 1182 0,i' 483 0,s' "/claim/cut.py" 1183]) ::
(nat_lit 700,fo (st 70) "_law_names_right" (.none) "law_on0195_01" 1070 699) ::
(nat_lit 706,co [s' "law" 1185,s' "law" 1186,s' "/claim/cut.py" 1187,i' 493 0,i' 1 0,i' 0 0,i' 0 0,i' 3 0,r' 701,.bool true,i' 181 0,r' 702,.none,r' 703,r' 704,r' 705,i' 1208 0,i' 493 0,s' "/claim/cut.py" 1209]) ::
(nat_lit 707,fo (st 71) "law" (.none) "law_on0195_01" 1070 706)::[]
end
section
noncomputable abbrev Pg:Program:=PySem.Challenge.rw_on0195_01.row.prog
noncomputable def loose:List Str:=["_wall", "MarkupError", "TreeFault", "PathFault", "SheetFault", "KeyIndex", "found_by_texts", "PICTURE_SIGNS", "Picture", "check_digits", "read_picture", "half_even", "grouped", "digits_of", "formatted_number", "NAN", "SPACES", "DIGITS", "common_divisor", "sign_of", "number_of", "is_nan", "negated", "digits_end", "trimmed", "whole_of", "read_number", "write_number", "lines_down", "place_among", "place_of", "in_order", "beneath", "string_value", "as_text", "as_number", "check_many", "texts_of", "key_call", "current_call", "generate_id_call", "format_number_call", "sheet_calls", "Context", "PARENTS", "NodeRow", "Tree", "_law_values", "_law_pool", "_law_take", "_law_one", "_law_grown", "_law_pairs", "_law_index", "_law_some", "_law_wanted", "_law_number_told", "_law_picture", "_law_answer", "_law_key_right", "_law_names_right", "law"].map Str.ofString
noncomputable abbrev Mp:=Str→Option Value
noncomputable abbrev Led:=Addr→Option Obj
noncomputable def Led.set(l:Led)(a:Addr)(o:Obj):Led:=fun b=>if b=a then some o else l b
noncomputable def Led.le(l l':Led):Prop:=∀ a o,l a=some o→l' a=some o
theorem Led.le.rfl{l:Led}:l.le l:=fun O O h=>h
theorem Led.le.trans{a b c:Led}(x:a.le b)(y:b.le c):a.le c:=fun O O h=>y _ _ (x _ _ h)
theorem Led.hit{l:Led}{a:Addr}{o:Obj}:(l.set a o) a=some o:=if_pos rfl
theorem Led.skip{l:Led}{a b:Addr}{o x:Obj}(hb:l b=some x)(h:b≠a):(l.set a o) b=some x:=(if_neg h).trans hb
theorem Led.ne{l:Led}{a b:Addr}{x:Obj}(hb:l b=some x)(ha:l a=none):b≠a:=fun e=>by rw [e,ha] at hb;cases hb
theorem Led.new{l:Led}{a b:Addr}{o x:Obj}(ha:l a=none)(hb:l b=some x):(l.set a o) b=some x:=Led.skip hb (Led.ne hb ha)
theorem Led.le.new{l:Led}{a:Addr}{o:Obj}(ha:l a=none):l.le (l.set a o):=fun O O h=>Led.new ha h
set_option tactic.hygienic true in
theorem Led.le.set{l l':Led}{a:Addr}{o:Obj}(h:l.le l'):(l.set a o).le (l'.set a o):=fun b x hb=>by
 unfold Led.set at *
 split at hb
 ·rename_i e;rw [if_pos e];exact hb
 ·rename_i e;rw [if_neg e];exact h _ _ hb
noncomputable def Nw(g:Heap)(L:Addr)(h:Heap)(l:Led):Prop:=∀ a o,l a=some o→h.get? a=some o∧a≠L∧g.get? a=none
structure Dy where
 w:World
 gA:ExcName→Option Value
 mg:Mp
 mb:Mp
 A₀:Around
 base:Heap
 outer:List Env
 L:Addr
 ay:Env
 env:Env
 cmp:Option (Addr × Mp)
 fz:List (Addr × Obj)
 may:Prop
 X:Addr→Led→Prop
 Y:Addr→Led→Prop
 az:Prop
theorem ff{p:Prop}(h:false=true):p:=Bool.noConfusion h
theorem tf{p:Prop}(h:true=false):p:=Bool.noConfusion h
structure Good(d:Dy):Prop where
 XB:(K39 d.w.params).In d.base
 TB:Top topProg loose d.gA d.mg d.mb d.base
 fk:d.ay.scope.kind=.function
 ff:d.ay.frame=some d.L
 hk:d.env.scope.kind=.function
 hl:d.env.locals=match d.cmp with | none=>d.L | some p=>p.1
 hg:d.env.globals=mainGlobals
 hb:d.env.builtins=builtinsNs
structure jN(d:Dy)(r:Nat)(A:Around):Prop where
 hd:A.handled=none
 fr:A.frames=some (d.ay::d.outer)
 dep:A.depth+r+1 < 1000
 pB:A.units+16 * r+64 < 9900
structure jM(s s':Shared):Prop where
 g:s'.gens=s.gens
 d:s'.drawn=s.drawn
 o:s'.os=s.os
theorem jM.rfl{s:Shared}:jM s s:=⟨.refl _,.refl _,.refl _⟩
theorem jM.trans{a b c:Shared}(x:jM a b)(y:jM b c):jM a c:=⟨y.g.trans x.g,y.d.trans x.d,y.o.trans x.o⟩
theorem jM.of{s:Shared}{h:Heap}{t:Nat}:jM s {s with heap:=h,toks:=t}:=⟨.refl _,.refl _,.refl _⟩
noncomputable def Own(d:Dy)(g h:Heap)(m:Mp)(l:Led):Prop:=match d.cmp with
 | none=>Fr g d.L h m
 | some p=>Fr g d.L h p.2∧(∃ o,NsObj o m∧h.get? p.1=some o)∧p.1≠d.L∧g.get? p.1=none∧l p.1=none∧∀ q∈d.fz,q.1≠p.1
structure wF(d:Dy)(g h:Heap)(m:Mp)(l:Led)(p:Addr × Mp)(oc:Obj):Prop where
 F:Fr g d.L h p.2
 ns:NsObj oc m
 get:h.get? p.1=some oc
 L:p.1≠d.L
 g:g.get? p.1=none
 l:l p.1=none
 z:∀ q∈d.fz,q.1≠p.1
theorem gr{d:Dy}{g h:Heap}{m:Mp}{l:Led}(e:d.cmp=none)(F:Fr g d.L h m):Own d g h m l:=by unfold Own;rw [e];exact F
theorem fJ{d:Dy}{g h:Heap}{m:Mp}{l:Led}{p:Addr × Mp}{oc:Obj}(e:d.cmp=some p)(w:wF d g h m l p oc):Own d g h m l:=by unfold Own;rw [e];exact ⟨w.F,⟨oc,w.ns,w.get⟩,w.L,w.g,w.l,w.z⟩
set_option tactic.hygienic true in
theorem Own.el{d:Dy}{g h:Heap}{m:Mp}{l:Led}{P:Prop}(W:Own d g h m l)(k0:d.cmp=none→Fr g d.L h m→P)(k1:∀ p oc,d.cmp=some p→wF d g h m l p oc→P):P:=by
 unfold Own at W
 split at W
 ·exact k0 ‹_› W
 ·rename_i p e;exact W.2.1.elim fun oc w=>k1 p oc e ⟨W.1,w.1,w.2,W.2.2.1,W.2.2.2.1,W.2.2.2.2.1,W.2.2.2.2.2⟩
noncomputable def Fz(d:Dy)(g h:Heap)(l:Led):Prop:=∀ p∈d.fz,h.get? p.1=some p.2∧p.1≠d.L∧g.get? p.1=none∧l p.1=none
structure At(d:Dy)(g h:Heap)(m:Mp)(l:Led):Prop where
 B:Below d.A₀ d.base d.outer g
 N:Nw g d.L h l
 W:Own d g h m l
 Z:Fz d g h l
noncomputable abbrev jF(l:List Env):List Addr:=l.filterMap (·.frame)
structure Step(d:Dy)(g:Heap)(s:Shared)(g':Heap)(s':Shared):Prop where
 T:KtsTurn (jF d.outer) g g'
 e:jM s s'
 st:d.az→g'=g
theorem Step.rfl{d:Dy}{g:Heap}{s:Shared}:Step d g s g s:=⟨.refl,.rfl,fun O=>.refl _⟩
theorem Step.of{d:Dy}{g:Heap}{s:Shared}{h:Heap}{t:Nat}:Step d g s g {s with heap:=h,toks:=t}:=⟨.refl,.of,fun O=>.refl _⟩
theorem Step.trans{d:Dy}{g g' g'':Heap}{s s' s'':Shared}(x:Step d g s g' s')(y:Step d g' s' g'' s''):Step d g s g'' s'':=⟨x.T.trans y.T,x.e.trans y.e,fun h=>(y.st h).trans (x.st h)⟩
noncomputable def cx(base G:Heap)(es:List Env)(e:Addr)(cls:Value)(l:Led)(h:Heap):Prop :=
 ∃ B a0,base.StaysIn B∧(∀ b o,G.get? b=some o→b ∉ jF es→B.get? b=some o)∧(∀ a o,l a=some o→B.get? a=some o∧G.get? a=none∧base.get? a=none)∧Heap.FlyingW B es e cls a0 h
inductive dX(d:Dy)(g:Heap)(s:Shared)(a:Addr)(s':Shared):Prop
 | own (g':Heap) (m:Mp) (c:Addr) (l:Led) (oe:Obj) (a0:Value) (e:Step d g s g' s') (hn:l a=none) (hc:oe.cls=.ref c) (hd:oe.data=.fields #[a0,.none,.none,.none,.bool false,.none]) (at_:At d g' s'.heap m (l.set a oe)) (y:d.Y c l):dX d g s a s'
 | on (g' G:Heap) (mo:Mp) (c:Addr) (l:Led) (e:Step d g s g' s') (B:Below d.A₀ d.base d.outer g') (F:Fr g' d.L G mo) (R:cx d.base G (d.ay::d.outer) a (.ref c) l s'.heap) (u:G.UpToSlots s'.heap) (x:d.X c l):dX d g s a s'
structure Xo(d:Dy)(A:Around)(g:Heap)(s:Shared)(E:Value→Shared→Prop):Prop where
 p:d.may→∀ A',SameStack A' A→PassesOwnAt (model Pg d.w) A' A d.ay E
 x:∀ a s',dX d g s a s'→E (.ref a) s'
theorem dX.then{d:Dy}{g g₁:Heap}{s s₁ s':Shared}{a:Addr}(x:Step d g s g₁ s₁)(t:dX d g₁ s₁ a s'):dX d g s a s':=by
 induction t with
 | own g' m c l oe a0 e hn hc hd at_ y=>exact .own g' m c l oe a0 (x.trans e) hn hc hd at_ y
 | on g' G mo c l e B F R u y=>exact .on g' G mo c l (x.trans e) B F R u y
inductive aO{α:Type}(d:Dy)(g:Heap)(K:α→Mp→Led→Prop)(s:Shared)(v:α)(s':Shared):Prop
 | mk (g':Heap) (m:Mp) (l:Led) (e:Step d g s g' s') (a:At d g' s'.heap m l) (k:K v m l):aO d g K s v s'
structure bx(d:Dy)(r:Nat)(A:Around)(E:Value→Shared→Prop)(g:Heap)(s:Shared)(m:Mp)(l:Led):Prop where
 G:Good d
 R:jN d r A
 a:At d g s.heap m l
 x:Xo d A g s E
theorem bx.next{d:Dy}{r:Nat}{A:Around}{E:Value→Shared→Prop}{g g':Heap}{s s':Shared}{m m':Mp}{l l':Led}(n:bx d r A E g s m l)(e:Step d g s g' s')(a:At d g' s'.heap m' l'):bx d r A E g' s' m' l' :=
 ⟨n.G,n.R,a,n.x.p,fun a s' t=>n.x.x a s' (t.then e)⟩
structure Ok{α:Type}(d:Dy)(r:Nat)(t:Sem α)(K:α→Mp→Led→Prop)(m:Mp)(l:Led):Prop where
 run:∀ A E g s,bx d r A E g s m l→wpAny (model Pg d.w) A t (aO d g K s) E s
section
variable {α β:Type}{d:Dy}{r:Nat}{m:Mp}{l:Led}
theorem aO.then{g g₁:Heap}{K:α→Mp→Led→Prop}{s s₁ s₂:Shared}{v:α}(x:Step d g s g₁ s₁)(p:aO d g₁ K s₁ v s₂):aO d g K s v s₂:=by
 induction p with | mk g' m l e a k=>exact ⟨g',m,l,x.trans e,a,k⟩
theorem aO.mono{g:Heap}{K K':α→Mp→Led→Prop}{s s':Shared}{v:α}(p:aO d g K s v s')(k:∀ v m l,K v m l→K' v m l):aO d g K' s v s':=by
 induction p with | mk g' m l e a q=>exact ⟨g',m,l,e,a,k _ _ _ q⟩
theorem Ok.mono{t:Sem α}{K K':α→Mp→Led→Prop}(h:Ok d r t K m l)(hk:∀ v m l,K v m l→K' v m l):Ok d r t K' m l :=
 ⟨fun A E g s n=>wpAny_mono (h.run A E g s n) (fun v s' p=>p.mono hk) fun O O x=>x⟩
theorem bx.ok{A:Around}{E:Value→Shared→Prop}{g:Heap}{s:Shared}{K:α→Mp→Led→Prop}{v:α}(n:bx d r A E g s m l)(k:K v m l):aO d g K s v s:=⟨g,m,l,.rfl,n.a,k⟩
theorem Ok.pure{a:α}{K:α→Mp→Led→Prop}(h:K a m l):Ok d r (Pure.pure a) K m l:=⟨fun A E g s n=>wpAny_pure (n.ok h)⟩
theorem aO.on{A:Around}{E:Value→Shared→Prop}{g:Heap}{s s₁:Shared}{f:Sem β}{K':α→Mp→Led→Prop}{K:β→Mp→Led→Prop}{a:α}{m₀:Mp}{l₀:Led}(n:bx d r A E g s m₀ l₀)(p:aO d g K' s a s₁)(h:∀ m l,K' a m l→Ok d r f K m l):wpAny (model Pg d.w) A f (aO d g K s) E s₁:=by
 induction p with | mk g' m l e at_ k=>exact wpAny_mono ((h m l k).run A E g' s₁ (n.next e at_)) (fun v s₂ p=>p.then e) fun O O x=>x
theorem Ok.iX{t:Sem β}{t₁:Sem α}{f:α→Sem β}{K:β→Mp→Led→Prop}
  (rule:∀ A (Q:β→Shared→Prop) E s,wpAny (model Pg d.w) A t₁ (fun a s₁=>wpAny (model Pg d.w) A (f a) Q E s₁) E s→wpAny (model Pg d.w) A t Q E s)
  (h:Ok d r t₁ (fun a m l=>Ok d r (f a) K m l) m l):Ok d r t K m l :=
 ⟨fun A E g s n=>rule A _ E s (wpAny_mono (h.run A E g s n) (fun a s₁ p=>p.on n fun O O k=>k) fun O O x=>x)⟩
theorem Ok.bind{t:Sem α}{f:α→Sem β}{K:β→Mp→Led→Prop}(h:Ok d r t (fun a m l=>Ok d r (f a) K m l) m l):Ok d r (t >>= f) K m l :=
 .iX (fun O O O O h=>wpAny_bind h) h
theorem Ok.map{f:α→β}{t:Sem β}{t₁:Sem α}{K:β→Mp→Led→Prop}
  (rule:Good d→∀ A (Q:β→Shared→Prop) E s,wpAny (model Pg d.w) A t₁ (fun a s=>Q (f a) s) E s→wpAny (model Pg d.w) A t Q E s) (h:Ok d r t₁ (fun a m l=>K (f a) m l) m l):Ok d r t K m l :=
 ⟨fun A E g s n=>rule n.G A _ E s (wpAny_mono (h.run A E g s n) (fun a s₁ p=>by cases p with | mk g' m l e at_ k=>exact ⟨g',m,l,e,at_,k⟩) fun O O x=>x)⟩
theorem Ok.um{t t':Sem β}{K:β→Mp→Led→Prop}(rule:∀ A (Q:β→Shared→Prop) E s,wpAny (model Pg d.w) A t' Q E s→wpAny (model Pg d.w) A t Q E s)(h:Ok d r t' K m l):Ok d r t K m l :=
 ⟨fun A E g s n=>rule A _ E s (h.run A E g s n)⟩
theorem Ok.quiet{t:Sem α}{K:α→Mp→Led→Prop}
  (h:∀ A E g (s:Shared) (Q:α→Shared→Prop),bx d r A E g s m l→(∀ v tk,K v m l→Q v {s with toks:=tk})→wpAny (model Pg d.w) A t Q E s):Ok d r t K m l :=
 ⟨fun A E g s n=>h A E g s _ n fun v tk k=>⟨g,m,l,.of (h:=s.heap),n.a,k⟩⟩
end
set_option genCtorIdx true in
inductive CV | int (i:Int) | str (s:Str) | v (v:Value)
inductive CV.Is:CV→Value→Prop
 | int (i:Int) (t:Tok):CV.Is (.int i) (.int i t)
 | str (s:Str) (t:Tok):CV.Is (.str s) (.str s t)
 | v (v:Value):CV.Is (.v v) v
inductive ar:List CV→List Value→Prop
 | nil:ar [] []
 | cons {c v cs vs} (h:CV.Is c v) (t:ar cs vs):ar (c::cs) (v::vs)
@[elab_as_elim] theorem CV.Is.ev{w v:Value}{P:Value→Prop}(h:CV.Is (.v w) v)(k:P w):P v:=by cases (h);exact k
@[elab_as_elim] theorem CV.Is.es{x:Str}{v:Value}{P:Value→Prop}(h:CV.Is (.str x) v)(k:∀ t,P (.str x t)):P v:=by cases (h);exact k _
@[elab_as_elim] theorem CV.Is.ei{x:Int}{v:Value}{P:Value→Prop}(h:CV.Is (.int x) v)(k:∀ t,P (.int x t)):P v:=by cases (h);exact k _
@[elab_as_elim] theorem ar.xl{vs:List Value}{P:List Value→Prop}(h:ar [] vs)(k:P []):P vs:=by cases (h);exact k
@[elab_as_elim] theorem ar.rk{c:CV}{cs:List CV}{vs:List Value}{P:List Value→Prop}(h:ar (c::cs) vs)(k:∀ v vs',CV.Is c v→ar cs vs'→P (v::vs')):P vs:=by cases (h);exact k _ _ ‹_› ‹_›
@[elab_as_elim] theorem ar.eX{a:CV}{vs:List Value}{P:List Value→Prop}(h:ar [a] vs)(k:∀ x,CV.Is a x→P [x]):P vs:=h.rk fun x O i h=>h.xl (P:=fun vs=>P (x::vs)) (k x i)
@[elab_as_elim] theorem ar.dg{a b:CV}{vs:List Value}{P:List Value→Prop}(h:ar [a,b] vs)(k:∀ x y,CV.Is a x→CV.Is b y→P [x,y]):P vs:=h.rk fun x O i h=>h.eX (P:=fun vs=>P (x::vs)) fun y j=>k x y i j
@[elab_as_elim] theorem ar.fU{a b c:CV}{vs:List Value}{P:List Value→Prop}(h:ar [a,b,c] vs)(k:∀ x y z,CV.Is a x→CV.Is b y→CV.Is c z→P [x,y,z]):P vs:=h.rk fun x O i h=>h.dg (P:=fun vs=>P (x::vs)) fun y z j l=>k x y z i j l
end
set_option compiler.extract_closed false
local macro_rules
  | `(tactic| cases $h:ident) => `(tactic| first | (injection $h; done) | (injection $h with e1 e2 e3 e4; cases e1; cases e2; cases e3; cases e4) | (injection $h with e1 e2 e3; cases e1; cases e2; cases e3) | (injection $h with e1 e2; cases e1; cases e2) | (injection $h with e1; cases e1) | (refine CV.Is.ev $h ?_; first | (cases ($h); done) | clear $h) | (refine CV.Is.es $h fun t => ?_; first | (cases ($h); done) | clear $h) | (refine CV.Is.ei $h fun t => ?_; first | (cases ($h); done) | clear $h) | ((fail_if_success (have e := Eq.symm $h)); (first | induction $h:ident using PySem.Expr.casesOn | induction $h:ident using PySem.Stmt.casesOn | cases ($h))) | subst $h | cases ($h))
section
inductive PV(K:CV→Led→Prop)(m₀:Mp)(v:Value)(m:Mp)(l:Led):Prop
 | mk (c:CV) (e:m=m₀) (is:CV.Is c v) (k:K c l):PV K m₀ v m l
section
variable {α:Type}{d:Dy}{r:Nat}{m:Mp}{l:Led}{A:Around}{E:Value→Shared→Prop}{g g':Heap}{s s':Shared}
theorem Ok.wp{E':Value→Shared→Prop}{t:Sem α}{K:α→Mp→Led→Prop}{Q:α→Shared→Prop}(h:Ok d r t K m l)(n:bx d r A E g s m l)(k:∀ v s' g' m' l',Step d g s g' s'→bx d r A E g' s' m' l'→K v m' l'→Q v s')(hE:∀ e s,E e s→E' e s:=by exact fun O O x=>x):wpAny (model Pg d.w) A t Q E' s :=
 wpAny_mono (h.run A E g s n) (fun v s' p=>by cases p with | mk g' m' l' e a q=>exact k v s' g' m' l' e (n.next e a) q) hE
theorem Ok.tQ{t:Sem Value}{K:CV→Led→Prop}{Q:Value→Shared→Prop}(h:Ok d r t (PV K m) m l)(n:bx d r A E g s m l)(k:∀ v s' g' l' c,Step d g s g' s'→bx d r A E g' s' m l'→CV.Is c v→K c l'→Q v s'):wpAny (model Pg d.w) A t Q E s :=
 h.wp n fun v s' g' m' l' e n' p=>by cases p with | mk c em is q=>subst em;exact k v s' g' l' c e n' is q
theorem Ok.xU{t:Sem α}{K:α→Mp→Led→Prop}(h:Ok d r t K m l)(e:Step d g s g' s')(n:bx d r A E g' s' m l):wpAny (model Pg d.w) A t (aO d g K s) E s' :=
 wpAny_mono (h.run A E g' s' n) (fun O O p=>p.then e) fun O O x=>x
end
structure LN(d:Dy)(r:Nat)(t:List Value→Sem Value)(cs:List CV)(K:CV→Led→Prop)(l:Led):Prop where
 run:∀ vs m,ar cs vs→Ok d r (t vs) (PV K m) m l
noncomputable abbrev Cl(d:Dy)(r:Nat)(f:Value)(cs:List CV)(K:CV→Led→Prop)(l:Led):Prop:=LN d r (fun vs=>call f vs) cs K l
section
variable {d:Dy}{g h:Heap}{m:Mp}{l:Led}
theorem At.cZ(a:At d g h m l):∃ mo,Fr g d.L h mo:=by
 have:=a.W;unfold Own at this;split at this
 ·exact ⟨m,this⟩
 ·exact ⟨_,this.1⟩
theorem At.get(a:At d g h m l){b:Addr}{o:Obj}(e:l b=some o):h.get? b=some o:=(a.N b o e).1
theorem At.up(a:At d g h m l){b:Addr}{o:Obj}(e:d.base.get? b=some o):h.get? b=some o:=by
 obtain (⟨_,F⟩):=a.cZ;exact F.keep b o (a.B.stays b o e)
theorem Led.le.none{l l':Led}(le:l'.le l){a:Addr}(h:l a=none):l' a=none:=by
 cases q:l' a with
 | none=>rfl
 | some o=>have:=le _ _ q;rw [h] at this;cases this
theorem At.sub{l':Led}(a:At d g h m l)(le:l'.le l):At d g h m l':=⟨a.B,fun b o e=>a.N b o (le b o e),by
 have W:=a.W
 unfold Own at W ⊢
 split at W
 ·exact W
 ·exact ⟨W.1,W.2.1,W.2.2.1,W.2.2.2.1,le.none W.2.2.2.2.1,W.2.2.2.2.2⟩,fun p hp=>have z:=a.Z p hp;⟨z.1,z.2.1,z.2.2.1,le.none z.2.2.2⟩⟩
theorem bx.X{r:Nat}{A:Around}{E:Value→Shared→Prop}{s:Shared}(n:bx d r A E g s m l):(K39 d.w.params).In s.heap:=n.G.XB.keeps fun O O e=>n.a.up e
theorem bx.T{r:Nat}{A:Around}{E:Value→Shared→Prop}{s:Shared}(n:bx d r A E g s m l):Top topProg loose d.gA d.mg d.mb s.heap:=n.G.TB.keeps fun O O e=>n.a.up e
noncomputable def fK(h:Heap)(l:Led):List (Addr × Obj):=(List.range h.objs.size).filterMap fun a=>(l a).map fun o=>(a,o)
theorem fT{a:Addr}{o:Obj}:(a,o)∈fK h l↔a < h.objs.size∧l a=some o:=by
 unfold fK
 rw [List.mem_filterMap]
 constructor
 ·rintro ⟨b,hb,e⟩
  refine aJ (l b) (fun q=>?_) (fun x q=>?_)
  ·rw [q] at e;cases e
  ·rw [q] at e;cases e;exact ⟨List.mem_range.mp hb,q⟩
 ·rintro ⟨hb,e⟩;exact ⟨a,List.mem_range.mpr hb,by rw [e];rfl⟩
theorem Nw.news{L:Addr}(n:Nw g L h l):News g L h (fK h l):=fun p hp=>n p.1 p.2 (fT.mp hp).2
theorem Nw.mem{L:Addr}(n:Nw g L h l){a:Addr}{o:Obj}(e:l a=some o):(a,o)∈fK h l:=fT.mpr ⟨Heap.lt_size (n a o e).1,e⟩
theorem du{L:Addr}{news:List (Addr × Obj)}(N:News g L h news):∀ p∈news,p.1≠h.objs.size:=fun p hp q=>Nat.lt_irrefl _ (q▸Heap.lt_size (N p hp).1)
noncomputable def wG(l:Led)(news:List (Addr × Obj)):Prop:=∀ b o,l b=some o→(b,o)∈news
noncomputable def zf(d:Dy)(g:Heap)(m:Mp)(l:Led)(mo:Mp)(news:List (Addr × Obj)):Prop:=∀ h',Fr g d.L h' mo→News g d.L h' news→At d g h' m l
noncomputable def zh(d:Dy)(g:Heap)(m:Mp)(l:Led)(mo:Mp)(news:List (Addr × Obj)):Prop:=∀ h' D o,Fr g d.L h' mo→News g d.L h' ((D,o)::news)→(∀ p∈news,p.1≠D)→l D=none∧At d g h' m (l.set D o)
noncomputable def xR(d:Dy)(g:Heap)(m:Mp)(l:Led)(mo:Mp)(b:Addr)(rest:List (Addr × Obj)):Prop:=∀ h' o',Fr g d.L h' mo→News g d.L h' ((b,o')::rest)→At d g h' m (l.set b o')
noncomputable def xQ(l:Led)(b:Addr)(rest:List (Addr × Obj)):Prop:=∀ c x,l c=some x→c≠b→(c,x)∈rest
inductive wJ(d:Dy)(g h:Heap)(m:Mp)(l:Led)(mo:Mp)(b:Addr)(o:Obj):Prop
 | mk (rest:List (Addr × Obj)) (N:News g d.L h ((b,o)::rest)) (dis:∀ p∈rest,p.1≠b) (mem:xQ l b rest) (fin:xR d g m l mo b rest):wJ d g h m l mo b o
noncomputable def zl(d:Dy)(g h:Heap)(m:Mp)(l:Led)(mo:Mp):Prop:=∀ b o,l b=some o→wJ d g h m l mo b o
inductive wK(d:Dy)(g h:Heap)(m:Mp)(l:Led):Prop
 | mk (mo:Mp) (news:List (Addr × Obj)) (F:Fr g d.L h mo) (N:News g d.L h news) (mem:wG l news) (st:zf d g m l mo news) (nw:zh d g m l mo news) (ch:zl d g h m l mo):wK d g h m l
inductive wH(d:Dy)(g h:Heap)(m:Mp)(l:Led):Prop
 | mk (mo:Mp) (own:List (Addr × Obj)) (F:Fr g d.L h mo) (No:News g d.L h own) (dis:∀ p∈own,l p.1=none) (re:∀ h' l',Fr g d.L h' mo→News g d.L h' own→(∀ p∈own,l' p.1=none)→Own d g h' m l'∧Fz d g h' l'):wH d g h m l
theorem Fz.of{l':Led}{h':Heap}(N:News g d.L h' d.fz)(dis:∀ p∈d.fz,l' p.1=none):Fz d g h' l':=fun p hp=>have n:=N p hp;⟨n.1,n.2.1,n.2.2,dis p hp⟩
theorem At.xr(a:At d g h m l):wH d g h m l :=
 have z1:News g d.L h d.fz:=fun p hp=>have z:=a.Z p hp;⟨z.1,z.2.1,z.2.2.1⟩
 have z2:∀ p∈d.fz,l p.1=none:=fun p hp=>(a.Z p hp).2.2.2
 a.W.el (fun e F=>⟨m,d.fz,F,z1,z2,fun _ _ F N dis=>⟨gr e F,.of N dis⟩⟩)
  fun p oc e w=>⟨p.2,(p.1,oc)::d.fz,w.F,List.forall_mem_cons.mpr ⟨⟨w.get,w.L,w.g⟩,z1⟩,List.forall_mem_cons.mpr ⟨w.l,z2⟩,fun _ _ F N dis=>⟨fJ e ⟨F,w.ns,(N _ (.head _)).1,w.L,w.g,dis _ (.head _),w.z⟩,.of (fun p hp=>N p (.tail _ hp)) fun p hp=>dis p (.tail _ hp)⟩⟩
set_option tactic.hygienic true in
theorem At.led(a:At d g h m l):wK d g h m l:=by
 cases a.xr with | mk mo own F No dis re =>
 have sub:∀ {h':Heap},News g d.L h' (own++fK h l)→News g d.L h' own∧Nw g d.L h' l:=fun N=>⟨fun p hp=>N p (List.mem_append_left _ hp),fun b o e=>N (b,o) (List.mem_append_right _ (a.N.mem e))⟩
 have hN:News g d.L h (own++fK h l):=fun p hp=>by
  rcases List.mem_append.mp hp with q | q
  ·exact No p q
  ·exact a.N.news p q
 have fin:∀ {h' l'},Nw g d.L h' l'→Fr g d.L h' mo→News g d.L h' own→(∀ p∈own,l' p.1=none)→At d g h' m l':=fun n F N dis=>⟨a.B,n,(re _ _ F N dis).1,(re _ _ F N dis).2⟩
 refine ⟨mo,own++fK h l,F,hN,fun b o e=>List.mem_append_right _ (a.N.mem e),fun h' F' N'=>fin (sub N').2 F' (sub N').1 dis,fun h' D o F' N' hD=>?_,fun b o e=>?_⟩
 ·have lD:l D=none:=by
   cases q:l D with
   | none=>rfl
   | some x=>exact absurd rfl (hD (D,x) (List.mem_append_right _ (a.N.mem q)))
  have N2:=sub (h':=h') fun p hp=>N' p (.tail _ hp)
  refine ⟨lD,fin (fun b x e=>?_) F' N2.1 fun p hp=>?_⟩
  ·unfold Led.set at e
   split at e
   ·rename_i q;cases e;subst q;exact N' (_,_) (.head _)
   ·exact N2.2 b x e
  ·exact (if_neg (hD p (List.mem_append_left _ hp))).trans (dis p hp)
 ·refine ⟨(own++fK h l).filter fun p=>decide (p.1≠b),fun p hp=>?_,fun p hp=>of_decide_eq_true (List.mem_filter.mp hp).2,fun c x hc hn=>List.mem_filter.mpr ⟨List.mem_append_right _ (a.N.mem hc),decide_eq_true hn⟩,fun h' o' F' N'=>?_⟩
  ·rcases List.mem_cons.mp hp with rfl | hp
   ·exact a.N _ _ e
   ·exact hN p (List.mem_filter.mp hp).1
  ·have ob:∀ p∈own,p.1≠b:=fun p hp q=>by have:=dis p hp;rw [q,e] at this;cases this
   refine fin (fun c x hc=>?_) F' (fun p hp=>N' p (.tail _ (List.mem_filter.mpr ⟨List.mem_append_left _ hp,decide_eq_true (ob p hp)⟩))) fun p hp=>(if_neg (ob p hp)).trans (dis p hp)
   unfold Led.set at hc
   split at hc
   ·rename_i q;cases hc;subst q;exact N' (_,_) (.head _)
   ·rename_i q;exact N' (c,x) (.tail _ (List.mem_filter.mpr ⟨List.mem_append_right _ (a.N.mem hc),decide_eq_true q⟩))
end
noncomputable def slot:List Str→Str→Option Nat
 | [],_=>none
 | y::r,x=>if x=y then some 0 else match slot r x with | some n=>some (n+1) | none=>none
inductive Sl | nil | c (v:CV) (r:Sl) | u (r:Sl)
noncomputable def Sl.get:Sl→Nat→Option CV
 | .nil,_=>none
 | .c v _,0=>some v
 | .u _,0=>none
 | .c _ r,n+1=>r.get n
 | .u r,n+1=>r.get n
noncomputable def Sl.set:Sl→Nat→CV→Sl
 | .nil,0,x=>.c x .nil
 | .nil,n+1,x=>.u (Sl.set .nil n x)
 | .c _ r,0,x=>.c x r
 | .u r,0,x=>.c x r
 | .c v r,n+1,x=>.c v (r.set n x)
 | .u r,n+1,x=>.u (r.set n x)
noncomputable def Sl.of:List CV→Sl
 | []=>.nil
 | a::b=>.c a (Sl.of b)
inductive rD:Option CV→Option Value→Prop
 | none:rD none none
 | some {c v} (h:CV.Is c v):rD (some c) (some v)
noncomputable def bL(ns:List Str)(σ:Sl)(m:Mp):Prop:=∀ x i c,slot ns x=some i→σ.get i=some c→∃ v,m x=some v∧CV.Is c v
theorem bL.nil{ns:List Str}{m:Mp}:bL ns .nil m:=fun x i c O h=>by cases i<;>cases h
set_option tactic.hygienic true in
theorem dF:∀ {ns:List Str} {x:Str} {i:Nat},slot ns x=some i→ns[i]?=some x
 | y::r,x,i,h=>by
  unfold slot at h
  split at h
  ·cases h;rename_i e;rw [e];rfl
  ·split at h
   ·rename_i n e;cases h;exact dF (ns:=r) e
   ·cases h
theorem Sl.get_set:∀ (σ:Sl) (i:Nat) (z:CV),(σ.set i z).get i=some z
 | .nil,0,_=>rfl
 | .nil,n+1,z=>Sl.get_set .nil n z
 | .c _ _,0,_=>rfl
 | .u _,0,_=>rfl
 | .c _ q,n+1,z=>Sl.get_set q n z
 | .u q,n+1,z=>Sl.get_set q n z
theorem Sl.mf(σ:Sl)(i j:Nat)(z:CV)(h:j≠i):(σ.set i z).get j=σ.get j:=by
 induction i generalizing σ j with
 | zero=>induction j with
  | zero=>exact absurd rfl h
  | succ j _=>induction σ with
   | nil=>rfl
   | c _ _ _=>rfl
   | u _ _=>rfl
 | succ n ih=>induction j with
  | zero=>induction σ with
   | nil=>rfl
   | c _ _ _=>rfl
   | u _ _=>rfl
  | succ j _ =>
   have k:j≠n:=fun e=>h (congrArg (·+1) e)
   induction σ with
   | nil=>exact (ih .nil j k).trans rfl
   | c _ q _=>exact ih q j k
   | u q _=>exact ih q j k
theorem bL.set{ns:List Str}{σ:Sl}{m:Mp}{x:Str}{i:Nat}{c:CV}{v:Value}(h:bL ns σ m)(hx:slot ns x=some i)(hc:CV.Is c v):bL ns (σ.set i c) (fun y=>if y=x then some v else m y):=fun y j c' hy hj=>by
 by_cases e:y=x
 ·subst e
  rw [hx] at hy;cases hy
  rw [Sl.get_set] at hj;cases hj
  exact ⟨v,if_pos rfl,hc⟩
 ·rewrite [Sl.mf _ _ _ _ fun q=>e ?_] at hj
  ·obtain (⟨w,a,b⟩):=h y j c' hy hj
   exact ⟨w,(if_neg e).trans a,b⟩
  ·subst q
   have a:=dF hy;rw [dF hx] at a;exact (Option.some.inj a).symm
theorem oE{α:Type}{l:List α}(h:l.Nodup):l.reverse.Nodup:=(List.reverse_perm l).symm.nodup h
end
section
set_option backward.match.sparseCases false
noncomputable abbrev Ex:=PySem.Expr
noncomputable def gT:List (Str × Value):=[("TreeFault",.ref 51),("PathFault",.ref 63),("SheetFault",.ref 75),("KeyIndex",.ref 122),("found_by_texts",.ref 133),("Picture",.ref 150),("check_digits",.ref 161),("read_picture",.ref 168),("half_even",.ref 175),("grouped",.ref 182),("digits_of",.ref 189),("formatted_number",.ref 196),("common_divisor",.ref 204),("sign_of",.ref 211),("number_of",.ref 219),("is_nan",.ref 226),("negated",.ref 233),("digits_end",.ref 240),("trimmed",.ref 247),("whole_of",.ref 254),("read_number",.ref 261),("write_number",.ref 269),("lines_down",.ref 276),("place_among",.ref 283),("place_of",.ref 290),("in_order",.ref 295),("beneath",.ref 302),("string_value",.ref 307),("as_text",.ref 314),("as_number",.ref 321),("check_many",.ref 328),("texts_of",.ref 333),("key_call",.ref 340),("current_call",.ref 347),("generate_id_call",.ref 354),("format_number_call",.ref 361),("sheet_calls",.ref 368),("Context",.ref 407),("NodeRow",.ref 429),("Tree",.ref 618),("_law_pool",.ref 630),("_law_take",.ref 637),("_law_one",.ref 644),("_law_grown",.ref 649),("_law_pairs",.ref 654),("_law_index",.ref 661),("_law_some",.ref 666),("_law_wanted",.ref 671),("_law_number_told",.ref 676),("_law_picture",.ref 683),("_law_answer",.ref 690),("_law_key_right",.ref 695),("_law_names_right",.ref 700),("PICTURE_SIGNS",.str (Str.ofString "#0,.") 353),("NAN",.ref 197),("SPACES",.str (Str.ofString " \t\n\x0d") 467),("DIGITS",.str (Str.ofString "0123456789") 469),("PARENTS",.ref 412),("_law_values",.ref 623),("len",.builtin "len"),("abs",.builtin "abs"),("max",.builtin "max"),("min",.builtin "min"),("sorted",.builtin "sorted"),("isinstance",.builtin "isinstance"),("str",.type "str"),("int",.type "int"),("bool",.type "bool"),("tuple",.type "tuple"),("list",.type "list"),("dict",.type "dict"),("range",.type "range"),("zip",.type "zip"),("Exception",.type "Exception")].map fun p=>(Str.ofString p.1,p.2)
structure Fi where
 ns:List Str
 gi:List Nat
 cn:List Str:=[]
 fr:List Str:=[]
noncomputable def dN(x:Str):List Nat→Option Value
 | []=>none
 | k::r=>match gT[k]? with
  | some p=>if x=p.1 then some p.2 else dN x r
  | none=>none
noncomputable def CV.of:Value→CV
 | .int i _=>.int i
 | .str s _=>.str s
 | x=>.v x
noncomputable def wy:Value→Bool
 | .builtin _ | .type _=>true
 | .ref a=>[51,63,75,122,133,150,161,168,175,182,189,196,204,211,219,226,233,240,247,254,261,269,276,283,290,295,302,307,314,321,328,333,340,347,354,361,368,407,429,618,630,637,644,649,654,661,666,671,676,683,690,695,700].contains a
 | _=>false
theorem CV.dM(x:Value):CV.Is (CV.of x) x:=by cases x<;>constructor
noncomputable def CW(d:Dy)(l:Led)(f:Value):Prop :=
 ∀ h,(K39 d.w.params).In h→(∀ a o,l a=some o→h.get? a=some o)→∃ k,(k=Keeper.frame∨k=Keeper.machine∨k=Keeper.boundFrame)∧Looks (model Pg d.w) h (keeperOf f) k
inductive ae(l:Led)(a:Addr)(c:CV):Prop
 | mk (o:Obj) (v:Value) (e:l a=some o) (h:o.data=.cell (some v)) (is:CV.Is c v):ae l a c
inductive bl(l:Led)(a:Addr):Prop
 | mk (o:Obj) (v:Option Value) (e:l a=some o) (h:o.data=.cell v):bl l a
theorem ae.of{l l':Led}{a:Addr}{c:CV}(h:ae l a c)(k:∀ o,l a=some o→l' a=some o):ae l' a c:=by
 induction h with | mk o v e hd is=>exact ⟨o,v,k _ e,hd,is⟩
inductive CK(l:Led)(a:Addr)(C:CV→Prop):Prop
 | mk (c:CV) (h:ae l a c) (k:C c):CK l a C
structure Ev(d:Dy)(fi:Fi)(cs:List Addr):Prop where
 loc:∀ x i,slot fi.ns x=some i→d.env.kindOf x=some .local∧(x==("__debug__":Str))=false
 xy:∀ x v,dN x fi.gi=some v→d.env.kindOf x=some .globalImplicit∧(x==("__debug__":Str))=false ∧
  (nsIn (K39 d.w.params) mainGlobals x=some (some v)∨(nsIn (K39 d.w.params) mainGlobals x=some none∧bootBuiltins x=some v∧x≠"__name__"))
 own:∀ x i a,slot fi.cn x=some i→cs[i]?=some a→d.env.kindOf x=some .cell∧d.env.cells.lookup x=some a
 w7:∀ x i a,slot (fi.cn++fi.fr) x=some i→cs[i]?=some a→(d.env.kindOf x=some .cell∨(d.env.kindOf x=some .free∧(x==("__classdict__":Str))=false))∧(x==("__debug__":Str))=false∧d.env.cells.lookup x=some a
structure LE(d:Dy)(r:Nat)(fi:Fi)(t:Sem Value)(K:CV→Led→Prop)(σ:Sl)(l:Led):Prop where
 run:∀ m,bL fi.ns σ m→Ok d r t (PV K m) m l
structure aA(b:Bool)(T F:Prop):Prop where
 t:b=true→T
 f:b=false→F
structure LT(d:Dy)(r:Nat)(c:CV)(T F:Led→Prop)(l:Led):Prop where
 run:∀ m v,CV.Is c v→Ok d r (truthy v) (fun b m' l'=>m'=m∧if b then T l' else F l') m l
inductive bG(d:Dy)(r:Nat)(u:CV)(name:Str)(l:Led)(C:Value→List CV→Prop):Prop
 | mk (f:Value) (fs:List CV) (cw:∀ l',CW d l' f) (res:∀ v pl m,CV.Is u v→Ok d r (getMethod v name pl) (fun p m' l'=>m'=m∧l'=l∧p.1=f∧ar fs p.2) m l) (k:C f fs):bG d r u name l C
inductive LF(d:Dy)(l:Led)(c:CV)(C:Value→Prop):Prop
 | mk (f:Value) (e:c=.v f) (cw:CW d l f) (k:C f):LF d l c C
inductive PS(ns:List Str)(K:Option CV→Sl→Led→Prop):Flow→Mp→Led→Prop
 | next {m l} (σ:Sl) (h:bL ns σ m) (k:K none σ l):PS ns K .next m l
 | ret {m l v} (σ:Sl) (c:CV) (h:bL ns σ m) (is:CV.Is c v) (k:K (some c) σ l):PS ns K (.ret v) m l
structure LS(d:Dy)(r:Nat)(fi:Fi)(t:Sem Flow)(K:Option CV→Sl→Led→Prop)(σ:Sl)(l:Led):Prop where
 run:∀ m,bL fi.ns σ m→Ok d r t (PS fi.ns K) m l
noncomputable def fY(op:Operator):List Value→Sem Value
 | [a,b]=>binaryOp op a b
 | _=>pure .none
noncomputable def vw(op:Operator):List Value→Sem Value
 | [a,b]=>inplaceOp op a b
 | _=>pure .none
noncomputable def br(op:CmpOp):List Value→Sem Value
 | [a,b]=>compareOp op a b
 | _=>pure .none
noncomputable def fH(o i:Ex):List Value→Sem Value
 | [a,b]=>subscriptTail o i a b
 | _=>pure .none
noncomputable def fZ(x:Str):List Value→Sem Value
 | [a]=>getAttr a x true
 | _=>pure .none
noncomputable def wR(op:UnaryOp):List Value→Sem Value
 | [a]=>unaryOp op a
 | _=>pure .none
noncomputable def iD(x:Str):List Value→Sem Unit
 | [a,b]=>setAttr a x b
 | _=>pure ()
noncomputable def fX:List Value→Sem Unit
 | [a,i,b]=>setItem a i b
 | _=>pure ()
structure bX(d:Dy)(r:Nat)(o i:Ex)(cs:List CV)(K:CV→Led→Prop)(l:Led):Prop where
 run:∀ v a b c m,ar cs [v,a,b,c]→∀ A E g s,bx d r A E g s m l→wpAny (model Pg d.w) A (subscriptTail o i v (.ref s.heap.objs.size)) (aO d g (PV K m) s) E {s with heap:=s.heap.push {cls:=.type "slice",data:=.fields #[a,b,c]}}
structure LU(d:Dy)(r:Nat)(t:List Value→Sem Unit)(cs:List CV)(K:Led→Prop)(l:Led):Prop where
 run:∀ vs m,ar cs vs→Ok d r (t vs) (fun O m' l'=>m'=m∧K l') m l
noncomputable def rY(d:Dy)(r:Nat)(op:Operator)(u v:CV)(K:CV→Led→Prop)(l:Led):Prop:=match u,v with
 | .int a,.int b=>(match op with
  | .Add=>K (.int (a+b)) l
  | .Sub=>K (.int (a - b)) l
  | .Mult=>IntMulOk a b∧K (.int (a * b)) l
  | .FloorDiv=>(b≠0∧Builtin.divisionGoesByPylong a b=false)∧K (.int (a.fdiv b)) l
  | .Mod=>b≠0∧K (.int (a.fmod b)) l
  | _=>LN d r (fY op) [.int a,.int b] K l)
 | .str a,.str b=>(match op with
  | .Add=>a.length+b.length≤sizeLine∧K (.str (a++b)) l
  | _=>LN d r (fY op) [.str a,.str b] K l)
 | u,v=>LN d r (fY op) [u,v] K l
noncomputable def jU(d:Dy)(r:Nat)(op:CmpOp)(u v:CV)(K:CV→Led→Prop)(l:Led):Prop:=match u,v with
 | .int a,.int b=>(match op with
  | .Eq=>K (.v (.bool (a==b))) l
  | .NotEq=>K (.v (.bool (a != b))) l
  | .Lt=>K (.v (.bool (decide (a < b)))) l
  | .LtE=>K (.v (.bool (decide (a≤b)))) l
  | .Gt=>K (.v (.bool (decide (b < a)))) l
  | .GtE=>K (.v (.bool (decide (b≤a)))) l
  | _=>LN d r (br op) [.int a,.int b] K l)
 | .str a,.str b=>(match op with
  | .Eq=>K (.v (.bool (a==b))) l
  | .NotEq=>K (.v (.bool (a != b))) l
  | .In=>K (.v (.bool (!(Builtin.Str.occurrences b a 0 b.length 1).isEmpty))) l
  | .NotIn=>K (.v (.bool (!(!(Builtin.Str.occurrences b a 0 b.length 1).isEmpty)))) l
  | _=>LN d r (br op) [.str a,.str b] K l)
 | u,v=>LN d r (br op) [u,v] K l
noncomputable def vf(d:Dy)(r:Nat)(c:CV)(T F:Led→Prop)(l:Led):Prop:=match c with
 | .v (.bool b)=>aA b (T l) (F l)
 | .v .none=>F l
 | c=>LT d r c T F l
noncomputable def vr(d:Dy)(r:Nat)(op:UnaryOp)(u:CV)(K:CV→Led→Prop)(l:Led):Prop:=match op,u with
 | .USub,.int a=>K (.int (-a)) l
 | op,u=>LN d r (wR op) [u] K l
noncomputable def r5(d:Dy)(r:Nat)(op:Operator)(u v:CV)(K:CV→Led→Prop)(l:Led):Prop:=match u,v with
 | .int a,.int b=>(match op with
  | .Add=>K (.int (a+b)) l
  | .Sub=>K (.int (a - b)) l
  | _=>LN d r (vw op) [.int a,.int b] K l)
 | u,v=>LN d r (vw op) [u,v] K l
noncomputable def xb(d:Dy)(r:Nat)(o i:Ex)(u v:CV)(K:CV→Led→Prop)(l:Led):Prop:=LN d r (fH o i) [u,v] K l
noncomputable abbrev fG(vs:List Value):Obj:={cls:=.type "tuple",data:=.seq vs.toArray}
inductive bh(c:CV)(l:Led)(n:Nat)(C:List CV→Prop):Prop
 | mk (a:Addr) (vs:List Value) (cs:List CV) (o:Obj) (e:c=.v (.ref a)) (hm:l a=some o) (ho:o=fG vs∨∃ n,o=W.listOf (List.toArray vs) n) (hn:vs.length=n) (is:ar cs vs) (k:C cs):bh c l n C
inductive pw(d:Dy)(l:Led)(c:CV):Prop
 | mk (a C:Addr) (l':Led) (oe:Obj) (a0:Value) (e:c=.v (.ref a)) (hl:(l'.set a oe).le l) (hn:l' a=none) (hc:oe.cls=.ref C) (hC:C=63∨C=75) (hd:oe.data=.fields #[a0,.none,.none,.none,.bool false,.none]) (y:d.Y C l'):pw d l c
set_option genCtorIdx true in
inductive jS | s (i:Nat) | c (a:Addr)
noncomputable def aI(fi:Fi)(cs:List Addr)(y:Str):Option jS:=match slot fi.ns y with
 | some i=>some (.s i)
 | none=>(match slot fi.cn y with
  | some i=>(match cs[i]? with | some a=>some (.c a) | none=>none)
  | none=>none)
noncomputable def dh(fi:Fi)(cs:List Addr):List Str→Option (List jS)
 | []=>some []
 | y::r=>(match aI fi cs y with
  | some j=>(match dh fi cs r with | some js=>some (j::js) | none=>none)
  | none=>none)
noncomputable def c5(σ:Sl)(l:Led)(c:CV)(K:Sl→Led→Prop):jS→Prop
 | .s i=>K (σ.set i c) l
 | .c a=>bl l a∧∀ o v,CV.Is c v→o.data=.cell (some v)→K σ (l.set a o)
noncomputable def cT:List jS→List CV→(Sl→Led→Prop)→Sl→Led→Prop
 | t::ts,c::cs,K,σ,l=>c5 σ l c (cT ts cs K) t
 | [],[],K,σ,l=>K σ l
 | _,_,_,_,_=>False
noncomputable def cz:Ex→Bool
 | .Name ..=>true
 | .Subscript ..=>true
 | .Attribute ..=>true
 | .Call (.Attribute ..) _ _ _=>true
 | .Constant ..=>true
 | .ListComp ..=>true
 | _=>false
noncomputable def aQ:Ex→Bool
 | .ListComp ..=>false
 | .SetComp ..=>false
 | .DictComp ..=>false
 | _=>true
noncomputable def isSlice:Ex→Bool
 | .Slice ..=>true
 | _=>false
noncomputable def isStar:Ex→Bool
 | .Starred ..=>true
 | _=>false
inductive VE
 | name (y:Str) | int (i:Int) | str (s:Str) | bool (b:Bool) | none
 | bin (op:Operator) | un (op:UnaryOp) | cmp (op:CmpOp) | fj (op op2:CmpOp) | sub | uw | pG (y:Str) | tX
 | bp (f:Str) (n:Nat) | gX (y:Str) (n:Nat) | tup (n:Nat) | list (n:Nat) | bo (op:BoolOp) (n:Nat) | other
noncomputable def view:Ex→VE
 | .Name y _=>.name y
 | .Constant (.int i) _ _=>.int i
 | .Constant (.str s) _ _=>.str s
 | .Constant (.bool b) _ _=>.bool b
 | .Constant .none _ _=>.none
 | .BinOp _ op _ _=>.bin op
 | .UnaryOp op _ _=>.un op
 | .Compare _ [op] [b] _=>(match behindInMarks op b with | true=>.other | false=>.cmp op)
 | .Compare _ [op,op2] [_,b] _=>(match behindInMarks op2 b with | true=>.other | false=>.fj op op2)
 | .Subscript _ i _=>(match isSlice i with | true=>.uw | false=>.sub)
 | .Attribute o y _=>(match cz o with | true=>.pG y | false=>.other)
 | .IfExp ..=>.tX
 | .Call (.Name f _) args [] _=>(match args.any isStar with | true=>.other | false=>.bp f args.length)
 | .Call (.Attribute o y ap) args [] p=>(match cz o&&!(args.any isStar)&&decide (args.length < 30)&&ap.endLine==p.line with | true=>.gX y args.length | false=>.other)
 | .Tuple xs _ _=>(match xs.any isStar with | true=>.other | false=>.tup xs.length)
 | .List xs _=>(match xs.any isStar with | true=>.other | false=>.list xs.length)
 | .BoolOp op xs _=>.bo op xs.length
 | _=>.other
noncomputable def eY:Ex:=.Constant .none 0 ⟨0,0,0,0⟩
noncomputable def kh:Ex→Nat→Option Ex
 | .Slice a _ _ _,0=>a
 | .Slice _ a _ _,1=>a
 | .Slice _ _ a _,2=>a
 | _,_=>none
noncomputable def vn(gs:List Comprehension)(i:Nat):Comprehension:=gs.getD i ⟨eY,eY,[],0⟩
noncomputable def yk(e v:Ex)(gs:List Comprehension):Nat→Ex
 | 0=>(vn gs 0).iter
 | 1=>e
 | 2=>(vn gs 0).target
 | 3=>(vn gs 0).ifs.getD 0 eY
 | 4=>(vn gs 1).iter
 | 5=>(vn gs 1).target
 | 6=>(vn gs 1).ifs.getD 0 eY
 | _=>v
noncomputable def ch:Ex→Nat→Ex
 | .BinOp a _ _ _,0=>a
 | .BinOp _ _ b _,_=>b
 | .UnaryOp _ a _,_=>a
 | .Compare a _ _ _,0=>a
 | .Compare _ _ bs _,k+1=>bs.getD k eY
 | .Subscript a _ _,0=>a
 | .Subscript _ b _,_=>b
 | .Attribute a _ _,_=>a
 | .IfExp a _ _ _,0=>a
 | .IfExp _ a _ _,1=>a
 | .IfExp _ _ a _,_=>a
 | .Call f _ _ _,0=>f
 | .Call _ as _ _,k+1=>as.getD k eY
 | .Tuple xs _ _,k=>xs.getD k eY
 | .List xs _,k=>xs.getD k eY
 | .BoolOp _ xs _,k=>xs.getD k eY
 | .Slice a b c p,k=>(kh (.Slice a b c p) k).getD eY
 | .ListComp e gs _ _,k=>yk e eY gs k
 | .DictComp e v gs _ _,k=>yk e v gs k
 | _,_=>eY
noncomputable def jB(i:Ex)(j:Nat):Bool:=(kh i j).isSome
noncomputable def iS:Stmt→List Stmt
 | .FunctionDef _ _ b ..=>b
 | _=>[]
noncomputable def fV:Stmt→List Stmt
 | .If _ a _ _=>a
 | .While _ a _ _=>a
 | .For _ _ a _ _=>a
 | .FunctionDef _ _ b ..=>b
 | .Try a _ _ _ _=>a
 | _=>[]
noncomputable def mu:Stmt→List Stmt
 | .If _ _ b _=>b
 | _=>[]
noncomputable def valOf:Stmt→Ex
 | .Assign _ e _=>e
 | .AugAssign _ _ e _=>e
 | .Return (some e) _=>e
 | .Expr e _=>e
 | .If e _ _ _=>e
 | .While e _ _ _=>e
 | .For _ e _ _ _=>e
 | .Raise (some e) _ _=>e
 | _=>eY
noncomputable def fW:Stmt→Ex
 | .Assign [t] _ _=>t
 | .For t _ _ _ _=>t
 | .AugAssign t _ _ _=>t
 | _=>eY
inductive Bk
 | f (D:Stmt)
 | t (b:Bk) (i:Nat)
 | e (b:Bk) (i:Nat)
noncomputable def Bk.at:Bk→List Stmt
 | .f D=>iS D
 | .t b i=>fV (b.at.getD i (.Pass ⟨0,0,0,0⟩))
 | .e b i=>mu (b.at.getD i (.Pass ⟨0,0,0,0⟩))
inductive Pe
 | v (b:Bk) (i:Nat)
 | g (b:Bk) (i:Nat)
 | c (p:Pe) (i:Nat)
 | x (e:Ex)
noncomputable def Pe.at:Pe→Ex
 | .v b i=>valOf (b.at.getD i (.Pass ⟨0,0,0,0⟩))
 | .g b i=>fW (b.at.getD i (.Pass ⟨0,0,0,0⟩))
 | .c p i=>ch p.at i
 | .x e=>e
inductive w9
 | pA (ids:List Str) (m:Option Nat) | asg (y:Str) | kY (y:Str) | pg | mD (y:Str) | aug (y:Str) (op:Operator) | ret | expr | vj | raise | other
noncomputable def nameOf:Ex→Option Str
 | .Name y _=>some y
 | _=>none
noncomputable def j1(m:Nat):Ex→Bool × Option Nat
 | .Tuple vs _ _=>(!(vs.any isStar)&&(vs.all (foldedForSure 8)||!(vs.all (constantsAlone 8)))&&decide (m≤99),if vs.length=m then some m else none)
 | _=>(true,none)
noncomputable def bj:List Ex→Option (List Str)
 | []=>some []
 | .Name y _::r=>(match bj r with | some l=>some (y::l) | none=>none)
 | _=>none
noncomputable def pM:Stmt→w9
 | .Assign [.Tuple ts _ _] e _=>(match bj ts with
  | some ids=>(match aQ e&&decide ids.Nodup&&(j1 ts.length e).1 with
   | true=>.pA ids (j1 ts.length e).2
   | false=>.other)
  | none=>.other)
 | .Assign [.Name y _] e _=>(match aQ e with | true=>.asg y | false=>.kY y)
 | .Assign [.Subscript _ _ _] _ _=>.pg
 | .Assign [.Attribute _ y _] e _=>(match aQ e with | true=>.mD y | false=>.other)
 | .AugAssign (.Name y _) op _ _=>.aug y op
 | .Return (some _) _=>.ret
 | .Expr e _=>(match aQ e with | true=>.expr | false=>.other)
 | .If ..=>.vj
 | .Raise (some _) none _=>.raise
 | _=>.other
inductive Kt
 | tN (op:Operator) (b:Pe) (k:Kt) | tM (op:Operator) (u:CV) (k:Kt)
 | rm (op:CmpOp) (b:Pe) (k:Kt) | tK (op:CmpOp) (u:CV) (k:Kt)
 | fj (op op2:CmpOp) (b b2:Pe) (T F:Kt) | rn (op op2:CmpOp) (u:CV) (b2:Pe) (T F:Kt) | pd (op2:CmpOp) (u:CV) (T F:Kt)
 | un (op:UnaryOp) (k:Kt)
 | se (p:Pe) (k:Kt) | sd (p:Pe) (u:CV) (k:Kt)
 | si (p:Pe) (k:Kt) | sj (p:Pe) (j:Nat) (acc:List CV) (k:Kt)
 | pG (y:Str) (k:Kt)
 | iJ (y:Str) (n:Nat) (p:Pe) (k:Kt)
 | arg (p:Pe) (j n:Nat) (acc:List CV) (k:Kt)
 | r7 (T F:Kt)
 | set (t:jS) (b:Bk) (j:Nat) (S:Kt)
 | aug (t:jS) (op:Operator) (u:CV) (b:Bk) (j:Nat) (S:Kt)
 | ret | raise
 | pA (ts:List jS) (b:Bk) (j:Nat) (S:Kt)
 | drop (b:Bk) (i:Nat) (S:Kt)
 | wW (b:Bk) (i:Nat) (S:Kt) | wV (c:CV) (b:Bk) (i:Nat) (S:Kt) | wU (c u:CV) (b:Bk) (i:Nat) (S:Kt)
 | wY (y:Str) (b:Bk) (i:Nat) (S:Kt) | wX (y:Str) (c:CV) (b:Bk) (i:Nat) (S:Kt)
 | call (f:Value) (fs:List CV) (k:Kt) | loc (c:CV) (k:Kt) | tup (k:Kt) | list (k:Kt) | r6 (ts:List jS) (b:Bk) (j:Nat) (S:Kt)
 | ts (b:Bk) (S:Kt) | te (p:Pe) (k:Kt) | tb (op:BoolOp) (p:Pe) (j n:Nat) (T F:Kt)
 | nil | out | c (b:Bk) (i:Nat) (S:Kt)
inductive Tk
 | e (p:Pe) (k:Kt)
 | v (c:CV) (k:Kt)
 | t (p:Pe) (T F:Kt)
 | b (op:BoolOp) (p:Pe) (j n:Nat) (T F:Kt)
 | a (p:Pe) (j n:Nat) (acc:List CV) (k:Kt)
 | l (p:Pe) (j:Nat) (acc:List CV) (k:Kt)
 | s (b:Bk) (i:Nat) (S:Kt)
structure Cx(fi:Fi)(r:Nat) where
 d:Dy
 cs:List Addr
 P:Option CV→Sl→Led→Prop
 Q:Sl→Led→Prop
section
variable {fi:Fi}{r:Nat}(x:Cx fi r)(G:Tk→Sl→Led→Prop)
noncomputable def goN(y:Str)(C:CV→Prop)(other:Prop)(σ:Sl)(l:Led):Prop:=match slot fi.ns y with
 | some i=>(match σ.get i with
  | some c=>C c
  | none=>False)
 | none=>(match slot (fi.cn++fi.fr) y with
  | some i=>(match x.cs[i]? with
   | some a=>CK l a C
   | none=>False)
  | none=>(match dN y fi.gi with
   | some v=>C (CV.of v)
   | none=>other))
noncomputable def wZ(f:Str)(call:Value→Prop)(loc:CV→Prop)(σ:Sl)(l:Led):Prop:=match slot fi.ns f with
 | some i=>(match σ.get i with
  | some c=>loc c
  | none=>False)
 | none=>(match slot (fi.cn++fi.fr) f with
  | some i=>(match x.cs[i]? with
   | some a=>CK l a loc
   | none=>False)
  | none=>(match dN f fi.gi with
   | some v=>(match CV.of v with
    | .v g=>(match wy g with
     | true=>call g
     | false=>False)
    | _=>False)
   | none=>False))
noncomputable def ye(p:Pe)(k:Kt)(σ:Sl)(l:Led):VE→Prop
 | .name y=>goN x y (fun c=>G (.v c k) σ l) (LE x.d r fi (eval p.at x.d.env) (fun c l=>G (.v c k) σ l) σ l) σ l
 | .int i=>G (.v (.int i) k) σ l
 | .str s=>G (.v (.str s) k) σ l
 | .bool b=>G (.v (.v (.bool b)) k) σ l
 | .none=>G (.v (.v .none) k) σ l
 | .bin op=>G (.e (p.c 0) (.tN op (p.c 1) k)) σ l
 | .un op=>G (.e (p.c 0) (.un op k)) σ l
 | .cmp op=>G (.e (p.c 0) (.rm op (p.c 1) k)) σ l
 | .sub=>G (.e (p.c 0) (.se p k)) σ l
 | .uw=>G (.e (p.c 0) (.si p k)) σ l
 | .pG y=>G (.e (p.c 0) (.pG y k)) σ l
 | .tX=>G (.t (p.c 0) (.te (p.c 1) k) (.te (p.c 2) k)) σ l
 | .bp f m=>wZ x f (fun g=>G (.a p 1 m [] (.call g [] k)) σ l) (fun c=>G (.a p 1 m [] (.loc c k)) σ l) σ l
 | .gX y m=>G (.e ((p.c 0).c 0) (.iJ y m p k)) σ l
 | .tup m=>G (.a p 0 m [] (.tup k)) σ l
 | .list m=>G (.a p 0 m [] (.list k)) σ l
 | _=>LE x.d r fi (eval p.at x.d.env) (fun c l=>G (.v c k) σ l) σ l
noncomputable def tj(T:Kt)(σ:Sl)(l:Led):Prop:=match T with
 | .ts q S=>G (.s q 0 S) σ l
 | .te p k=>G (.e p k) σ l
 | .tb op p j n T F=>G (.b op p j n T F) σ l
 | .out=>x.Q σ l
 | _=>False
noncomputable def yb(c:CV)(σ:Sl)(l:Led):Kt→Prop
 | .tN op b k=>G (.e b (.tM op c k)) σ l
 | .tM op u k=>rY x.d r op u c (fun c l=>G (.v c k) σ l) l
 | .rm op b k=>G (.e b (.tK op c k)) σ l
 | .tK op u k=>jU x.d r op u c (fun c l=>G (.v c k) σ l) l
 | .fj op op2 b b2 T F=>G (.e b (.rn op op2 c b2 T F)) σ l
 | .rn op op2 u b2 T F=>jU x.d r op u c (fun q l=>vf x.d r q (fun l=>G (.e b2 (.pd op2 c T F)) σ l) (fun l=>tj x G F σ l) l) l
 | .pd op2 u T F=>jU x.d r op2 u c (fun c l=>G (.v c (.r7 T F)) σ l) l
 | .un op k=>vr x.d r op c (fun c l=>G (.v c k) σ l) l
 | .se p k=>G (.e (p.c 1) (.sd p c k)) σ l
 | .sd p u k=>xb x.d r (p.c 0).at (p.c 1).at u c (fun c l=>G (.v c k) σ l) l
 | .si p k=>G (.l p 3 [c] k) σ l
 | .sj p j acc k=>G (.l p j (acc++[c]) k) σ l
 | .pG y k=>LN x.d r (fZ y) [c] (fun c l=>G (.v c k) σ l) l
 | .iJ y m p k=>bG x.d r c y l fun f fs=>G (.a p 1 m [] (.call f fs k)) σ l
 | .arg p j m acc k=>G (.a p j m (acc++[c]) k) σ l
 | .r7 T F=>vf x.d r c (fun l=>tj x G T σ l) (fun l=>tj x G F σ l) l
 | .set t b j S=>c5 σ l c (G (.s b j S)) t
 | .aug t op u b j S=>r5 x.d r op u c (fun c l=>c5 σ l c (G (.s b j S)) t) l
 | .ret=>x.P (some c) σ l
 | .raise=>pw x.d l c
 | .pA ts b j S=>bh c l ts.length fun cs=>cT ts cs (G (.s b j S)) σ l
 | .drop b i S=>G (.s b i S) σ l
 | .wW b i S=>G (.e ((Pe.g b i).c 0) (.wV c b i S)) σ l
 | .wV z b i S=>G (.e ((Pe.g b i).c 1) (.wU z c b i S)) σ l
 | .wU z u b i S=>LU x.d r fX [u,c,z] (fun l=>G (.s b (i+1) S) σ l) l
 | .wY y b i S=>G (.e ((Pe.g b i).c 0) (.wX y c b i S)) σ l
 | .wX y z b i S=>LU x.d r (iD y) [c,z] (fun l=>G (.s b (i+1) S) σ l) l
 | _=>False
noncomputable def v9(p:Pe)(T F:Kt)(σ:Sl)(l:Led):VE→Prop
 | .un .Not=>G (.t (p.c 0) F T) σ l
 | .bo op m=>G (.b op p 0 m T F) σ l
 | .cmp op=>G (.e (p.c 0) (.rm op (p.c 1) (.r7 T F))) σ l
 | .fj op op2=>G (.e (p.c 0) (.fj op op2 (p.c 1) (p.c 2) T F)) σ l
 | .tX=>False
 | .other=>False
 | .un _=>False
 | _=>G (.e p (.r7 T F)) σ l
noncomputable def yf(p:Pe)(j:Nat)(T F:Kt)(σ:Sl)(l:Led):BoolOp→Nat→Prop
 | .And,0=>tj x G T σ l
 | .Or,0=>tj x G F σ l
 | .And,m+1=>G (.t (p.c j) (.tb .And p (j+1) m T F) F) σ l
 | .Or,m+1=>G (.t (p.c j) T (.tb .Or p (j+1) m T F)) σ l
noncomputable def yg(acc:List CV)(σ:Sl)(l:Led):Kt→Prop
 | .call f fs k=>LN x.d r (fun vs=>call f vs) (fs++acc) (fun c l=>G (.v c k) σ l) l
 | .loc c k=>LF x.d l c fun f=>LN x.d r (fun vs=>call f vs) acc (fun c l=>G (.v c k) σ l) l
 | .tup k=>LN x.d r newTuple acc (fun c l=>G (.v c k) σ l) l
 | .list k=>LN x.d r newList acc (fun c l=>G (.v c k) σ l) l
 | .r6 ts b j S=>cT ts acc (G (.s b j S)) σ l
 | _=>False
noncomputable def yd(p:Pe)(j:Nat)(acc:List CV)(k:Kt)(σ:Sl)(l:Led):Bool→Prop
 | true=>G (.e ((p.c 1).c (2 - j)) (.sj p j acc k)) σ l
 | false=>G (.l p j (acc++[.v .none]) k) σ l
noncomputable def qR(σ:Sl)(l:Led):Kt→Prop
 | .nil=>x.P none σ l
 | .out=>x.Q σ l
 | .c b i S=>G (.s b i S) σ l
 | _=>False
noncomputable def yc(b:Bk)(i:Nat)(S:Kt)(σ:Sl)(l:Led):Option Nat→Option (List jS)→Prop
 | some m,some ts=>G (.a (.v b i) 0 m [] (.r6 ts b (i+1) S)) σ l
 | none,some ts=>G (.e (.v b i) (.pA ts b (i+1) S)) σ l
 | _,none=>False
noncomputable def wa(b:Bk)(i:Nat)(st:Stmt)(S:Kt)(σ:Sl)(l:Led):w9→Prop
 | .asg y=>(match aI fi x.cs y with
  | some t=>G (.e (.v b i) (.set t b (i+1) S)) σ l
  | none=>False)
 | .pA ids m=>yc G b i S σ l m (dh fi x.cs ids)
 | .pg=>G (.e (.v b i) (.wW b i S)) σ l
 | .mD y=>G (.e (.v b i) (.wY y b i S)) σ l
 | .aug y op=>(match slot fi.ns y with
  | some j=>(match σ.get j with
   | some u=>G (.e (.v b i) (.aug (.s j) op u b (i+1) S)) σ l
   | none=>False)
  | none=>False)
 | .ret=>G (.e (.v b i) .ret) σ l
 | .expr=>G (.e (.v b i) (.drop b (i+1) S)) σ l
 | .raise=>G (.e (.v b i) .raise) σ l
 | .vj=>G (.t (.v b i) (.ts (.t b i) (.c b (i+1) S)) (.ts (.e b i) (.c b (i+1) S))) σ l
 | .kY y=>(match aI fi x.cs y with
  | some (.c a)=>G (.e (.v b i) (.set (.c a) b (i+1) S)) σ l
  | _=>LS x.d r fi (exec (b.at.getD i (.Pass ⟨0,0,0,0⟩)) x.d.env) (fun o σ l=>(match o with | none=>G (.s b (i+1) S) σ l | some c=>x.P (some c) σ l)) σ l)
 | .other=>LS x.d r fi (exec (b.at.getD i (.Pass ⟨0,0,0,0⟩)) x.d.env) (fun o σ l=>(match o with | none=>G (.s b (i+1) S) σ l | some c=>x.P (some c) σ l)) σ l
noncomputable def step:Tk→Sl→Led→Prop
 | .e p k,σ,l=>ye x G p k σ l (view p.at)
 | .v c k,σ,l=>yb x G c σ l k
 | .t p T F,σ,l=>v9 G p T F σ l (view p.at)
 | .b op p j m T F,σ,l=>yf x G p j T F σ l op m
 | .a p j m acc k,σ,l=>(match m with
  | 0=>yg x G acc σ l k
  | m+1=>G (.e (p.c j) (.arg p (j+1) m acc k)) σ l)
 | .l p j acc k,σ,l=>(match j with
  | 0=>bX x.d r (p.c 0).at (p.c 1).at acc (fun c l=>G (.v c k) σ l) l
  | j+1=>yd G p j acc k σ l (jB (p.c 1).at (2 - j)))
 | .s b i S,σ,l=>(match b.at[i]? with
  | none=>qR x G σ l S
  | some st=>wa x G b i st S σ l (pM st))
noncomputable def go:Nat→Tk→Sl→Led→Prop
 | 0=>fun O O O=>False
 | n+1=>step x (go n)
end
end
section
section
variable {d:Dy}{r:Nat}{fi:Fi}{σ:Sl}{m:Mp}
inductive PT(T F:Led→Prop)(m₀:Mp):Bool→Mp→Led→Prop
 | t {l} (h:T l):PT T F m₀ true m₀ l
 | f {l} (h:F l):PT T F m₀ false m₀ l
inductive yv(K:List CV→Led→Prop)(m₀:Mp)(vs:List Value)(m:Mp)(l:Led):Prop
 | mk (cs:List CV) (e:m=m₀) (is:ar cs vs) (k:K cs l):yv K m₀ vs m l
theorem uU(P:Params):([51,63,75,122,133,150,161,168,175,182,189,196,204,211,219,226,233,240,247,254,261,269,276,283,290,295,302,307,314,321,328,333,340,347,354,361,368,407,429,618,630,637,644,649,654,661,666,671,676,683,690,695,700].all fun a=>keepIn (K39 P) (.ref a))=true:=by kernel_rfl
theorem CW.of{f:Value}(h:wy f=true)(l:Led):CW d l f:=fun hp X O=>by
 induction f with
 | builtin id=>exact ⟨.machine,.inr (.inl rfl),.now⟩
 | type T=>exact ⟨.machine,.inr (.inl rfl),.now⟩
 | ref a=>exact keeps_K (List.all_eq_true.mp (uU d.w.params) a (List.contains_iff_mem.mp h)) hp X
 | _=>cases h
theorem rW{op:Operator}{u v:CV}{K:CV→Led→Prop}{l:Led}(h:rY d r op u v K l){x y:Value}(hx:CV.Is u x)(hy:CV.Is v y):Ok d r (binaryOp op x y) (PV K m) m l:=by
 induction hx with
 | int a t=>induction hy with
  | int b t'=>induction op with
   | Add=>exact .quiet fun A E g s Q n k=>add_int (k _ _ ⟨_,.refl _,.int _ _,h⟩)
   | Sub=>exact .quiet fun A E g s Q n k=>sub_int (k _ _ ⟨_,.refl _,.int _ _,h⟩)
   | Mult=>exact .quiet fun A E g s Q n k=>mul_int (k _ _ ⟨_,.refl _,.int _ _,h.2⟩) h.1
   | FloorDiv=>exact .quiet fun A E g s Q n k=>floordiv_int h.1.1 (k _ _ ⟨_,.refl _,.int _ _,h.2⟩) (.inl h.1.2)
   | Mod=>exact .quiet fun A E g s Q n k=>mod_int' h.1 (k _ _ ⟨_,.refl _,.int _ _,h.2⟩)
   | _=>exact LN.run h [_,_] m (.cons (.int _ _) (.cons (.int _ _) .nil))
  | _=>exact LN.run h [_,_] m (.cons (.int _ _) (.cons (by constructor) .nil))
 | str a t=>induction hy with
  | str b t'=>induction op with
   | Add=>exact .quiet fun A E g s Q n k=>PyProof.Rows.add_str (fun O O=>k _ _ ⟨_,.refl _,.str _ _,h.2⟩) h.1
   | _=>exact LN.run h [_,_] m (.cons (.str _ _) (.cons (.str _ _) .nil))
  | _=>exact LN.run h [_,_] m (.cons (.str _ _) (.cons (by constructor) .nil))
 | v a=>exact LN.run h [_,_] m (.cons (.v _) (.cons hy .nil))
theorem iY{op:CmpOp}{u v:CV}{K:CV→Led→Prop}{l:Led}(h:jU d r op u v K l){x y:Value}(hx:CV.Is u x)(hy:CV.Is v y):Ok d r (compareOp op x y) (PV K m) m l:=by
 induction hx with
 | int a t=>induction hy with
  | int b t'=>induction op with
   | Eq=>exact .quiet fun A E g s Q n k=>eq_int (k _ s.toks ⟨_,.refl _,.v _,h⟩)
   | NotEq=>exact .quiet fun A E g s Q n k=>ne_int (k _ s.toks ⟨_,.refl _,.v _,h⟩)
   | Lt=>exact .quiet fun A E g s Q n k=>lt_int (k _ s.toks ⟨_,.refl _,.v _,h⟩)
   | LtE=>exact .quiet fun A E g s Q n k=>le_int (k _ s.toks ⟨_,.refl _,.v _,h⟩)
   | Gt=>exact .quiet fun A E g s Q n k=>gt_int (k _ s.toks ⟨_,.refl _,.v _,h⟩)
   | GtE=>exact .quiet fun A E g s Q n k=>ge_int (k _ s.toks ⟨_,.refl _,.v _,h⟩)
   | _=>exact LN.run h [_,_] m (.cons (.int _ _) (.cons (.int _ _) .nil))
  | _=>exact LN.run h [_,_] m (.cons (.int _ _) (.cons (by constructor) .nil))
 | str a t=>induction hy with
  | str b t'=>induction op with
   | Eq=>exact .quiet fun A E g s Q n k=>eq_str (k _ s.toks ⟨_,.refl _,.v _,h⟩)
   | NotEq=>exact .quiet fun A E g s Q n k=>ne_str (k _ s.toks ⟨_,.refl _,.v _,h⟩)
   | In=>exact .quiet fun A E g s Q n k=>PyProof.Rows.in_str (k _ s.toks ⟨_,.refl _,.v _,h⟩)
   | NotIn=>exact .quiet fun A E g s Q n k=>PyProof.Rows.notIn_str (k _ s.toks ⟨_,.refl _,.v _,h⟩)
   | _=>exact LN.run h [_,_] m (.cons (.str _ _) (.cons (.str _ _) .nil))
  | _=>exact LN.run h [_,_] m (.cons (.str _ _) (.cons (by constructor) .nil))
 | v a=>exact LN.run h [_,_] m (.cons (.v _) (.cons hy .nil))
theorem tU{b:Bool}{T F:Led→Prop}{l:Led}(h:if b then T l else F l):PT T F m b m l:=by
 cases b
 ·exact .f h
 ·exact .t h
set_option tactic.hygienic true in
theorem pP{c:CV}{T F:Led→Prop}{l:Led}(h:vf d r c T F l){x:Value}(hx:CV.Is c x):Ok d r (truthy x) (PT T F m) m l:=by
 unfold vf at h
 split at h
 ·cases hx;rename_i b;exact .quiet fun A E g s Q n k=>wpAny_truthy_bool (k _ s.toks (tU (by cases b;exact h.f rfl;exact h.t rfl)))
 ·cases hx;exact .quiet fun A E g s Q n k=>truthy_none (k _ s.toks (.f h))
 ·exact (h.run m x hx).mono fun b m' l' ⟨e,h⟩=>e▸tU h
theorem Ok.pv{K:CV→Led→Prop}{K':Value→Mp→Led→Prop}{t:Sem Value}{l:Led}(h:Ok d r t (PV K m) m l)(k:∀ c v l,CV.Is c v→K c l→K' v m l):Ok d r t K' m l :=
 h.mono fun v m' l' x=>by
  induction x with | mk c e is q=>subst e;exact k c v l' is q
theorem At.ns{g h:Heap}{l:Led}(G:Good d)(a:At d g h m l):h.Ns d.env.locals m:=by
 have W:=a.W
 rw [G.hl]
 unfold Own at W
 split at W
 ·exact W.ns
 ·obtain (⟨_,⟨o,ho,hg⟩,_⟩):=W;exact ho.ns hg
theorem nf{cs:List Addr}(ev:Ev d fi cs)(hm:bL fi.ns σ m){y:Str}{pos:Pos}{i:Nat}{c:CV}{K:CV→Led→Prop}{l:Led}(h1:slot fi.ns y=some i)(h2:σ.get i=some c)(k:K c l):Ok d r (eval (.Name y pos) d.env) (PV K m) m l:=by
 obtain ⟨v,q,is⟩:=hm y i c h1 h2
 obtain (⟨hx,hd⟩):=ev.loc y i h1
 exact .quiet fun A E g s Q n kk=>wpAny_Name (wpAny_loadName_local n.G.hk hx (n.a.ns n.G) q (kk v s.toks ⟨c,.refl _,is,k⟩)) hd
theorem nH{cs:List Addr}(ev:Ev d fi cs){y:Str}{pos:Pos}{i:Nat}{a:Addr}{c:CV}{K:CV→Led→Prop}{l:Led}(h1:slot (fi.cn++fi.fr) y=some i)(h2:cs[i]?=some a)(h3:ae l a c)(k:K c l):Ok d r (eval (.Name y pos) d.env) (PV K m) m l:=by
 obtain (⟨hx,hd,hc⟩):=ev.w7 y i a h1 h2
 obtain (⟨o,v,e,hv,is⟩):=h3
 refine .quiet fun A E g s Q n kk=>?_
 have kk':=kk v s.toks ⟨c,.refl _,is,k⟩
 rcases hx with hx | ⟨hx,hn⟩
 ·exact wpAny_Name (wpAny_loadName_cell n.G.hk hx hc ⟨o,n.a.get e,hv⟩ kk') hd
 ·exact wpAny_Name (wpAny_loadName_free n.G.hk hx hc ⟨o,n.a.get e,hv⟩ kk' hn) hd
theorem jD{cs:List Addr}(ev:Ev d fi cs){y:Str}{pos:Pos}{v:Value}{K:CV→Led→Prop}{l:Led}(h1:dN y fi.gi=some v)(k:K (CV.of v) l):Ok d r (eval (.Name y pos) d.env) (PV K m) m l:=by
 obtain ⟨hx,hd,hv⟩:=ev.xy y v h1
 refine .quiet fun A E g s Q n kk=>?_
 have kk':=kk v s.toks ⟨_,.refl _,CV.dM v,k⟩
 have T:=n.T
 rcases hv with hv | ⟨hv,hb,hn⟩
 ·exact Name_function_global n.G.hk hx (loadGlobal_global (by rw [n.G.hg];exact T.g) (mg_of n.X T.g hv) kk') hd
 ·exact Name_function_global n.G.hk hx (loadGlobal_builtin (by rw [n.G.hg];exact T.g) (mg_none_of n.X T.g hv) (by rw [n.G.hb];exact T.b) ((T.builtins y hn).trans hb) kk') hd
theorem fS{y:Ex}(h:isStar y=false)(rest:List Ex)(env:Env):starEach (y::rest) env=(false,eval y env)::starEach rest env:=by
 revert h;cases y<;>first | exact fun O=>rfl | exact tf
theorem k8{args:List Ex}{env:Env}{pos:Pos}(h:args.any isStar=false):(backTo pos (starEach args env)).any (·.1)=false:=by
 induction args with
 | nil=>rfl
 | cons x r ih =>
  have h:=Bool.or_eq_false_iff.mp h
  rw [fS h.1]
  exact ih h.2
theorem ub{o:Ex}(h:cz o=true)(y:Str)(env:Env)(x:Sem Value):attributeBase o y env x=x:=by
 revert h
 cases o with
 | Call f _ _ _=>cases f<;>first | exact ff | exact fun O=>rfl
 | _=>first | exact ff | exact fun O=>rfl
theorem cq{f:Value}{args:List Ex}{pos:Pos}{first:List Value}{K:CV→Led→Prop}{l:Led}(hs:args.any isStar=false)
  (h:∀ pos,Ok d r (spliced (backTo pos (starEach args d.env))) (fun vs m' l'=>CW d l' f∧Ok d r (call f (first++vs)) (PV K m) m' l') m l):Ok d r (callWith pos f first (backTo pos (starEach args d.env)) []) (PV K m) m l:=by
 refine ⟨fun A E g s n=>callWith_of (P:=fun hp=>∃ k,(k=Keeper.frame∨k=Keeper.machine∨k=Keeper.boundFrame)∧Looks (model Pg d.w) hp (keeperOf f) k) (by rw [k8 hs];rfl) (fun O x=>x) ?_⟩
 have main:wpAny (model Pg d.w) A (spliced (backTo pos (starEach args d.env))) (fun vs s₁=>(∃ k,(k=Keeper.frame∨k=Keeper.machine∨k=Keeper.boundFrame)∧Looks (model Pg d.w) s₁.heap (keeperOf f) k)∧wpAny (model Pg d.w) A (call f (first++vs)) (aO d g (PV K m) s) E s₁) E s:=by
  refine wpAny_mono ((h pos).run A E g s n) (fun vs s₁ p=>?_) fun O O x=>x
  refine ⟨?_,p.on n fun O O k=>k.2⟩
  induction p with
  | mk g' m' l' e a k =>
   exact k.1 _ (n.G.XB.keeps fun O O e=>a.up e) fun O O e=>a.get e
 induction args with
 | nil =>
  unfold evalArgs
  exact wpAny_bind (wpAny_mono main (fun vs s₁ q=>wpAny_bind (wpAny_pure (wpAny_holding (wpAny_bind (wpAny_pure (wpAny_bind (wpAny_pure (wpAny_pure q)))))))) fun O O x=>x)
 | cons x rest =>
  rw [fS (Bool.or_eq_false_iff.mp hs).1] at main ⊢
  exact evalArgs_plain main
theorem ar.append{a b:List CV}{x y:List Value}(h:ar a x)(k:ar b y):ar (a++b) (x++y):=by
 induction h with
 | nil=>exact k
 | cons h _ ih=>exact .cons h ih
theorem Ok.rU{α β γ:Type}{t:Sem γ}{t₁:Sem α}{t₂:α→Sem β}{f:α→β→Sem γ}{K:γ→Mp→Led→Prop}{l:Led}
  (rule:∀ A (Q:γ→Shared→Prop) E s,wpAny (model Pg d.w) A t₁ (fun a s₁=>wpAny (model Pg d.w) A (t₂ a) (fun b s₂=>wpAny (model Pg d.w) A (f a b) Q E s₂) E s₁) E s→wpAny (model Pg d.w) A t Q E s)
  (h:Ok d r t₁ (fun a m l=>Ok d r (t₂ a) (fun b m l=>Ok d r (f a b) K m l) m l) m l):Ok d r t K m l :=
 ⟨fun A E g s n=>rule A _ E s (wpAny_mono (h.run A E g s n) (fun a s₁ p=>by
  induction p with | mk g₁ m₁ l₁ e₁ a₁ k=>exact wpAny_mono (k.run A E g₁ s₁ (n.next e₁ a₁)) (fun b s₂ p=>(p.then e₁).on n fun O O k=>k) fun O O x=>x) fun O O x=>x)⟩
theorem Ok.uk{α β γ δ:Type}{t:Sem δ}{t₁:Sem α}{t₂:α→Sem β}{t₃:α→β→Sem γ}{f:α→β→γ→Sem δ}{K:δ→Mp→Led→Prop}{l:Led}
  (rule:∀ A (Q:δ→Shared→Prop) E s,wpAny (model Pg d.w) A t₁ (fun a s₁=>wpAny (model Pg d.w) A (t₂ a) (fun b s₂=>wpAny (model Pg d.w) A (t₃ a b) (fun c s₃=>wpAny (model Pg d.w) A (f a b c) Q E s₃) E s₂) E s₁) E s→wpAny (model Pg d.w) A t Q E s)
  (h:Ok d r t₁ (fun a m l=>Ok d r (t₂ a) (fun b m l=>Ok d r (t₃ a b) (fun c m l=>Ok d r (f a b c) K m l) m l) m l) m l):Ok d r t K m l :=
 ⟨fun A E g s n=>rule A _ E s (wpAny_mono (h.run A E g s n) (fun a s₁ p=>by
  induction p with | mk g₁ m₁ l₁ e₁ a₁ k=>exact wpAny_mono (k.run A E g₁ s₁ (n.next e₁ a₁)) (fun b s₂ p=>by
   induction p with | mk g₂ m₂ l₂ e₂ a₂ k=>exact wpAny_mono (k.run A E g₂ s₂ (n.next (e₁.trans e₂) a₂)) (fun v s₃ p=>((p.then e₂).then e₁).on n fun O O k=>k) fun O O x=>x) fun O O x=>x) fun O O x=>x)⟩
theorem sG{o:Ex}{name:Str}{ap pos:Pos}{args:List Ex}{env:Env}(ho:cz o=true)(hs:args.any isStar=false)(hn:args.length < 30)(hp:(ap.endLine==pos.line)=true) :
  eval (.Call (.Attribute o name ap) args [] pos) env=(do
   let ov ← eval o env
   standAt ap.atName
   let (f,first) ← holding [ov] (getMethod ov name (do return (← importBound o env).getD true))
   callWith pos f first (backTo pos (starEach args env)) []):=by
 have hf:methodCallForm (args.length+0) (backTo pos (starEach args env)) (backToKw pos (keywordEach [] env))=true:=by
  have h1:(backTo pos (starEach args env)).all (!·.1)=true:=by
   have:=k8 (env:=env) (pos:=pos) hs
   rw [List.any_eq_false] at this
   rw [List.all_eq_true]
   intro x hx
   simpa using this x hx
  show ((backTo pos (starEach args env)).all (!·.1)&&true&&decide (args.length+0+0 < 30))=true
  rw [h1];simpa using hn
 have hm:∀ ov,methodCall o name ap pos env ov (args.length+0) (backTo pos (starEach args env)) (backToKw pos (keywordEach [] env))=(do
   let (f,first) ← holding [ov] (getMethod ov name (do return (← importBound o env).getD true))
   callWith pos f first (backTo pos (starEach args env)) []):=by
  intro ov
  unfold methodCall
  rw [hf]
  unfold methodCallPos calleeOf
  rw [hp]
  rfl
 show (attributeBase o name env (eval o env) >>= fun ov=>standAt ap.atName >>= fun O=>methodCall o name ap pos env ov (args.length+0) (backTo pos (starEach args env)) (backToKw pos (keywordEach [] env)))=_
 rw [(ub ho name env (eval o env))]
 congr 1;funext ov;congr 1;funext _;exact hm ov
theorem uo{op:UnaryOp}{u:CV}{K:CV→Led→Prop}{l:Led}(h:vr d r op u K l){x:Value}(hx:CV.Is u x):Ok d r (unaryOp op x) (PV K m) m l:=by
 unfold vr at h
 split at h
 ·cases hx;exact .quiet fun A E g s Q n k=>PyProof.Rows.neg_int (k _ _ ⟨_,.refl _,.int _ _,h⟩)
 ·exact h.run [x] m (.cons hx .nil)
theorem rZ{op:Operator}{u v:CV}{K:CV→Led→Prop}{l:Led}(h:r5 d r op u v K l){x y:Value}(hx:CV.Is u x)(hy:CV.Is v y):Ok d r (inplaceOp op x y) (PV K m) m l:=by
 induction hx with
 | int a t=>induction hy with
  | int b t'=>induction op with
   | Add=>exact .quiet fun A E g s Q n k=>iadd_int (k _ _ ⟨_,.refl _,.int _ _,h⟩)
   | Sub=>exact .quiet fun A E g s Q n k=>PyProof.Rows.isub_int (k _ _ ⟨_,.refl _,.int _ _,h⟩)
   | _=>exact LN.run h [_,_] m (.cons (.int _ _) (.cons (.int _ _) .nil))
  | _=>exact LN.run h [_,_] m (.cons (.int _ _) (.cons (by constructor) .nil))
 | str a t=>exact LN.run h [_,_] m (.cons (.str _ _) (.cons hy .nil))
 | v a=>exact LN.run h [_,_] m (.cons (.v _) (.cons hy .nil))
end
inductive aF:Ex→VE→Prop
 | name (y p):aF (.Name y p) (.name y)
 | int (i k p):aF (.Constant (.int i) k p) (.int i)
 | str (i k p):aF (.Constant (.str i) k p) (.str i)
 | bool (i k p):aF (.Constant (.bool i) k p) (.bool i)
 | none (k p):aF (.Constant .none k p) .none
 | bin (op a b p):aF (.BinOp a op b p) (.bin op)
 | un (op a p):aF (.UnaryOp op a p) (.un op)
 | cmp (op a b p) (h:behindInMarks op b=false):aF (.Compare a [op] [b] p) (.cmp op)
 | fj (op op2 a b b2 p) (h:behindInMarks op2 b2=false):aF (.Compare a [op,op2] [b,b2] p) (.fj op op2)
 | sub (a i p):aF (.Subscript a i p) .sub
 | uw (a i p) (h:isSlice i=true):aF (.Subscript a i p) .uw
 | pG (y a p) (h:cz a=true):aF (.Attribute a y p) (.pG y)
 | tX (t a b p):aF (.IfExp t a b p) .tX
 | bp (f q args p) (h:args.any isStar=false):aF (.Call (.Name f q) args [] p) (.bp f args.length)
 | gX (y o ap args p) (h:(cz o&&!(args.any isStar)&&decide (args.length < 30)&&ap.endLine==p.line)=true):aF (.Call (.Attribute o y ap) args [] p) (.gX y args.length)
 | tup (xs k p) (h:xs.any isStar=false):aF (.Tuple xs k p) (.tup xs.length)
 | list (xs p) (h:xs.any isStar=false):aF (.List xs p) (.list xs.length)
 | bo (op xs p):aF (.BoolOp op xs p) (.bo op xs.length)
 | other (e):aF e .other
theorem iz(e:Ex):aF e (view e):=by
 cases e with
 | Constant c k p=>cases c<;>first | exact .int _ _ _ | exact .str _ _ _ | exact .bool _ _ _ | exact .none _ _ | exact .other _
 | Compare a ops bs p =>
  match ops,bs with
  | [],_=>exact .other _
  | [_],[]=>exact .other _
  | [op],[b] =>
   show aF _ (match behindInMarks op b with | true=>.other | false=>.cmp op)
   cases h:behindInMarks op b with
   | true=>exact .other _
   | false=>exact .cmp _ _ _ _ h
  | [_],_::_::_=>exact .other _
  | [_,_],[]=>exact .other _
  | [_,_],[_]=>exact .other _
  | [op,op2],[b,b2] =>
   show aF _ (match behindInMarks op2 b2 with | true=>.other | false=>.fj op op2)
   cases h:behindInMarks op2 b2 with
   | true=>exact .other _
   | false=>exact .fj _ _ _ _ _ _ h
  | [_,_],_::_::_::_=>exact .other _
  | _::_::_::_,_=>exact .other _
 | Subscript a i p =>
  show aF _ (match isSlice i with | true=>.uw | false=>.sub)
  cases h:isSlice i with
  | true=>exact .uw _ _ _ h
  | false=>exact .sub _ _ _
 | Attribute a y p =>
  show aF _ (match cz a with | true=>.pG y | false=>.other)
  cases h:cz a with
  | true=>exact .pG _ _ _ h
  | false=>exact .other _
 | Call f args kw p =>
  induction kw with
  | cons _ _=>cases f<;>exact .other _
  | nil =>
   cases f with
   | Name y q =>
    show aF _ (match args.any isStar with | true=>.other | false=>.bp y args.length)
    cases h:args.any isStar with
    | true=>exact .other _
    | false=>exact .bp _ _ _ _ h
   | Attribute o y ap =>
    show aF _ (match cz o&&!(args.any isStar)&&decide (args.length < 30)&&ap.endLine==p.line with | true=>.gX y args.length | false=>.other)
    cases h:cz o&&!(args.any isStar)&&decide (args.length < 30)&&ap.endLine==p.line with
    | true=>exact .gX _ _ _ _ _ h
    | false=>exact .other _
   | _=>exact .other _
 | Tuple xs k p =>
  show aF _ (match xs.any isStar with | true=>.other | false=>.tup xs.length)
  cases h:xs.any isStar with
  | true=>exact .other _
  | false=>exact .tup _ _ _ h
 | List xs p =>
  show aF _ (match xs.any isStar with | true=>.other | false=>.list xs.length)
  cases h:xs.any isStar with
  | true=>exact .other _
  | false=>exact .list _ _ h
 | BinOp a op b p=>exact .bin _ _ _ _
 | UnaryOp op a p=>exact .un _ _ _
 | IfExp t a b p=>exact .tX _ _ _ _
 | BoolOp op xs p=>exact .bo _ _ _
 | Name y p=>exact .name _ _
 | _=>exact .other _
end
section
section
variable {d:Dy}{r:Nat}{fi:Fi}
theorem ar.len{cs:List CV}{vs:List Value}(h:ar cs vs):vs.length=cs.length:=by
 induction h with
 | nil=>rfl
 | cons _ _ ih=>rw [List.length_cons,List.length_cons,ih]
set_option tactic.hygienic true in
theorem At.store{g h h':Heap}{m:Mp}{l:Led}{v:Value}{x:Str}(G:Good d)(a:At d g h m l)(hn:h'.Ns d.env.locals (fun y=>if y=x then some v else m y))(hs:Heap.SameBut d.env.locals h h'):At d g h' (fun y=>if y=x then some v else m y) l:=by
 have W:=a.W
 rw [G.hl] at hn hs
 refine ⟨a.B,?_,?_,fun p hp=>?_⟩
 rotate_right
 ·have z:=a.Z p hp
  refine ⟨(hs.2 p.1 fun q=>?_).trans z.1,z.2⟩
  unfold Own at W
  split at W
  ·rename_i e';rw [e'] at q;exact z.2.1 q
  ·rename_i p' e';rw [e'] at q;exact W.2.2.2.2.2 p hp q
 ·intro b o e
  have n:=a.N b o e
  refine ⟨?_,n.2⟩
  rw [← n.1]
  refine hs.2 b fun q=>?_
  unfold Own at W
  split at W
  ·rename_i e';rw [e'] at q;exact n.2.1 q
  ·rename_i p e';rw [e'] at q
   have:l p.1=none:=W.2.2.2.2.1
   rw [q] at e;rw [this] at e;cases e
 ·unfold Own at W ⊢
  split at W
  ·rename_i e';rw [e'] at hn hs;exact W.set hn hs
  ·rename_i p e'
   rw [e'] at hn hs
   obtain (⟨F,_,h1,h2,h3,h4⟩):=W
   obtain (⟨o,ho,hno⟩):=ns_obj hn
   exact ⟨F.change hs h1 h2,⟨o,hno,ho⟩,h1,h2,h3,h4⟩
theorem At.cell{g h h':Heap}{m:Mp}{l:Led}{a:Addr}{o o':Obj}(t:At d g h m l)(e:l a=some o)(hs:Heap.SameBut a h h')(ho:h'.get? a=some o'):At d g h' m (l.set a o'):=by
 obtain (⟨mo,news,F,N,_,_,_,ch⟩):=t.led
 obtain (⟨rest,N1,off,_,k⟩):=ch a o e
 have z:=t.N a o e
 refine k h' o' (F.change hs z.2.1 z.2.2) fun p hp=>?_
 rcases List.mem_cons.mp hp with rfl | hp
 ·exact ⟨ho,z.2⟩
 ·have y:=N1 p (.tail _ hp)
  exact ⟨(hs.2 _ (off p hp)).trans y.1,y.2⟩
theorem d5{cs:List Addr}(ev:Ev d fi cs){x:Str}{t:jS}{c:CV}{v:Value}{σ:Sl}{m:Mp}{l:Led}{K:Sl→Led→Prop}(ht:aI fi cs x=some t)(h:c5 σ l c K t)(hm:bL fi.ns σ m)(hc:CV.Is c v) :
  Ok d r (storeName d.env x v) (fun O m' l'=>∃ σ',bL fi.ns σ' m'∧K σ' l') m l:=by
 unfold aI at ht
 cases hx:slot fi.ns x with
 | some i =>
  rw [hx] at ht
  obtain rfl:jS.s i=t:=Option.some.inj ht
  exact ⟨fun A E g s n=>wpAny_storeName_local (ev.loc x i hx).1 (n.a.ns n.G) (fun h' hn hs=>⟨g,_,l,.of,n.a.store n.G hn hs,_,hm.set hx hc,h⟩) (by rw [n.G.hk];rfl)⟩
 | none =>
  rw [hx] at ht
  refine aJ (slot fi.cn x) (fun hy=>?_) (fun i hy=>?_)
  ·rw [hy] at ht;cases ht
  ·rw [hy] at ht
   dsimp only at ht
   refine aJ (cs[i]?) (fun hz=>?_) (fun a hz=>?_)
   ·rw [hz] at ht;cases ht
   ·rw [hz] at ht
    obtain rfl:jS.c a=t:=Option.some.inj ht
    obtain (⟨⟨o,v₀,e,hd⟩,k⟩):=h
    obtain (⟨hk,hl⟩):=ev.own x i a hy hz
    exact ⟨fun A E g s n=>wpAny_storeName_cell n.G.hk hk hl ⟨o,n.a.get e,hd⟩ fun h' hv hs=>by
     obtain ⟨o',ho,hd'⟩:=hv
     exact ⟨g,m,_,.of (t:=s.toks),n.a.cell e hs ho,σ,hm,k o' v hc hd'⟩⟩
inductive rQ(d:Dy):List (Value→Sem Unit)→List Str→Prop
 | nil:rQ d [] []
 | cons {t y ts ids} (h:∀ v A (Q:Unit→Shared→Prop) E s,wpAny (model Pg d.w) A (storeName d.env y v) Q E s→wpAny (model Pg d.w) A (t v) Q E s) (r:rQ d ts ids):rQ d (t::ts) (y::ids)
theorem rQ.bind:∀ ids:List Str,rQ d (ids.map fun n=>bindName d.env n) ids
 | []=>.nil
 | y::r=>.cons (fun O O O O O h=>bindName_ h) (rQ.bind r)
theorem j3:∀ {ts:List Ex} {ids:List Str},bj ts=some ids→rQ d ((assignEach ts d.env).map (·.2)) ids∧(assignEach ts d.env).length=ids.length∧(assignEach ts d.env).findIdx? (·.1)=none:=by
 intro ts
 induction ts with
 | nil=>intro ids h;cases h;exact ⟨.nil,rfl,rfl⟩
 | cons e r ih =>
  intro ids h
  cases e with
  | Name y p =>
   have h:(match bj r with | some l=>some (y::l) | none=>none)=some ids:=h
   refine aJ (bj r) (fun hr=>?_) (fun l hr=>?_)
   ·rw [hr] at h;cases h
   ·rw [hr] at h;cases h
    obtain (⟨a,b,c⟩):=ih hr
    refine ⟨.cons (fun O O O O O h=>assign_Name h) a,by rw [List.length_cons,← b];rfl,?_⟩
    show List.findIdx? _ ((false,_)::assignEach r d.env)=none
    rw [List.findIdx?_cons,c];rfl
  | _=>cases h
theorem mU{cs:List Addr}(ev:Ev d fi cs){K:Sl→Led→Prop}{ts:List (Value→Sem Unit)}{ids:List Str}(h:rQ d ts ids):∀ {tg:List jS} {cv:List CV} {vs:List Value} {σ:Sl} {m:Mp} {l:Led},dh fi cs ids=some tg→ar cv vs→cT tg cv K σ l→bL fi.ns σ m→Ok d r (assignInOrder ts vs) (fun O m' l'=>∃ σ',bL fi.ns σ' m'∧K σ' l') m l:=by
 induction h with
 | nil =>
  intro tg cv vs σ m l ht hv k hm
  cases ht
  induction hv with
  | nil=>exact .pure ⟨σ,hm,k⟩
  | cons _ _=>exact k.elim
 | @cons t y ts ids hy _ ih =>
  intro tg cv vs σ m l ht hv k hm
  have ht:(match aI fi cs y with | some j=>(match dh fi cs ids with | some js=>some (j::js) | none=>none) | none=>none)=some tg:=ht
  refine aJ (aI fi cs y) (fun h1=>?_) (fun j h1=>?_)
  ·rw [h1] at ht;cases ht
  ·rw [h1] at ht
   dsimp only at ht
   refine aJ (dh fi cs ids) (fun h2=>?_) (fun js h2=>?_)
   ·rw [h2] at ht;cases ht
   ·rw [h2] at ht;cases ht
    induction hv with
    | nil=>exact k.elim
    | cons hc hv =>
     refine .iX (t₁:=t _) (f:=fun O=>assignInOrder ts _) (fun O O O O h=>assignInOrder_cons h) (.um (hy _) ((d5 ev h1 k hm hc).mono fun O m l q=>?_))
     obtain ⟨σ',hm',k⟩:=q
     exact ih h2 hv k hm'
theorem jA:∀ {ts:List Ex} {ids:List Str},bj ts=some ids→ts.length=ids.length:=by
 intro ts
 induction ts with
 | nil=>intro ids h;cases h;rfl
 | cons e r ih =>
  intro ids h
  cases e with
  | Name y p =>
   have h:(match bj r with | some l=>some (y::l) | none=>none)=some ids:=h
   refine aJ (bj r) (fun hr=>?_) (fun l hr=>?_)
   ·rw [hr] at h;cases h
   ·rw [hr] at h;cases h;rw [List.length_cons,List.length_cons,ih hr]
  | _=>cases h
noncomputable def lE(m:Mp):List (Str × Value)→Mp
 | []=>m
 | p::r=>lE (fun y=>if y=p.1 then some p.2 else m y) r
theorem d0:∀ {L:List (Str × Value)} {m:Mp} {y:Str},y ∉ L.map (·.1)→lE m L y=m y
 | [],_,_,_=>rfl
 | p::r,m,y,h=>by
  rw [List.map_cons,List.mem_cons,not_or] at h
  exact (d0 (L:=r) h.2).trans (if_neg h.1)
theorem mN{p:Str × Value}:∀ {L:List (Str × Value)} {m:Mp},(L.map (·.1)).Nodup→p∈L→lE m L p.1=some p.2:=by
 intro L
 induction L with
 | nil=>intro m hn h;cases h
 | cons q r ih =>
  intro m hn h
  rw [List.map_cons,List.nodup_cons] at hn
  rcases List.mem_cons.mp h with rfl | h
  ·exact (d0 (L:=r) hn.1).trans (if_pos rfl)
  ·exact ih hn.2 h
theorem pQ{L:List (Str × Value)}{m:Mp}(hn:(L.map (·.1)).Nodup):lE m L.reverse=lE m L:=by
 have hr:(L.reverse.map (·.1)).Nodup:=by rw [List.map_reverse];exact oE hn
 funext y
 by_cases h:y∈L.map (·.1)
 ·obtain (⟨p,hp,rfl⟩):=List.mem_map.mp h
  rw [mN hr (List.mem_reverse.mpr hp),mN hn hp]
 ·rw [d0 h,d0 (by rw [List.map_reverse,List.mem_reverse];exact h)]
theorem rT{a:List Str}{b:List Value}(h:a.length=b.length):a.reverse.zip b.reverse=(a.zip b).reverse:=by
 induction a generalizing b with
 | nil=>rfl
 | cons x a ih =>
  induction b with
  | nil=>cases h
  | cons y b =>
   have h':a.length=b.length:=by simpa using h
   rw [List.reverse_cons,List.reverse_cons,List.zip_append (by simpa using h'),ih h']
   show _=((x,y)::a.zip b).reverse
   rw [List.reverse_cons];rfl
theorem qg{cs:List Addr}(ev:Ev d fi cs){K:Sl→Led→Prop}:∀ {ids:List Str} {tg:List jS} {cv:List CV} {vs:List Value} {σ:Sl} {m:Mp} {l:Led},dh fi cs ids=some tg→(∀ y∈ids,d.env.kindOf y=some .local)→ar cv vs→cT tg cv K σ l→bL fi.ns σ m→∃ σ',K σ' l∧bL fi.ns σ' (lE m (ids.zip vs)):=by
 intro ids
 induction ids with
 | nil =>
  intro tg cv vs σ m l ht _ hv k hm
  cases ht
  induction hv with
  | nil=>exact ⟨σ,k,hm⟩
  | cons _ _=>exact k.elim
 | cons y ids ih =>
  intro tg cv vs σ m l ht hk hv k hm
  have ht:(match aI fi cs y with | some j=>(match dh fi cs ids with | some js=>some (j::js) | none=>none) | none=>none)=some tg:=ht
  refine aJ (aI fi cs y) (fun h1=>?_) (fun j h1=>?_)
  ·rw [h1] at ht;cases ht
  ·rw [h1] at ht
   dsimp only at ht
   refine aJ (dh fi cs ids) (fun h2=>?_) (fun js h2=>?_)
   ·rw [h2] at ht;cases ht
   ·rw [h2] at ht;cases ht
    induction hv with
    | nil=>exact k.elim
    | cons hc hv =>
     unfold aI at h1
     cases hx:slot fi.ns y with
     | some i =>
      rw [hx] at h1
      obtain rfl:jS.s i=j:=Option.some.inj h1
      exact ih h2 (fun z hz=>hk z (.tail _ hz)) hv k (hm.set hx hc)
     | none =>
      rw [hx] at h1
      refine aJ (slot fi.cn y) (fun hy=>?_) (fun i hy=>?_)
      ·rw [hy] at h1;cases h1
      ·rw [hy] at h1
       dsimp only at h1
       refine aJ (cs[i]?) (fun hz=>?_) (fun a hz=>?_)
       ·rw [hz] at h1;cases h1
       ·have:=(ev.own y i a hy hz).1;rw [hk y (.head _)] at this;cases this
theorem oa{K:Unit→Mp→Led→Prop}{l:Led}{ts:List (Value→Sem Unit)}{ids:List Str}(h:rQ d ts ids):∀ {vs:List Value} {m:Mp},vs.length=ids.length→(∀ y∈ids,d.env.kindOf y=some .local)→K () (lE m (ids.zip vs)) l→Ok d r (assignInOrder ts vs) K m l:=by
 induction h with
 | nil=>intro vs m hl _ k;induction vs with
  | nil=>exact .pure k
  | cons _ _=>cases hl
 | @cons t y ts ids ht _ ih =>
  intro vs m hl hk k
  induction vs with
  | nil=>cases hl
  | cons v vs =>
   refine .iX (t₁:=t v) (f:=fun O=>assignInOrder ts vs) (fun O O O O h=>assignInOrder_cons h) (.um (ht v) ?_)
   exact ⟨fun A E g s n=>wpAny_storeName_local (hk y (.head _)) (n.a.ns n.G) (fun h' hn hs=>⟨g,_,l,.of,n.a.store n.G hn hs,ih (by simpa using hl) (fun q hq=>hk q (.tail _ hq)) k⟩) (by rw [n.G.hk];rfl)⟩
theorem sU(g:Ex→Option Str)(P:Str→Prop)(hg:∀ y p,g (.Name y p)=none∨(g (.Name y p)=some y∧P y)):∀ {ts:List Ex} {ids:List Str},bj ts=some ids→(ts.filterMap g).Sublist ids∧∀ y∈ts.filterMap g,P y:=by
 intro ts
 induction ts with
 | nil=>intro ids h;cases h;exact ⟨.slnil,fun O h=>nomatch h⟩
 | cons e r ih =>
  intro ids h
  cases e with
  | Name y p =>
   have h:(match bj r with | some l=>some (y::l) | none=>none)=some ids:=h
   refine aJ (bj r) (fun hr=>?_) (fun l hr=>?_)
   ·rw [hr] at h;cases h
   ·rw [hr] at h;cases h
    obtain (⟨a,b⟩):=ih hr
    rcases hg y p with e | ⟨e,py⟩
    ·rw [List.filterMap_cons_none e];exact ⟨a.cons _,b⟩
    ·rw [List.filterMap_cons_some e]
     exact ⟨a.cons_cons _,fun z hz=>by
      rcases List.mem_cons.mp hz with rfl | hz
      ·exact py
      ·exact b z hz⟩
  | _=>cases h
set_option tactic.hygienic true in
theorem qc{ts:List Ex}{ids:List Str}{k:Nat}{tp:Pos}{e:Ex}{m:Option Nat}{env:Env}(h:bj ts=some ids)(hs:j1 ts.length e=(true,m)) :
  swappedStores [.Tuple ts k tp] e env=Pure.pure none∨(swappedStores [.Tuple ts k tp] e env=Pure.pure (some ids)∧∀ y∈ids,env.kindOf y=some .local):=by
 cases e with
 | Tuple vs k2 p2 =>
  have h1:(!(vs.any isStar)&&(vs.all (foldedForSure 8)||!(vs.all (constantsAlone 8)))&&decide (ts.length≤99))=true:=congrArg Prod.fst hs
  unfold swappedStores
  dsimp only
  split
  ·exact .inl rfl
  split
  ·exact .inl rfl
  split
  ·exact .inl rfl
  rename_i hnm
  split
  ·exact .inl rfl
  rename_i hf
  split
  ·rename_i hc
   simp only [Bool.and_eq_true,Bool.or_eq_true,Bool.not_eq_true'] at h1
   rcases h1.1.2 with q | q
   ·exact absurd q hf
   ·rw [q] at hc;cases hc
  ·obtain (⟨sub,loc⟩):=sU (fun t=>match t with
    | .Name id pos=>if env.kindOf id==some .local&&pos.line==(ts.head?.map (·.pos.line)).getD 0 then some id else none
    | _=>none) (fun y=>env.kindOf y=some .local) (fun y p=>by
     dsimp only;split
     ·rename_i q;rw [Bool.and_eq_true] at q;exact .inr ⟨rfl,eq_of_beq q.1⟩
     ·exact .inl rfl) h
   have e:=sub.eq_of_length (by
    simp only [bne_iff_ne,ne_eq,Bool.or_eq_true,not_or,Decidable.not_not] at hnm
    rw [← jA h];exact hnm.1)
   exact .inr ⟨congrArg (fun x=>Pure.pure (some x)) e,fun y hy=>loc y (e▸hy)⟩
 | _=>exact .inl rfl
end
inductive aX:Stmt→w9→Prop
 | pA (ids m ts k tp e q) (hid:bj ts=some ids) (hp:aQ e=true) (hnd:ids.Nodup) (hsw:j1 ts.length e=(true,m)):aX (.Assign [.Tuple ts k tp] e q) (.pA ids m)
 | asg (y p e q) (hp:aQ e=true):aX (.Assign [.Name y p] e q) (.asg y)
 | kY (y p e q):aX (.Assign [.Name y p] e q) (.kY y)
 | pg (o i p e q):aX (.Assign [.Subscript o i p] e q) .pg
 | mD (y o p e q) (hp:aQ e=true):aX (.Assign [.Attribute o y p] e q) (.mD y)
 | aug (y op p e q):aX (.AugAssign (.Name y p) op e q) (.aug y op)
 | ret (e q):aX (.Return (some e) q) .ret
 | expr (e q) (hp:aQ e=true):aX (.Expr e q) .expr
 | vj (t a b q):aX (.If t a b q) .vj
 | raise (e q):aX (.Raise (some e) none q) .raise
 | other (st):aX st .other
theorem lC(st:Stmt):aX st (pM st):=by
 cases st with
 | Assign ts e q =>
  match ts with
  | []=>exact .other _
  | t::_::_=>cases t<;>exact .other _
  | [t] =>
   cases t with
   | Tuple ts k tp =>
    show aX _ (match bj ts with
     | some ids=>(match aQ e&&decide ids.Nodup&&(j1 ts.length e).1 with
      | true=>.pA ids (j1 ts.length e).2
      | false=>.other)
     | none=>.other)
    cases h:bj ts with
    | none=>exact .other _
    | some ids =>
     dsimp only
     cases h2:aQ e&&decide ids.Nodup&&(j1 ts.length e).1 with
     | false=>exact .other _
     | true=>exact .pA ids _ ts k tp e q h (bA (bA h2).1).1 (of_decide_eq_true (bA (bA h2).1).2) (by rw [← (bA h2).2])
   | Name y p =>
    show aX _ (match aQ e with | true=>.asg y | false=>.kY y)
    cases h:aQ e with
    | true=>exact .asg _ _ _ _ h
    | false=>exact .kY _ _ _ _
   | Subscript o i p=>exact .pg _ _ _ _ _
   | Attribute o y p =>
    show aX _ (match aQ e with | true=>.mD y | false=>.other)
    cases h:aQ e with
    | true=>exact .mD _ _ _ _ _ h
    | false=>exact .other _
   | _=>exact .other _
 | AugAssign t op e q=>cases t<;>first | exact .other _ | exact .aug _ _ _ _ _
 | Return e q=>cases e<;>first | exact .other _ | exact .ret _ _
 | Expr e q =>
  show aX _ (match aQ e with | true=>.expr | false=>.other)
  cases h:aQ e with
  | true=>exact .expr _ _ h
  | false=>exact .other _
 | If t a b q=>exact .vj _ _ _ _
 | Raise e f q=>cases e<;>cases f<;>first | exact .other _ | exact .raise _ _
 | _=>exact .other _
theorem tH{l:List Stmt}{i:Nat}{st:Stmt}(h:l[i]?=some st):l.drop i=st::l.drop (i+1):=by
 obtain (⟨hi,e⟩):=List.getElem?_eq_some_iff.mp h
 rw [List.drop_eq_getElem_cons hi,e]
theorem nY{e o i:Ex}{p:Pos}{n:Nat}{env:Env}:swapsWith e (some (.Subscript o i p)) n env=Pure.pure false:=by cases e<;>rfl
theorem lG{e:Ex}{y:Str}{p:Pos}{n:Nat}{env:Env}(h:env.kindOf y=some .cell):swapsWith e (some (.Name y p)) n env=Pure.pure false:=by
 cases e<;>first | rfl | (unfold swapsWith;dsimp only;rw [h,show (some NameKind.cell==some NameKind.local)=false from rfl,Bool.and_false,Bool.false_and,Bool.false_and])
theorem bY{e:Ex}{t:Option Ex}{n:Nat}{env:Env}(h:aQ e=true):swapsWith e t n env=Pure.pure false:=by
 revert h;cases e<;>first | exact fun O=>rfl | exact ff
end
section
section
variable {d:Dy}{r:Nat}{fi:Fi}{σ:Sl}{l:Led}{m:Mp}
theorem PV.mono{K K':CV→Led→Prop}{m₀ m:Mp}{v:Value}{l:Led}(h:PV K m₀ v m l)(k:∀ c l,K c l→K' c l):PV K' m₀ v m l:=by
 induction h with | mk c e is q=>exact ⟨c,e,is,k _ _ q⟩
theorem LN.mono{t:List Value→Sem Value}{cs:List CV}{K K':CV→Led→Prop}(h:LN d r t cs K l)(k:∀ c l,K c l→K' c l):LN d r t cs K' l:=⟨fun vs m hv=>(h.run vs m hv).mono fun O O O p=>p.mono k⟩
theorem bX.mono{o i:Ex}{cs:List CV}{K K':CV→Led→Prop}(h:bX d r o i cs K l)(k:∀ c l,K c l→K' c l):bX d r o i cs K' l:=⟨fun v a b c m hv A E g s n=>wpAny_mono (h.run v a b c m hv A E g s n) (fun O O p=>p.mono fun O O O p=>p.mono k) fun O O x=>x⟩
theorem LU.mono{t:List Value→Sem Unit}{cs:List CV}{K K':Led→Prop}(h:LU d r t cs K l)(k:∀ l,K l→K' l):LU d r t cs K' l:=⟨fun vs m hv=>(h.run vs m hv).mono fun O O O p=>⟨p.1,k _ p.2⟩⟩
theorem LE.mono{t:Sem Value}{K K':CV→Led→Prop}(h:LE d r fi t K σ l)(k:∀ c l,K c l→K' c l):LE d r fi t K' σ l:=⟨fun m hm=>(h.run m hm).mono fun O O O p=>p.mono k⟩
theorem Ok.pt{t:Sem Bool}{T F T' F':Led→Prop}(h:Ok d r t (PT T F m) m l)(k1:∀ l,T l→T' l)(k2:∀ l,F l→F' l):Ok d r t (PT T' F' m) m l:=h.mono fun b m l p=>by
 induction p with
 | t h=>exact .t (k1 _ h)
 | f h=>exact .f (k2 _ h)
theorem LS.mono{t:Sem Flow}{K K':Option CV→Sl→Led→Prop}(h:LS d r fi t K σ l)(k:∀ o σ l,K o σ l→K' o σ l):LS d r fi t K' σ l:=⟨fun m hm=>(h.run m hm).mono fun f m l p=>by
 induction p with
 | next σ h q=>exact .next σ h (k _ _ _ q)
 | ret σ c h is q=>exact .ret σ c h is (k _ _ _ q)⟩
theorem c5.mono{c:CV}{K K':Sl→Led→Prop}{t:jS}(h:c5 σ l c K t)(k:∀ σ l,K σ l→K' σ l):c5 σ l c K' t:=by
 induction t with
 | s i=>exact k _ _ h
 | c a=>exact ⟨h.1,fun o v h1 h2=>k _ _ (h.2 o v h1 h2)⟩
theorem cT.mono{K K':Sl→Led→Prop}(k:∀ σ l,K σ l→K' σ l):∀ {ts:List jS} {cs:List CV} {σ:Sl} {l:Led},cT ts cs K σ l→cT ts cs K' σ l:=by
 intro ts
 induction ts with
 | nil=>intro cs σ l h;induction cs with
  | nil=>exact k _ _ h
  | cons _ _=>exact h
 | cons t ts ih=>intro cs σ l h;induction cs with
  | nil=>exact h
  | cons c cs=>exact c5.mono (K:=cT ts cs K) (K':=cT ts cs K') h fun σ l h=>ih h
theorem rX{op:Operator}{u v:CV}{K K':CV→Led→Prop}(h:rY d r op u v K l)(k:∀ c l,K c l→K' c l):LN d r (fY op) [u,v] K' l:=⟨fun vs m hv=>by
 cases hv with | cons h1 hv=>cases hv with | cons h2 hv=>cases hv;exact (rW h h1 h2).mono fun O O O p=>p.mono k⟩
theorem rV{op:CmpOp}{u v:CV}{K K':CV→Led→Prop}(h:jU d r op u v K l)(k:∀ c l,K c l→K' c l):LN d r (br op) [u,v] K' l:=⟨fun vs m hv=>by
 cases hv with | cons h1 hv=>cases hv with | cons h2 hv=>cases hv;exact (iY h h1 h2).mono fun O O O p=>p.mono k⟩
theorem uq{op:UnaryOp}{u:CV}{K K':CV→Led→Prop}(h:vr d r op u K l)(k:∀ c l,K c l→K' c l):LN d r (wR op) [u] K' l:=⟨fun vs m hv=>by
 cases hv with | cons h1 hv=>cases hv;exact (uo h h1).mono fun O O O p=>p.mono k⟩
theorem r4{op:Operator}{u v:CV}{K K':CV→Led→Prop}(h:r5 d r op u v K l)(k:∀ c l,K c l→K' c l):LN d r (vw op) [u,v] K' l:=⟨fun vs m hv=>by
 cases hv with | cons h1 hv=>cases hv with | cons h2 hv=>cases hv;exact (rZ h h1 h2).mono fun O O O p=>p.mono k⟩
theorem LN.xi{t:List Value→Sem Value}{c:CV}{K:CV→Led→Prop}(h:LN d r t [c] K l){v:Value}(hc:CV.Is c v):Ok d r (t [v]) (PV K m) m l:=h.run _ m (.cons hc .nil)
theorem LN.ux{t:List Value→Sem Value}{a b:CV}{K:CV→Led→Prop}(h:LN d r t [a,b] K l){v w:Value}(h1:CV.Is a v)(h2:CV.Is b w):Ok d r (t [v,w]) (PV K m) m l:=h.run _ m (.cons h1 (.cons h2 .nil))
theorem LE.one{t t1:Sem Value}{f:Value→Sem Value}{K:CV→Led→Prop}{g:List Value→Sem Value}
  (rule:∀ A (Q:Value→Shared→Prop) E s,wpAny (model Pg d.w) A t1 (fun a s₁=>wpAny (model Pg d.w) A (g [a]) Q E s₁) E s→wpAny (model Pg d.w) A t Q E s) (h:LE d r fi t1 (fun c l=>LN d r g [c] K l) σ l):LE d r fi t K σ l :=
 ⟨fun m hm=>.iX rule ((h.run m hm).pv fun c v l hc k=>k.xi hc)⟩
theorem LE.two{t t1 t2:Sem Value}{K:CV→Led→Prop}{g:List Value→Sem Value}
  (rule:∀ A (Q:Value→Shared→Prop) E s,wpAny (model Pg d.w) A t1 (fun a s₁=>wpAny (model Pg d.w) A t2 (fun b s₂=>wpAny (model Pg d.w) A (g [a,b]) Q E s₂) E s₁) E s→wpAny (model Pg d.w) A t Q E s)
  (h:LE d r fi t1 (fun c l=>LE d r fi t2 (fun c' l=>LN d r g [c,c'] K l) σ l) σ l):LE d r fi t K σ l :=
 ⟨fun m hm=>.rU rule ((h.run m hm).pv fun c v l hc k=>(k.run m hm).pv fun c' w l hc' k=>k.ux hc hc')⟩
end
section
variable {fi:Fi}{r:Nat}(x:Cx fi r)
noncomputable abbrev Rest(P:Sl→Led→Prop)(b:Bk)(i:Nat)(σ:Sl)(l:Led):Prop:=LS x.d r fi (execs (b.at.drop i) x.d.env) (fun o σ l=>match o with | none=>P σ l | some c=>x.P (some c) σ l) σ l
noncomputable abbrev Part(p:Pe)(j n:Nat)(xs:List Ex):Prop:=xs.length=n∧∀ q,q < n→(p.c (j+q)).at=xs.getD q eY
noncomputable def LA(p:Pe)(j n:Nat)(K:List CV→Led→Prop)(σ:Sl)(l:Led):Prop:=∀ xs,Part p j n xs→xs.any isStar=false→∀ m pos,bL fi.ns σ m→Ok x.d r (spliced (backTo pos (starEach xs x.d.env))) (yv (fun cs l=>cs.length=n∧K cs l) m) m l
noncomputable def pH(e:Ex)(T F:Led→Prop)(σ:Sl)(l:Led):Prop:=∀ m,bL fi.ns σ m→Ok x.d r (isTrue e x.d.env (eval e x.d.env)) (PT T F m) m l
noncomputable def bT(i:Ex)(env:Env)(j:Nat):Sem Value:=match kh i j with | some z=>eval z env | none=>pure .none
noncomputable def vo(p:Pe):Nat→List CV→(CV→Led→Prop)→Sl→Led→Prop
 | 0,acc,K,_,l=>bX x.d r (p.c 0).at (p.c 1).at acc K l
 | j+1,acc,K,σ,l=>LE x.d r fi (bT (p.c 1).at x.d.env (2 - j)) (fun c l=>vo p j (acc++[c]) K σ l) σ l
noncomputable abbrev hd(cs:List CV):CV:=cs.headD (.v .none)
noncomputable def M:Kt→List CV→Sl→Led→Prop
 | .tN op b k,cs,σ,l=>LE x.d r fi (eval b.at x.d.env) (fun c' l=>LN x.d r (fY op) [hd cs,c'] (fun c l=>M k [c] σ l) l) σ l
 | .tM op u k,cs,σ,l=>LN x.d r (fY op) [u,hd cs] (fun c l=>M k [c] σ l) l
 | .rm op b k,cs,σ,l=>LE x.d r fi (eval b.at x.d.env) (fun c' l=>LN x.d r (br op) [hd cs,c'] (fun c l=>M k [c] σ l) l) σ l
 | .tK op u k,cs,σ,l=>LN x.d r (br op) [u,hd cs] (fun c l=>M k [c] σ l) l
 | .fj op op2 b b2 T F,cs,σ,l=>∀ v m pos,CV.Is (hd cs) v→bL fi.ns σ m→Ok x.d r (testChain pos v [op,op2] [eval b.at x.d.env,eval b2.at x.d.env]) (PT (fun l=>M T [] σ l) (fun l=>M F [] σ l) m) m l
 | .rn op op2 u b2 T F,cs,σ,l=>∀ v w m pos,CV.Is u v→CV.Is (hd cs) w→bL fi.ns σ m→Ok x.d r (compareOp op v w) (fun q m' l=>Ok x.d r (truthy q) (fun t m'' l=>if t then Ok x.d r (testChain pos w [op2] [eval b2.at x.d.env]) (PT (fun l=>M T [] σ l) (fun l=>M F [] σ l) m) m'' l else PT (fun l=>M T [] σ l) (fun l=>M F [] σ l) m false m'' l) m' l) m l
 | .pd op2 u T F,cs,σ,l=>∀ v w m,CV.Is u v→CV.Is (hd cs) w→Ok x.d r (compareOp op2 v w) (fun q m' l=>Ok x.d r (truthy q) (PT (fun l=>M T [] σ l) (fun l=>M F [] σ l) m) m' l) m l
 | .un op k,cs,σ,l=>LN x.d r (wR op) [hd cs] (fun c l=>M k [c] σ l) l
 | .se p k,cs,σ,l=>LE x.d r fi (eval (p.c 1).at x.d.env) (fun c' l=>LN x.d r (fH (p.c 0).at (p.c 1).at) [hd cs,c'] (fun c l=>M k [c] σ l) l) σ l
 | .sd p u k,cs,σ,l=>LN x.d r (fH (p.c 0).at (p.c 1).at) [u,hd cs] (fun c l=>M k [c] σ l) l
 | .si p k,cs,σ,l=>vo x p 3 [hd cs] (fun c l=>M k [c] σ l) σ l
 | .sj p j acc k,cs,σ,l=>vo x p j (acc++[hd cs]) (fun c l=>M k [c] σ l) σ l
 | .pG y k,cs,σ,l=>LN x.d r (fZ y) [hd cs] (fun c l=>M k [c] σ l) l
 | .iJ y n p k,cs,σ,l=>∀ args,Part p 1 n args→args.any isStar=false→∀ v m pl pos,CV.Is (hd cs) v→bL fi.ns σ m→Ok x.d r (getMethod v y pl) (fun fx m' l=>Ok x.d r (callWith pos fx.1 fx.2 (backTo pos (starEach args x.d.env)) []) (PV (fun c l=>M k [c] σ l) m) m' l) m l
 | .arg p j n acc k,cs,σ,l=>LA x p j n (fun cs' l=>M k (acc++[hd cs]++cs') σ l) σ l
 | .r7 T F,cs,σ,l=>∀ m v,CV.Is (hd cs) v→Ok x.d r (truthy v) (PT (fun l=>M T [] σ l) (fun l=>M F [] σ l) m) m l
 | .set t b j S,cs,σ,l=>c5 σ l (hd cs) (fun σ l=>Rest x (fun σ l=>M S [] σ l) b j σ l) t
 | .aug t op u b j S,cs,σ,l=>LN x.d r (vw op) [u,hd cs] (fun c l=>c5 σ l c (fun σ l=>Rest x (fun σ l=>M S [] σ l) b j σ l) t) l
 | .ret,cs,σ,l=>x.P (some (hd cs)) σ l
 | .raise,cs,σ,l=>pw x.d l (hd cs)
 | .pA ts b j S,cs,σ,l=>bh (hd cs) l ts.length fun cs=>cT ts cs (fun σ l=>Rest x (fun σ l=>M S [] σ l) b j σ l) σ l
 | .drop b i S,cs,σ,l=>Rest x (fun σ l=>M S [] σ l) b i σ l
 | .wW b i S,cs,σ,l=>LE x.d r fi (eval ((Pe.g b i).c 0).at x.d.env) (fun u l=>LE x.d r fi (eval ((Pe.g b i).c 1).at x.d.env) (fun w l=>LU x.d r fX [u,w,hd cs] (fun l=>Rest x (fun σ l=>M S [] σ l) b (i+1) σ l) l) σ l) σ l
 | .wV z b i S,cs,σ,l=>LE x.d r fi (eval ((Pe.g b i).c 1).at x.d.env) (fun w l=>LU x.d r fX [hd cs,w,z] (fun l=>Rest x (fun σ l=>M S [] σ l) b (i+1) σ l) l) σ l
 | .wU z u b i S,cs,σ,l=>LU x.d r fX [u,hd cs,z] (fun l=>Rest x (fun σ l=>M S [] σ l) b (i+1) σ l) l
 | .wY y b i S,cs,σ,l=>LE x.d r fi (eval ((Pe.g b i).c 0).at x.d.env) (fun u l=>LU x.d r (iD y) [u,hd cs] (fun l=>Rest x (fun σ l=>M S [] σ l) b (i+1) σ l) l) σ l
 | .wX y z b i S,cs,σ,l=>LU x.d r (iD y) [hd cs,z] (fun l=>Rest x (fun σ l=>M S [] σ l) b (i+1) σ l) l
 | .call f fs k,cs,σ,l=>LN x.d r (fun vs=>call f vs) (fs++cs) (fun c l=>M k [c] σ l) l
 | .loc c k,cs,σ,l=>LF x.d l c fun f=>LN x.d r (fun vs=>call f vs) cs (fun c l=>M k [c] σ l) l
 | .tup k,cs,σ,l=>LN x.d r newTuple cs (fun c l=>M k [c] σ l) l
 | .list k,cs,σ,l=>LN x.d r newList cs (fun c l=>M k [c] σ l) l
 | .r6 ts b j S,cs,σ,l=>cT ts cs (fun σ l=>Rest x (fun σ l=>M S [] σ l) b j σ l) σ l
 | .ts b S,_,σ,l=>Rest x (fun σ l=>M S [] σ l) b 0 σ l
 | .te p k,_,σ,l=>LE x.d r fi (eval p.at x.d.env) (fun c l=>M k [c] σ l) σ l
 | .tb op p j n T F,_,σ,l=>∀ xs,Part p j n xs→∀ pos w m,bL fi.ns σ m→Ok x.d r (isTrue (.BoolOp op xs pos) x.d.env w) (PT (fun l=>M T [] σ l) (fun l=>M F [] σ l) m) m l
 | .nil,_,σ,l=>x.P none σ l
 | .out,_,σ,l=>x.Q σ l
 | .c b i S,_,σ,l=>Rest x (fun σ l=>M S [] σ l) b i σ l
noncomputable def c6:Tk→Sl→Led→Prop
 | .e p k,σ,l=>LE x.d r fi (eval p.at x.d.env) (fun c l=>M x k [c] σ l) σ l
 | .v c k,σ,l=>M x k [c] σ l
 | .t p T F,σ,l=>pH x p.at (fun l=>M x T [] σ l) (fun l=>M x F [] σ l) σ l
 | .b op p j n T F,σ,l=>∀ xs,Part p j n xs→∀ pos w m,bL fi.ns σ m→Ok x.d r (isTrue (.BoolOp op xs pos) x.d.env w) (PT (fun l=>M x T [] σ l) (fun l=>M x F [] σ l) m) m l
 | .a p j n acc k,σ,l=>LA x p j n (fun cs l=>M x k (acc++cs) σ l) σ l
 | .l p j acc k,σ,l=>vo x p j acc (fun c l=>M x k [c] σ l) σ l
 | .s b i S,σ,l=>Rest x (fun σ l=>M x S [] σ l) b i σ l
end
end
section
theorem Ok.link{d:Dy}{r:Nat}{pos:Pos}{v:Value}{op op2:CmpOp}{r1 r2:Sem Value}{K:Bool→Mp→Led→Prop}{m:Mp}{l:Led}
  (h:Ok d r r1 (fun w m l=>Ok d r (compareOp op v w) (fun c m l=>Ok d r (truthy c) (fun t m l=>if t then Ok d r (testChain pos w [op2] [r2]) K m l else K false m l) m l) m l) m l):Ok d r (testChain pos v [op,op2] [r1,r2]) K m l :=
 ⟨fun A E g s n=>test_link (h.wp n fun w s₁ O O O e₁ n₁ k=>k.wp n₁ fun c s₂ O O O e₂ n₂ k=>k.wp n₂ fun t s₃ O O O e₃ n₃ k=>match t,k with
  | false,k=>⟨_,_,_,(e₁.trans e₂).trans e₃,n₃.a,k⟩
  | true,k=>Ok.xU k ((e₁.trans e₂).trans e₃) n₃)⟩
theorem ma{P:Ex→Prop}(k:∀ lo hi st ps,P (.Slice lo hi st ps)):∀ e,isSlice e=true→P e:=by
 intro e
 cases e with
 | Slice lo hi st ps=>exact fun O=>k lo hi st ps
 | _=>exact ff
theorem qf{M:Model}{A:Around}{E:Value→Shared→Prop}{s:Shared}{Q:Value→Shared→Prop}{a b:Ex}{q:Pos}{env:Env}(hb:isSlice b=true)
  (h:wpAny M A (eval a env) (fun v s₁=>wpAny M A (bT b env 0) (fun v1 s₂=>wpAny M A (bT b env 1) (fun v2 s₃=>wpAny M A (bT b env 2) (fun v3 s₄=>wpAny M A (subscriptTail a b v (.ref s₄.heap.objs.size)) Q E {s₄ with heap:=s₄.heap.push {cls:=.type "slice",data:=.fields #[v1,v2,v3]}}) E s₃) E s₂) E s₁) E s):wpAny M A (eval (.Subscript a b q) env) Q E s:=by
 refine Subscript_ (wpAny_mono h (fun v s₁ h=>?_) fun O O x=>x)
 obtain ⟨lo,hi,st,ps,e⟩:=ma (P:=fun b=>∃ lo hi st ps,b=.Slice lo hi st ps) (fun lo hi st ps=>⟨lo,hi,st,ps,rfl⟩) b hb
 have e0:valueOrNone (evalOpt lo env)=bT b env 0:=by subst e;cases lo<;>rfl
 have e1:valueOrNone (evalOpt hi env)=bT b env 1:=by subst e;cases hi<;>rfl
 have e2:valueOrNone (evalOpt st env)=bT b env 2:=by subst e;cases st<;>rfl
 rw [← e0,← e1,← e2] at h
 rw [e]
 exact wpAny_bind (wpAny_mono h (fun v1 s₂ h=>wpAny_bind (wpAny_holding (wpAny_mono h (fun v2 s₃ h=>wpAny_bind (wpAny_holding (wpAny_mono h (fun v3 s₄ h=>wpAny_newObj_type (e▸h) (by size_fits)) fun O O x=>x))) fun O O x=>x))) fun O O x=>x)
theorem uv{d:Dy}{r:Nat}{fi:Fi}{a b:Ex}{q:Pos}{K:CV→Led→Prop}{σ:Sl}{l:Led}(hb:isSlice b=true)
  (h:LE d r fi (eval a d.env) (fun c l=>LE d r fi (bT b d.env 0) (fun c1 l=>LE d r fi (bT b d.env 1) (fun c2 l=>LE d r fi (bT b d.env 2) (fun c3 l=>bX d r a b [c,c1,c2,c3] K l) σ l) σ l) σ l) σ l):LE d r fi (eval (.Subscript a b q) d.env) K σ l :=
 ⟨fun m hm=>⟨fun A E g s n=>qf hb (Ok.tQ (h.run m hm) n fun v s₁ O O O e₁ n₁ hc h=>Ok.tQ (h.run m hm) n₁ fun v1 s₂ O O O e₂ n₂ h1 h=>Ok.tQ (h.run m hm) n₂ fun v2 s₃ O O O e₃ n₃ h2 h=>Ok.tQ (h.run m hm) n₃ fun v3 s₄ O O O e₄ n₄ h3 h =>
  wpAny_mono (h.run v v1 v2 v3 m (.cons hc (.cons h1 (.cons h2 (.cons h3 .nil)))) A E _ s₄ n₄) (fun O O p=>(((p.then e₄).then e₃).then e₂).then e₁) fun O O x=>x)⟩⟩
section
variable {fi:Fi}{r:Nat}{x:Cx fi r}{σ:Sl}{l:Led}
theorem uN(ev:Ev x.d fi x.cs){y:Str}{pos:Pos}{C:CV→Prop}{K:CV→Led→Prop}{o:Prop}(h:goN x y C o σ l)(k:∀ c,C c→K c l)(ho:o→LE x.d r fi (eval (.Name y pos) x.d.env) K σ l):LE x.d r fi (eval (.Name y pos) x.d.env) K σ l:=by
 refine ⟨fun m hm=>?_⟩
 unfold goN at h
 cases h1:slot fi.ns y with
 | some i =>
  rw [h1] at h;dsimp only at h
  refine aJ (σ.get i) (fun h2=>?_) (fun c h2=>?_)
  ·rw [h2] at h;exact h.elim
  ·rw [h2] at h;exact nf ev hm h1 h2 (k c h)
 | none =>
  rw [h1] at h;dsimp only at h
  cases h2:slot (fi.cn++fi.fr) y with
  | some i =>
   rw [h2] at h;dsimp only at h
   refine aJ (x.cs[i]?) (fun h3=>?_) (fun a h3=>?_)
   ·rw [h3] at h;exact h.elim
   ·rw [h3] at h;obtain (⟨c,hc,h⟩):=h;exact nH ev h2 h3 hc (k c h)
  | none =>
   rw [h2] at h;dsimp only at h
   refine aJ (dN y fi.gi) (fun h3=>?_) (fun v h3=>?_)
   ·rw [h3] at h;exact (ho h).run m hm
   ·rw [h3] at h;exact jD ev h3 (k _ h)
theorem pY{p:Pe}{T F:Led→Prop}(he:isTrue p.at x.d.env (eval p.at x.d.env)=(do let v ← eval p.at x.d.env;standAt p.at.pos;holding [v] (truthy v)))
  (h:LE x.d r fi (eval p.at x.d.env) (fun c l=>∀ m v,CV.Is c v→Ok x.d r (truthy v) (PT T F m) m l) σ l):pH x p.at T F σ l:=fun m hm =>
 .iX (fun O O O O h=>isTrue_plain h he) ((h.run m hm).pv fun c v l hc k=>k m v hc)
inductive xM(E:Value→Shared→Prop)(v:Value)(s:Shared):Prop
 | mk (C:Addr) (nm q:Str) (N:Addr) (bs bm:List Value) (hdct:Bool) (sn:List Str) (sub:List Value) (ab:Bool) (col:Option Bool) (dd:Option Addr) (k0 k1 k2 k3 k5:Option Value) (hb:bm.contains (.type "BaseException")=true) (e:Addr) (oe:Obj) (a0:Value) (hv:v=.ref e)
  (hC:s.heap.get? C=some (excClassObj nm q C N bs bm hdct sn sub ab col dd k0 k1 k2 k3 k5 "Exception.__new__")) (he:s.heap.get? e=some oe) (hcl:oe.cls=.ref C) (hd:oe.data=.fields #[a0,.none,.none,.none,.bool false,.none]) (hE:E (.ref e) s):xM E v s
theorem qm{A:Around}{E:Value→Shared→Prop}{g:Heap}{s:Shared}{m:Mp}{c:CV}{v:Value}(n:bx x.d r A E g s m l)(h:pw x.d l c)(hc:CV.Is c v) :
  xM E v s:=by
 induction h with
 | mk a C l' oe a0 e hl hn hcl hC hd y =>
  subst e;cases hc
  have lo:=hl a oe Led.hit
  have at_:At x.d g s.heap m (l'.set a oe):=n.a.sub hl
  have th:E (.ref a) s:=n.x.x a s (.own g m C l' oe a0 .rfl hn hcl hd at_ y)
  rcases hC with rfl | rfl
  ·exact ⟨63,_,_,_,_,_,_,_,_,_,_,_,_,_,_,_,_,by decide,a,oe,a0,rfl,n.X 63 _ rfl,n.a.get lo,hcl,hd,th⟩
  ·exact ⟨75,_,_,_,_,_,_,_,_,_,_,_,_,_,_,_,_,by decide,a,oe,a0,rfl,n.X 75 _ rfl,n.a.get lo,hcl,hd,th⟩
theorem iG{p:Pe}{j n:Nat}{xs:List Ex}(h:Part p j (n+1) xs):∃ y ys,xs=y::ys∧(p.c j).at=y∧Part p (j+1) n ys:=by
 induction xs with
 | nil=>cases h.1
 | cons y ys =>
  refine ⟨y,ys,rfl,h.2 0 (Nat.succ_pos _),Nat.succ.inj h.1,fun q hq=>?_⟩
  have:=h.2 (q+1) (Nat.succ_lt_succ hq)
  rw [Nat.add_right_comm j 1 q];exact this
theorem part_of{p:Pe}{j:Nat}{xs:List Ex}(h:∀ q,(p.c (j+q)).at=xs.getD q eY):Part p j xs.length xs:=⟨rfl,fun q O=>h q⟩
theorem ru(ev:Ev x.d fi x.cs){f:Str}{q p:Pos}{args:List Ex}{pe:Pe}{call':Value→Prop}{loc:CV→Prop}{K:CV→Led→Prop}(hp:Part pe 1 args.length args)(hst:args.any isStar=false)(h:wZ x f call' loc σ l)
  (k1:∀ g,wy g=true→call' g→LA x pe 1 args.length (fun cs l=>LN x.d r (fun vs=>call g vs) ([]++cs) K l) σ l)
  (k2:∀ c,loc c→LA x pe 1 args.length (fun cs l=>LF x.d l c fun f=>LN x.d r (fun vs=>call f vs) cs K l) σ l):LE x.d r fi (eval (.Call (.Name f q) args [] p) x.d.env) K σ l:=by
 refine ⟨fun m hm=>?_⟩
 have go1:∀ {c:CV} {v:Value} {l':Led} {m':Mp},m'=m→l'=l→CV.Is c v→LA x pe 1 args.length (fun cs l=>LF x.d l c fun f=>LN x.d r (fun vs=>call f vs) cs K l) σ l→Ok x.d r (callWith p v [] (backTo p (starEach args x.d.env)) []) (PV K m) m' l':=by
  intro c v l' m' em el is h
  subst em;subst el
  refine cq hst fun pos=>(h args hp hst m' pos hm).mono fun vs m2 l p=>?_
  induction p with
  | mk cs e is' k =>
   subst e
   cases k.2 with
   | mk f e' cw kk=>subst e';cases is;exact ⟨cw,kk.run vs _ is'⟩
 unfold wZ at h
 cases h1:slot fi.ns f with
 | some i =>
  rw [h1] at h;dsimp only at h
  refine aJ (σ.get i) (fun h2=>?_) (fun c h2=>?_)
  ·rw [h2] at h;exact h.elim
  ·rw [h2] at h
   refine .iX (fun O O O O h=>Call_ h rfl) (.pv (nf ev hm h1 h2 (K:=fun c' l'=>c'=c∧l'=l) ⟨.refl _,.refl _⟩) fun c' v l' is e=>?_)
   exact go1 rfl e.2 (e.1▸is) (k2 c h)
 | none =>
  rw [h1] at h;dsimp only at h
  cases h2:slot (fi.cn++fi.fr) f with
  | some i =>
   rw [h2] at h;dsimp only at h
   refine aJ (x.cs[i]?) (fun h3=>?_) (fun a h3=>?_)
   ·rw [h3] at h;exact h.elim
   ·rw [h3] at h
    obtain (⟨c,hc,h⟩):=h
    refine .iX (fun O O O O h=>Call_ h rfl) (.pv (nH ev h2 h3 hc (K:=fun c' l'=>c'=c∧l'=l) ⟨.refl _,.refl _⟩) fun c' v l' is e=>?_)
    exact go1 rfl e.2 (e.1▸is) (k2 c h)
  | none =>
   rw [h2] at h;dsimp only at h
   refine aJ (dN f fi.gi) (fun h3=>?_) (fun v h3=>?_)
   ·rw [h3] at h;exact h.elim
   ·rw [h3] at h;dsimp only at h
    cases hv:CV.of v with
    | int _=>rw [hv] at h;exact h.elim
    | str _=>rw [hv] at h;exact h.elim
    | v g =>
     rw [hv] at h;dsimp only at h
     refine xG (wy g) (fun hg=>?_) (fun hg=>?_)
     ·rw [hg] at h
      refine .iX (fun O O O O h=>Call_ h rfl) (.pv (jD ev h3 (K:=fun c' l'=>c'=CV.of v∧l'=l) ⟨.refl _,.refl _⟩) fun c' v' l' is e=>?_)
      obtain (⟨e1,e2⟩):=e;subst e1;subst e2
      rw [hv] at is;cases is
      refine cq hst fun pos=>((k1 g hg h) args hp hst m pos hm).mono fun vs m' l p=>?_
      induction p with
      | mk cs e is' k=>subst e;exact ⟨CW.of hg l,k.2.run vs _ is'⟩
     ·rw [hg] at h;exact h.elim
variable {G:Tk→Sl→Led→Prop}
theorem gN(IH:∀ tk σ l,G tk σ l→c6 x tk σ l){T:Kt}{σ:Sl}{l:Led}(h:tj x G T σ l):M x T [] σ l:=by
 induction T with
 | ts q S=>exact IH _ _ _ h
 | te p k=>exact IH _ _ _ h
 | tb op p j n T F=>exact IH _ _ _ h
 | out=>exact h
 | _=>exact h.elim
theorem uL(IH:∀ tk σ l,G tk σ l→c6 x tk σ l){c:CV}:∀ {k:Kt} {σ:Sl} {l:Led},yb x G c σ l k→M x k [c] σ l:=by
 intro k σ l h
 induction k with
 | tN op b k=>exact IH _ _ _ h
 | tM op u k=>exact rX (show rY x.d r op u c (fun c l=>G (.v c k) σ l) l from h) fun c l h=>IH _ _ _ h
 | rm op b k=>exact IH _ _ _ h
 | tK op u k=>exact rV (show jU x.d r op u c (fun c l=>G (.v c k) σ l) l from h) fun c l h=>IH _ _ _ h
 | fj op op2 b b2 T F=>exact fun v m pos hv hm=>.link ((LE.run (IH (.e b (.rn op op2 c b2 T F)) σ l h) m hm).pv fun c' w l hw k=>k v w m pos hv hw hm)
 | rn op op2 u b2 T F =>
  exact fun v w m pos hv hw hm=>.pv (iY (show jU x.d r op u c (fun q l=>vf x.d r q (fun l=>G (.e b2 (.pd op2 c T F)) σ l) (fun l=>tj x G F σ l) l) l from h) hv hw) fun c' q l hc h=>(pP h hc).mono fun t m' l p=>by
   induction p with
   | f g=>exact .f (gN IH g)
   | t g=>exact (.rU (fun O O O O h=>test_last h) ((LE.run (IH (.e b2 (.pd op2 c T F)) σ _ g) m hm).pv fun c2 w2 l hw2 k=>k w w2 m hw hw2):Ok _ _ _ _ _ _)
 | pd op2 u T F =>
  exact fun v w m hv hw=>.pv (iY (show jU x.d r op2 u c (fun c l=>G (.v c (.r7 T F)) σ l) l from h) hv hw) fun c q l hc h=>(IH (.v c (.r7 T F)) σ l h) m q hc
 | un op k=>exact uq (show vr x.d r op c (fun c l=>G (.v c k) σ l) l from h) fun c l h=>IH _ _ _ h
 | se p k=>exact IH _ _ _ h
 | sd p u k=>exact LN.mono h fun c l h=>IH _ _ _ h
 | si p k=>exact IH _ _ _ h
 | sj p j acc k=>exact IH _ _ _ h
 | pG y k=>exact LN.mono h fun c l h=>IH _ _ _ h
 | iJ y n p k =>
  intro args hp hst v m pl pos hv hm
  induction h with
  | mk f fs cw res k =>
   refine (res v pl m hv).mono fun p' m' l' e=>?_
   obtain ⟨e1,e2,e3,e4⟩:=e
   subst e1;subst e2;subst e3
   refine cq hst fun pos=>(IH _ _ _ k args hp hst m' pos hm).mono fun vs m2 l p=>?_
   induction p with
   | mk cs e is' k=>subst e;exact ⟨cw l,LN.run k.2 _ _ (e4.append is')⟩
 | arg p j n acc k=>exact IH _ _ _ h
 | r7 T F=>exact fun m v hv=>(pP (show vf x.d r c (fun l=>tj x G T σ l) (fun l=>tj x G F σ l) l from h) hv).pt (fun l g=>gN IH g) fun l g=>gN IH g
 | set t b j S=>exact c5.mono (K:=G (.s b j S)) h fun σ l h=>IH _ _ _ h
 | aug t op u b j S=>exact r4 (show r5 x.d r op u c (fun c l=>c5 σ l c (G (.s b j S)) t) l from h) fun c l h=>c5.mono h fun σ l h=>IH _ _ _ h
 | ret=>exact h
 | raise=>exact h
 | pA ts b j S =>
  induction h with
  | mk a vs cs o e hm ho hn is k=>exact .mk a vs cs o e hm ho hn is (cT.mono (fun σ l h=>IH _ _ _ h) k)
 | drop b i S=>exact IH _ _ _ h
 | wW b i S=>exact IH _ _ _ h
 | wV z b i S=>exact IH _ _ _ h
 | wU z u b i S=>exact LU.mono h fun l h=>IH _ _ _ h
 | wY y b i S=>exact IH _ _ _ h
 | wX y z b i S=>exact LU.mono h fun l h=>IH _ _ _ h
 | _=>exact h.elim
theorem uQ(IH:∀ tk σ l,G tk σ l→c6 x tk σ l){acc:List CV}{k:Kt}{σ:Sl}{l:Led}(h:yg x G acc σ l k):M x k acc σ l:=by
 induction k with
 | call f fs k=>exact LN.mono h fun c l h=>IH _ _ _ h
 | loc c k=>induction h with | mk f e cw kk=>exact .mk f e cw (LN.mono kk fun c l h=>IH _ _ _ h)
 | tup k=>exact LN.mono h fun c l h=>IH _ _ _ h
 | list k=>exact LN.mono h fun c l h=>IH _ _ _ h
 | r6 ts b j S=>exact cT.mono (fun σ l h=>IH _ _ _ h) h
 | _=>exact h.elim
theorem uO(ev:Ev x.d fi x.cs)(IH:∀ tk σ l,G tk σ l→c6 x tk σ l){p:Pe}{k:Kt}:∀ {e:Ex} {v:VE},aF e v→p.at=e→ye x G p k σ l v→LE x.d r fi (eval e x.d.env) (fun c l=>M x k [c] σ l) σ l:=by
 have le:∀ {e:Ex},p.at=e→LE x.d r fi (eval p.at x.d.env) (fun c l=>G (.v c k) σ l) σ l→LE x.d r fi (eval e x.d.env) (fun c l=>M x k [c] σ l) σ l:=fun he h=>he▸h.mono fun c l h=>IH _ _ _ h
 have cst:∀ {c:CV} {t:Sem Value},(∀ A E (s:Shared) (Q:Value→Shared→Prop),(∀ v tk,CV.Is c v→Q v {s with toks:=tk})→wpAny (model Pg x.d.w) A t Q E s)→G (.v c k) σ l→LE x.d r fi t (fun c l=>M x k [c] σ l) σ l :=
  fun h g=>⟨fun m hm=>.quiet fun A E O s Q n kk=>h A E s Q fun v tk hv=>kk v tk ⟨_,.refl _,hv,IH _ _ _ g⟩⟩
 intro e v sp
 induction sp with
 | name y q =>
  intro he h
  have h:goN x y (fun c=>G (.v c k) σ l) (LE x.d r fi (eval p.at x.d.env) (fun c l=>G (.v c k) σ l) σ l) σ l:=h
  rw [he] at h
  exact uN ev h (fun c h=>IH _ _ _ h) fun h=>h.mono fun c l h=>IH _ _ _ h
 | int i=>intro he h;exact cst (fun A E s Q kk=>wpAny_Constant_int (kk _ _ (.int _ _))) h
 | str i=>intro he h;exact cst (fun A E s Q kk=>wpAny_Constant_str (kk _ _ (.str _ _))) h
 | bool i=>intro he h;exact cst (fun A E s Q kk=>wpAny_Constant_bool (kk _ s.toks (.v _))) h
 | none=>intro he h;exact cst (fun A E s Q kk=>wpAny_Constant_none (kk _ s.toks (.v _))) h
 | bin op a b q =>
  intro he h
  have h:LE x.d r fi (eval (ch p.at 0) x.d.env) (fun c l=>LE x.d r fi (eval (ch p.at 1) x.d.env) (fun c' l=>LN x.d r (fY op) [c,c'] (fun c l=>M x k [c] σ l) l) σ l) σ l:=IH _ _ _ h
  rw [he] at h
  exact .two (fun O O O O h=>wpAny_BinOp h) h
 | un op a q =>
  intro he h
  have h:LE x.d r fi (eval (ch p.at 0) x.d.env) (fun c l=>LN x.d r (wR op) [c] (fun c l=>M x k [c] σ l) l) σ l:=IH _ _ _ h
  rw [he] at h
  exact .one (f:=fun O=>pure .none) (fun O O O O h=>UnaryOp_ h) h
 | cmp op a b q hb =>
  intro he h
  have h:LE x.d r fi (eval (ch p.at 0) x.d.env) (fun c l=>LE x.d r fi (eval (ch p.at 1) x.d.env) (fun c' l=>LN x.d r (br op) [c,c'] (fun c l=>M x k [c] σ l) l) σ l) σ l:=IH _ _ _ h
  rw [he] at h
  exact .two (fun O O O O h=>wpAny_Compare1 h hb) h
 | sub a b q =>
  intro he h
  have h:LE x.d r fi (eval (ch p.at 0) x.d.env) (fun c l=>LE x.d r fi (eval (ch p.at 1) x.d.env) (fun c' l=>LN x.d r (fH (ch p.at 0) (ch p.at 1)) [c,c'] (fun c l=>M x k [c] σ l) l) σ l) σ l:=IH _ _ _ h
  rw [he] at h
  exact .two (fun O O O O h=>Subscript_ h) h
 | uw a b q hb =>
  intro he h
  have h:LE x.d r fi (eval (ch p.at 0) x.d.env) (fun c l=>LE x.d r fi (bT (ch p.at 1) x.d.env 0) (fun c1 l=>LE x.d r fi (bT (ch p.at 1) x.d.env 1) (fun c2 l=>LE x.d r fi (bT (ch p.at 1) x.d.env 2) (fun c3 l=>bX x.d r (ch p.at 0) (ch p.at 1) [c,c1,c2,c3] (fun c l=>M x k [c] σ l) l) σ l) σ l) σ l) σ l:=IH _ _ _ h
  rw [he] at h
  exact uv hb h
 | pG y a q hb =>
  intro he h
  have h:LE x.d r fi (eval (ch p.at 0) x.d.env) (fun c l=>LN x.d r (fZ y) [c] (fun c l=>M x k [c] σ l) l) σ l:=IH _ _ _ h
  rw [he] at h
  exact .one (f:=fun O=>pure .none) (fun A Q E s h=>Attribute_any_ h (by show (attributeBase a y x.d.env (eval a x.d.env) >>= _)=_;rw [ub hb])) h
 | tX t a b q =>
  intro he h
  have h:pH x (ch p.at 0) (fun l=>LE x.d r fi (eval (ch p.at 1) x.d.env) (fun c l=>M x k [c] σ l) σ l) (fun l=>LE x.d r fi (eval (ch p.at 2) x.d.env) (fun c l=>M x k [c] σ l) σ l) σ l:=IH _ _ _ h
  rw [he] at h
  exact ⟨fun m hm=>.iX (t₁:=isTrue t x.d.env (eval t x.d.env)) (f:=fun c=>if c then eval a x.d.env else eval b x.d.env) (fun A Q E s h=>IfExp_ (wpAny_mono h (fun c s h=>by cases c<;>exact h) fun O O x=>x)) ((h m hm).mono fun c m' l p=>by
   induction p with
   | t h=>exact h.run m hm
   | f h=>exact h.run m hm)⟩
 | bp f q args q2 hst =>
  intro he h
  have h:wZ x f (fun g=>G (.a p 1 args.length [] (.call g [] k)) σ l) (fun c=>G (.a p 1 args.length [] (.loc c k)) σ l) σ l:=h
  exact ru ev (pe:=p) (part_of fun q=>by show ch p.at (1+q)=_;rw [he,Nat.add_comm];rfl) hst h (fun g O h=>IH _ _ _ h) fun c h=>IH _ _ _ h
 | gX y o ap args q2 hc =>
  intro he h
  have hp:Part p 1 args.length args:=part_of fun q=>by show ch p.at (1+q)=_;rw [he,Nat.add_comm];rfl
  have h:LE x.d r fi (eval (ch (ch p.at 0) 0) x.d.env) (fun c l=>M x (.iJ y args.length p k) [c] σ l) σ l:=IH _ _ _ h
  rw [he] at h
  have c3':=bA (bA hc).1
  have c2:=(Bool.not_eq_true' _).mp (bA c3'.1).2
  exact ⟨fun m hm=>.rU (f:=fun (_:Value) (fx:Value × List Value)=>callWith _ fx.1 fx.2 (backTo _ (starEach args x.d.env)) []) (fun O O O O h=>MethodCall_ h (sG ((bA c3'.1).1) c2 (of_decide_eq_true c3'.2) ((bA hc).2))) ((h.run m hm).pv fun c v l hc k=>k args hp c2 v m _ _ hc hm)⟩
 | tup xs k' q hst =>
  intro he h
  have h:=IH _ _ _ h xs (part_of fun q=>by show ch p.at (0+q)=_;rw [he,Nat.zero_add];rfl) hst
  exact ⟨fun m hm=>.iX (fun O O O O h=>Tuple_ h) ((h m _ hm).mono fun vs m' l p=>by cases p with | mk cs e is' k=>subst e;exact LN.run k.2 _ _ is')⟩
 | list xs q hst =>
  intro he h
  have h:=IH _ _ _ h xs (part_of fun q=>by show ch p.at (0+q)=_;rw [he,Nat.zero_add];rfl) hst
  exact ⟨fun m hm=>.iX (fun O O O O h=>List_ h) ((h m _ hm).mono fun vs m' l p=>by cases p with | mk cs e is' k=>subst e;exact LN.run k.2 _ _ is')⟩
 | bo=>exact le
 | fj=>exact le
 | other=>exact le
end
end
section
theorem lP{M:Model}{A:Around}{E:Value→Shared→Prop}{s:Shared}{env:Env}{x:Sem Value}{Q:Flow→Shared→Prop}(hh:A.handled=none)
  (h:wpAny M A x (xM E) E s):wpAny M A (raiseStmt env (some x) none) Q E s:=by
 unfold raiseStmt
 refine wpAny_bind (wpAny_mono h (fun v s₁ h₁=>?_) fun O O x=>x)
 obtain (⟨C,nm,q,N,bs,bm,hdct,sn,sub,ab,col,dd,k0,k1,k2,k3,k5,hbase,e,⟨oc,od,oda,osl⟩,a0,rfl,hC,he,hcl,hda,hE⟩):=h₁
 have hcB:(Value.ref C::bm).contains (.type "BaseException")=true:=by rw [List.contains_cons,hbase,Bool.or_true]
 dsimp only at hcl hda
 subst hcl hda
 obtain (⟨hp,g,d,tk,os⟩):=s₁
 repeat (first | with_reducible refine wpAny_loadPart_at he ?_ | with_reducible refine wpAny_loadPart_at hC ?_ | (with_reducible refine wpAny_isSubtype_exc hC ?_;rw [hcB]) | wp_step)
 exact wpAny_raiseNew_none hh hE
section
variable {fi:Fi}{r:Nat}{x:Cx fi r}{G:Tk→Sl→Led→Prop}{σ:Sl}{l:Led}
theorem td(ev:Ev x.d fi x.cs)(IH:∀ tk σ l,G tk σ l→c6 x tk σ l){p:Pe}{T F:Kt}:∀ {e:Ex} {v:VE},aF e v→p.at=e→v9 G p T F σ l v→pH x e (fun l=>M x T [] σ l) (fun l=>M x F [] σ l) σ l:=by
 intro e v sp
 have pl:∀ {e:Ex},p.at=e→isTrue e x.d.env (eval e x.d.env)=(do let v ← eval e x.d.env;standAt e.pos;holding [v] (truthy v))→G (.e p (.r7 T F)) σ l→pH x e (fun l=>M x T [] σ l) (fun l=>M x F [] σ l) σ l:=fun q he h=>by subst q;exact pY he (IH _ _ _ h)
 induction sp with
 | un op a q =>
  intro he h
  induction op with
  | Not =>
   have h:pH x (ch p.at 0) (fun l=>M x F [] σ l) (fun l=>M x T [] σ l) σ l:=IH _ _ _ h
   rw [he] at h
   exact fun m hm=>.map (f:=fun b=>!b) (fun O O O O O h=>isTrue_not h) ((h m hm).mono fun b m' l p=>by
    induction p with
    | t h=>exact .f h
    | f h=>exact .t h)
  | _=>exact h.elim
 | bo op xs q =>
  intro he h
  have h:=IH _ _ _ h xs (part_of fun q=>by show ch p.at (0+q)=_;rw [he,Nat.zero_add];rfl)
  exact fun m hm=>h q _ m hm
 | cmp op a b q hb =>
  intro he h
  have h:LE x.d r fi (eval (ch p.at 0) x.d.env) (fun c l=>LE x.d r fi (eval (ch p.at 1) x.d.env) (fun c' l=>LN x.d r (br op) [c,c'] (fun c l=>∀ m v,CV.Is c v→Ok x.d r (truthy v) (PT (fun l=>M x T [] σ l) (fun l=>M x F [] σ l) m) m l) l) σ l) σ l:=IH _ _ _ h
  rw [he] at h
  exact fun m hm=>.uk (t₃:=fun a b=>compareOp op a b) (fun O O O O h=>wpAny_isTrue_Compare1 h hb) ((h.run m hm).pv fun c v l hc h=>(h.run m hm).pv fun c' w l hc' h=>(h.ux hc hc').pv fun c z l hz h=>h m z hz)
 | fj op op2 a b b2 q hb =>
  intro he h
  have h:LE x.d r fi (eval (ch p.at 0) x.d.env) (fun c l=>∀ v m pos,CV.Is c v→bL fi.ns σ m→Ok x.d r (testChain pos v [op,op2] [eval (ch p.at 1) x.d.env,eval (ch p.at 2) x.d.env]) (PT (fun l=>M x T [] σ l) (fun l=>M x F [] σ l) m) m l) σ l:=IH _ _ _ h
  rw [he] at h
  exact fun m hm=>.iX (fun O O O O h=>isTrue_chain h hb) ((h.run m hm).pv fun c v l hc h=>h v m q hc hm)
 | tX=>exact fun _ h=>h.elim
 | other=>exact fun _ h=>h.elim
 | _=>exact fun he h=>pl he rfl h
theorem uP(IH:∀ tk σ l,G tk σ l→c6 x tk σ l){p:Pe}{j n:Nat}{T F:Kt}{op:BoolOp}(h:yf x G p j T F σ l op n):c6 x (.b op p j n T F) σ l:=by
 intro xs hp pos w m hm
 induction n with
 | zero =>
  induction xs with
  | cons _ _=>cases hp.1
  | nil =>
   induction op with
   | And=>exact ⟨fun A E g s n=>isTrue_and_nil (n.ok (.t (gN IH h)))⟩
   | Or=>exact ⟨fun A E g s n=>isTrue_or_nil (n.ok (.f (gN IH h)))⟩
 | succ n =>
  obtain ⟨y,ys,rfl,ey,hp'⟩:=iG hp
  induction op with
  | And =>
   have h:pH x (p.c j).at (fun l=>c6 x (.b .And p (j+1) n T F) σ l) (fun l=>M x F [] σ l) σ l:=IH _ _ _ h
   rw [ey] at h
   exact ⟨fun A E g s n=>isTrue_and (wpAny_mono ((h m hm).run A E g s n) (fun c s' p=>by
    induction p with | mk g' m' l' e a k=>cases k with
     | t h=>exact wpAny_mono ((h ys hp' pos w m hm).run A E g' s' (n.next e a)) (fun O O p=>p.then e) fun O O x=>x
     | f h=>exact ⟨g',_,_,e,a,.f h⟩) fun O O x=>x)⟩
  | Or =>
   have h:pH x (p.c j).at (fun l=>M x T [] σ l) (fun l=>c6 x (.b .Or p (j+1) n T F) σ l) σ l:=IH _ _ _ h
   rw [ey] at h
   exact ⟨fun A E g s n=>isTrue_or (wpAny_mono ((h m hm).run A E g s n) (fun c s' p=>by
    induction p with | mk g' m' l' e a k=>cases k with
     | t h=>exact ⟨g',_,_,e,a,.t h⟩
     | f h=>exact wpAny_mono ((h ys hp' pos w m hm).run A E g' s' (n.next e a)) (fun O O p=>p.then e) fun O O x=>x) fun O O x=>x)⟩
theorem tA(IH:∀ tk σ l,G tk σ l→c6 x tk σ l){p:Pe}{j n:Nat}{acc:List CV}{k:Kt}(h:step x G (.a p j n acc k) σ l):c6 x (.a p j n acc k) σ l:=by
 intro xs hp hst m pos hm
 cases n with
 | zero =>
  cases xs with
  | cons _ _=>cases hp.1
  | nil=>exact ⟨fun A E g s n=>args_nil (n.ok ⟨[],.refl _,.nil,.refl _,by show M x k (acc++[]) σ l;rw [List.append_nil];exact uQ IH h⟩)⟩
 | succ n =>
  obtain (⟨y,ys,rfl,ey,hp'⟩):=iG hp
  rw [List.any_cons,Bool.or_eq_false_iff] at hst
  have h:LE x.d r fi (eval (p.c j).at x.d.env) (fun c l=>LA x p (j+1) n (fun cs l=>M x k (acc++[c]++cs) σ l) σ l) σ l:=IH _ _ _ h
  rw [ey] at h
  exact ⟨fun A E g s n=>args_cons (wpAny_mono ((h.run m hm).run A E g s n) (fun v s₁ p=>by
   induction p with | mk g' m' l' e a k=>cases k with | mk c em hc k =>
    subst em
    exact wpAny_mono ((k ys hp' hst.2 m' pos hm).run A E g' s₁ (n.next e a)) (fun vs s₂ p=>by
     induction p with | mk g2 m2 l2 e2 a2 p=>cases p with | mk cs em is k =>
      exact ⟨g2,m2,l2,e.trans e2,a2,c::cs,em,.cons hc is,congrArg (·+1) k.1,by have:=k.2;show M x _ (acc++c::cs) σ l2;rw [List.append_cons];exact this⟩) fun O O x=>x) fun O O x=>x) (fS hst.1 _ _)⟩
theorem tw(IH:∀ tk σ l,G tk σ l→c6 x tk σ l){p:Pe}{j:Nat}{acc:List CV}{k:Kt}(h:step x G (.l p j acc k) σ l):c6 x (.l p j acc k) σ l:=by
 induction j with
 | zero=>exact bX.mono (K:=fun c l=>G (.v c k) σ l) h fun c l h=>IH _ _ _ h
 | succ j =>
  have h:yd G p j acc k σ l (jB (p.c 1).at (2 - j)):=h
  show LE x.d r fi (bT (p.c 1).at x.d.env (2 - j)) (fun c l=>vo x p j (acc++[c]) (fun c l=>M x k [c] σ l) σ l) σ l
  unfold bT
  unfold jB at h
  cases hp:kh (p.c 1).at (2 - j) with
  | some z =>
   rw [hp] at h
   have h:LE x.d r fi (eval (ch (p.c 1).at (2 - j)) x.d.env) (fun c l=>vo x p j (acc++[c]) (fun c l=>M x k [c] σ l) σ l) σ l:=IH _ _ _ h
   have ez:ch (p.c 1).at (2 - j)=z:=by
    revert hp;generalize (p.c 1).at=e;intro hp
    cases e with
    | Slice a b c q=>show (kh (.Slice a b c q) (2 - j)).getD eY=z;rw [hp];rfl
    | _=>cases hp
   rw [ez] at h;exact h
  | none=>rw [hp] at h;exact ⟨fun m hm=>.pure ⟨_,.refl _,.v _,IH _ _ _ h⟩⟩
theorem qQ(IH:∀ tk σ l,G tk σ l→c6 x tk σ l){S:Kt}(h:qR x G σ l S):M x S [] σ l:=by
 induction S with
 | nil=>exact h
 | out=>exact h
 | c b i S=>exact IH _ _ _ h
 | _=>exact h.elim
noncomputable abbrev Fl(x:Cx fi r)(P:Sl→Led→Prop)(t:Sem Flow)(σ:Sl)(l:Led):Prop:=LS x.d r fi t (fun o σ l=>match o with | none=>P σ l | some c=>x.P (some c) σ l) σ l
theorem stored{t:Sem Unit}{P:Sl→Led→Prop}{m:Mp}{l:Led}(h:Ok x.d r t (fun O m' l'=>∃ σ',bL fi.ns σ' m'∧P σ' l') m l):Ok x.d r t (fun O m l=>PS fi.ns (fun o σ l=>match o with | none=>P σ l | some c=>x.P (some c) σ l) .next m l) m l :=
 h.mono fun O m l p=>by obtain (⟨σ',hm,k⟩):=p;exact .next σ' hm k
theorem pV{h:Heap}{a:Addr}{o:Obj}{vs:List Value}(e:h.get? a=some o)(ho:o=fG vs∨∃ n,o=W.listOf (List.toArray vs) n):IsTup h a vs.toArray∨h.IsList a vs.toArray:=by
 rcases ho with rfl | ⟨n,rfl⟩
 ·exact .inl ⟨_,e,rfl,_,rfl⟩
 ·exact .inr ⟨_,e,rfl,_,rfl⟩
theorem pR{o:Obj}{ts:List Ex}{ids:List Str}{k:Nat}{tp:Pos}{e:Ex}{mm:Option Nat}{tg:List jS}{P:Sl→Led→Prop}{a:Addr}{vs:List Value}{cv:List CV}{m:Mp}{l l₁:Led}(le:l.le l₁)(ev:Ev x.d fi x.cs)(hid:bj ts=some ids)(hnd:ids.Nodup)(hsw:j1 ts.length e=(true,mm))(hj:dh fi x.cs ids=some tg)
  (hm':l₁ a=some o) (ho:o=fG vs∨∃ n,o=W.listOf (List.toArray vs) n) (hl:vs.length=ids.length) (is:ar cv vs) (hm:bL fi.ns σ m) (g:cT tg cv P σ l) :
  Ok x.d r (do let q ← swappedStores [.Tuple ts k tp] e x.d.env;assignStores x.d.env (.ref a) q ((assignEach [.Tuple ts k tp] x.d.env).map (·.2))) (PS fi.ns (fun o σ l=>match o with | none=>P σ l | some c=>x.P (some c) σ l)) m l₁:=by
 obtain ⟨t1,t2,t3⟩:=j3 (d:=x.d) hid
 have ht:∀ {g:Heap} {s:Shared} {m:Mp},At x.d g s.heap m l₁→IsTup s.heap a vs.toArray∨s.heap.IsList a vs.toArray:=fun a'=>pV (a'.get hm') ho
 rcases qc (k:=k) (tp:=tp) (env:=x.d.env) hid hsw with q | ⟨q,hloc⟩<;>rw [q]<;>refine .bind (.pure ?_)
 ·refine .map (f:=fun O=>.next) (t₁:=assign (.Tuple ts k tp) x.d.env (.ref a)) (fun O O O O O h=>wpAny_bind (wpAny_mono h (fun O O h=>wpAny_pure h) fun O O x=>x)) (stored ⟨fun A E g₀ s n=>?_⟩)
  obtain ⟨mo,news,F,N,_,st,_⟩:=n.a.led
  have fin:∀ h',Fr _ _ h' mo→News _ _ h' news→wpAny _ A (assignInOrder ((assignEach ts x.d.env).map (·.2)) vs.toArray.toList) (aO x.d g₀ (fun O m' l'=>∃ σ',bL fi.ns σ' m'∧P σ' l') s) E {s with heap:=h'}:=fun h' F' N' =>
   wpAny_mono ((mU ev t1 hj is g hm).run A E g₀ {s with heap:=h'} (n.next (.of (t:=s.toks)) ((st h' F' N').sub le))) (fun O O p=>p.then .of) fun O O x=>x
  exact (ht n.a).elim (fun ht=>unpackN_ F N ht n.R.hd (by rw [t2,List.size_toArray,hl]) t3 fin) fun ht=>kun_list F N ht n.R.hd (by rw [t2,List.size_toArray,hl]) t3 fin
 ·refine .map (f:=fun O=>.next) (t₁:=(do let items ← unpackItems (.ref a) ids.length none;assignInOrder (ids.reverse.map fun n=>bindName x.d.env n) items.reverse)) (fun O A Q E s h=>?_) (stored ?_)
  ·show wpAny _ A (do rule "assign.swapped-stores";let items ← unpackItems (.ref a) ids.length none;assignInOrder (ids.reverse.map fun n=>bindName x.d.env n) items.reverse;pure .next) Q E s
   refine wpAny_bind (wpAny_rule (fun Γ p hΓ=>?_))
   have:=h Γ p hΓ
   simp only [Sem.wp_bind',Sem.wp_pure'] at this ⊢
   exact this
  ·refine .bind ⟨fun A E g₀ s n=>?_⟩
   obtain ⟨mo,news,F,N,_,st,_⟩:=n.a.led
   suffices fin:∀ h',Fr _ _ h' mo→News _ _ h' news→aO x.d g₀ _ s vs.toArray.toList {s with heap:=h'} from (ht n.a).elim (fun ht=>unpackItemsN_ F N ht n.R.hd (by rw [List.size_toArray,hl]) fin) fun ht=>kun_items F N ht n.R.hd (by rw [List.size_toArray,hl]) fin
   refine fun h' F' N'=>⟨g₀,m,l,.of (t:=s.toks),(st h' F' N').sub le,?_⟩
   obtain ⟨σ',k',hm2⟩:=qg ev hj hloc is g hm
   exact oa (K:=fun O m l=>∃ σ',bL fi.ns σ' m∧P σ' l) (rQ.bind ids.reverse) (vs:=vs.reverse) (by simpa using hl) (fun y hy=>hloc y (List.mem_reverse.mp hy)) ⟨σ',by rw [rT hl.symm,pQ (by rw [List.map_fst_zip (by omega)];exact hnd)];exact hm2,k'⟩
set_option tactic.hygienic true in
set_option backward.match.sparseCases false in
theorem cH{α β:Type}{M:Model}{A:Around}{t:Sem α}{f:α→β}{Q:β→Shared→Prop}{E:Value→Shared→Prop}{s:Shared}(h:wpAny M A (do let z ← t;Pure.pure (f z)) Q E s):wpAny M A t (fun z s=>Q (f z) s) E s:=fun Γ p hΓ=>by
 have:=h Γ p hΓ
 simp only [Sem.wp_bind',Sem.wp_pure'] at this
 exact this
theorem Ok.nx{α:Type}{d:Dy}{m:Mp}{t:Sem α}{K:Flow→Mp→Led→Prop}(h:Ok d r t (fun _ m l=>K .next m l) m l):Ok d r (do let _ ← t;Pure.pure .next) K m l:=.map (f:=fun _=>.next) (fun _ _ _ _ _ h=>wpAny_bind (wpAny_mono h (fun _ _ h=>wpAny_pure h) fun _ _ x=>x)) h
theorem iE{b:Bk}{i:Nat}{st:Stmt}(hb:b.at[i]?=some st):b.at.getD i (.Pass ⟨0,0,0,0⟩)=st:=by rw [List.getD_eq_getElem?_getD,hb];rfl
theorem aH{b:Bk}{i:Nat}{st:Stmt}(hb:b.at[i]?=some st):(Pe.v b i).at=valOf st:=congrArg valOf (iE hb)
theorem iQ{b:Bk}{i:Nat}{st:Stmt}(hb:b.at[i]?=some st):(Pe.g b i).at=fW st:=congrArg fW (iE hb)
theorem qP{b:Bk}{i:Nat}{st:Stmt}{S:Kt}{y:Str}{P:Prop}(h:wa x G b i st S σ l (.kY y))(k1:∀ a,aI fi x.cs y=some (.c a)→G (.e (.v b i) (.set (.c a) b (i+1) S)) σ l→P)
  (k2:LS x.d r fi (exec (b.at.getD i (.Pass ⟨0,0,0,0⟩)) x.d.env) (fun o σ l=>(match o with | none=>G (.s b (i+1) S) σ l | some c=>x.P (some c) σ l)) σ l→P):P:=by
 unfold wa at h
 dsimp only at h
 split at h
 ·exact k1 _ ‹_› h
 ·exact k2 h
theorem uM(ev:Ev x.d fi x.cs)(IH:∀ tk σ l,G tk σ l→c6 x tk σ l){b:Bk}{i:Nat}{S:Kt}:∀ {st:Stmt} {v:w9},aX st v→b.at[i]?=some st→wa x G b i st S σ l v→Fl x (fun σ l=>Rest x (fun σ l=>M x S [] σ l) b (i+1) σ l) (exec st x.d.env) σ l:=by
 intro st v sp
 induction sp with
 | asg y p e q hp =>
  intro hb h
  have aH:(Pe.v b i).at=e:=aH hb
  have h:(match aI fi x.cs y with | some t=>G (.e (.v b i) (.set t b (i+1) S)) σ l | none=>False):=h
  refine aJ (aI fi x.cs y) (fun ht=>?_) (fun t ht=>?_)
  ·rw [ht] at h;exact h.elim
  ·rw [ht] at h
   have h:LE x.d r fi (eval (Pe.v b i).at x.d.env) (fun c l=>c5 σ l c (fun σ l=>Rest x (fun σ l=>M x S [] σ l) b (i+1) σ l) t) σ l:=IH _ _ _ h
   rw [aH] at h
   exact ⟨fun m hm=>.iX (f:=fun v=>do storeName x.d.env y v;pure .next) (fun A Q E s h=>wpAny_Assign_Name (wpAny_mono h (fun _ _ h=>cH h) fun O O x=>x) (bY hp))
    ((h.run m hm).pv fun c v l hc k=>.nx (stored (d5 ev ht k hm hc)))⟩
 | pA ids mm ts k tp e q hid hp hnd hsw =>
  intro hb h
  have rule:∀ {P:Sl→Led→Prop},LE x.d r fi (eval e x.d.env) (fun c l=>∀ m v,CV.Is c v→bL fi.ns σ m→Ok x.d r (do let q ← swappedStores [.Tuple ts k tp] e x.d.env;assignStores x.d.env v q ((assignEach [.Tuple ts k tp] x.d.env).map (·.2))) (PS fi.ns (fun o σ l=>match o with | none=>P σ l | some c=>x.P (some c) σ l)) m l) σ l→Fl x P (exec (.Assign [.Tuple ts k tp] e q) x.d.env) σ l:=by
   intro P h
   refine ⟨fun m hm=>.iX (t₁:=eval e x.d.env) (f:=fun v=>do let q ← swappedStores [.Tuple ts k tp] e x.d.env;assignStores x.d.env v q ((assignEach [.Tuple ts k tp] x.d.env).map (·.2))) (fun A Q E s h=>?_) ((h.run m hm).pv fun c v l hc k=>k m v hc hm)⟩
   rw [exec_Assign]
   refine wpAny_bind (wpAny_standAt ?_)
   show wpAny _ A (swapsWith e (some (.Tuple ts k tp)) q.line x.d.env >>= _) Q E s
   rw [bY hp]
   refine wpAny_bind (wpAny_pure ?_)
   rw [if_neg (by decide)]
   exact wpAny_bind h
  replace h:yc G b i S σ l mm (dh fi x.cs ids):=h
  have tl:∀ {ids:List Str} {tg},dh fi x.cs ids=some tg→tg.length=ids.length:=by
   intro ids
   induction ids with
   | nil=>intro tg h;cases h;rfl
   | cons y r ih =>
    intro tg h
    have h:(match aI fi x.cs y with | some j=>(match dh fi x.cs r with | some js=>some (j::js) | none=>none) | none=>none)=some tg:=h
    refine aJ (aI fi x.cs y) (fun h1=>?_) (fun j h1=>?_)
    ·rw [h1] at h;cases h
    ·rw [h1] at h;dsimp only at h
     refine aJ (dh fi x.cs r) (fun h2=>?_) (fun js h2=>?_)
     ·rw [h2] at h;cases h
     ·rw [h2] at h;cases h;rw [List.length_cons,List.length_cons,ih h2]
  refine aJ (dh fi x.cs ids) (fun hj=>?_) (fun tg hj=>?_)
  ·rw [hj] at h;cases mm<;>exact h.elim
  ·rw [hj] at h
   have e':(Pe.v b i).at=e:=aH hb
   induction mm with
   | none =>
    have h:LE x.d r fi (eval (Pe.v b i).at x.d.env) (fun c l=>bh c l tg.length fun cs=>cT tg cs (fun σ l=>Rest x (fun σ l=>M x S [] σ l) b (i+1) σ l) σ l) σ l:=IH _ _ _ h
    rw [e'] at h
    exact rule (h.mono fun c l k m v hc hm=>by
     induction k with | mk a vs cv o ec hm' ho hl is g=>subst ec;cases hc;exact pR .rfl ev hid hnd hsw hj hm' ho (hl.trans (tl hj)) is hm g)
   | some mm =>
    cases e with
    | Tuple vs k2 p2 =>
     have hst:vs.any isStar=false∧vs.length=mm∧ts.length=mm∧ts.length≤99:=by
      have h1:(!(vs.any isStar)&&(vs.all (foldedForSure 8)||!(vs.all (constantsAlone 8)))&&decide (ts.length≤99))=true:=congrArg Prod.fst hsw
      have h2:(if vs.length=ts.length then some ts.length else none)=some mm:=congrArg Prod.snd hsw
      simp only [Bool.and_eq_true,Bool.not_eq_true',decide_eq_true_eq] at h1
      split at h2
      ·rename_i q;cases h2;exact ⟨h1.1.1,q,rfl,h1.2⟩
      ·cases h2
     obtain (⟨st1,st2,st3,st4⟩):=hst
     subst st2
     have h:=IH _ _ _ h vs (part_of fun q=>by show ch (Pe.v b i).at (0+q)=_;rw [e',Nat.zero_add];rfl) st1
     refine rule ⟨fun m hm=>.iX (fun O O O O h=>Tuple_ h) ((h m p2 hm).mono fun us m' l p=>?_)⟩
     induction p with
     | mk cs em is g =>
      subst em
      have g:cs.length=vs.length∧cT tg cs (fun σ l=>Rest x (fun σ l=>M x S [] σ l) b (i+1) σ l) σ l:=g
      have hl:us.length=ids.length:=by
       rw [is.len,g.1,← jA hid,st3]
      refine ⟨fun A E g₀ s n=>?_⟩
      obtain (⟨mo,news,F,N,_,_,nw,_⟩):=n.a.led
      refine newTuple_N F N (fun h' F' N'=>?_) (by rw [PySem.sizeLine_eq,hl,← jA hid];omega)
      obtain (⟨hD,a'⟩):=nw h' _ _ F' N' (du N)
      refine ⟨g₀,m',_,.of (t:=s.toks),a',.v (.ref s.heap.objs.size),.refl _,.v _,fun m v hc hm=>?_⟩
      cases hc
      exact pR (.new hD) ev hid hnd hsw hj Led.hit (.inl rfl) hl is hm g.2
    | _=>cases hsw
 | kY y p e q =>
  intro hb h
  have aH:(Pe.v b i).at=e:=aH hb
  refine qP h (fun a ht h=>?_) fun h=>?_
  ·have h:LE x.d r fi (eval (Pe.v b i).at x.d.env) (fun c l=>c5 σ l c (fun σ l=>Rest x (fun σ l=>M x S [] σ l) b (i+1) σ l) (.c a)) σ l:=IH _ _ _ h
   rw [aH] at h
   have hk:x.d.env.kindOf y=some .cell:=by
    unfold aI at ht
    cases hx:slot fi.ns y with
    | some j=>rw [hx] at ht;cases ht
    | none =>
     rw [hx] at ht
     refine aJ (slot fi.cn y) (fun hy=>?_) (fun j hy=>?_)
     ·rw [hy] at ht;cases ht
     ·rw [hy] at ht;dsimp only at ht
      refine aJ (x.cs[j]?) (fun hz=>?_) (fun a' hz=>?_)
      ·rw [hz] at ht;cases ht
      ·exact (ev.own y j a' hy hz).1
   exact ⟨fun m hm=>.iX (f:=fun v=>do storeName x.d.env y v;pure .next) (fun A Q E s h=>wpAny_Assign_Name (wpAny_mono h (fun _ _ h=>cH h) fun O O x=>x) (lG hk))
    ((h.run m hm).pv fun c v l hc k=>.nx (stored (d5 ev ht k hm hc)))⟩
  ·rw [iE hb] at h
   refine LS.mono (K:=fun o σ l=>match o with | none=>G (.s b (i+1) S) σ l | some c=>x.P (some c) σ l) h fun o σ l h=>?_
   induction o with
   | none=>exact IH _ _ _ h
   | some c=>exact h
 | pg o i' p e q =>
  intro hb h
  have aH:(Pe.v b i).at=e:=aH hb
  have iQ:(Pe.g b i).at=.Subscript o i' p:=iQ hb
  have h:LE x.d r fi (eval (Pe.v b i).at x.d.env) (fun c l=>LE x.d r fi (eval (ch (Pe.g b i).at 0) x.d.env) (fun u l=>LE x.d r fi (eval (ch (Pe.g b i).at 1) x.d.env) (fun w l=>LU x.d r fX [u,w,c] (fun l=>Rest x (fun σ l=>M x S [] σ l) b (i+1) σ l) l) σ l) σ l) σ l:=IH _ _ _ h
  rw [aH,iQ] at h
  exact ⟨fun m hm=>.uk (f:=fun v a i=>do setItem a i v;pure .next) (fun A Q E s h=>wpAny_Assign_Subscript (wpAny_mono h (fun v s h=>wpAny_mono h (fun a s h=>wpAny_mono h (fun _ _ h=>cH h) fun O O x=>x) fun O O x=>x) fun O O x=>x) nY)
   ((h.run m hm).pv fun c v l hc h=>(h.run m hm).pv fun u a l hu h=>(h.run m hm).pv fun w z l hw h=>.nx (t:=setItem a z v) ((h.run [a,z,v] m (.cons hu (.cons hw (.cons hc .nil)))).mono fun O m' l p=>by obtain (⟨e,k⟩):=p;subst e;exact .next σ hm k))⟩
 | mD y o p e q hp =>
  intro hb h
  have aH:(Pe.v b i).at=e:=aH hb
  have iQ:(Pe.g b i).at=.Attribute o y p:=iQ hb
  have h:LE x.d r fi (eval (Pe.v b i).at x.d.env) (fun c l=>LE x.d r fi (eval (ch (Pe.g b i).at 0) x.d.env) (fun u l=>LU x.d r (iD y) [u,c] (fun l=>Rest x (fun σ l=>M x S [] σ l) b (i+1) σ l) l) σ l) σ l:=IH _ _ _ h
  rw [aH,iQ] at h
  exact ⟨fun m hm=>.rU (f:=fun v a=>do setAttr a y v;pure .next) (fun A Q E s h=>plainObj_wpAny_Assign_Attribute (wpAny_mono h (fun v s h=>wpAny_mono h (fun _ _ h=>cH h) fun O O x=>x) fun O O x=>x) (bY hp))
   ((h.run m hm).pv fun c v l hc h=>(h.run m hm).pv fun u a l hu h=>.nx (t:=setAttr a y v) ((h.run [a,v] m (.cons hu (.cons hc .nil))).mono fun O m' l p=>by obtain (⟨e,k⟩):=p;subst e;exact .next σ hm k))⟩
 | aug y op p e q =>
  intro hb h
  have aH:(Pe.v b i).at=e:=aH hb
  have h:(match slot fi.ns y with | some j=>(match σ.get j with | some u=>G (.e (.v b i) (.aug (.s j) op u b (i+1) S)) σ l | none=>False) | none=>False):=h
  refine aJ (slot fi.ns y) (fun hx=>?_) (fun j hx=>?_)
  ·rw [hx] at h;exact h.elim
  ·rw [hx] at h;dsimp only at h
   refine aJ (σ.get j) (fun hu=>?_) (fun u hu=>?_)
   ·rw [hu] at h;exact h.elim
   ·rw [hu] at h
    have h:LE x.d r fi (eval (Pe.v b i).at x.d.env) (fun c l=>LN x.d r (vw op) [u,c] (fun c l=>c5 σ l c (fun σ l=>Rest x (fun σ l=>M x S [] σ l) b (i+1) σ l) (.s j)) l) σ l:=IH _ _ _ h
    rw [aH] at h
    refine ⟨fun m hm=>?_⟩
    obtain (⟨v,qv,hv⟩):=hm y j u hx hu
    refine .uk (t₁:=loadName x.d.env y) (t₃:=fun old v=>inplaceOp op old v) (f:=fun O O z=>do storeName x.d.env y z;pure .next) (fun A Q E s h=>wpAny_AugAssign_Name (wpAny_mono h (fun v s h=>wpAny_mono h (fun a s h=>wpAny_mono h (fun _ _ h=>cH h) fun O O x=>x) fun O O x=>x) fun O O x=>x))
     (.quiet fun A E g s Q n kk=>wpAny_loadName_local n.G.hk (ev.loc y j hx).1 (n.a.ns n.G) qv (kk v s.toks ?_))
    exact (h.run m hm).pv fun c z l hc k=>(k.ux hv hc).pv fun c z l hc k=>.nx (stored (d5 ev (by unfold aI;rw [hx]) k hm hc))
 | ret e q =>
  intro hb h
  have aH:(Pe.v b i).at=e:=aH hb
  have h:LE x.d r fi (eval (Pe.v b i).at x.d.env) (fun c l=>x.P (some c) σ l) σ l:=IH _ _ _ h
  rw [aH] at h
  exact ⟨fun m hm=>.map (f:=fun v=>.ret v) (fun O O O O O h=>wpAny_Return_some h) ((h.run m hm).pv fun c v l hc k=>PS.ret (K:=fun o σ l=>match o with | none=>Rest x (fun σ l=>M x S [] σ l) b (i+1) σ l | some c=>x.P (some c) σ l) σ c hm hc k)⟩
 | expr e q hp =>
  intro hb h
  have aH:(Pe.v b i).at=e:=aH hb
  have h:LE x.d r fi (eval (Pe.v b i).at x.d.env) (fun c l=>Rest x (fun σ l=>M x S [] σ l) b (i+1) σ l) σ l:=IH _ _ _ h
  rw [aH] at h
  exact ⟨fun m hm=>.map (f:=fun O=>.next) (fun G O O O O h=>wpAny_Expr_any h (by unfold interactive;rw [G.hk];rfl) (bY hp)) ((h.run m hm).pv fun c v l hc k=>.next σ hm k)⟩
 | raise e q =>
  intro hb h
  have aH:(Pe.v b i).at=e:=aH hb
  have h:LE x.d r fi (eval (Pe.v b i).at x.d.env) (fun c l=>pw x.d l c) σ l:=IH _ _ _ h
  rw [aH] at h
  refine ⟨fun m hm=>⟨fun A E g s n=>?_⟩⟩
  rw [arm_exec_Raise]
  rewrite [show evalOpt (some e) x.d.env=some (eval e x.d.env) from rfl]
  dsimp only [Option.map]
  refine wpAny_bind (wpAny_standAt ?_)
  refine lP n.R.hd (wpAny_bind (wpAny_mono ((h.run m hm).run A E g s n) (fun v s₁ p=>?_) fun O O x=>x))
  induction p with | mk g' m' l' e' a k=>cases k with | mk c em hc k=>exact wpAny_bind (wpAny_standAt (wpAny_pure (qm (n.next e' a) k hc)))
 | vj t a b' q =>
  intro hb h
  have aH:(Pe.v b i).at=t:=aH hb
  have h:pH x (Pe.v b i).at (fun l=>Rest x (fun σ l=>M x (.c b (i+1) S) [] σ l) (.t b i) 0 σ l) (fun l=>Rest x (fun σ l=>M x (.c b (i+1) S) [] σ l) (.e b i) 0 σ l) σ l:=IH _ _ _ h
  have e1:(Bk.t b i).at=a:=by show fV (b.at.getD i _)=a;rw [iE hb];rfl
  have e2:(Bk.e b i).at=b':=by show mu (b.at.getD i _)=b';rw [iE hb];rfl
  rw [aH] at h
  exact ⟨fun m hm=>.iX (t₁:=isTrue t x.d.env (eval t x.d.env)) (f:=fun c=>if c then execs a x.d.env else execs b' x.d.env) (fun A Q E s h=>wpAny_If (wpAny_mono h (fun c s h=>by cases c<;>exact h) fun O O x=>x)) ((h m hm).mono fun c m' l p=>by
   induction p with
   | t h=>have:=h.run m hm;rw [e1,List.drop_zero] at this;exact this
   | f h=>have:=h.run m hm;rw [e2,List.drop_zero] at this;exact this)⟩
 | other =>
  intro hb h
  have h:LS x.d r fi (exec (b.at.getD i (.Pass ⟨0,0,0,0⟩)) x.d.env) (fun o σ l=>(match o with | none=>G (.s b (i+1) S) σ l | some c=>x.P (some c) σ l)) σ l:=h
  rw [iE hb] at h
  refine LS.mono (K:=fun o σ l=>match o with | none=>G (.s b (i+1) S) σ l | some c=>x.P (some c) σ l) h fun o σ l h=>?_
  induction o with
  | none=>exact IH _ _ _ h
  | some c=>exact h
theorem sf(ev:Ev x.d fi x.cs)(IH:∀ tk σ l,G tk σ l→c6 x tk σ l):∀ tk σ l,step x G tk σ l→c6 x tk σ l:=by
 intro tk σ l h
 induction tk with
 | e p k=>exact uO ev IH (iz _) rfl h
 | v c k=>exact uL IH h
 | t p T F=>exact td ev IH (iz _) rfl h
 | b op p j n T F=>exact uP IH h
 | a p j n acc k=>exact tA IH h
 | l p j acc k=>exact tw IH h
 | s b i S =>
  have h:(match b.at[i]? with | none=>qR x G σ l S | some st=>wa x G b i st S σ l (pM st)):=h
  refine aJ (b.at[i]?) (fun hb=>?_) (fun st hb=>?_)
  ·rw [hb] at h
   show Rest x (fun σ l=>M x S [] σ l) b i σ l
   unfold Rest
   rw [List.drop_eq_nil_of_le (List.getElem?_eq_none_iff.mp hb)]
   exact ⟨fun m hm=>⟨fun A E g s n=>wpAny_execs_nil (n.ok (.next σ hm (qQ IH h)))⟩⟩
  ·rw [hb] at h
   show Rest x (fun σ l=>M x S [] σ l) b i σ l
   unfold Rest
   rw [tH hb]
   exact ⟨fun m hm=>⟨fun A E g s n=>wpAny_execs_cons (wpAny_mono (((uM ev IH (lC st) hb h).run m hm).run A E g s n) (fun f s₁ p=>by
    induction p with | mk g' m' l' e a k=>cases k with
     | next σ hm k=>exact wpAny_mono ((LS.run k m' hm).run A E g' s₁ (n.next e a)) (fun O O p=>p.then e) fun O O x=>x
     | ret σ c hm is k=>exact ⟨g',m',l',e,a,.ret σ c hm is k⟩) fun O O x=>x)⟩⟩
theorem cf(ev:Ev x.d fi x.cs):∀ n tk σ l,go x n tk σ l→c6 x tk σ l
 | 0,_,_,_,h=>h.elim
 | n+1,tk,σ,l,h=>sf ev (cf ev n) tk σ l h
end
end
section
noncomputable def gB(P:Params)(p:Str × Value):Bool:=match nsIn (K39 P) mainGlobals p.1 with
 | some (some v)=>v==p.2
 | some none=>bootBuiltins p.1==some p.2&&!(p.1==("__name__":Str))
 | none=>false
theorem wb(P:Params):gT.all (gB P)=true:=by kernel_rfl
set_option tactic.hygienic true in
theorem iO{x:Str}{v:Value}:∀ {gi:List Nat},dN x gi=some v→∃ k∈gi,gT[k]?=some (x,v)
 | k::r,h=>by
  unfold dN at h
  split at h
  ·rename_i p hp
   split at h
   ·rename_i e;cases h;exact ⟨k,.head _,by rw [hp,e]⟩
   ·obtain (⟨k',a,b⟩):=iO h;exact ⟨k',.tail _ a,b⟩
  ·cases h
set_option backward.match.sparseCases false in
noncomputable def cE:Stmt→Scope
 | .FunctionDef _ _ _ _ _ _ sc ..=>sc
 | _=>default
noncomputable def ri:Stmt→Arguments
 | .FunctionDef _ ps ..=>ps
 | _=>default
noncomputable def aD:Stmt→Str
 | .FunctionDef n ..=>n
 | _=>default
noncomputable def qH:Stmt→Bool
 | .FunctionDef ..=>true
 | _=>false
noncomputable def qW(sc:Scope)(fi:Fi):Bool :=
 fi.ns.all (fun x=>sc.names.lookup x==some .local&&!(x==("__debug__":Str))) &&
 fi.gi.all (fun k=>match gT[k]? with | some p=>sc.names.lookup p.1==some .globalImplicit&&!(p.1==("__debug__":Str)) | none=>true) &&
 fi.cn.all (fun x=>sc.names.lookup x==some .cell&&!(x==("__debug__":Str))) &&
 fi.fr.all (fun x=>(sc.names.lookup x==some .free||sc.names.lookup x==some .cell)&&!(x==("__classdict__":Str))&&!(x==("__debug__":Str)))
theorem fB:∀ {L:List (Str × Addr)} {x:Str} {i:Nat} {a:Addr},slot (L.map (·.1)) x=some i→(L.map (·.2))[i]?=some a→L.lookup x=some a:=by
 intro L
 induction L with
 | nil=>intro x i a h;cases h
 | cons p r ih =>
  intro x i a h ha
  rw [List.map_cons] at h ha
  unfold slot at h
  rw [List.lookup_cons]
  by_cases e:x=p.1
  ·rw [if_pos e] at h;cases h;subst e;rw [BEq.rfl];exact ha
  ·rw [if_neg e] at h
   have e':(x==p.1)=false:=by simpa using e
   rw [e']
   refine aJ (slot (r.map (·.1)) x) (fun q=>?_) (fun j q=>?_)
   ·rw [q] at h;cases h
   ·rw [q] at h;cases h;exact ih q ha
theorem qe{x:Str}:∀ {a b:List Str} {i:Nat},slot a x=some i→slot (a++b) x=some i:=by
 intro a
 induction a with
 | nil=>intro b i h;cases h
 | cons y r ih =>
  intro b i h
  rw [List.cons_append]
  unfold slot at h ⊢
  by_cases e:x=y
  ·rw [if_pos e] at h ⊢;exact h
  ·rw [if_neg e] at h ⊢
   refine aJ (slot r x) (fun q=>?_) (fun j q=>?_)
   ·rw [q] at h;cases h
   ·rw [q] at h;rw [ih q];exact h
set_option tactic.hygienic true in
theorem Ev.of{d:Dy}{fi:Fi}(h:qW d.env.scope fi=true)(hc:d.env.cells.map (·.1)=fi.cn++fi.fr):Ev d fi (d.env.cells.map (·.2)):=by
 unfold qW at h
 simp only [Bool.and_eq_true,List.all_eq_true] at h
 obtain (⟨⟨⟨h1,h2⟩,h3⟩,h4⟩):=h
 refine ⟨fun x i hx=>?_,fun x v hx=>?_,fun x i a hx ha=>?_,fun x i a hx ha=>?_⟩
 ·have:=h1 x (List.mem_of_getElem? (dF hx))
  simp only [Bool.not_eq_true',beq_iff_eq] at this
  exact this
 ·obtain (⟨k,a,b⟩):=iO hx
  have q:=h2 k a
  rw [b] at q
  simp only [Bool.and_eq_true,Bool.not_eq_true',beq_iff_eq] at q
  refine ⟨q.1,q.2,?_⟩
  have g:=List.all_eq_true.mp (wb d.w.params) (x,v) (List.mem_of_getElem? b)
  unfold gB at g
  split at g
  ·rename_i v' e;rw [beq_iff_eq] at g;subst g;exact .inl e
  ·rename_i e
   simp only [Bool.and_eq_true,Bool.not_eq_true',beq_iff_eq] at g
   exact .inr ⟨e,g.1,by simpa using g.2⟩
  ·cases g
 ·have:=h3 x (List.mem_of_getElem? (dF hx))
  simp only [Bool.not_eq_true',beq_iff_eq] at this
  exact ⟨this.1,fB (by rw [hc];exact qe hx) ha⟩
 ·have hl:=fB (by rw [hc];exact hx) ha
  rcases List.mem_append.mp (List.mem_of_getElem? (dF hx)) with q | q
  ·have:=h3 x q
   simp only [Bool.not_eq_true',beq_iff_eq] at this
   exact ⟨.inl this.1,this.2,hl⟩
  ·have:=h4 x q
   simp only [Bool.and_eq_true,Bool.or_eq_true,Bool.not_eq_true',beq_iff_eq] at this
   exact ⟨this.1.1.elim (fun e=>.inr ⟨e,this.1.2⟩) .inl,this.2,hl⟩
structure Chg(l:Led)(a:Addr)(o:Obj)(l':Led):Prop where
 hit:l' a=some o
 other:∀ b,b≠a→l' b=l b
theorem Chg.set{l:Led}{a:Addr}{o:Obj}:Chg l a o (l.set a o):=⟨Led.hit,fun O h=>if_neg h⟩
theorem Chg.keep{l l':Led}{a b:Addr}{o x:Obj}(c:Chg l a o l')(h:l b=some x)(n:b≠a):l' b=some x:=(c.other b n).trans h
structure rE(l:Led)(a:Addr)(o:Obj)(l':Led):Prop extends Chg l a o l' where
 fresh:l a=none
theorem rE.set{l:Led}{a:Addr}{o:Obj}(h:l a=none):rE l a o (l.set a o):=⟨.set,h⟩
theorem rE.ne{l l':Led}{a b:Addr}{o x:Obj}(c:rE l a o l')(h:l b=some x):b≠a:=Led.ne h c.fresh
theorem rE.le{l l':Led}{a:Addr}{o:Obj}(c:rE l a o l'):l.le l':=fun O O h=>c.toChg.keep h (c.ne h)
structure nQ(l:Led)(a:Addr)(c:Option CV)(l':Led):Prop where
 fresh:l a=none
 le:l.le l'
 other:∀ b,b≠a→l' b=l b
 is:bl l' a
 has:∀ z,c=some z→ae l' a z
noncomputable def ak(val:Str→Option CV):List Str→(List Addr→Led→Prop)→Led→Prop
 | [],K,l=>K [] l
 | y::r,K,l=>∀ a l',nQ l a (val y) l'→ak val r (fun cs l=>K (a::cs) l) l'
theorem ak.mono{val:Str→Option CV}:∀ {ns:List Str} {K K':List Addr→Led→Prop} {l:Led},ak val ns K l→(∀ cs l,K cs l→K' cs l)→ak val ns K' l
 | [],_,_,_,h,k=>k _ _ h
 | _::_,_,_,_,h,k=>fun a l' n=>ak.mono (h a l' n) fun cs l h=>k _ _ h
noncomputable def Sl.fC(val:Str→Option CV):List Str→Sl
 | []=>.nil
 | y::r=>(match val y with
  | some z=>Sl.c z (Sl.fC val r)
  | none=>Sl.u (Sl.fC val r))
theorem mZ(val:Str→Option CV):∀ {ns:List Str} {x:Str} {i:Nat},slot ns x=some i→(Sl.fC val ns).get i=val x:=by
 intro ns
 induction ns with
 | nil=>intro x i h;cases h
 | cons y r ih =>
  intro x i h
  unfold slot at h
  unfold Sl.fC
  by_cases e:x=y
  ·rw [if_pos e] at h;cases h;subst e;cases val x<;>rfl
  ·rw [if_neg e] at h
   refine aJ (slot r x) (fun q=>?_) (fun j q=>?_)
   ·rw [q] at h;cases h
   ·rw [q] at h;cases h;rw [← ih q];cases val y<;>rfl
noncomputable abbrev vals(ps:List Str)(as:List CV)(x:Str):Option CV:=(ps.zip as).lookup x
theorem jT:∀ {ps:List Str} {as:List CV} {x:Str},x ∉ ps→vals ps as x=none:=by
 intro ps
 induction ps with
 | nil=>intro as x _;rfl
 | cons p r ih =>
  intro as x h
  induction as with
  | nil=>rfl
  | cons a as =>
   rw [List.mem_cons,not_or] at h
   show List.lookup x ((p,a)::r.zip as)=none
   have:(x==p)=false:=by simpa using h.1
   rw [List.lookup_cons,this]
   exact ih h.2
theorem rv{kindOf:Str→Option NameKind}{x:Str}(hx:kindOf x=some .local):∀ {ps:List Str} {as:List CV} {ws:List Value} {m:Str→Option Value} {c0:Option CV},ar as ws→ps.Nodup→rD c0 (m x)→rD ((vals ps as x).or c0) (bindL kindOf (ps.zip ws) m x):=by
 intro ps
 induction ps with
 | nil=>intro as ws m c0 _ _ h;exact h
 | cons p r ih =>
  intro as ws m c0 hv hn h
  rw [List.nodup_cons] at hn
  induction hv with
  | nil=>exact h
  | @cons a w as ws ha hv =>
   show rD ((List.lookup x ((p,a)::r.zip as)).or c0) (bindL kindOf (r.zip ws) _ x)
   rw [List.lookup_cons]
   by_cases e:x=p
   ·subst e
    rw [BEq.rfl]
    have:=ih (m:=if kindOf x=some .local then fun y=>if y=x then some w else m y else m) (c0:=some a) hv hn.2 (by rw [if_pos hx,if_pos rfl];exact .some ha)
    rw [jT hn.1] at this;exact this
   ·have e':(x==p)=false:=by simpa using e
    rw [e']
    refine ih hv hn.2 ?_
    split
    ·show rD c0 (if x=p then some w else m x);rw [if_neg e];exact h
    ·exact h
theorem rx{kindOf:Str→Option NameKind}{x:Str}(hx:kindOf x≠some .local):∀ {ps:List Str} {as:List CV} {ws:List Value} {m:Str→Option Value} {c0:Option CV},ar as ws→ps.Nodup→rD c0 (m x)→rD ((vals ps as x).or c0) (bindC kindOf (ps.zip ws) m x):=by
 intro ps
 induction ps with
 | nil=>intro as ws m c0 _ _ h;exact h
 | cons p r ih =>
  intro as ws m c0 hv hn h
  rw [List.nodup_cons] at hn
  induction hv with
  | nil=>exact h
  | @cons a w as ws ha hv =>
   show rD ((List.lookup x ((p,a)::r.zip as)).or c0) (bindC kindOf (r.zip ws) _ x)
   rw [List.lookup_cons]
   by_cases e:x=p
   ·subst e
    rw [BEq.rfl]
    have:=ih (m:=if kindOf x=some .local then m else fun y=>if y=x then some w else m y) (c0:=some a) hv hn.2 (by rw [if_neg hx,if_pos rfl];exact .some ha)
    rw [jT hn.1] at this;exact this
   ·have e':(x==p)=false:=by simpa using e
    rw [e']
    refine ih hv hn.2 ?_
    split
    ·exact h
    ·show rD c0 (if x=p then some w else m x);rw [if_neg e];exact h
noncomputable def FnAt(d:Dy)(l:Led)(f:Addr)(fd:FuncData):Prop:=∀ h,(K39 d.w.params).In h→(∀ a o,l a=some o→h.get? a=some o)→∃ o,h.get? f=some o∧o.data=.func fd∧h.CodeRec fd.code fd.qualname
noncomputable abbrev oX(fd:FuncData)(L f:Addr):Env:=newEnv fd.scope L fd.globals (cellsFrom (L+1) fd.scope.names fd.closure) (fd.qualname++".<locals>.") (some f) fd.code none fd.builtins
noncomputable def Makes(fd:FuncData)(f:Addr)(binds:List (Str × Value)):Prop:=∀ {M:Model} {A:Around} {E:Value→Shared→Prop} {s:Shared} {Q:Env→Shared→Prop},
 (∀ h' tk own,cellsFrom (s.heap.objs.size+1) fd.scope.names fd.closure=own++fd.closure→(∀ b o,s.heap.get? b=some o→h'.get? b=some o)→h'.Ns s.heap.objs.size (bindL (fun x=>fd.scope.names.lookup x) binds fun O=>none) →
  (∀ n c,(n,c)∈own→h'.IsCell c (bindC (fun x=>fd.scope.names.lookup x) binds (fun O=>none) n))→own.Pairwise (fun x y=>x.2≠y.2)→(∀ p∈own,s.heap.objs.size < p.2)→Q (oX fd s.heap.objs.size f) {s with heap:=h',toks:=tk}) →
 wpAny M A (newFunctionEnv fd.scope fd.globals fd.closure binds (fd.qualname++".<locals>.") (some f) fd.code none fd.builtins) Q E s
theorem Makes.plain{fd:FuncData}{f:Addr}{binds:List (Str × Value)}(hk:fd.scope.kind=.function)(hc:fd.closure=[])(hkind:(binds.all fun y=>fd.scope.names.lookup y.1==some .local||fd.scope.names.lookup y.1==some .cell)=true)
  (hnd:((cellsFrom 0 fd.scope.names []).map (·.1)).Nodup):Makes fd f binds:=by
 intro M A E s Q h
 rw [hc] at h ⊢
 refine wpAny_newFunctionEnv_cells hk (kindsX hkind _) fun env he s' x=>?_
 obtain (⟨h',tk,rfl,kp⟩):=x.done
 subst he
 have:=h h' tk (cellsFrom (s.heap.objs.size+1) fd.scope.names []) (List.append_nil _).symm kp x.toInCall.ns (fun n c hm=>x.cell n c (lookup_of_mem_nodup (cellsFrom_names fd.scope.names 0 (s.heap.objs.size+1) [] [] rfl▸hnd) hm)) x.apart fun p hp=>x.above p.1 p.2 hp
 unfold oX at this
 rw [hc] at this
 exact this
theorem dC:∀ {names:List (Str × NameKind)} {n:Nat} {acc:List (Str × Addr)},(∀ x∈names,x.2≠.cell)→cellsFrom n names acc=acc:=by
 intro names
 induction names with
 | nil=>intro n acc _;rfl
 | cons p r ih =>
  intro n acc h
  have:(p.2==NameKind.cell)=false:=by
   have:=h p (.head _)
   cases e:p.2<;>first | rfl | exact absurd e this
  obtain (⟨a,k⟩):=p
  unfold cellsFrom
  rw [show (k==NameKind.cell)=false from this]
  exact ih fun x hx=>h x (.tail _ hx)
theorem pf{kindOf:Str→Option NameKind}:∀ {binds:List (Str × Value)} {m:Str→Option Value},(∀ y∈binds,kindOf y.1=some .local)→bindL kindOf binds m=fun y=>(binds.reverse.lookup y).or (m y):=by
 intro binds
 induction binds with
 | nil=>intro m _;rfl
 | cons p r ih =>
  intro m h
  obtain (⟨n,v⟩):=p
  unfold bindL
  rw [if_pos (h (n,v) (.head _)),ih fun y hy=>h y (.tail _ hy)]
  funext y
  rw [List.reverse_cons,List.lookup_append]
  cases r.reverse.lookup y with
  | some w=>rfl
  | none =>
   show (if y=n then some v else m y)=(List.lookup y [(n,v)]).or (m y)
   by_cases e:y=n
   ·subst e;rw [if_pos rfl,List.lookup_cons,BEq.rfl];rfl
   ·have e':(y==n)=false:=by simpa using e
    rw [if_neg e,List.lookup_cons,e'];rfl
theorem Makes.clos{fd:FuncData}{f:Addr}{binds:List (Str × Value)}(hk:fd.scope.kind=.function)(hcell:∀ x∈fd.scope.names,x.2≠.cell)(hloc:∀ y∈binds,fd.scope.names.lookup y.1=some .local):Makes fd f binds:=by
 intro M A E s Q h
 refine wpAny_newFunctionEnv hcell hloc (fun h₁ hns hsb=>?_) hk
 have hz:∀ b o,s.heap.get? b=some o→h₁.get? b=some o:=fun b o e=>hsb.extBut b o (Nat.ne_of_lt (Heap.lt_size e)) (Heap.get?_push_of_some _ e)
 have:=h h₁ (s.toks+binds.length) [] (dC hcell) hz (by rw [pf hloc];exact (show (fun y=>(binds.reverse.lookup y).or none)=(fun y=>binds.reverse.lookup y) from funext fun y=>by cases binds.reverse.lookup y<;>rfl)▸hns) (fun O O hm=>nomatch hm) .nil fun O hm=>nomatch hm
 unfold oX at this
 rw [dC hcell] at this
 exact this
end
section
theorem dH{env:Env}{outer:List Env}{L b:Addr}(hf:env.frame=some L)(hm:b∈jF (env::outer)):b=L∨b∈jF outer:=by
 obtain (⟨v,hv,hvf⟩):=List.mem_filterMap.mp hm
 rcases List.mem_cons.mp hv with rfl | hv
 ·rw [hf] at hvf;exact .inl (Option.some.inj hvf).symm
 ·exact .inr (List.mem_filterMap.mpr ⟨v,hv,hvf⟩)
inductive ue(A₀:Around)(base:Heap)(outer:List Env)(g:Heap)(L:Addr)(mo:Mp)(G G':Heap):Prop
 | mk (g':Heap) (T:KtsTurn (jF outer) g g') (F:Fr g' L G' mo) (B:Below A₀ base outer g') (st:G'=G→g'=g):ue A₀ base outer g L mo G G'
inductive ui(d:Dy)(g h':Heap)(m:Mp)(l':Led)(G G':Heap):Prop
 | mk (g':Heap) (T:KtsTurn (jF d.outer) g g') (a:At d g' h' m l') (st:G'=G→g'=g):ui d g h' m l' G G'
theorem eM{A₀:Around}{base g G G':Heap}{env:Env}{outer:List Env}{L:Addr}{mo:Mp}(B:Below A₀ base outer g)(F:Fr g L G mo)(T:KtsTurn (jF (env::outer)) G G')(hf:env.frame=some L) :
  ue A₀ base outer g L mo G G':=by
 by_cases e:G'=G
 ·subst e;exact ⟨g,.refl,F,B,fun O=>rfl⟩
 have nL:g.get? L=none:=kts_self F
 obtain ⟨oL,es,ep,hLg,hLd,hLk,hLf⟩:=F.ns
 obtain (⟨sl,hs⟩):=T.up hLg
 obtain (⟨T₁,S₁⟩):=kts_turn_at (h:=G') (fs:=jF outer) (g:=g)
  (fun b hb=>by
   obtain (⟨_,o,ho',_⟩):=B.frames.mem hb
   exact ⟨o,ho'⟩)
  (fun b o e nmem=>T.other b o (F.keep b o e) (fun q=>by
   rcases dH hf q with z | z
   ·rw [z,nL] at e;cases e
   ·exact nmem z))
  (fun b o e hm=>T.up (F.keep b o e))
 refine ⟨_,T₁,⟨⟨_,es,ep,hs,hLd,hLk,hLf⟩,S₁,by rw [T₁.size];exact F.above⟩,⟨B.stack,fun b o e=>T₁.other b o (B.stays b o e) (fun hm=>by
  rw [(B.frames.mem hm).1] at e
  cases e),B.frames.of_keeps fun b o e O=>by
  obtain (⟨sl',hs'⟩):=T₁.up e
  exact ⟨_,hs',rfl⟩⟩,fun q=>absurd q e⟩
section
variable {Mo:Model}{A:Around}{E:Value→Shared→Prop}{s':Shared}{base g g₂:Heap}{env:Env}{outer:List Env}{L e:Addr}{m:Mp}{Q:Unit→Shared→Prop}{l:Led}
theorem jr{oe:Obj}{a0:Value}(K:Below A base outer g)(F:Fr g L s'.heap m)(N:Nw g L s'.heap (l.set e oe))(hne:l e=none)(hd:oe.data=.fields #[a0,.none,.none,.none,.bool false,.none])(hf:env.frame=some L)(hk:env.scope.kind=.function)
  (hQ:∀ h',cx base g outer e oe.cls l h'→g.UpToSlots h'→Q () {s' with heap:=h'}) :
  wpAny Mo (A.deeper env) (leaving env (.ref e)) Q E s':=by
 have K':=pushX K F hf hk
 have he:=N e oe Led.hit
 have hin:∀ v∈env::outer,∀ b,v.frame=some b→b∈e::jF (env::outer):=fun v hv b hb=>.tail _ (List.mem_filterMap.mpr ⟨v,hv,hb⟩)
 have hbe:base.get? e=none:=fresh_of_stays K.stays he.2.2
 have st:base.StaysIn (hideAll s'.heap (e::jF (env::outer))):=fun b o q=>hideAll_get _ (K'.stays b o q) fun hm=>by
  rcases List.mem_cons.mp hm with rfl | hm
  ·rw [hbe] at q;cases q
  ·rw [(K'.frames.mem hm).1] at q;cases q
 have sg:∀ b o,g.get? b=some o→b ∉ jF outer→(hideAll s'.heap (e::jF (env::outer))).get? b=some o:=fun b o q nm=>hideAll_get _ (F.keep b o q) fun hm=>by
  rcases List.mem_cons.mp hm with rfl | hm
  ·rw [he.2.2] at q;cases q
  ·rcases dH hf hm with rfl | hm
   ·rw [kts_self F] at q;cases q
   ·exact nm hm
 have hl:∀ a o,l a=some o→(hideAll s'.heap (e::jF (env::outer))).get? a=some o∧g.get? a=none∧base.get? a=none:=fun a o q=>by
  have z:=N a o (Led.new hne q)
  refine ⟨hideAll_get _ z.1 fun hm=>?_,z.2.2,fresh_of_stays K.stays z.2.2⟩
  rcases List.mem_cons.mp hm with he' | hm
  ·exact Led.ne q hne he'
  ·rcases dH hf hm with he' | hm
   ·exact z.2.1 he'
   ·obtain (⟨o,ho,_⟩):=(K.frames.mem hm).2
    rw [z.2.2] at ho;cases ho
 refine wpAny_leaving_firstW (a0:=a0) (oe:=oe) K'.stack (funFrames_hide K'.frames hin) hf he.1 (fun b o q=>of_hideAll _ q) (hideAll_none _ (.head _)) hd rfl rfl fun h' hL=>?_
 obtain ⟨k1,⟨_,_,k2⟩,k3,k4⟩:=hL
 exact hQ h' ⟨_,a0,st,sg,hl,k1,hideAll_none _ (.head _),k2,k3⟩ ((Heap.UpToSlots.of_keeps F.keep).trans k4)
theorem oK{cls:Value}(K:Below A base outer g)(F:Fr g L g₂ m)(R:cx base g₂ (env::outer) e cls l s'.heap)(hsm:g₂.UpToSlots s'.heap)(hf:env.frame=some L)
  (hQ:∀ h',cx base g outer e cls l h'→g.UpToSlots h'→Q () {s' with heap:=h'}) :
  wpAny Mo (A.deeper env) (leaving env (.ref e)) Q E s':=by
 obtain ⟨B,a0,hB,hBG,hl,hfl⟩:=R
 exact wpAny_leaves_onW (Around.frames_deeper K.stack) hf hfl fun h' x1 x2 =>
  hQ h' ⟨B,a0,hB,fun b o q nm=>hBG b o (F.keep b o q) (fun hm=>by
   rcases dH hf hm with rfl | hm
   ·rw [kts_self F] at q;cases q
   ·exact nm hm),fun a o q=>⟨(hl a o q).1,kts_none F.keep (hl a o q).2.1,(hl a o q).2.2⟩,x1⟩ ((Heap.UpToSlots.of_keeps F.keep).trans (hsm.trans x2))
end
set_option tactic.hygienic true in
theorem At.back{d:Dy}{g G G' h h':Heap}{m mo:Mp}{l l':Led}{L':Addr}(ff:d.ay.frame=some d.L)(a:At d g h m l)(FG:Fr g d.L G mo)(hmo:∀ p,d.cmp=some p→p.2=mo)(hm0:d.cmp=none→mo=m)
  (hG:∀ b o,h.get? b=some o→l b=none→G.get? b=some o) (T:KtsTurn (jF (d.ay::d.outer)) G G') (F':∀ b o,G'.get? b=some o→h'.get? b=some o) (N':Nw G' L' h' l') :
  ui d g h' m l' G G':=by
 cases eM a.B FG T ff with | mk g' T' FG' B' st =>
 have FR:Fr g' d.L h' mo:=by
  obtain (⟨oL,es,ep,e1,e2,e3,e4⟩):=FG'.ns
  exact ⟨⟨oL,es,ep,F' _ _ e1,e2,e3,e4⟩,fun b o e=>F' b o (FG'.keep b o e),FG'.above⟩
 refine ⟨g',T',⟨B',fun b o e=>?_,?_,fun p hp=>?_⟩,st⟩
 rotate_right
 ·have z:=a.Z p hp
  have e:=hG _ _ z.1 z.2.2.2
  have e':G'.get? p.1=some p.2:=T.other _ _ e fun q=>by
   rcases dH ff q with y | y
   ·exact z.2.1 y
   ·obtain (⟨_,o,ho,_⟩):=a.B.frames.mem y;rw [z.2.2.1] at ho;cases ho
  refine ⟨F' _ _ e',z.2.1,T'.none_ _ z.2.2.1,?_⟩
  cases q:l' p.1 with
  | none=>rfl
  | some x=>have:=(N' _ _ q).2.2;rw [e'] at this;cases this
 ·have z:=N' b o e
  refine ⟨z.1,fun q=>?_,kts_none FG'.keep z.2.2⟩
  obtain (⟨oL,_,_,e1,_⟩):=FG'.ns
  rw [q,e1] at z;cases z.2.2
 ·refine a.W.el (fun e _=>gr e ?_) fun p oc e w=>?_
  ·have:=hm0 e;subst this;exact FR
  ·have:=hmo p e
   subst this
   obtain (⟨sl,hs⟩):=T.up (hG _ _ w.get w.l)
   refine fJ (oc:={oc with slots:=sl}) e ⟨FR,w.ns,F' _ _ hs,w.L,T'.none_ _ w.g,?_,w.z⟩
   cases q:l' p.1 with
   | none=>rfl
   | some x=>have:=(N' _ _ q).2.2;rw [hs] at this;cases this
theorem sY{h:Heap}{l:Led}{b:Addr}{o:Obj}(e:h.get? b=some o)(n:l b=none):(hideAll h ((fK h l).map (·.1))).get? b=some o:=hideAll_get _ e fun hm=>by
 obtain (⟨p,hp,q⟩):=List.mem_map.mp hm
 have:=(fT (a:=p.1) (o:=p.2)).mp hp
 rw [q,n] at this;cases this.2
theorem qL{h:Heap}{l:Led}{b:Addr}{o:Obj}(e:h.get? b=some o)(n:l b=some o):(hideAll h ((fK h l).map (·.1))).get? b=none :=
 hideAll_none _ (List.mem_map.mpr ⟨(b,o),fT.mpr ⟨Heap.lt_size e,n⟩,rfl⟩)
set_option tactic.hygienic true in
theorem rr{d:Dy}{g h:Heap}{m:Mp}{val:Str→Option CV}{cm:Str→Option Value}(F:d.cmp=none)(hz:d.fz=[])(hs:g.objs.size≤d.L):∀ {own:List (Str × Addr)} {l:Led} {K:List Addr→Led→Prop},(∀ n c,(n,c)∈own→h.IsCell c (cm n)∧rD (val n) (cm n))→own.Pairwise (fun x y=>x.2≠y.2)→(∀ p∈own,d.L < p.2)→(∀ p∈own,l p.2=none)→At d g h m l→ak val (own.map (·.1)) K l→∃ l₁,At d g h m l₁∧K (own.map (·.2)) l₁:=by
 intro own
 induction own with
 | nil=>intro l K _ _ _ _ a k;exact ⟨l,a,k⟩
 | cons p r ih =>
  intro l K hc hp hb hn a k
  obtain (⟨n,c⟩):=p
  obtain (⟨⟨o,ho,hd⟩,hv⟩):=hc n c (.head _)
  have lc:=hn (n,c) (.head _)
  have nc:nQ l c (val n) (l.set c o):=⟨lc,.new lc,fun b q=>if_neg q,⟨o,_,Led.hit,hd⟩,fun z hz=>by
   have:=hv
   rw [hz] at this
   refine aJ (cm n) (fun q=>?_) (fun v q=>?_)
   ·rw [q] at this;cases this
   ·rw [q] at this hd;cases this;rename_i is;exact ⟨o,v,Led.hit,hd,is⟩⟩
  have hL:d.L < c:=hb (n,c) (.head _)
  rw [List.pairwise_cons] at hp
  have a':At d g h m (l.set c o):=⟨a.B,fun b x e=>by
   unfold Led.set at e
   split at e
   ·rename_i q;cases e;subst q;exact ⟨ho,Nat.ne_of_gt hL,Heap.get?_none_of_le (Nat.le_trans hs (Nat.le_of_lt hL))⟩
   ·exact a.N b x e,by have W:=a.W;unfold Own at W ⊢;rw [F] at W ⊢;exact W,fun p hp=>by rw [hz] at hp;cases hp⟩
  exact ih (fun n' c' hm=>hc n' c' (.tail _ hm)) hp.2 (fun q hq=>hb q (.tail _ hq)) (fun q hq=>(if_neg (Ne.symm (hp.1 q hq))).trans (hn q (.tail _ hq))) a' (k c _ nc)
inductive yA(d:Dy)(g h:Heap)(m:Mp):Prop
 | mk (mo:Mp) (F:Fr g d.L h mo) (hmo:∀ p,d.cmp=some p→p.2=mo) (hm0:d.cmp=none→mo=m):yA d g h m
theorem At.mo{d:Dy}{g h:Heap}{m:Mp}{l:Led}(a:At d g h m l):yA d g h m :=
 a.W.el (fun e F=>⟨m,F,fun p q=>(by rw [e] at q;cases q),fun _=>rfl⟩) fun p oc e w=>⟨p.2,w.F,fun q hq=>(by rw [e] at hq;cases hq;rfl),fun q=>(by rw [e] at q;cases q)⟩
structure Sub(d d':Dy)(fd:FuncData)(f:Addr):Prop where
 w:d'.w=d.w
 X:∀ c l,d.X c l→d'.X c l
 Y:∀ c l,d.X c l→d'.Y c l
 may:d'.may
 cmp:d'.cmp=none
 fz:d'.fz=[]
 env:d'.env=oX fd d'.L f
 ay:d'.ay=d'.env
 base:d'.base=d.base
 az:d'.az=d.az
noncomputable def wt(fd:FuncData)(fi:Fi)(ps:List Str):Bool :=
 (fd.scope.kind==.function)&&!fd.scope.isCoroutine&&!fd.scope.isGenerator&&qW fd.scope fi&&decide ((cellsFrom 0 fd.scope.names []).map (·.1)=fi.cn)&&decide (fd.closure.map (·.1)=fi.fr)&&decide ps.Nodup&&decide (fd.globals=mainGlobals)&&decide (fd.builtins=builtinsNs)
structure zj(fd:FuncData)(fi:Fi)(ps:List Str):Prop where
 h1:fd.scope.kind=.function
 h2:fd.scope.isCoroutine=false
 h3:fd.scope.isGenerator=false
 h4:qW fd.scope fi=true
 h5:(cellsFrom 0 fd.scope.names []).map (·.1)=fi.cn
 h6:fd.closure.map (·.1)=fi.fr
 h7:ps.Nodup
 h8:fd.globals=mainGlobals
 h9:fd.builtins=builtinsNs
theorem mx{fd:FuncData}{fi:Fi}{ps:List Str}(h:wt fd fi ps=true):zj fd fi ps :=
 have a9:=bA h;have a8:=bA a9.1;have a7:=bA a8.1;have a6:=bA a7.1;have a5:=bA a6.1;have a4:=bA a5.1;have a3:=bA a4.1;have a2:=bA a3.1
 ⟨eq_of_beq a2.1,(Bool.not_eq_true' _).mp a2.2,(Bool.not_eq_true' _).mp a3.2,a4.2,of_decide_eq_true a5.2,of_decide_eq_true a6.2,of_decide_eq_true a7.2,of_decide_eq_true a8.2,of_decide_eq_true a9.2⟩
theorem cF:∀ {names:List (Str × NameKind)} {n:Nat} {acc:List (Str × Addr)},cellsFrom n names acc=cellsFrom n names []++acc:=by
 intro names
 induction names with
 | nil=>intro n acc;rfl
 | cons p r ih =>
  intro n acc
  obtain (⟨x,k⟩):=p
  unfold cellsFrom
  split
  ·rw [ih,ih (acc:=[(x,n)]),List.append_assoc];rfl
  ·exact ih
structure Cc(d:Dy)(r:Nat)(f:Addr)(cs:List CV)(K:CV→Led→Prop)(l:Led):Prop where
 run:∀ vs m,ar cs vs→∀ A E g s,bx d r A E g s m l→codeAny (model Pg d.w) A (.call (.ref f) ⟨vs,[]⟩) (fun r s'=>match r with | .ok (.ret v)=>aO d g (PV K m) s v s' | .ok _=>False | .error e=>E e s') s
theorem Cc.cl{d:Dy}{r:Nat}{f:Addr}{cs:List CV}{K:CV→Led→Prop}{l:Led}(h:Cc d r f cs K l):Cl d r (.ref f) cs K l:=⟨fun vs m hv=>⟨fun A E g s n=>wpAny_call (h.run vs m hv A E g s n)⟩⟩
inductive jQ(fd:FuncData):(Env→Sem Flow)→Prop
 | s (b:List Stmt) (h:fd.body=.stmts b):jQ fd (execs b)
 | e (x:Ex) (h:fd.body=.expr x):jQ fd (fun env=>do let v ← eval x env;Pure.pure (Flow.ret v))
theorem il{prog:Program}{w:World}{A:Around}{R:Result→Shared→Prop}{s:Shared}{a:Addr}{args:Args}{o:Obj}{fd:FuncData}{t:Env→Sem Flow}(hroom:A.depth < recursionLimit)(ho:s.heap.get? a=some o)
  (hd':o.data=.func fd) (hco:fd.scope.isCoroutine=false) (hgen:fd.scope.isGenerator=false) (hbody:jQ fd t) (hcd:s.heap.CodeRec fd.code fd.qualname)
  (h:wpAny (model prog w) A.in1 (bindArgs fd args) (fun binds s₁ =>
   wpAny (model prog w) A.in1 (newFunctionEnv fd.scope fd.globals fd.closure binds (fd.qualname++".<locals>.") (some a) fd.code none fd.builtins)
    (fun env s₂=>s₂.heap.NoLimit∧wpAny (model prog w) (A.deeper env) (t env) (fun f s'=>R (.ok (.ret (match f with | .ret v=>v | _=>.none))) s')
     (fun e s'=>wpAny (model prog w) (A.deeper env) (leaving env e) (fun O s''=>R (.error e) s'') (fun e' s''=>R (.error e') s'') s') s₂) (fun e s'=>R (.error e) s') s₁) (fun e s'=>R (.error e) s') s) :
  codeAny (model prog w) A (.call (.ref a) args) R s:=by
 induction hbody with
 | s b hb=>exact codeAny_call_function hroom ho hd' hco hgen hb hcd (wpAny_mono h (fun O O h=>wpAny_mono h (fun O O h=>⟨h.1,codeAny_func h.2⟩) fun O O x=>x) fun O O x=>x)
 | e x hb=>exact kla_callFunE hroom ho hd' hco hgen hb hcd (wpAny_mono h (fun O O h=>wpAny_mono h (fun O O h=>⟨h.1,kla_codeExpr fun Γ p hΓ=>by
   have:=h.2 Γ p hΓ
   simp only [Sem.wp_bind',Sem.wp_pure'] at this
   exact this⟩) fun O O x=>x) fun O O x=>x)
section
variable {d:Dy}{r:Nat}
set_option tactic.hygienic true in
theorem Cc.vz{f:Addr}{fd:FuncData}{t:Env→Sem Flow}{cs as:List CV}{K:CV→Led→Prop}{l:Led}(fi:Fi)(ps:List Str)(hbd:jQ fd t)(fn:FnAt d l f fd)(hok:wt fd fi ps=true)
  (hb:∀ (s:Shared) vs,(K39 d.w.params).In s.heap→(∀ a o,l a=some o→s.heap.get? a=some o)→ar cs vs→∃ ws,ar as ws∧BindsTo s fd ⟨vs,[]⟩ (ps.zip ws)∧Makes fd f (ps.zip ws))
  (h:∀ (d':Dy) (P:Option CV→Sl→Led→Prop),Sub d d' fd f→(∀ o σ l l',K (o.getD (.v .none)) l→l.le l'→P o σ l') →
   ak (vals ps as) fi.cn (fun cs l=>Ev d' fi (cs++fd.closure.map (·.2))→LS d' r fi (t d'.env) P (Sl.fC (vals ps as) fi.ns) l) l) :
  Cc d (r+1) f cs K l:=by
 refine ⟨fun vs m hvs A E g s n₀=>?_⟩
 cases mx hok with | mk h1 h2 h3 h4 h5 h6 h7 h8 h9 =>
 obtain ⟨o,ho,hd,hcd⟩:=fn s.heap n₀.X fun O O e=>n₀.a.get e
 obtain ⟨ws,hws,hbt,hmk⟩:=hb s vs n₀.X (fun O O e=>n₀.a.get e) hvs
 have dep:=n₀.R.dep
 refine il (by show A.depth < 1000;omega) ho hd h2 h3 hbd hcd (hbt _ _ _ _ (hmk fun h' tk own he kp ns hcell ap ab=>⟨n₀.T.nolimit.keeps kp,?_⟩))
 cases n₀.a.mo with | mk mo F hmo hm0 =>
 obtain ⟨FG,BG,st,_⟩:=groundX (R:=fun O O=>True) n₀.a.B F n₀.a.N.news n₀.R.fr n₀.G.ff n₀.G.fk
 generalize hGe:hideAll s.heap ((fK s.heap l).map (·.1))=G at FG BG st
 have hG:∀ b o,s.heap.get? b=some o→l b=none→G.get? b=some o:=fun b o e n=>hGe▸sY e n
 have sz:G.objs.size=s.heap.objs.size:=by rw [← hGe];exact hideAll_size _ _
 have up:∀ b o,G.get? b=some o→s.heap.get? b=some o:=fun b o e=>of_hideAll _ (hGe▸e)
 let env':Env:=oX fd s.heap.objs.size f
 let d':Dy:={d with A₀:=A,outer:=d.ay::d.outer,L:=s.heap.objs.size,ay:=env',env:=env',cmp:=none,fz:=[],may:=True,X:=d.X,Y:=d.X}
 have G':Good d':=⟨n₀.G.XB,n₀.G.TB,h1,rfl,h1,rfl,h8,h9⟩
 have R':jN d' r (A.deeper env'):=⟨n₀.R.hd,by show A.frames.map _=_;rw [n₀.R.fr];rfl,by show A.depth+1+r+1 < 1000;omega,by have:=n₀.R.pB;show A.units+3+16 * r+64 < 9900;omega⟩
 have a0:At d' G h' (bindL (fun x=>fd.scope.names.lookup x) (ps.zip ws) fun O=>none) l:=⟨BG,fun b x e=>by
  have z:=n₀.a.get e
  exact ⟨kp _ _ z,Nat.ne_of_lt (Heap.lt_size z),hGe▸qL z e⟩,⟨ns,fun b o e=>kp b o (up b o e),Nat.le_of_eq sz⟩,fun O hp=>nomatch hp⟩
 have hkc:∀ x,x∈fi.cn→fd.scope.names.lookup x≠some .local:=fun x hx e=>by
  have:=List.all_eq_true.mp (bA (bA h4).1).2 x hx
  have q:=eq_of_beq (bA this).1
  rw [q] at e;cases e
 have e1:own=cellsFrom (s.heap.objs.size+1) fd.scope.names []:=List.append_cancel_right (he.symm.trans cF)
 have e2:own.map (·.1)=fi.cn:=by rw [e1,← h5];exact cellsFrom_names fd.scope.names _ _ [] [] rfl
 let P:Option CV→Sl→Led→Prop:=fun o O l'=>∃ l,l.le l'∧K (o.getD (.v .none)) l
 have sub:Sub d d' fd f:=⟨rfl,fun O O x=>x,fun O O x=>x,trivial,rfl,rfl,rfl,rfl,rfl,rfl⟩
 have hgo:=h d' P sub fun o σ l l' k le=>⟨l,le,k⟩
 rw [← e2] at hgo
 obtain (⟨l₁,a1,k1⟩):=rr (d:=d') (cm:=bindC (fun x=>fd.scope.names.lookup x) (ps.zip ws) (fun O=>none)) rfl rfl (Nat.le_of_eq sz) (own:=own) (fun n c hm=>⟨hcell n c hm,by
   have:=rx (kindOf:=fun x=>fd.scope.names.lookup x) (hkc n (e2▸List.mem_map_of_mem (f:=(·.1)) hm)) (m:=fun O=>none) (c0:=none) hws h7 .none
   rwa [Option.or_none] at this⟩) ap ab (fun p hp=>by
   cases q:l p.2 with
   | none=>rfl
   | some x=>have z:=Heap.lt_size (n₀.a.get q);have:=ab p hp;exact absurd (Nat.lt_trans this z) (Nat.lt_irrefl _)) a0 hgo
 have hcs:own.map (·.2)++fd.closure.map (·.2)=env'.cells.map (·.2):=by show _=(cellsFrom (s.heap.objs.size+1) fd.scope.names fd.closure).map _;rw [he,List.map_append]
 have ev:Ev d' fi (own.map (·.2)++fd.closure.map (·.2)):=by
  rw [hcs]
  exact Ev.of (d:=d') h4 (by show (cellsFrom (s.heap.objs.size+1) fd.scope.names fd.closure).map _=_;rw [he,List.map_append,e2,h6])
 have fr0:bL fi.ns (Sl.fC (vals ps as) fi.ns) (bindL (fun x=>fd.scope.names.lookup x) (ps.zip ws) fun O=>none):=fun x i c hx hc=>by
  rw [mZ _ hx] at hc
  have:=rv (kindOf:=fun x=>fd.scope.names.lookup x) (ev.loc x i hx).1 (m:=fun O=>none) (c0:=none) hws h7 .none
  rw [Option.or_none,hc] at this
  cases q:bindL (fun x=>fd.scope.names.lookup x) (ps.zip ws) (fun O=>none) x with
  | none=>rw [q] at this;cases this
  | some v=>rw [q] at this;cases this;exact ⟨v,rfl,‹_›⟩
 have main:Ok d' r (t env') (PS fi.ns P) _ l₁:=(k1 ev).run _ fr0
 have fin:∀ a s',dX d' G {s with heap:=h',toks:=tk} a s'→∀ (Q':Value→Shared→Prop),(∀ s'',E (.ref a) s''→Q' (.ref a) s'')→∀ E',wpAny (model Pg d.w) (A.deeper env') (leaving env' (.ref a)) (fun O s''=>Q' (.ref a) s'') E' s':=by
  intro a s' th Q' hQ' E'
  induction th with
  | own g' m2 c l2 oe a0' e hn hc hd at_ y =>
   cases eM n₀.a.B FG e.T n₀.G.ff with | mk gc Tc Fc Bc sc =>
   exact jr (l:=l2) at_.B at_.W at_.N hn hd rfl h1 fun h'' R U=>hQ' _ (n₀.x.x a _ (.on gc g' mo c l2 ⟨Tc,⟨e.e.g,e.e.d,e.e.o⟩,fun h=>sc (e.st h)⟩ Bc Fc (hc▸R) U y))
  | on g' G2 mo2 c l2 e B F R u y =>
   cases eM n₀.a.B FG e.T n₀.G.ff with | mk gc Tc Fc Bc sc =>
   exact oK (l:=l2) B F R u rfl fun h'' R U=>hQ' _ (n₀.x.x a _ (.on gc g' mo c l2 ⟨Tc,⟨e.e.g,e.e.d,e.e.o⟩,fun h=>sc (e.st h)⟩ Bc Fc R U y))
 refine wpAny_mono (main.run (A.deeper env') (fun e s'=>wpAny (model Pg d.w) (A.deeper env') (leaving env' e) (fun O s''=>(fun (r:Result) s'=>match r with | .ok (.ret v)=>aO d g (PV K m) s v s' | .ok _=>False | .error e=>E e s') (.error e) s'') (fun e' s''=>(fun (r:Result) s'=>match r with | .ok (.ret v)=>aO d g (PV K m) s v s' | .ok _=>False | .error e=>E e s') (.error e') s'') s') G {s with heap:=h',toks:=tk}
  ⟨G',R',a1,fun O A' hA'=>PassesOwnAt.leavingOf hA',fun a s' th=>fin a s' th E (fun O h=>h) _⟩) (fun fl s' p=>?_) fun O O x=>x
 induction p with
 | mk g' m2 l2 e2' a2 k =>
  have done:∀ c v,CV.Is c v→(∃ l,l.le l2∧K c l)→aO d g (PV K m) s v s':=fun c v is k=>by
   obtain ⟨l3,le,k⟩:=k
   have F2:Fr g' s.heap.objs.size s'.heap m2:=a2.W
   cases At.back n₀.G.ff n₀.a FG hmo hm0 hG e2'.T F2.keep fun b o e=>a2.N b o (le b o e) with | mk gc Tc ac sc =>
   exact ⟨gc,m,l3,⟨Tc,⟨e2'.e.g,e2'.e.d,e2'.e.o⟩,fun h=>sc (e2'.st h)⟩,ac,c,.refl _,is,k⟩
  induction k with
  | next σ hσ k=>exact done _ _ (.v _) k
  | ret σ c hσ is k=>exact done c _ is k
theorem Cc.into{f:Addr}{fd:FuncData}{D:Stmt}{cs as:List CV}{K:CV→Led→Prop}{l:Led}(fi:Fi)(ps:List Str)(n:Nat)(hbd:fd.body=.stmts (iS D))(fn:FnAt d l f fd)(hok:wt fd fi ps=true)
  (hb:∀ (s:Shared) vs,(K39 d.w.params).In s.heap→(∀ a o,l a=some o→s.heap.get? a=some o)→ar cs vs→∃ ws,ar as ws∧BindsTo s fd ⟨vs,[]⟩ (ps.zip ws)∧Makes fd f (ps.zip ws))
  (h:∀ (d':Dy) (P:Option CV→Sl→Led→Prop),Sub d d' fd f→(∀ o σ l l',K (o.getD (.v .none)) l→l.le l'→P o σ l') →
   ak (vals ps as) fi.cn (fun cs l=>Ev d' fi (cs++fd.closure.map (·.2))→go (fi:=fi) (r:=r) ⟨d',cs++fd.closure.map (·.2),P,fun O O=>False⟩ n (.s (.f D) 0 .nil) (Sl.fC (vals ps as) fi.ns) l) l) :
  Cc d (r+1) f cs K l :=
 .vz fi ps (.s _ hbd) fn hok hb fun d' P sb hP=>(h d' P sb hP).mono fun cs l k ev=>LS.mono (K:=fun o σ l=>match o with | none=>P none σ l | some c=>P (some c) σ l) (cf (x:=⟨d',cs++fd.closure.map (·.2),P,fun O O=>False⟩) ev n (.s (.f D) 0 .nil) _ l (k ev)) fun o σ l h=>by cases o<;>exact h
theorem Cc.lam{f:Addr}{fd:FuncData}{cs as:List CV}{K:CV→Led→Prop}{l:Led}(fi:Fi)(ps:List Str)(p:Pe)(hbd:fd.body=.expr p.at)(fn:FnAt d l f fd)(hok:wt fd fi ps=true)
  (hb:∀ (s:Shared) vs,(K39 d.w.params).In s.heap→(∀ a o,l a=some o→s.heap.get? a=some o)→ar cs vs→∃ ws,ar as ws∧BindsTo s fd ⟨vs,[]⟩ (ps.zip ws)∧Makes fd f (ps.zip ws))
  (h:∀ (d':Dy) (P:Option CV→Sl→Led→Prop),Sub d d' fd f→(∀ o σ l l',K (o.getD (.v .none)) l→l.le l'→P o σ l') →
   ak (vals ps as) fi.cn (fun cs l=>Ev d' fi (cs++fd.closure.map (·.2))→go (fi:=fi) (r:=r) ⟨d',cs++fd.closure.map (·.2),P,fun O O=>False⟩ 99 (.e p .ret) (Sl.fC (vals ps as) fi.ns) l) l) :
  Cc d (r+1) f cs K l :=
 .vz fi ps (.e _ hbd) fn hok hb fun d' P sb hP=>(h d' P sb hP).mono fun cs l k ev=>⟨fun m hm=>by
  have g:LE d' r fi (eval p.at d'.env) (fun c l=>P (some c) (Sl.fC (vals ps as) fi.ns) l) (Sl.fC (vals ps as) fi.ns) l:=cf (x:=⟨d',cs++fd.closure.map (·.2),P,fun O O=>False⟩) ev 99 (.e p .ret) _ l (k ev)
  exact .bind ((g.run m hm).mono fun v m' l pv=>by cases pv with | mk c e is k=>subst e;exact .pure (.ret _ c hm is k))⟩
noncomputable abbrev fdOf(D:Stmt)(q:String)(df:Value)(mo:String)(t:Tok)(c:Addr):FuncData :=
 {name:=aD D,qualname:=Str.ofString q,params:=ri D,body:=.stmts (iS D),scope:=cE D,globals:=3,closure:=[],defaults:=df,kwdefaults:=.none,pyModule:=.str (Str.ofString mo) t,code:=.ref c}
theorem wc{D:Stmt}{q:String}{df:Value}{mo:String}{t:Tok}{c:Addr}:qH D=true→fo D q df mo t c={cls:=.type "function",data:=.func (fdOf D q df mo t c)}:=by
 cases D with
 | FunctionDef=>exact fun _=>rfl
 | _=>exact ff
theorem FnAt.of{f:Addr}{D:Stmt}{q mo:String}{df:Value}{t:Tok}{c:Addr}{l:Led}(hD:qH D=true)(ho:(K39 d.w.params).lookup f=some (fo D q df mo t c))(hcd:codeIn (K39 d.w.params) (.ref c) (Str.ofString q)=true):FnAt d l f (fdOf D q df mo t c) :=
 fun h X O=>⟨_,X f _ ho,by rw [wc hD],codeRec_of X hcd⟩
noncomputable def kV(D:Stmt)(fi:Fi)(ps:List Str):Bool:=qH D&&wt (fdOf D "" .none "" 0 0) fi ps&&ps.all (fun y=>(cE D).names.lookup y==some .local||(cE D).names.lookup y==some .cell)&&decide fi.cn.Nodup
noncomputable def g6:Nat→(List Value→Prop)→Prop
 | 0,P=>P []
 | n+1,P=>∀ v,g6 n fun vs=>P (v::vs)
theorem g6.on:∀ {vs:List Value} {P:List Value→Prop},g6 vs.length P→P vs
 | [],_,h=>h
 | v::vs,_,h=>g6.on (vs:=vs) (h v)
theorem Cc.qI{f:Addr}{D:Stmt}{q mo:String}{df:Value}{t:Tok}{c:Addr}{cs as:List CV}{K:CV→Led→Prop}{l:Led}(fi:Fi)(ps:List Str)(n:Nat)
  (ho:(K39 d.w.params).lookup f=some (fo D q df mo t c)) (hcd:codeIn (K39 d.w.params) (.ref c) (Str.ofString q)=true) (hok:kV D fi ps=true)
  (hb:∀ (s:Shared) vs,(K39 d.w.params).In s.heap→ar cs vs→∃ ws,ar as ws∧BindsTo s (fdOf D q df mo t c) ⟨vs,[]⟩ (ps.zip ws))
  (h:∀ (d':Dy) (P:Option CV→Sl→Led→Prop),Sub d d' (fdOf D q df mo t c) f→(∀ o σ l l',K (o.getD (.v .none)) l→l.le l'→P o σ l') →
   ak (vals ps as) fi.cn (fun cs l=>Ev d' fi cs→go (fi:=fi) (r:=r) ⟨d',cs,P,fun O O=>False⟩ n (.s (.f D) 0 .nil) (Sl.fC (vals ps as) fi.ns) l) l) :
  Cc d (r+1) f cs K l:=by
 have a4:=bA hok
 have a3:=bA a4.1
 have a2:=bA a3.1
 have h2:=a2.2
 have k1:(cE D).kind=.function:=(mx h2).h1
 have k5:(cellsFrom 0 (cE D).names []).map (·.1)=fi.cn:=(mx h2).h5
 refine .into fi ps n rfl (.of a2.1 ho hcd) h2 (fun s vs X O hv=>?_) fun d' P sb hP=>(h d' P sb hP).mono fun cs l h=>by rw [show List.map (·.2) (fdOf D q df mo t c).closure=[] from rfl,List.append_nil];exact h
 obtain (⟨ws,a,b⟩):=hb s vs X hv
 refine ⟨ws,a,b,Makes.plain k1 rfl (List.all_eq_true.mpr fun y hy=>?_) (show ((cellsFrom 0 (cE D).names []).map (·.1)).Nodup by rw [k5];exact (of_decide_eq_true a4.2))⟩
 exact List.all_eq_true.mp a3.2 y.1 (List.of_mem_zip hy).1
theorem Cc.def{f:Addr}{D:Stmt}{q mo:String}{df:Value}{t:Tok}{c:Addr}{cs:List CV}{K:CV→Led→Prop}{l:Led}(fi:Fi)(ps:List Str)(n:Nat)
  (ho:(K39 d.w.params).lookup f=some (fo D q df mo t c)) (hcd:codeIn (K39 d.w.params) (.ref c) (Str.ofString q)=true) (hok:kV D fi ps=true)
  (hb:g6 cs.length fun vs=>bindArgs (fdOf D q df mo t c) ⟨vs,[]⟩=pure (ps.zip vs))
  (h:∀ (d':Dy) (P:Option CV→Sl→Led→Prop),Sub d d' (fdOf D q df mo t c) f→(∀ o σ l l',K (o.getD (.v .none)) l→l.le l'→P o σ l') →
   ak (vals ps cs) fi.cn (fun as l=>Ev d' fi as→go (fi:=fi) (r:=r) ⟨d',as,P,fun O O=>False⟩ n (.s (.f D) 0 .nil) (Sl.fC (vals ps cs) fi.ns) l) l) :
  Cc d (r+1) f cs K l :=
 .qI fi ps n ho hcd hok (fun O vs O hv=>⟨vs,hv,.of_eq (g6.on (P:=fun vs=>bindArgs (fdOf D q df mo t c) ⟨vs,[]⟩=pure (ps.zip vs)) (by rw [hv.len];exact hb))⟩) h
theorem Cl.def{f:Addr}{D:Stmt}{q mo:String}{df:Value}{t:Tok}{c:Addr}{cs:List CV}{K:CV→Led→Prop}{l:Led}(fi:Fi)(ps:List Str)(n:Nat)
  (ho:(K39 d.w.params).lookup f=some (fo D q df mo t c)) (hcd:codeIn (K39 d.w.params) (.ref c) (Str.ofString q)=true) (hok:kV D fi ps=true)
  (hb:g6 cs.length fun vs=>bindArgs (fdOf D q df mo t c) ⟨vs,[]⟩=pure (ps.zip vs))
  (h:∀ (d':Dy) (P:Option CV→Sl→Led→Prop),Sub d d' (fdOf D q df mo t c) f→(∀ o σ l l',K (o.getD (.v .none)) l→l.le l'→P o σ l') →
   ak (vals ps cs) fi.cn (fun as l=>Ev d' fi as→go (fi:=fi) (r:=r) ⟨d',as,P,fun O O=>False⟩ n (.s (.f D) 0 .nil) (Sl.fC (vals ps cs) fi.ns) l) l) :
  Cl d (r+1) (.ref f) cs K l:=(Cc.def fi ps n ho hcd hok hb h).cl
end
end
section
theorem ar.one{a:CV}{vs:List Value}(h:ar [a] vs):∃ x,vs=[x]∧CV.Is a x:=by
 cases h with
 | cons h1 h=>cases h;exact ⟨_,rfl,h1⟩
theorem ar.two{a b:CV}{vs:List Value}(h:ar [a,b] vs):∃ x y,vs=[x,y]∧CV.Is a x∧CV.Is b y:=by
 cases h with
 | cons h1 h=>obtain (⟨y,rfl,h2⟩):=h.one;exact ⟨_,y,rfl,h1,h2⟩
theorem ar.three{a b c:CV}{vs:List Value}(h:ar [a,b,c] vs):∃ x y z,vs=[x,y,z]∧CV.Is a x∧CV.Is b y∧CV.Is c z:=by
 cases h with
 | cons h1 h=>obtain (⟨y,z,rfl,h2⟩):=h.two;exact ⟨_,y,z,rfl,h1,h2⟩
section
variable {d:Dy}{r:Nat}{l:Led}
set_option tactic.hygienic true in
theorem LN.item{o i:Ex}{a:Addr}{vs:Array Value}{n:Nat}{k:Int}{v:Value}{K:CV→Led→Prop}(hm:l a=some (listOf vs n))(h0:0≤k)(hx:vs[k.toNat]?=some v)(hk:k < 2 ^ 63)(h:K (CV.of v) l)(hi:isSlice i=false:=by rfl):LN d r (fH o i) [.v (.ref a),.int k] K l:=by
 refine ⟨fun us m hu=>?_⟩
 obtain (⟨x,u,rfl,hx1,hx2⟩):=ar.two hu
 cases hx1;cases hx2;rename_i u
 have hs:subscripted i false (.ref a) (.int k u)=operate [.ref a,.int k u] (getItem (.ref a) (.int k u)):=by cases i<;>first | rfl | cases hi
 exact .quiet fun A E g s Q nn kk=>tail_any (Heap.IsList.typeIs ⟨_,nn.a.get hm,rfl,_,rfl⟩) slot_list_getitem.lookup (wpAny_getItem_list ⟨_,nn.a.get hm,rfl,_,rfl⟩ h0 hk hx (kk v s.toks ⟨_,.refl _,CV.dM v,h⟩)) hs
noncomputable def bF:CV→(Value→Prop)→Prop
 | .int i,P=>∀ t,P (.int i t)
 | .str i,P=>∀ t,P (.str i t)
 | .v v,P=>P v
theorem bF.on{c:CV}{P:Value→Prop}(h:bF c P){v:Value}(hv:CV.Is c v):P v:=by
 cases hv<;>first | exact h _ | exact h
theorem LU.vy{a:Addr}{vs:List Value}{n:Nat}{k:Int}{c:CV}{q:Value→List Value}{K:Led→Prop}(hm:l a=some (listOf vs.toArray n))(h0:0≤k)(hk:k < 2 ^ 63)(e:∀ z,ki_setL vs k.toNat z=some (q z))(h:bF c fun z=>∀ l',Chg l a (listOf (q z).toArray n) l'→K l'):LU d r fX [.v (.ref a),.int k,c] K l:=by
 refine ⟨fun us m hu=>?_⟩
 obtain ⟨x,y,z,rfl,hx1,hx2,h3⟩:=ar.three hu
 cases hx1;cases hx2
 refine ⟨fun A E g s n'=>?_⟩
 obtain ⟨mo,news,F,N,_,_,_,ch⟩:=n'.a.led
 obtain ⟨rest,N1,off,_,k1⟩:=ch a _ hm
 exact ki_set F N1 h0 hk (e _) (.head off) fun h' F' N'=>⟨g,m,_,.of (t:=s.toks),k1 h' _ F' N',.refl _,h.on h3 _ .set⟩
end
structure rA(x y:Int):Prop where
 hx:0≤x
 hy:0≤y
 sX:y < 2147483647
theorem fmod_lo(z:Int):0≤z.fmod 2147483647:=by rw [Int.fmod_eq_emod_of_nonneg _ (by decide)];omega
theorem fmod_hi(z:Int):z.fmod 2147483647 < 2147483647:=by rw [Int.fmod_eq_emod_of_nonneg _ (by decide)];omega
theorem ku(z:Int)(b:Int):IntMulOk (z.fmod 2147483647) b :=
 IntMulOk.of_left (intBits_le_64 (by have:=fmod_lo z;omega) (by have:=fmod_hi z;omega))
theorem bU{z t:Int}(h:0 < t):0≤z.fmod t∧z.fmod t < t:=by
 rw [Int.fmod_eq_emod_of_nonneg _ (by omega)]
 exact ⟨Int.emod_nonneg _ (by omega),Int.emod_lt_of_pos _ h⟩
theorem bg{x t:Int}(hx:0≤x)(h:0 < t):0≤x.fdiv t∧x.fdiv t≤x:=by
 rw [Int.fdiv_eq_ediv_of_nonneg _ (by omega)]
 exact ⟨Int.ediv_nonneg hx (by omega),Int.ediv_le_self _ hx⟩
inductive Src(l:Led)(a:Addr):Prop
 | mk (x y:Int) (tx ty:Tok) (n:Nat) (e:l a=some (listOf #[.int x tx,.int y ty] n)) (h:rA x y):Src l a
structure ve(a:Addr)(l l':Led):Prop where
 src:Src l' a
 other:∀ b,b≠a→l' b=l b
noncomputable def we:Fi:={ns:=["source", "top", "drawn"].map Str.ofString,gi:=[]}
theorem dE{d:Dy}{r:Nat}{src:Addr}{top:Int}{l:Led}{K:CV→Led→Prop}(hs:Src l src)(ht:0 < top)(ht2:top < 1000)
  (k:∀ e l',0≤e→e < top→ve src l l'→K (.int e) l') :
  Cl d (r+1) (.ref 637) [.v (.ref src),.int top] K l:=by
 obtain (⟨x,y,tx,ty,n,hm,hs⟩):=hs
 refine Cl.def we (["source", "top"].map Str.ofString) 99 rfl rfl (by kernel_rfl) (fun O O=>rfl) fun d P sb hP ev=>?_
 refine LN.item hm (by decide) rfl (by decide) ?_
 refine aA.mk (fun h=>?_) (fun h=>?_)
 ·have h:=of_decide_eq_true h
  refine LN.item hm (by decide) rfl (by decide) ?_
  refine And.intro (by omega) ?_
  refine LN.item hm (by decide) rfl (by decide) ?_
  refine And.intro ⟨by omega,PyProof.noPylong_small (by omega)⟩ ?_
  refine LU.vy (vs:=[.int x tx,.int y ty]) hm (by decide) (by decide) (fun O=>rfl) fun t l1 c1=>?_
  exact hP _ _ _ _ (k _ _ (bU ht).1 (bU ht).2 ⟨⟨_,_,_,_,_,c1.hit,(bg hs.hx ht).1,hs.hy,hs.sX⟩,c1.other⟩) .rfl
 ·refine LN.item hm (by decide) rfl (by decide) ?_
  refine And.intro (IntMulOk.of_left (intBits_le_64 (by have:=hs.hy;omega) (by have:=hs.sX;omega))) ?_
  refine And.intro (by decide) ?_
  refine LU.vy (vs:=[.int x tx,.int y ty]) hm (by decide) (by decide) (fun O=>rfl) fun t l1 c1=>?_
  refine LN.item c1.hit (by decide) rfl (by decide) ?_
  refine LN.item c1.hit (by decide) rfl (by decide) ?_
  refine And.intro (ku _ _) ?_
  refine And.intro (by decide) ?_
  refine And.intro ⟨by decide,PyProof.noPylong_small (by decide)⟩ ?_
  refine And.intro (by omega) ?_
  exact hP _ _ _ _ (k _ _ (bU ht).1 (bU ht).2 ⟨⟨_,_,_,_,_,c1.hit,hs.hx,fmod_lo _,fmod_hi _⟩,c1.other⟩) .rfl
end
section
section
variable {d:Dy}{g h h':Heap}{m:Mp}{l:Led}{I:Addr}{o o':Obj}
theorem mh{mo:Mp}{L:Addr}(F:Fr g L h mo)(x:Heap.ExtBut I h h')(hL:L≠I)(hn:g.get? I=none):Fr g L h' mo :=
 ⟨F.ns.extBut x hL,fun b o e=>x b o (fun q=>by rw [q,hn] at e;cases e) (F.keep b o e),F.above⟩
structure Apart(d:Dy)(b:Addr):Prop where
 z:∀ p∈d.fz,p.1≠b
 c:∀ p,d.cmp=some p→p.1≠b
theorem Led.ap{l:Led}{a b:Addr}{o:Obj}(e:l b=some o)(n:l a=none):a≠b:=fun q=>nomatch (q▸n).symm.trans e
theorem At.apart{b:Addr}(t:At d g h m l)(e:l b=some o):Apart d b:=⟨fun p hp=>Led.ap e (t.Z p hp).2.2.2,fun p hp=>t.W.el (fun q=>nomatch q.symm.trans hp) fun p' oc q w=>by
 rw [hp] at q;injection q with q;exact q▸Led.ap e w.l⟩
theorem At.over(t:At d g h m (l.set I o))(hI:l I=none)(x:Heap.ExtBut I h h'):At d g h' m l:=by
 have z:=t.N I o Led.hit
 have ap:=t.apart (b:=I) Led.hit
 have le:l.le (l.set I o):=.new hI
 exact ⟨t.B,fun b y e=>have n:=t.N b y (Led.new hI e);⟨x b y (Led.ne e hI) n.1,n.2⟩,t.W.el (fun e F=>gr e (mh F x z.2.1.symm z.2.2)) fun p oc e w=>fJ e ⟨mh w.F x z.2.1.symm z.2.2,w.ns,x _ _ (ap.c p e) w.get,w.L,w.g,le.none w.l,w.z⟩,
  fun p hp=>have y:=t.Z p hp;⟨x _ _ (ap.z p hp) y.1,y.2.1,y.2.2.1,le.none y.2.2.2⟩⟩
set_option tactic.hygienic true in
theorem At.take(t:At d g h m l)(hI:l I=none)(ap:Apart d I)(e:h.get? I=some o∧I≠d.L∧g.get? I=none):At d g h m (l.set I o) :=
 ⟨t.B,fun b y q=>by
  unfold Led.set at q
  split at q
  ·rename_i z;injection q with q;exact z▸q▸e
  ·exact t.N b y q,t.W.el (fun e F=>gr e F) fun p oc e w=>fJ e ⟨w.F,w.ns,w.get,w.L,w.g,(if_neg (ap.c p e)).trans w.l,w.z⟩,
  fun p hp=>have y:=t.Z p hp;⟨y.1,y.2.1,y.2.2.1,(if_neg (ap.z p hp)).trans y.2.2.2⟩⟩
theorem At.anew(t:At d g h m (l.set I o))(hI:l I=none)(x:Heap.ExtBut I h h')(ho:h'.get? I=some o'):At d g h' m (l.set I o') :=
 (t.over hI x).take hI (t.apart (b:=I) Led.hit) ⟨ho,(t.N I o Led.hit).2⟩
noncomputable abbrev Dy.bN(d:Dy)(I:Addr)(o:Obj):Dy:={d with fz:=(I,o)::d.fz}
theorem At.rO(t:At d g h m (l.set I o))(hI:l I=none):At (d.bN I o) g h m l:=by
 have u:=t.over hI fun O O O e=>e
 have z:=t.N I o Led.hit
 exact ⟨u.B,u.N,u.W.el (fun e F=>gr (d:=d.bN I o) e F) fun p oc e w=>fJ (d:=d.bN I o) e ⟨w.F,w.ns,w.get,w.L,w.g,w.l,List.forall_mem_cons.mpr ⟨((t.apart (b:=I) Led.hit).c p e).symm,w.z⟩⟩,List.forall_mem_cons.mpr ⟨⟨z.1,z.2.1,z.2.2,hI⟩,u.Z⟩⟩
theorem At.tR(t:At (d.bN I o) g h m l):At d g h m l:=⟨t.B,t.N,t.W.el (fun e F=>gr (d:=d) e F) fun p oc e w=>fJ (d:=d) e ⟨w.F,w.ns,w.get,w.L,w.g,w.l,fun q hq=>w.z q (.tail _ hq)⟩,fun p hp=>t.Z p (.tail _ hp)⟩
theorem At.vu(t:At (d.bN I o) g h m l)(hd:∀ p∈d.fz,p.1≠I):l I=none∧At d g h m (l.set I o) :=
 have z:=t.Z (I,o) (.head _)
 ⟨z.2.2.2,At.take t.tR z.2.2.2 ⟨hd,fun p hp=>t.W.el (fun e=>nomatch e.symm.trans hp) fun p' oc e w=>by
  have e:d.cmp=some p':=e
  rw [hp] at e;injection e with e;exact e▸(w.z (I,o) (.head _)).symm⟩ ⟨z.1,z.2.1,z.2.2.1⟩⟩
end
section
variable {d:Dy}{r:Nat}{m:Mp}{l:Led}
theorem bx.rO{A:Around}{E:Value→Shared→Prop}{g:Heap}{s:Shared}{I:Addr}{o:Obj}(n:bx d r A E g s m (l.set I o))(hI:l I=none):bx (d.bN I o) r A E g s m l :=
 ⟨⟨n.G.XB,n.G.TB,n.G.fk,n.G.ff,n.G.hk,n.G.hl,n.G.hg,n.G.hb⟩,⟨n.R.hd,n.R.fr,n.R.dep,n.R.pB⟩,n.a.rO hI,n.x.p,fun a s' th=>n.x.x a s' (by
  induction th with
  | own g' m c l oe a0 e hn hc hd at_ y=>exact .own g' m c l oe a0 ⟨e.T,e.e,e.st⟩ hn hc hd at_.tR y
  | on g' G mo c l e B F R u x=>exact .on g' G mo c l ⟨e.T,e.e,e.st⟩ B F R u x)⟩
noncomputable def Turn(J:Nat→Mp→Led→Prop)(i:Nat)(K:Flow→Mp→Led→Prop):Flow→Mp→Led→Prop
 | .ret v,m,l=>K (.ret v) m l
 | .brk,m,l=>K .next m l
 | _,m,l=>J i m l
noncomputable def yy(d:Dy)(I:Addr)(n:Nat)(It:Nat→Obj→Prop)(V:Nat→CV→Prop)(S:Nat→Led→Prop):Prop :=
 ∀ i o (l:Led) m A E g s (Q:Option Value→Shared→Prop),S i l→It i o→l I=none→i≤n→A.handled=none→Good d→At d g s.heap m (l.set I o) →
  (∀ v c o' h' tk,At d g h' m (l.set I o')→i < n→CV.Is c v→V i c→It (i+1) o'→Q (some v) {s with heap:=h',toks:=tk}) →
  (∀ h' tk,At d g h' m l→i=n→Q none {s with heap:=h',toks:=tk})→wpAny (model Pg d.w) A (pyNext (.ref I)) Q E s
inductive FI(d:Dy)(I:Addr)(n:Nat)(It:Nat→Obj→Prop)(J:Nat→Mp→Led→Prop)(g:Heap)(s:Shared)(k:Nat)(s':Shared):Prop
 | mk (i:Nat) (g':Heap) (m:Mp) (l:Led) (o:Obj) (ek:k=n - i+1) (hi:i≤n) (it:It i o) (j:J i m l) (ni:l I=none) (e:Step d g s g' s') (a:At d g' s'.heap m (l.set I o))
theorem Ok.xC{target:Ex}{body:List Stmt}{I:Addr}{n:Nat}{It:Nat→Obj→Prop}{V:Nat→CV→Prop}{S:Nat→Led→Prop}{J:Nat→Mp→Led→Prop}{K:Flow→Mp→Led→Prop}{A:Around}{E:Value→Shared→Prop}{g:Heap}{s:Shared}{Q:Flow→Shared→Prop}{o:Obj}
  (hm:d.may) (hfe:d.ay=d.env) (hfz:∀ p∈d.fz,p.1≠I) (nx:yy d I n It V S) (hS:∀ i m l,J i m l→S i l)
  (hgo:∀ i o v (l:Led) m A E g s (Q:Unit→Shared→Prop),It i o→At d g s.heap m (l.set I o)→Q () s→wpAny (model Pg d.w) A (letOwnedTupleGo target (.ref I) v) Q E s)
  (turn:∀ i c v o m (l:Led),i < n→CV.Is c v→V i c→It (i+1) o→J i m l→Ok (d.bN I o) r (assign target d.env v) (fun O m l=>Ok (d.bN I o) r (execs body d.env) (Turn J (i+1) K) m l) m l)
  (fin:∀ m l,J n m l→K .next m l) (h0:It 0 o) (hJ:J 0 m l) (hI:l I=none) (N:bx d r A E g s m (l.set I o)) (hQ:∀ f s',aO d g K s f s'→Q f s') :
  codeAny (model Pg d.w) A (.forLoop target (.ref I) body [] d.env) (fun r s'=>match r with | .ok f=>Q f s' | .error e=>cameBackBy (model Pg d.w) A d.env E e s') s:=by
 have pE:∀ e s',E e s'→notedBy (model Pg d.w) A d.env (fun e s'=>cameBackBy (model Pg d.w) A d.env E e s') e s':=hfe▸N.x.p hm A (.refl _)
 refine codeAny_forLoop_any (FI d I n It J g s) (fun k s₁ p=>?_) (n+1) (.mk 0 g m l o rfl (Nat.zero_le _) h0 hJ hI .rfl N.a)
 induction p with | mk i g₁ m₁ l₁ o₁ ek hi hIt hJ₁ hI₁ e₁ a₁ =>
 refine nx i o₁ l₁ m₁ A _ g₁ s₁ _ (hS _ _ _ hJ₁) hIt hI₁ hi N.R.hd N.G a₁ (fun v c o' h' tk a₂ hlt hc hV hIt'=>hgo (i+1) o' v l₁ m₁ A _ g₁ _ _ hIt' a₂ ?_) fun h' tk a₂ ei=>wpAny_execs_nil (hQ _ _ ⟨g₁,m₁,l₁,e₁.trans .of,a₂,fin _ _ (ei▸hJ₁)⟩)
 refine Ok.wp (d:=d.bN I o') (turn i c v o' m₁ l₁ hlt hc hV hIt' hJ₁) ((N.next (e₁.trans .of) a₂).rO hI₁) (fun O s₄ g₄ m₄ l₄ e₄ N₄ t₄=>Ok.wp (d:=d.bN I o') t₄ N₄ (fun f s₅ g₅ m₅ l₅ e₅ N₅ k₅=>?_) pE) pE
 have a₅:=N₅.a.vu hfz
 have e:Step d g s g₅ s₅:=e₁.trans ((Step.of (s:=s₁)).trans ⟨(e₄.trans e₅).T,(e₄.trans e₅).e,(e₄.trans e₅).st⟩)
 have nxt:J (i+1) m₅ l₅→∃ k',k' < k∧FI d I n It J g s k' s₅:=fun hJ=>⟨n - (i+1)+1,ek▸Nat.succ_lt_succ (Nat.sub_succ_lt_self _ _ hlt),.mk (i+1) g₅ m₅ l₅ o' rfl hlt hIt' hJ a₅.1 e a₅.2⟩
 have out:∀ f,K f m₅ l₅→Q f s₅:=fun f k=>hQ _ _ ⟨g₅,m₅,l₅,e,a₅.2.sub (.new a₅.1),k⟩
 induction f with
 | next=>exact nxt k₅
 | cont=>exact nxt k₅
 | brk=>exact out _ k₅
 | ret v=>exact out _ k₅
theorem Ok.bq{t:Ex}{body:List Stmt}{pos:Pos}{K:Flow→Mp→Led→Prop}(hm:d.may)(hfe:d.ay=d.env)(I:Nat→Mp→Led→Prop)
  (turn:∀ n m l,I n m l→Ok d r (isTrue t d.env (eval t d.env)) (fun b m l=>if b then Ok d r (execs body d.env) (fun f m l=>match f with | .ret v=>K (.ret v) m l | .brk=>K .next m l | _=>∃ k,k < n∧I k m l) m l else Ok d r (execs [] d.env) K m l) m l)
  (n:Nat) (h:I n m l):Ok d r (exec (.While t body [] pos) d.env) K m l:=by
 refine ⟨fun A E g s N=>wpAny_While (codeAny_whileLoop (fun k s'=>aO d g I s k s') (fun k s₁ p=>?_) n (N.ok h))⟩
 have pE:∀ e s',E e s'→notedBy (model Pg d.w) A d.env (fun e s'=>cameBackBy (model Pg d.w) A d.env E e s') e s':=hfe▸N.x.p hm A (.refl _)
 induction p with | mk g₁ m₁ l₁ e₁ a₁ h₁ =>
 refine (turn k m₁ l₁ h₁).wp (N.next e₁ a₁) (fun b s₂ g₂ m₂ l₂ e₂ N₂ k₂=>?_) pE
 have e₂:=e₁.trans e₂
 induction b with
 | false=>exact Ok.wp k₂ N₂ (fun f s₃ O O O e₃ N₃ k₃=>⟨_,_,_,e₂.trans e₃,N₃.a,k₃⟩) pE
 | true =>
  refine Ok.wp k₂ N₂ (fun f s₃ g₃ m₃ l₃ e₃ N₃ k₃=>?_) pE
  have nxt:(∃ j,j < k∧I j m₃ l₃)→∃ j,j < k∧aO d g I s j s₃:=fun h=>h.elim fun j h=>⟨j,h.1,⟨g₃,m₃,l₃,e₂.trans e₃,N₃.a,h.2⟩⟩
  induction f with
  | next=>exact nxt k₃
  | cont=>exact nxt k₃
  | brk=>exact ⟨g₃,m₃,l₃,e₂.trans e₃,N₃.a,k₃⟩
  | ret v=>exact ⟨g₃,m₃,l₃,e₂.trans e₃,N₃.a,k₃⟩
end
end
section
structure bQ(d:Dy)(l:Led)(c:CV)(n:Nat)(V:Nat→CV→Prop)(S:Nat→Led→Prop)(It:Nat→Obj→Prop):Prop where
 iter:∀ v m A E g s (Q:Value→Shared→Prop),CV.Is c v→Good d→At d g s.heap m l→(∀ I o h' tk,At d g h' m (l.set I o)→l I=none→It 0 o→(∀ b x,l b=some x→b < I)→Q (.ref I) {s with heap:=h',toks:=tk})→wpAny (model Pg d.w) A (pyIter v) Q E s
 nx:∀ I,yy d I n It V S
 self:∀ I i o (l:Led) m A E g s (Q:Value→Shared→Prop),It i o→At d g s.heap m (l.set I o)→(∀ tk,Q (.ref I) {s with toks:=tk})→wpAny (model Pg d.w) A (pyIter (.ref I)) Q E s
 go:∀ target I i o v (l:Led) m A E g s (Q:Unit→Shared→Prop),It i o→At d g s.heap m (l.set I o)→Q () s→wpAny (model Pg d.w) A (letOwnedTupleGo target (.ref I) v) Q E s
section
variable {d:Dy}{r:Nat}{l:Led}
theorem At.push{g h:Heap}{m:Mp}(a:At d g h m l)(o:Obj)(hf:o.isFreed=false:=by rfl):l h.objs.size=none∧At d g (h.push o) m (l.set h.objs.size o):=by
 obtain (⟨mo,news,F,N,_,_,nw,_⟩):=a.led
 exact nw (h.push o) h.objs.size o (F.push o) (N.push F o hf) (du N)
theorem gq{o:Obj}{I:Addr}{v:Value}{T:String}{vs:Array Value}(hc:o.cls=.type T)(hd:o.data=.fields vs)(hT:["enumerate", "zip", "dict_itemiterator", "dict_reverseitemiterator", "odict_iterator", "itertools.zip_longest", "itertools.pairwise"].contains T=false)(target:Ex)
  {m:Mp} {A:Around} {E:Value→Shared→Prop} {g:Heap} {s:Shared} {Q:Unit→Shared→Prop} (a:At d g s.heap m (l.set I o)) (k:Q () s):wpAny (model Pg d.w) A (letOwnedTupleGo target (.ref I) v) Q E s:=by
 have main:wpAny (model Pg d.w) A (do
   let (.ref r,.ref a):=(Value.ref I,v) | return
   let o ← load r
   match o.cls,o.data with
   | .type n,.fields vs =>
    if ["enumerate", "zip", "dict_itemiterator", "dict_reverseitemiterator", "odict_iterator", "itertools.zip_longest", "itertools.pairwise"].contains n&&vs[0]?==some (rawInt a) then
     rule "for.unpacks-the-owned-tuple"
     updateField r 0 .none
   | _,_=>pure ()) Q E s:=by
  induction v with
  | ref b =>
   refine wpAny_bind (wpAny_load (a.get Led.hit) ?_)
   rw [hc,hd]
   dsimp only
   rw [hT]
   exact wpAny_pure k
  | _=>exact wpAny_pure k
 have q:wpAny (model Pg d.w) A (Pure.pure ()) Q E s:=wpAny_pure k
 cases target<;>first | exact q | exact main
theorem bQ.list{ax:Addr}{its:Array Value}{k:Nat}(hm:l ax=some (listOf its k))(S:Nat→Led→Prop)(hS:∀ i l,S i l→l ax=some (listOf its k)) :
  bQ d l (.v (.ref ax)) its.size (fun i c=>∃ v,its[i]?=some v∧c=CV.of v) S (fun i o=>o.cls=.type "list_iterator"∧o.data=.fields #[.ref ax,.int i 0]) where
 iter v m A E g s Q hv G a k:=by
  cases hv
  exact wpAny_pyIter_list ⟨_,a.get hm,rfl,_,rfl⟩ (have p:=a.push _;k _ _ _ s.toks p.2 p.1 ⟨rfl,rfl⟩ fun O O e=>Heap.lt_size (a.get e))
 nx I i o l m A E g s Q hs hi hI hle hA G a k0 k1:=by
  have gI:s.heap.IsListIter I ax i:=⟨o,a.get (b:=I) Led.hit,hi.1,hi.2⟩
  have hl:s.heap.IsList ax its:=⟨_,a.get (Led.new hI (hS i l hs)),rfl,_,rfl⟩
  cases q:its[i]? with
  | some v=>exact wpAny_pyNext_list_item gI hl q fun h' it' sb=>it'.elim fun o' p=>k0 v _ o' h' s.toks (a.anew hI sb.extBut p.1) (Array.getElem?_eq_some_iff.mp q).1 (CV.dM v) ⟨v,q,rfl⟩ p.2
  | none=>exact wpAny_pyNext_list_end hA gI hl q fun h' x=>k1 h' s.toks (a.over hI x) (Nat.le_antisymm hle (Array.getElem?_eq_none_iff.mp q))
 self I i o l m A E g s Q hi a k:=wpAny_pyIter_listiter ⟨o,a.get (b:=I) Led.hit,hi.1,hi.2⟩ (k s.toks)
 go target I i o v l m A E g s Q hi a k:=gq hi.1 hi.2 (by decide) target a k
theorem bQ.range{ra:Addr}{a b:Int}{t u v:Tok}{n:Nat}(hm:l ra=some {cls:=.type "range",dict:=none,data:=.fields #[.int a t,.int b u,.int 1 v],slots:=#[]})(hsm:Builtin.Range.small a b 1=true)(hn:Builtin.Range.rangeSize a b 1=((n:Nat):Int))(S:Nat→Led→Prop) :
  bQ d l (.v (.ref ra)) n (fun i c=>c=.int (a+(i:Int))) S (fun i o=>o={cls:=.type "range_iterator",dict:=none,data:=.fields #[rawInt (a+(i:Int)),rawInt ((n:Int) - (i:Int)),rawInt 1],slots:=#[]}) where
 iter v m A E g s Q hv G at_ k:=by
  cases hv
  exact wpAny_pyIter_range (at_.get hm) hsm (have p:=at_.push _;k _ _ _ s.toks p.2 p.1 (by rw [hn];show _=_;simp) fun O O e=>Heap.lt_size (at_.get e))
 nx I i o l m A E g s Q hs hi hI hle hA G at_ k0 k1:=by
  have gI:=at_.get (b:=I) Led.hit
  rw [hi] at gI
  by_cases q:i < n
  ·refine wpAny_pyNext_range_item gI (Int.sub_pos_of_lt (Int.ofNat_lt.mpr q)) fun h' it' sb=>?_
   rw [Int.add_assoc,Int.sub_sub] at it'
   exact k0 _ _ _ h' (s.toks+1) (at_.anew hI sb.extBut it') q (.int _ _) rfl rfl
  ·exact wpAny_pyNext_range_end hA gI (Int.sub_nonpos_of_le (Int.ofNat_le.mpr (Nat.le_of_not_lt q))) fun h' x=>k1 h' s.toks (at_.over hI x) (Nat.le_antisymm hle (Nat.le_of_not_lt q))
 self I i o l m A E g s Q hi at_ k:=wpAny_pyIter_rangeiter (hi▸at_.get (b:=I) Led.hit) (k s.toks)
 go target I i o v l m A E g s Q hi at_ k:=gq (congrArg Obj.cls hi) (congrArg Obj.data hi) (by decide) target at_ k
theorem bQ.str{x:Str}(ha:x.cps.all (· < 128)=true)(S:Nat→Led→Prop) :
  bQ d l (.str x) x.cps.size (fun i c=>∃ k,x.cps[i]?=some k∧c=.str ⟨#[k]⟩) S (fun i o=>o.cls=.type "str_ascii_iterator"∧∃ t,o.data=.fields #[.str x t,.int i 0]) where
 iter v m A E g s Q hv G a k:=by
  cases hv
  exact wpAny_pyIter_ascii ha (have p:=a.push _;k _ _ _ s.toks p.2 p.1 ⟨rfl,_,rfl⟩ fun O O e=>Heap.lt_size (a.get e))
 nx I i o l m A E g s Q hs hi hI hle hA G a k0 k1:=hi.2.elim fun t hd=>by
  have gI:=a.get (b:=I) Led.hit
  cases q:x.cps[i]? with
  | some v=>exact wpAny_pyNext_ascii_item ⟨o,gI,hi.1,hd⟩ q fun h' it' sb=>it'.elim fun o' p=>k0 _ _ o' h' (s.toks+1) (a.anew hI sb.extBut p.1) (Array.getElem?_eq_some_iff.mp q).1 (.str _ _) ⟨v,q,rfl⟩ ⟨p.2.1,t,p.2.2⟩
  | none=>exact wpAny_pyNext_ascii_end hA ⟨o,gI,hi.1,hd⟩ q fun h' x=>k1 h' s.toks (a.over hI x) (Nat.le_antisymm hle (Array.getElem?_eq_none_iff.mp q))
 self I i o l m A E g s Q hi a k:=hi.2.elim fun t hd=>wpAny_pyIter_striter_ascii ⟨o,a.get (b:=I) Led.hit,hi.1,hd⟩ (k s.toks)
 go target I i o v l m A E g s Q hi a k:=hi.2.elim fun t hd=>gq hi.1 hd (by decide) target a k
theorem bQ.dict{K:Type}[DecidableEq K]{knd:KeyKind Pg d.w K}{da:Addr}{od:Obj}{kvs:List (K × Value)}(hm:l da=some od)(hD:od.IsDictOf knd kvs)(lo:(da==sysModules)=false)(S:Nat→Led→Prop)(hS:∀ i l,S i l→l da=some od) :
  ∃ It,bQ d l (.v (.ref da)) kvs.length (fun i c=>∃ k x v,kvs[i]?=some (k,x)∧knd.is k v=true∧c=CV.of v) S It:=by
 obtain ⟨es,ep,hx,hd,hk⟩:=id hD
 have at_:∀ {h:Heap},h.get? da=some od→h.DictAt knd da kvs ep:=fun e=>⟨od,es,e,hx,hd,hk⟩
 refine ⟨fun i o=>o.cls=.type "dict_keyiterator"∧o.data=.fields #[.ref da,.int i 0,.int kvs.length 0,.int ep 0],fun v m A E g s Q hv G a k=>?_,fun I i o l m A E g s Q hs hi hI hle hA G a k0 k1=>?_,fun I i o l m A E g s Q hi a k=>wpAny_pyIter_keyiter ⟨o,a.get (b:=I) Led.hit,hi.1,hi.2⟩ (k s.toks),fun target I i o v l m A E g s Q hi a k=>gq hi.1 hi.2 (by decide) target a k⟩
 ·cases hv
  exact wpAny_pyIter_dict lo (at_ (a.get hm)) (have p:=a.push _;k _ _ _ s.toks p.2 p.1 ⟨rfl,rfl⟩ fun O O e=>Heap.lt_size (a.get e))
 ·have gI:=a.get (b:=I) Led.hit
  have gx:=at_ (a.get (Led.new hI (hS i l hs)))
  cases q:kvs[i]? with
  | some p=>exact wpAny_pyNext_dict_item ⟨o,gI,hi.1,hi.2⟩ gx q fun key h' hk it' sb=>it'.elim fun o' w=>k0 _ _ o' h' s.toks (a.anew hI sb.extBut w.1) (List.getElem?_eq_some_iff.mp q).1 (CV.dM key) ⟨p.1,p.2,key,q,hk,rfl⟩ w.2
  | none=>exact wpAny_pyNext_dict_end hA ⟨o,gI,hi.1,hi.2⟩ gx q fun h' x=>k1 h' s.toks (a.over hI x) (Nat.le_antisymm hle (List.getElem?_eq_none_iff.mp q))
end
end
section
set_option backward.match.sparseCases false in
noncomputable def eu(fi:Fi)(cs:List Addr)(c:CV)(G:Sl→Led→Prop)(σ:Sl)(l:Led):Ex→Prop
 | .Name y _=>(match aI fi cs y with
  | some t=>c5 σ l c G t
  | none=>False)
 | .Tuple ts _ _=>(match bj ts with
  | some ids=>(match dh fi cs ids with
   | some tg=>bh c l ids.length fun cv=>cT tg cv G σ l
   | none=>False)
  | none=>False)
 | _=>False
theorem cX{d:Dy}{r:Nat}{fi:Fi}{cs:List Addr}(ev:Ev d fi cs){c:CV}{v:Value}{G:Sl→Led→Prop}{σ:Sl}{m:Mp}{l:Led}:∀ {t:Ex},eu fi cs c G σ l t→CV.Is c v→bL fi.ns σ m→Ok d r (assign t d.env v) (fun O m' l'=>∃ σ',bL fi.ns σ' m'∧G σ' l') m l:=by
 intro t h hc hm
 cases t with
 | Name y p =>
  have h:(match aI fi cs y with | some t=>c5 σ l c G t | none=>False):=h
  cases ht:aI fi cs y with
  | none=>rw [ht] at h;exact h.elim
  | some t=>rw [ht] at h;exact .um (fun O O O O h=>wpAny_assign_Name h) (d5 ev ht h hm hc)
 | Tuple ts k tp =>
  have h:(match bj ts with | some ids=>(match dh fi cs ids with | some tg=>bh c l ids.length fun cv=>cT tg cv G σ l | none=>False) | none=>False):=h
  refine aJ (bj ts) (fun hid=>?_) (fun ids hid=>?_)
  ·rw [hid] at h;exact h.elim
  ·rw [hid] at h;dsimp only at h
   refine aJ (dh fi cs ids) (fun hj=>?_) (fun tg hj=>?_)
   ·rw [hj] at h;exact h.elim
   ·rw [hj] at h
    induction h with | mk a vs cv o ec hm' ho hl is g =>
    subst ec;cases hc
    obtain (⟨t1,t2,t3⟩):=j3 (d:=d) hid
    refine ⟨fun A E g₀ s n=>?_⟩
    obtain (⟨mo,news,F,N,_,st,_⟩):=n.a.led
    have fin:∀ h',Fr _ _ h' mo→News _ _ h' news→wpAny _ A (assignInOrder ((assignEach ts d.env).map (·.2)) vs.toArray.toList) (aO d g₀ (fun O m' l'=>∃ σ',bL fi.ns σ' m'∧G σ' l') s) E {s with heap:=h'}:=fun h' F' N' =>
     wpAny_mono ((mU ev t1 hj is g hm).run A E g₀ {s with heap:=h'} (n.next (.of (t:=s.toks)) (st h' F' N'))) (fun O O p=>p.then .of) fun O O x=>x
    exact (pV (n.a.get hm') ho).elim (fun ht=>unpackN_ F N ht n.R.hd (by rw [t2,List.size_toArray,hl]) t3 fin) fun ht=>kun_list F N ht n.R.hd (by rw [t2,List.size_toArray,hl]) t3 fin
 | _=>exact h.elim
structure SubL(d d':Dy):Prop where
 w:d'.w=d.w
 X:∀ c l,d.X c l→d'.X c l
 Y:∀ c l,d.Y c l→d'.Y c l
 may:d.may→d'.may
 cmp:d'.cmp=d.cmp
 env:d'.env=d.env
 ay:d'.ay=d.ay
 L:d'.L=d.L
 base:d'.base=d.base
 az:d'.az=d.az
theorem SubL.bN{d:Dy}{I:Addr}{o:Obj}:SubL d (d.bN I o):=⟨rfl,fun O O h=>h,fun O O h=>h,fun h=>h,rfl,rfl,rfl,rfl,rfl,rfl⟩
theorem Ev.sub{d d':Dy}{fi:Fi}{cs:List Addr}(ev:Ev d fi cs)(s:SubL d d'):Ev d' fi cs:=⟨by rw [s.env];exact ev.loc,by rw [s.env,s.w];exact ev.xy,by rw [s.env];exact ev.own,by rw [s.env];exact ev.w7⟩
inductive Sl.Le:Sl→Sl→Prop
 | nil {b:Sl}:Sl.Le .nil b
 | c {v:CV} {a b:Sl} (h:Sl.Le a b):Sl.Le (.c v a) (.c v b)
 | u {a b:Sl} (h:Sl.Le a b):Sl.Le (.u a) (.u b)
 | uc {v:CV} {a b:Sl} (h:Sl.Le a b):Sl.Le (.u a) (.c v b)
theorem Sl.Le.rfl:∀ {a:Sl},Sl.Le a a
 | .nil=>.nil
 | .c _ _=>.c Sl.Le.rfl
 | .u _=>.u Sl.Le.rfl
theorem Sl.Le.get{a b:Sl}(h:Sl.Le a b):∀ {i:Nat} {c:CV},a.get i=some c→b.get i=some c:=by
 induction h with
 | nil=>intro i c e;cases i<;>cases e
 | c h ih=>intro i c e;induction i with | zero=>exact e | succ i=>exact ih (i:=i) e
 | u h ih=>intro i c e;induction i with | zero=>exact e | succ i=>exact ih (i:=i) e
 | uc h ih=>intro i c e;induction i with | zero=>cases e | succ i=>exact ih (i:=i) e
theorem bL.le{ns:List Str}{σ σ':Sl}{m:Mp}(h:bL ns σ m)(le:Sl.Le σ' σ):bL ns σ' m:=fun x i c hx hc=>h x i c hx (le.get hc)
set_option backward.match.sparseCases false in
noncomputable def aM:Ex→Bool
 | .Set ..=>false
 | _=>true
set_option backward.match.sparseCases false in
noncomputable def fE:Stmt→Bool
 | .For _ it _ [] _=>aM it
 | _=>false
set_option backward.match.sparseCases false in
noncomputable def jx:Stmt→Bool
 | .While _ _ [] _=>true
 | _=>false
theorem qG{P:Stmt→Prop}(k:∀ t it b pos,aM it=true→P (.For t it b [] pos)):∀ st,fE st=true→P st:=by
 intro st
 cases st with
 | For t it b e pos=>induction e with | nil=>exact k t it b pos | cons _ _=>exact ff
 | _=>exact ff
theorem lZ{P:Stmt→Prop}(k:∀ t b pos,P (.While t b [] pos)):∀ st,jx st=true→P st:=by
 intro st
 cases st with
 | While t b e pos=>induction e with | nil=>exact fun O=>k t b pos | cons _ _=>exact ff
 | _=>exact ff
theorem gK{st:Stmt}(h:fE st=true):∃ t it b pos,st=.For t it b [] pos∧aM it=true:=qG (P:=fun st=>∃ t it b pos,st=.For t it b [] pos∧aM it=true) (fun t it b pos h=>⟨t,it,b,pos,rfl,h⟩) st h
theorem jw{st:Stmt}(h:jx st=true):∃ t b pos,st=.While t b [] pos:=lZ (P:=fun st=>∃ t b pos,st=.While t b [] pos) (fun t b pos=>⟨t,b,pos,rfl⟩) st h
theorem eF{e:Ex}(h:aM e=true)(env:Env):∀ x,foldedSetIterable e env x=pure x:=by
 revert h;cases e<;>first | exact fun O O=>rfl | exact ff
section
variable {fi:Fi}{r:Nat}{d:Dy}{cs:List Addr}{P:Option CV→Sl→Led→Prop}{Q:Sl→Led→Prop}{b:Bk}{i:Nat}{σ:Sl}{l:Led}{K:Option CV→Sl→Led→Prop}
noncomputable abbrev cC(b:Bk)(i:Nat):Stmt:=b.at.getD i (.Pass ⟨0,0,0,0⟩)
theorem LE.go{p:Pe}{K:CV→Led→Prop}(ev:Ev d fi cs)(h:∀ P',(∀ c l',K c l'→P' (some c) σ l')→go (fi:=fi) (r:=r) ⟨d,cs,P',fun O O=>False⟩ 99 (.e p .ret) σ l):LE d r fi (eval p.at d.env) K σ l :=
 cf (x:=⟨d,cs,fun o O l=>match o with | some c=>K c l | none=>False,fun O O=>False⟩) ev 99 (.e p .ret) σ l (h _ fun O O k=>k)
inductive xK(d:Dy){α:Type}(n:α→Nat)(V:α→Nat→CV→Prop)(S:α→Nat→Led→Prop)(It:α→Nat→Obj→Prop)(J:α→Nat→Sl→Led→Prop)(σ:Sl)(c:CV)(l:Led):Prop
 | mk (x:α) (σ':Sl) (s:bQ d l c (n x) (V x) (S x) (It x)) (le:Sl.Le σ' σ) (j:J x 0 σ' l)
theorem LS.uT(fu:Nat){α:Type}{V:α→Nat→CV→Prop}{S:α→Nat→Led→Prop}{It:α→Nat→Obj→Prop}(J:α→Nat→Sl→Led→Prop)(n:α→Nat)(ev:Ev d fi cs)(hm:d.may)(hfe:d.ay=d.env)(hst:fE (cC b i)=true)
  (h:∀ P',(∀ x c σ' l',Sl.Le σ' σ→bQ d l' c (n x) (V x) (S x) (It x)→J x 0 σ' l'→P' (some c) σ l')→go (fi:=fi) (r:=r) ⟨d,cs,P',fun O O=>False⟩ 99 (.e (.v b i) .ret) σ l)
  (hS:∀ x k σ l,J x k σ l→S x k l)
  (turn:∀ (d1:Dy) (P1:Option CV→Sl→Led→Prop) x k c σ l,SubL d d1→k < n x→V x k c→J x k σ l→(∀ σ' σ l,Sl.Le σ' σ→J x (k+1) σ' l→P1 none σ l)→(∀ c σ l,K (some c) σ l→P1 (some c) σ l) →
   eu fi cs c (go (fi:=fi) (r:=r) ⟨d1,cs,P1,fun O O=>False⟩ fu (.s (.t b i) 0 .nil)) σ l (Pe.g b i).at)
  (fin:∀ x σ l,J x (n x) σ l→K none σ l):LS d r fi (exec (cC b i) d.env) K σ l:=by
 obtain ⟨target,iter,body,pos,hS',hset⟩:=gK hst
 have e0:(Pe.v b i).at=iter:=congrArg valOf hS'
 have e1:(Pe.g b i).at=target:=congrArg fW hS'
 have e2:(Bk.t b i).at=body:=congrArg fV hS'
 rw [hS']
 have he:=LE.go (r:=r) (σ:=σ) (l:=l) (p:=.v b i) (K:=fun c l'=>xK d n V S It J σ c l') ev fun P' hP=>h P' fun x c σ' l' e s j=>hP c l' (.mk x σ' s e j)
 rw [e0] at he
 refine ⟨fun m hmm=>⟨fun A E g s N=>wpAny_For (Ok.tQ (he.run m hmm) N fun xv s₁ g₁ l₁ c e₁ N₁ hc k=>?_) (eF hset d.env)⟩⟩
 induction k with | mk x σ0 src le0 hJ =>
 refine src.iter xv m A _ g₁ s₁ _ hc N₁.G N₁.a fun I o h' tk a₂ hI h0 O=>?_
 have hz:∀ p∈d.fz,p.1≠I:=fun p hp q=>nomatch (q▸(a₂.Z p hp).2.2.2).symm.trans Led.hit
 refine Ok.xC (J:=fun k m l=>∃ σ,bL fi.ns σ m∧J x k σ l) (K:=PS fi.ns K) (l:=l₁) hm hfe hz (src.nx I) (fun k m l j=>j.elim fun σ j=>hS x k σ l j.2) (fun k o v l m=>src.go target I k o v l m) (fun k c v o m l hk hc hV hIt hj=>hj.elim fun σ hj=>?_) (fun m l j=>j.elim fun σ j=>.next σ j.1 (fin x σ l j.2)) h0 ⟨σ0,hmm.le le0,hJ⟩ hI (N₁.next (.of (s:=s₁)) a₂) (fun f s' p=>(p.then .of).then e₁)
 let P1:Option CV→Sl→Led→Prop:=fun o σ l=>match o with | none=>∃ σ',Sl.Le σ' σ∧J x (k+1) σ' l | some c=>K (some c) σ l
 refine (cX (ev.sub .bN) (e1▸turn (d.bN I o) P1 x k c σ l .bN hk hV hj.2 (fun σ' O O a b=>⟨σ',a,b⟩) fun O O O h=>h) hc hj.1).mono fun O m l q=>q.elim fun σ' q=>?_
 have hb:Ok (d.bN I o) r (execs ((Bk.t b i).at.drop 0) d.env) _ m l:=LS.run (cf (x:=⟨d.bN I o,cs,P1,fun O O=>False⟩) (ev.sub .bN) fu _ _ _ q.2) m q.1
 rw [e2,List.drop_zero] at hb
 refine hb.mono fun f m l q=>?_
 induction q with
 | next σ h k=>exact k.elim fun σ' k=>⟨σ',h.le k.1,k.2⟩
 | ret σ c h is k=>exact .ret σ c h is k
theorem LS.uS{α:Type}{V:α→Nat→CV→Prop}{S:α→Nat→Led→Prop}{It:α→Nat→Obj→Prop}(J:α→Nat→Sl→Led→Prop)(n:α→Nat)(ev:Ev d fi cs)(hm:d.may)(hfe:d.ay=d.env)(hst:fE (cC b i)=true)
  (h:∀ P',(∀ x c σ' l',Sl.Le σ' σ→bQ d l' c (n x) (V x) (S x) (It x)→J x 0 σ' l'→P' (some c) σ l')→go (fi:=fi) (r:=r) ⟨d,cs,P',fun O O=>False⟩ 99 (.e (.v b i) .ret) σ l)
  (hS:∀ x k σ l,J x k σ l→S x k l)
  (turn:∀ (d1:Dy) (P1:Option CV→Sl→Led→Prop) x k c σ l,SubL d d1→k < n x→V x k c→J x k σ l→(∀ σ' σ l,Sl.Le σ' σ→J x (k+1) σ' l→P1 none σ l)→(∀ c σ l,K (some c) σ l→P1 (some c) σ l) →
   eu fi cs c (go (fi:=fi) (r:=r) ⟨d1,cs,P1,fun O O=>False⟩ 99 (.s (.t b i) 0 .nil)) σ l (Pe.g b i).at)
  (fin:∀ x σ l,J x (n x) σ l→K none σ l):LS d r fi (exec (cC b i) d.env) K σ l :=
 LS.uT 99 J n ev hm hfe hst h hS turn fin
theorem LS.bq(J:Nat→Sl→Led→Prop)(n:Nat)(ev:Ev d fi cs)(hm:d.may)(hfe:d.ay=d.env)(hst:jx (cC b i)=true){σ₀:Sl}(le₀:Sl.Le σ₀ σ)(hJ:J n σ₀ l)
  (turn:∀ (P1:Option CV→Sl→Led→Prop) (Q1:Sl→Led→Prop) n σ l,J n σ l→(∀ k σ' σ l,k < n→Sl.Le σ' σ→J k σ' l→P1 none σ l)→(∀ c σ l,K (some c) σ l→P1 (some c) σ l)→(∀ σ l,K none σ l→Q1 σ l) →
   go (fi:=fi) (r:=r) ⟨d,cs,P1,Q1⟩ 99 (.t (.v b i) (.ts (.t b i) .nil) (.ts (.e b i) .out)) σ l) :
  LS d r fi (exec (cC b i) d.env) K σ l:=by
 obtain ⟨t,body,pos,hS'⟩:=jw hst
 have e0:(Pe.v b i).at=t:=congrArg valOf hS'
 have e2:(Bk.t b i).at=body:=congrArg fV hS'
 have e3:(Bk.e b i).at=[]:=congrArg mu hS'
 rw [hS']
 refine ⟨fun m hm'=>Ok.bq hm hfe (fun n m l=>∃ σ,bL fi.ns σ m∧J n σ l) ?_ n ⟨σ₀,hm'.le le₀,hJ⟩⟩
 rintro n m l ⟨σ,hm',hJ⟩
 let P1:Option CV→Sl→Led→Prop:=fun o σ l=>match o with | none=>∃ k σ',k < n∧Sl.Le σ' σ∧J k σ' l | some c=>K (some c) σ l
 let y:Cx fi r:=⟨d,cs,P1,fun σ l=>K none σ l⟩
 have g:pH y (Pe.v b i).at (fun l=>Rest y (fun σ l=>y.P none σ l) (.t b i) 0 σ l) (fun l=>Rest y (fun σ l=>y.Q σ l) (.e b i) 0 σ l) σ l:=cf (x:=y) ev 99 _ _ _ (turn P1 _ n σ l hJ (fun k σ' σ l hk a hJ=>⟨k,σ',hk,a,hJ⟩) (fun O O O h=>h) fun O O h=>h)
 rw [e0] at g
 refine (g m hm').mono fun c m l q=>?_
 cases q with
 | t g =>
  have h:=LS.run g m hm'
  have h:Ok d r (execs ((Bk.t b i).at.drop 0) d.env) _ m l:=h
  rw [e2,List.drop_zero] at h
  show Ok _ _ _ _ _ _
  refine h.mono fun f m l q=>?_
  cases q with
  | next σ h k=>obtain (⟨k,σ',hk,a,hJ⟩):=k;exact ⟨k,hk,σ',h.le a,hJ⟩
  | ret σ c h is k=>exact .ret σ c h is k
 | f g =>
  have h:=LS.run g m hm'
  have h:Ok d r (execs ((Bk.e b i).at.drop 0) d.env) _ m l:=h
  rw [e3] at h
  show Ok _ _ _ _ _ _
  refine Ok.mono (t:=execs [] d.env) h fun f m l q=>?_
  induction q with
  | next σ h k=>exact .next σ h k
  | ret σ c h is k=>exact .ret σ c h is k
end
end
section
theorem Led.comm{l:Led}{a b:Addr}{x y:Obj}(h:a≠b):(l.set a x).set b y=(l.set b y).set a x:=by
 funext c
 unfold Led.set
 by_cases h1:c=b
 ·rw [if_pos h1,if_neg (fun q=>h (q.symm.trans h1)),if_pos h1]
 ·rw [if_neg h1,if_neg h1]
theorem Led.off{l:Led}{a b:Addr}{x:Obj}(h:b≠a):(l.set a x) b=l b:=if_neg h
noncomputable abbrev Dy.fF(d:Dy)(ce:Env)(C:Addr)(mo:Mp)(zs:List (Addr × Obj)):Dy:={d with env:=ce,cmp:=some (C,mo),fz:=zs,may:=False,X:=fun O O=>False,Y:=fun O O=>False}
section
variable {d:Dy}{g h:Heap}{m m2:Mp}{l:Led}{I C D:Addr}{oI oC x:Obj}
theorem At.fF{P:Prop}(t:At d g h m (((l.set C oC).set D x).set I oI))(hI:l I=none)(hC:l C=none)(hD:l D=none)(h1:I≠C)(h2:I≠D)(h3:C≠D)(hm:NsObj oC m2)
  (k:∀ mo zs,(∀ ce,At (d.fF ce C mo zs) g h m2 l)→(∀ {ce g' h' m2' l'} {P':Prop},At (d.fF ce C mo zs) g' h' m2' l'→(∀ oC',NsObj oC' m2'→l' I=none→l' C=none→l' D=none→At d g' h' m (((l'.set C oC').set D x).set I oI)→P')→P')→P):P:=by
 have eI:(((l.set C oC).set D x).set I oI) I=some oI:=Led.hit
 have eD:(((l.set C oC).set D x).set I oI) D=some x:=(Led.off h2.symm).trans Led.hit
 have eC:(((l.set C oC).set D x).set I oI) C=some oC:=(Led.off h1.symm).trans ((Led.off h3).trans Led.hit)
 have le:l.le (((l.set C oC).set D x).set I oI):=fun b o e=>Led.skip (Led.skip (Led.skip e (Led.ne e hC)) (Led.ne e hD)) (Led.ne e hI)
 have nI:=t.N _ _ eI
 have nD:=t.N _ _ eD
 have nC:=t.N _ _ eC
 have main:∀ mo (xs:List (Addr × Obj)),Fr g d.L h mo→(∀ p∈xs,h.get? p.1=some p.2∧p.1≠d.L∧g.get? p.1=none∧(((l.set C oC).set D x).set I oI) p.1=none)→(∀ p∈d.fz,p∈xs)→(∀ g' h' l',Fr g' d.L h' mo→(∀ p∈xs,h'.get? p.1=some p.2∧p.1≠d.L∧g'.get? p.1=none∧l' p.1=none)→Own d g' h' m l')→P:=fun mo xs Fm hxs hz back =>
  k mo ((I,oI)::(D,x)::xs) (fun ce=>⟨t.B,(t.sub le).N,fJ (p:=(C,mo)) rfl ⟨Fm,hm,nC.1,nC.2.1,nC.2.2,hC,List.forall_mem_cons.mpr ⟨h1,List.forall_mem_cons.mpr ⟨h3.symm,fun q hq=>Led.ap eC (hxs q hq).2.2.2⟩⟩⟩,
    List.forall_mem_cons.mpr ⟨⟨nI.1,nI.2.1,nI.2.2,hI⟩,List.forall_mem_cons.mpr ⟨⟨nD.1,nD.2.1,nD.2.2,hD⟩,fun q hq=>have y:=hxs q hq;⟨y.1,y.2.1,y.2.2.1,le.none y.2.2.2⟩⟩⟩⟩)
   fun {ce g' h' m2' l' P'} t' kk=>t'.W.el (fun e=>nomatch e) fun p oC' e w=>by
    injection e with e;subst e
    have yI:=t'.Z (I,oI) (.head _)
    have yD:=t'.Z (D,x) (.tail _ (.head _))
    have yx:=fun p hp=>t'.Z p (.tail _ (.tail _ hp))
    have a0:At d g' h' m l':=⟨t'.B,t'.N,back g' h' l' w.F yx,fun p hp=>yx p (hz p hp)⟩
    exact kk oC' w.ns yI.2.2.2 w.l yD.2.2.2 (((a0.take w.l (t.apart eC) ⟨w.get,w.L,w.g⟩).take ((Led.off h3.symm).trans yD.2.2.2) (t.apart eD) ⟨yD.1,yD.2.1,yD.2.2.1⟩).take ((Led.off h2).trans ((Led.off h1).trans yI.2.2.2)) (t.apart eI) ⟨yI.1,yI.2.1,yI.2.2.1⟩)
 exact t.W.el (fun e F=>main m d.fz F t.Z (fun O h=>h) fun O O O F O=>gr e F) fun p oc e w=>main p.2 ((p.1,oc)::d.fz) w.F (List.forall_mem_cons.mpr ⟨⟨w.get,w.L,w.g,w.l⟩,t.Z⟩) (fun O h=>.tail _ h) fun g' h' l' F' hq=>have y:=hq (p.1,oc) (.head _);fJ e ⟨F',w.ns,y.1,y.2.1,y.2.2.1,y.2.2.2,w.z⟩
end
theorem kr{Mo:Model}{A:Around}{E:Value→Shared→Prop}{s:Shared}{Q:Env→Shared→Prop}{scope:Scope}{env:Env}{cl:List (Str × Addr)}
  (h:∀ h' tk own,cellsFrom (s.heap.objs.size+1) scope.names cl=own++cl→own.map (·.1)=(cellsFrom 0 scope.names []).map (·.1)→(∀ b o,s.heap.get? b=some o→h'.get? b=some o)→h'.Ns s.heap.objs.size (fun O=>none)→(∀ n c,(n,c)∈own→h'.IsCell c none)→own.Pairwise (fun x y=>x.2≠y.2)→(∀ p∈own,s.heap.objs.size < p.2) →
   Q {scope:=scope,locals:=s.heap.objs.size,globals:=env.globals,cells:=own++cl,qual:=env.qual,func:=none,code:=env.code,frame:=env.frame,builtins:=env.builtins} {s with heap:=h',toks:=tk}) :
  wpAny Mo A (newFunctionEnv scope env.globals cl [] env.qual none .none (some env)) Q E s:=by
 simp only [newFunctionEnv,Option.isSome_some,if_true]
 refine wpAny_bind (wpAny_alloc ?_)
 refine wpAny_bind (wpAny_layCells _ (fun name kind cells=>by cases hkc:kind==NameKind.cell<;>simp [hkc]) _ _ _ _ ?_)
 have ok:=cellsFrom_ok scope.names (s.heap.push {cls:=.type "dict",data:=.dict #[]}) (s.heap.objs.size+1) [] ⟨fun O O hm=>(nomatch hm),List.Pairwise.nil⟩ (by rw [Heap.size_push];exact Nat.le_refl _)
 rw [Heap.size_push] at ok
 rw [show ({s with heap:=s.heap.push {cls:=.type "dict",data:=.dict #[]}}:Shared).heap.objs.size=s.heap.objs.size+1 from Heap.size_push ..]
 refine wpAny_bind ?_
 rw [List.forIn_nil]
 refine wpAny_pure (wpAny_pure ?_)
 have:=h (pushCells (s.heap.push {cls:=.type "dict",data:=.dict #[]}) scope.names) s.toks (cellsFrom (s.heap.objs.size+1) scope.names []) cF (cellsFrom_names scope.names _ _ [] [] rfl)
  (fun b o e=>pushCells_keeps _ _ b o (Heap.get?_push_of_some _ e)) ((Heap.Ns.new s.heap (.type "dict")).keeps (pushCells_keeps _ _)) (fun n c hm=>(ok.empty n c hm).1) ok.apart fun p hp=>(ok.empty p.1 p.2 hp).2
 rw [← cF (acc:=cl)] at this
 exact this
noncomputable abbrev bP(ifs:List Ex)(env:Env):Sem Bool :=
 forIn ifs true fun c r=>if r=true then do let ok ← isTrue c env (eval c env);pure (ForInStep.yield ok) else pure (ForInStep.yield r)
theorem Ok.tests{d:Dy}{r:Nat}{m:Mp}{l:Led}{env:Env}{K:Bool→Mp→Led→Prop}{ifs:List Ex}(h:match ifs with | []=>K true m l | [c]=>Ok d r (isTrue c env (eval c env)) K m l | _=>False):Ok d r (bP ifs env) K m l:=by
 match ifs,h with
 | [],h=>exact Ok.pure h
 | [c],h =>
  refine .iX (t₁:=isTrue c env (eval c env)) (f:=fun b=>Pure.pure b) (fun A Q E s h=>?_) (h.mono fun b m l k=>.pure k)
  show wpAny _ A (forIn [c] true _) Q E s
  rw [List.forIn_cons]
  exact wpAny_bind (wpAny_bind (wpAny_mono h (fun b s h=>wpAny_pure (by dsimp only;rw [List.forIn_nil];exact h)) fun O O x=>x))
theorem ik{prog:Program}{w:World}{A:Around}{R:Result→Shared→Prop}{s:Shared}{elt target iter:Ex}{ifs:List Ex}{scope:Scope}{pos:Pos}{it acc:Value}{env:Env}(I:Nat→Shared→Prop)
  (turn:∀ n s,I n s→∀ E':Value→Shared→Prop,wpAny (model prog w) A (pyNext it) (fun r s₁=>match r with
   | none=>R (.ok .next) s₁
   | some v=>wpAny (model prog w) A (letOwnedTupleGo target it v) (fun O s₁'=>wpAny (model prog w) A (assign target env v) (fun O s₂ =>
     wpAny (model prog w) A (bP ifs env) (fun ok s₃ =>
      if ok=true then wpAny (model prog w) A (eval elt env) (fun x s₄ =>
       wpAny (model prog w) A (call (.builtin "list.append") [acc,x]) (fun O s₅=>∃ m,m < n∧I m s₅) E' s₄) E' s₃
      else ∃ m,m < n∧I m s₃) E' s₂) E' s₁') E' s₁) E' s)
  (n:Nat) (h:I n s) :
  codeAny (model prog w) A (.compLoop (.ListComp elt [⟨target,iter,ifs,0⟩] scope pos) 0 it acc env) R s:=by
 refine codeAny_loop rfl I (fun n s hI=>?_) n h
 show wpAny _ A ((compTurn (.ListComp elt [⟨target,iter,ifs,0⟩] scope pos) 0 it acc env).onRaise (fun x=>do noteFrame x env;theTreesLotGoes x)) _ _ s
 refine wpAny_noted ?_
 rw [compTurn_list]
 refine wpAny_bind (wpAny_standAt (wpAny_bind (wpAny_mono (turn n s hI _) (fun r s₁ h₁=>?_) fun O O h'=>h')))
 induction r with
 | none=>exact wpAny_pure h₁
 | some v =>
  refine wpAny_bind (wpAny_mono h₁ (fun O s₁' h₁'=>?_) fun O O h'=>h')
  refine wpAny_bind (wpAny_mono h₁' (fun O s₂ h₂=>?_) fun O O h'=>h')
  refine wpAny_bind (wpAny_mono h₂ (fun ok s₃ h₃=>?_) fun O O h'=>h')
  induction ok with
  | true =>
   simp only [if_true] at h₃ ⊢
   exact wpAny_bind (wpAny_bind (wpAny_mono h₃ (fun x s₄ h₄=>wpAny_bind (wpAny_mono h₄ (fun O s₅ h₅=>wpAny_pure (wpAny_pure ⟨rfl,h₅⟩)) fun O O h'=>h')) fun O O h'=>h'))
  | false =>
   simp only [Bool.false_eq_true,if_false] at h₃ ⊢
   exact wpAny_pure ⟨rfl,h₃⟩
end
section
noncomputable abbrev Dy.q(d:Dy):Dy:={d with may:=False,X:=fun O O=>False,Y:=fun O O=>False}
section
variable {d:Dy}{g h h':Heap}{m:Mp}{l:Led}{r:Nat}{A:Around}{E:Value→Shared→Prop}{s:Shared}
theorem At.toQ(t:At d g h m l):At d.q g h m l:=⟨t.B,t.N,t.W,t.Z⟩
theorem At.xW(t:At d.q g h m l):At d g h m l:=⟨t.B,t.N,t.W,t.Z⟩
theorem bx.q(n:bx d r A E g s m l)(E':Value→Shared→Prop):bx d.q r A E' g s m l :=
 ⟨⟨n.G.XB,n.G.TB,n.G.fk,n.G.ff,n.G.hk,n.G.hl,n.G.hg,n.G.hb⟩,⟨n.R.hd,n.R.fr,n.R.dep,n.R.pB⟩,n.a.toQ,fun h=>h.elim,fun a s' th=>by cases th<;>exact False.elim ‹_›⟩
theorem At.keep(t:At d g h m l)(k:∀ b o,h.get? b=some o→h'.get? b=some o):At d g h' m l :=
 ⟨t.B,fun b o e=>have z:=t.N b o e;⟨k _ _ z.1,z.2⟩,t.W.el (fun e F=>gr e (F.keeps k)) fun p oc e w=>fJ e ⟨w.F.keeps k,w.ns,k _ _ w.get,w.L,w.g,w.l,w.z⟩,fun p hp=>have z:=t.Z p hp;⟨k _ _ z.1,z.2⟩⟩
structure yC(d:Dy)(g:Heap)(l:Led)(J:Addr):Prop where
 l:l J=none
 ap:Apart d J
 L:J≠d.L
 g:g.get? J=none
theorem At.low(t:At d g h m l){J:Addr}(hJ:h.objs.size≤J):yC d g l J:=by
 have up:∀ {b o},h.get? b=some o→b≠J:=fun e q=>absurd (Nat.lt_of_lt_of_le (Heap.lt_size e) hJ) (q▸Nat.lt_irrefl _)
 obtain (⟨mo,F⟩):=t.cZ
 refine ⟨?_,⟨fun p hp=>up (t.Z p hp).1,fun p hp=>t.W.el (fun e=>nomatch e.symm.trans hp) fun p' oc e w=>?_⟩,?_,?_⟩
 ·cases q:l J with
  | none=>rfl
  | some x=>exact absurd rfl (up (t.get q))
 ·rw [hp] at e;injection e with e;exact e▸up w.get
 ·obtain (⟨o,_,_,e,_⟩):=F.ns;exact (up e).symm
 ·cases q:g.get? J with
  | none=>rfl
  | some x=>exact absurd rfl (up (F.keep _ _ q))
end
theorem Led.at2{l:Led}{a b:Addr}{x:Obj}(h:l b=none)(n:b≠a):(l.set a x) b=none:=(if_neg n).trans h
theorem mB{d:Dy}{g h:Heap}{m:Mp}{B0:Nat}(ap:∀ J,B0≤J→Apart d J∧J≠d.L∧g.get? J=none):∀ {own:List (Str × Addr)} {l:Led} {K:List Addr→Led→Prop},(∀ n c,(n,c)∈own→h.IsCell c none)→own.Pairwise (fun x y=>x.2≠y.2)→(∀ p∈own,B0≤p.2)→(∀ p∈own,l p.2=none)→At d g h m l→ak (fun O=>none) (own.map (·.1)) K l→∃ l',At d g h m l'∧K (own.map (·.2)) l'∧∀ J,(∀ p∈own,J≠p.2)→l J=none→l' J=none:=by
 intro own
 induction own with
 | nil=>exact fun O O O O a k=>⟨_,a,k,fun O O h=>h⟩
 | cons p r ih =>
  intro l K hcl hp hb hn a k
  obtain ⟨o,ho,hd⟩:=hcl p.1 p.2 (.head _)
  have lc:=hn p (.head _)
  have y:=ap p.2 (hb p (.head _))
  rw [List.pairwise_cons] at hp
  obtain ⟨l₁,b1,b2,b3⟩:=ih (fun n' c' hm=>hcl n' c' (.tail _ hm)) hp.2 (fun q hq=>hb q (.tail _ hq)) (fun q hq=>Led.at2 (hn q (.tail _ hq)) (Ne.symm (hp.1 q hq))) (a.take lc y.1 ⟨ho,y.2⟩) (k p.2 _ ⟨lc,.new lc,fun b q=>if_neg q,⟨o,_,Led.hit,hd⟩,fun z hz=>nomatch hz⟩)
  exact ⟨l₁,b1,b2,fun J hJ h=>b3 J (fun q hq=>hJ q (.tail _ hq)) (Led.at2 h (hJ p (.head _)))⟩
structure pj(d d2:Dy)(fi2:Fi)(cells:List Addr):Prop where
 w:d2.w=d.w
 base:d2.base=d.base
 az:d2.az=d.az
 ev:Ev d2 fi2 cells
structure iv(d d2:Dy)(scope:Scope)(ns:List Str)(cs:List Addr)(cl:List (Str × Addr)):Prop where
 w:d2.w=d.w
 sc:d2.env.scope=relabel scope d.env
 cells:∃ own:List (Str × Addr),d2.env.cells=own++cl∧own.map (·.1)=ns∧own.map (·.2)=cs
 L:d2.L=d.L
 ay:d2.ay=d.ay
 cmp:d2.cmp.isSome=true
 base:d2.base=d.base
 az:d2.az=d.az
end
section
structure pJ(d:Dy)(m:Mp)(It:Obj→Prop)(J:Led→Prop)(OB:Obj→Prop)(I C D:Addr)(g h:Heap)(l:Led)(oI oC:Obj)(m2:Mp)(oD:Obj):Prop where
 it:It oI
 ns:NsObj oC m2
 j:J l
 ob:OB oD
 i:l I=none
 c:l C=none
 n:l D=none
 a:At d g h m (((l.set C oC).set D oD).set I oI)
noncomputable abbrev bu(d:Dy)(scope:Scope)(cells:List (Str × Addr))(C:Addr):Env:={scope:=relabel scope d.env,locals:=C,globals:=d.env.globals,cells:=cells,qual:=d.env.qual,func:=none,code:=d.env.code,frame:=d.env.frame,builtins:=d.env.builtins}
noncomputable abbrev nK:=Around→Env→Value→Value→Value→(Shared→Prop)→(Value→Shared→Prop)→Shared→Prop
structure ug(d:Dy)(e iter:Ex)(oD:Obj)(newAcc:Sem Value):Prop where
 c:∃ g gs,clausesOf e=g::gs∧g.iter=iter
 n:∀ A (Q:Value→Shared→Prop) E s,Q (.ref s.heap.objs.size) {s with heap:=s.heap.push oD}→wpAny (model Pg d.w) A newAcc Q E s
structure ly(d:Dy)(e iter:Ex)(scope:Scope)(oD:Obj)(Bd:nK):Prop where
 start:∃ pos newAcc,(∀ env,eval e env=comprehension e scope env pos newAcc false (eval iter env) none)∧ug d e iter oD newAcc
 begin_:∀ {A:Around} {R:Result→Shared→Prop} {s:Shared} {it acc:Value} {env:Env},codeAny (model Pg d.w) A (.compLoop e 0 it acc env) R s→wpAny (model Pg d.w) A (pyIter it) (fun it' s'=>codeAny (model Pg d.w) A (.compLoop e 0 it' acc env) R s') (notedBy (model Pg d.w) A env fun x s'=>R (.error x) s') s→codeAny (model Pg d.w) A (.compStart e 0 it acc env) R s
 loop:∀ {A:Around} {R:Result→Shared→Prop} {s:Shared} {it:Value} {D:Addr} {env:Env} (I:Nat→Shared→Prop),(∀ k s,I k s→∀ E':Value→Shared→Prop,wpAny (model Pg d.w) A (pyNext it) (fun r s₁=>match r with | none=>R (.ok .next) s₁ | some v=>Bd A env it (.ref D) v (fun s'=>∃ m,m < k∧I m s') E' s₁) E' s)→∀ k,I k s→codeAny (model Pg d.w) A (.compLoop e 0 it (.ref D) env) R s
inductive lj(d:Dy)(ns:List Str){α:Type}(n:α→Nat)(V:α→Nat→CV→Prop)(S:α→Nat→Led→Prop)(It:α→Nat→Obj→Prop)(J0:α→List Addr→Led→Prop)(c:CV)(l:Led):Prop
 | mk (x:α) (src:bQ d l c (n x) (V x) (S x) (It x)) (j:ak (fun O=>none) ns (J0 x) l)
inductive CI(d:Dy)(m:Mp){β:Type}(n:Nat)(It:Nat→Obj→Prop)(J:Nat→β→Led→Prop)(OB:β→Obj→Prop)(I C D:Addr)(g:Heap)(s:Shared)(k:Nat)(s':Shared):Prop
 | mk (i:Nat) (b:β) (g':Heap) (l:Led) (oI oC:Obj) (m2:Mp) (oD:Obj) (ek:k=n - i+1) (hi:i≤n) (e:Step d g s g' s') (c:pJ d m (It i) (J i b) (OB b) I C D g' s'.heap l oI oC m2 oD)
noncomputable abbrev uh(d:Dy)(r:Nat)(m:Mp)(scope:Scope)(cl:List (Str × Addr)){α β:Type}(n:α→Nat)(V:α→Nat→CV→Prop)(It:α→Nat→Obj→Prop)(J:α→List Addr→Nat→β→Led→Prop)(OB:β→Obj→Prop)(Bd:nK):Prop :=
 ∀ x own A E' i b v c I C D g₅ s₅ l₃ oI oC m2 oD,own.map (·.1)=(cellsFrom 0 scope.names []).map (·.1)→Good d→jN d r A→(∀ tg (Q:Unit→Shared→Prop),Q () s₅→wpAny (model Pg d.w) A (letOwnedTupleGo tg (.ref I) v) Q E' s₅) →
   i < n x→CV.Is c v→V x i c→pJ d m (It x (i+1)) (J x (own.map (·.2)) i b) (OB b) I C D g₅ s₅.heap l₃ oI oC m2 oD→I≠C→I≠D→C≠D→∀ P:Shared→Prop,(∀ g' s' l oI' oC' m2' oD' b',Step d g₅ s₅ g' s'→pJ d m (It x (i+1)) (J x (own.map (·.2)) (i+1) b') (OB b') I C D g' s'.heap l oI' oC' m2' oD'→P s') →
   Bd A (bu d scope (own++cl) C) (.ref I) (.ref D) v P E' s₅
theorem Ok.t6{use:Option (Value→Sem Unit)}{pos:Pos}{newAcc:Sem Value}{d:Dy}{r:Nat}{m:Mp}{l:Led}{e iter:Ex}{scope:Scope}{cl:List (Str × Addr)}{α β:Type}{n:α→Nat}{V:α→Nat→CV→Prop}{S:α→Nat→Led→Prop}{It:α→Nat→Obj→Prop}{K:Value→Mp→Led→Prop}{Bd:nK}{oD₀:Obj}{OB:β→Obj→Prop}{b0:β}{J0:α→List Addr→Led→Prop}(J:α→List Addr→Nat→β→Led→Prop)
  (ck:ly d e iter scope oD₀ Bd) (hns:ug d e iter oD₀ newAcc) (hset:aM iter=true) (hclos:closureFor scope d.env=Pure.pure cl) (hk:scope.kind=.function) (hnames:∀ y∈scope.names,y.2=.local→scope.names.lookup y.1=some .local) (hz:oD₀.isFreed=false) (hob:OB b0 oD₀)
  (h:Ok d r (eval iter d.env) (PV (lj d ((cellsFrom 0 scope.names []).map (·.1)) n V S It J0) m) m l) (hJ:∀ x cs l,J0 x cs l→J x cs 0 b0 l)
  (hS:∀ x cs i ys l,J x cs i ys l→S x i l) (hSm:∀ x i l l',S x i l→l.le l'→S x i l') (turn:uh d r m scope cl n V It J OB Bd)
  (ending:∀ x cs A E g s g' s' b C D oC oD m2 l,bx d r A E g' s' m ((l.set C oC).set D oD)→Step d g s g' s'→J x cs (n x) b l→OB b oD→NsObj oC m2→l C=none→l D=none→C≠D→(D==sysModules)=false→compPost (model Pg d.w) A E use (aO d g K s) (.ref D) C (.ok .next) s'):Ok d r (comprehension e scope d.env pos newAcc false (eval iter d.env) use) K m l:=by
 refine ⟨fun A E g s N=>hns.c.elim fun gg hc=>hc.elim fun gs hc=>wpAny_comprehension_free (use:=use) hc.1 (hc.2▸eF hset d.env) hclos hk hnames (h.tQ N fun xv s₁ g₁ l₁ c e₁ N₁ hc k=>?_)⟩
 induction k with | mk x src hJ0 =>
 refine src.iter xv m A _ g₁ s₁ _ hc N.G N₁.a fun I oI₀ h₂ tk₂ a₂ hI hIt0 hlow=>?_
 refine hns.n _ _ _ _ (kr fun h' tk own hown hon kp ns hcell ap ab=>?_)
 rw [Heap.size_push] at ns ab
 have lowS:(h₂.objs.size==sysModules)=false:=beq_eq_false_iff_ne.mpr (Nat.ne_of_gt (modules_low (N₁.next (.of (s:=s₁) (h:=h₂) (t:=tk₂)) a₂).T.nolimit))
 have gI:=a₂.get (b:=I) Led.hit
 have gD:=Heap.get?_push_size h₂ hz
 have ID:@LT.lt Nat _ I h₂.objs.size:=Heap.lt_size gI
 have low:=fun {J:Addr} (hJ:@LE.le Nat _ h₂.objs.size J)=>a₂.low hJ
 rw [Heap.size_push]
 show codeAny _ A (.compStart e 0 (.ref I) (.ref h₂.objs.size) (bu d scope (own++cl) (h₂.objs.size+1))) (compPost (model Pg d.w) A E use (aO d g K s) (.ref h₂.objs.size) (h₂.objs.size+1)) _
 generalize h₂.objs.size=D at *
 have lowN:∀ {J:Addr},@LE.le Nat _ D J→l₁ J=none:=fun {J} hJ=>((Led.off (Nat.ne_of_gt (Nat.lt_of_lt_of_le ID hJ))).symm.trans (low hJ).l)
 have up:∀ p∈own,@LT.lt Nat _ D p.2:=fun p hp=>Nat.lt_trans (Nat.lt_succ_self _) (ab p hp)
 obtain ⟨oC,heC,hoC⟩:=ns_obj ns
 obtain ⟨lc,a₃,hJ',hlc⟩:=mB (B0:=D) (fun J hJ=>have y:=low hJ;⟨y.ap,y.L,y.g⟩) (own:=own) hcell ap (fun p hp=>Nat.le_of_lt (up p hp)) (fun p hp=>lowN (Nat.le_of_lt (up p hp))) ((a₂.sub (.new hI)).keep fun b o e=>kp _ _ (Heap.get?_push_of_some _ e)) (hon▸hJ0)
 have lcI:lc I=none:=hlc I (fun p hp=>Nat.ne_of_lt (Nat.lt_trans ID (up p hp))) hI
 have lcD:lc D=none:=hlc D (fun p hp=>Nat.ne_of_lt (up p hp)) (lowN (Nat.le_refl _))
 have lcC:lc (D+1)=none:=hlc (D+1) (fun p hp=>Nat.ne_of_lt (ab p hp)) (lowN (Nat.le_succ _))
 have h1:I≠D+1:=Nat.ne_of_lt (Nat.lt_succ_of_lt ID)
 have h2:I≠D:=Nat.ne_of_lt ID
 have h3:D+1≠D:=Nat.succ_ne_self D
 have zC:=low (J:=D+1) (Nat.le_succ D)
 have zD:=low (J:=D) (Nat.le_refl D)
 have a₄:At d g₁ h' m (((lc.set (D+1) oC).set D oD₀).set I oI₀):=((a₃.take lcC zC.ap ⟨heC,zC.L,zC.g⟩).take (Led.at2 lcD h3.symm) zD.ap ⟨kp _ _ gD,zD.L,zD.g⟩).take (Led.at2 (Led.at2 lcI h1) h2) (a₂.apart (b:=I) Led.hit) ⟨(kp _ _ (Heap.get?_push_of_some _ gI)),(a₂.N I _ Led.hit).2⟩
 have loop:∀ t',codeAny (model Pg d.w) A (.compLoop e 0 (.ref I) (.ref D) (bu d scope (own++cl) (D+1))) (compPost (model Pg d.w) A E use (aO d g K s) (.ref D) (D+1)) {s₁ with heap:=h',toks:=t'}:=fun t'=>by
  refine ck.loop (CI d m (n x) (It x) (J x (own.map (·.2))) OB I (D+1) D g s) (fun k s₃ p E'=>?_) (n x+1) (.mk 0 b0 g₁ lc oI₀ oC _ oD₀ rfl (Nat.zero_le _) (e₁.trans .of) ⟨hIt0,hoC,hJ x _ lc hJ',hob,lcI,lcC,lcD,a₄⟩)
  induction p with | mk i b g₃ l₃ oI oC m2 oD ek hi e₃ c₃ =>
  refine src.nx I i oI _ m A _ g₃ s₃ _ (hSm _ _ _ _ (hS _ _ _ _ _ c₃.j) ((Led.le.new c₃.c).trans (.new (Led.at2 c₃.n h3.symm)))) c₃.it (Led.at2 (x:=oD) (Led.at2 (x:=oC) c₃.i h1) h2) hi N.R.hd N.G c₃.a (fun v c oI' h₄ tk₄ b₄ hlt hcv hV hIt'=>?_) fun h₄ tk₄ b₄ ei=>ending x _ A E g s g₃ _ b (D+1) D oC oD m2 l₃ (N.next (e₃.trans .of) b₄) (e₃.trans .of) (ei▸c₃.j) c₃.ob c₃.ns c₃.c c₃.n h3 lowS
  exact turn x own A E' i b v c I (D+1) D g₃ _ l₃ oI' oC m2 oD hon N.G N.R (fun tg Q q=>src.go tg I (i+1) oI' v _ m A E' g₃ _ Q hIt' b₄ q) hlt hcv hV ⟨hIt',c₃.ns,c₃.j,c₃.ob,c₃.i,c₃.c,c₃.n,b₄⟩ h1 h2 h3 _ fun g' s' l oI' oC' m2' oD' b' st c'=>⟨_,ek▸Nat.succ_lt_succ (Nat.sub_succ_lt_self _ _ hlt),.mk (i+1) b' g' l oI' oC' m2' oD' rfl hlt ((e₃.trans (Step.of (s:=s₃))).trans st) c'⟩
 exact ck.begin_ (loop tk) (src.self I 0 oI₀ _ m A _ g₁ _ _ hIt0 a₄ loop)
theorem Ok.t7{d:Dy}{r:Nat}{m:Mp}{l:Led}{e iter:Ex}{scope:Scope}{cl:List (Str × Addr)}{α β:Type}{n:α→Nat}{V:α→Nat→CV→Prop}{S:α→Nat→Led→Prop}{It:α→Nat→Obj→Prop}{K:Value→Mp→Led→Prop}{Bd:nK}{oD₀:Obj}{OB:β→Obj→Prop}{b0:β}{J0:α→List Addr→Led→Prop}(J:α→List Addr→Nat→β→Led→Prop)
  (ck:ly d e iter scope oD₀ Bd) (hset:aM iter=true) (hclos:closureFor scope d.env=Pure.pure cl) (hk:scope.kind=.function) (hnames:∀ y∈scope.names,y.2=.local→scope.names.lookup y.1=some .local) (hz:oD₀.isFreed=false) (hob:OB b0 oD₀)
  (h:Ok d r (eval iter d.env) (PV (lj d ((cellsFrom 0 scope.names []).map (·.1)) n V S It J0) m) m l) (hJ:∀ x cs l,J0 x cs l→J x cs 0 b0 l)
  (hS:∀ x cs i ys l,J x cs i ys l→S x i l) (hSm:∀ x i l l',S x i l→l.le l'→S x i l') (turn:uh d r m scope cl n V It J OB Bd)
  (fin:∀ x cs D oD b l,J x cs (n x) b l→OB b oD→l D=none→(D==sysModules)=false→K (.ref D) m (l.set D oD)):Ok d r (eval e d.env) K m l :=
 ck.start.elim fun pos c=>c.elim fun newAcc c=>by
  rw [c.1 d.env]
  refine Ok.t6 J ck c.2 hset hclos hk hnames hz hob h hJ hS hSm turn fun x cs A E g s g' s' b C D oC oD m2 l N st hJ hO hN hC hD h3 lo=>⟨m2,hN.ns (N.a.get (b:=C) ((Led.off h3).trans Led.hit)),fun h₅ sb=>?_⟩
  exact ⟨g',m,_,st.trans (.of (t:=s'.toks)),(Led.comm h3▸N.a:At d g' s'.heap m ((l.set D oD).set C oC)).over (Led.at2 hC h3) sb.extBut,fin x cs D oD b l hJ hO hD lo⟩
end
section
section
variable {d:Dy}{r:Nat}{m m2:Mp}{A:Around}{E':Value→Shared→Prop}{g:Heap}{s:Shared}{l:Led}{scope:Scope}
theorem bx.vh{cells:List (Str × Addr)}{C:Addr}{mo:Mp}{zs:List (Addr × Obj)}(G:Good d)(R:jN d r A)(hk:scope.kind=.function)(a:At (d.fF (bu d scope cells C) C mo zs) g s.heap m2 l):bx (d.fF (bu d scope cells C) C mo zs) r A E' g s m2 l :=
 ⟨⟨G.XB,G.TB,G.fk,G.ff,hk,rfl,G.hg,G.hb⟩,⟨R.hd,R.fr,R.dep,R.pB⟩,a,fun h=>h.elim,fun a s' th=>by cases th<;>exact False.elim ‹_›⟩
theorem iv.vh{own cl:List (Str × Addr)}{ns:List Str}{C:Addr}{mo:Mp}{zs:List (Addr × Obj)}(hon:own.map (·.1)=ns):iv d (d.fF (bu d scope (own++cl) C) C mo zs) scope ns (own.map (·.2)) cl:=⟨rfl,rfl,⟨own,rfl,hon,rfl⟩,rfl,rfl,rfl,rfl,rfl⟩
end
theorem pJ.app{d:Dy}{m:Mp}{It:Obj→Prop}{J J':Led→Prop}{I C D:Addr}{g h h':Heap}{l:Led}{oI oC oD':Obj}{m2:Mp}{oD:Obj}{OB OB':Obj→Prop}(c:pJ d m It J OB I C D g h l oI oC m2 oD)(h2:I≠D)(h3:C≠D)(sb:Heap.SameBut D h h')(e:h'.get? D=some oD')(j:J' l)(o:OB' oD'):pJ d m It J' OB' I C D g h' l oI oC m2 oD':=by
 have a:=c.a
 rw [Led.comm h2.symm] at a
 have a9:=a.anew (Led.at2 (Led.at2 c.n h3.symm) h2.symm) sb.extBut e
 rw [Led.comm h2] at a9
 exact ⟨c.it,c.ns,j,o,c.i,c.c,c.n,a9⟩
theorem pJ.yl{d:Dy}{m:Mp}{It:Obj→Prop}{J:Led→Prop}{I C D:Addr}{g h:Heap}{l:Led}{oI oC:Obj}{m2:Mp}{oD:Obj}{OB:Obj→Prop}(c:pJ d m It J OB I C D g h l oI oC m2 oD)(h2:I≠D):h.get? D=some oD:=by
 have a:=c.a
 rw [Led.comm h2.symm] at a
 exact a.get (b:=D) Led.hit
theorem vO{d:Dy}{elt target iter:Ex}{ifs:List Ex}{scope:Scope}{pos:Pos}:ly d (.ListComp elt [⟨target,iter,ifs,0⟩] scope pos) iter scope (lst []) fun A env it acc v P E' s₁ =>
  wpAny (model Pg d.w) A (letOwnedTupleGo target it v) (fun O s₁'=>wpAny (model Pg d.w) A (assign target env v) (fun O s₂=>wpAny (model Pg d.w) A (bP ifs env) (fun ok s₃=>if ok=true then wpAny (model Pg d.w) A (eval elt env) (fun x s₄=>wpAny (model Pg d.w) A (call (.builtin "list.append") [acc,x]) (fun O s₅=>P s₅) E' s₄) E' s₃ else P s₃) E' s₂) E' s₁') E' s₁ :=
 ⟨⟨_,newList [],fun env=>eval_ListComp _ _ _ _,⟨_,[],rfl,rfl⟩,fun A Q E s h=>wpAny_newObj_type h (by size_fits)⟩,fun h0 h=>codeAny_compStart_list h0 h,fun I turn k h=>ik I turn k h⟩
theorem pJ.turn{d:Dy}{r:Nat}{m:Mp}{scope:Scope}{cells:List (Str × Addr)}{It:Obj→Prop}{J:Led→Prop}{OB:Obj→Prop}{I C D:Addr}{A:Around}{E':Value→Shared→Prop}{g:Heap}{s:Shared}{l:Led}{oI oC:Obj}{m2:Mp}{oD:Obj}{P:Prop}
  (G:Good d) (R:jN d r A) (hk:scope.kind=.function) (c:pJ d m It J OB I C D g s.heap l oI oC m2 oD) (h1:I≠C) (h2:I≠D) (h3:C≠D)
  (k:∀ mo zs,bx (d.fF (bu d scope cells C) C mo zs) r A E' g s m2 l→(∀ {g' s' m2' l'} {P':Prop},Step (d.fF (bu d scope cells C) C mo zs) g s g' s'→At (d.fF (bu d scope cells C) C mo zs) g' s'.heap m2' l'→(∀ oC',Step d g s g' s'→pJ d m It (fun O=>True) OB I C D g' s'.heap l' oI oC' m2' oD→P')→P')→P):P :=
 c.a.fF c.i c.c c.n h1 h2 h3 c.ns fun mo zs into back=>k mo zs (.vh G R hk (into _)) fun st a kk=>back a fun oC' k1 k2 k3 k4 k5=>kk oC' ⟨st.T,st.e,st.st⟩ ⟨c.it,k1,trivial,c.ob,k2,k3,k4,k5⟩
theorem Ok.iK{use:Option (Value→Sem Unit)}{cpos:Pos}{d:Dy}{r:Nat}{m:Mp}{l:Led}{elt target iter:Ex}{ifs:List Ex}{scope:Scope}{pos:Pos}{cl:List (Str × Addr)}{n:Nat}{α:Type}{V:α→Nat→CV→Prop}{S:α→Nat→Led→Prop}{It:α→Nat→Obj→Prop}{K:Value→Mp→Led→Prop}{J0:α→List Addr→Led→Prop}(J:α→List Addr→Nat→List Value→Led→Prop)
  (hset:aM iter=true) (hclos:closureFor scope d.env=Pure.pure cl) (hk:scope.kind=.function) (hnames:∀ y∈scope.names,y.2=.local→scope.names.lookup y.1=some .local) (hz:n≤sizeLine)
  (h:Ok d r (eval iter d.env) (PV (lj d ((cellsFrom 0 scope.names []).map (·.1)) (fun O=>n) V S It J0) m) m l) (hJ:∀ x cs l,J0 x cs l→J x cs 0 [] l)
  (hS:∀ x cs i ys l,J x cs i ys l→S x i l) (hSm:∀ x i l l',S x i l→l.le l'→S x i l')
  (turn:∀ d2 x cs i c v ys m2 l,iv d d2 scope ((cellsFrom 0 scope.names []).map (·.1)) cs cl→i < n→CV.Is c v→V x i c→J x cs i ys l→ys.length≤i →
   Ok d2 r (assign target d2.env v) (fun O m2 l=>Ok d2 r (bP ifs d2.env) (fun ok m2 l=>if ok then Ok d2 r (eval elt d2.env) (fun y m2 l=>J x cs (i+1) (ys++[y]) l) m2 l else J x cs (i+1) ys l) m2 l) m2 l)
  (ending:∀ x cs A E g s g' s' ys C D oC m2 l,bx d r A E g' s' m ((l.set C oC).set D (lst ys))→Step d g s g' s'→J x cs n ys l→ys.length≤n→NsObj oC m2→l C=none→l D=none→C≠D→compPost (model Pg d.w) A E use (aO d g K s) (.ref D) C (.ok .next) s'):Ok d r (comprehension (.ListComp elt [⟨target,iter,ifs,0⟩] scope pos) scope d.env cpos (newList []) false (eval iter d.env) use) K m l:=by
 refine Ok.t6 (OB:=fun ys o=>o=lst ys) (fun x cs i ys l=>ys.length≤i∧J x cs i ys l) vO ⟨⟨_,[],rfl,rfl⟩,fun A Q E s h=>wpAny_newObj_type h (by size_fits)⟩ hset hclos hk hnames rfl rfl h (fun x cs l j=>⟨Nat.le_refl _,hJ x cs l j⟩) (fun x cs i ys l j=>hS _ _ _ _ _ j.2) hSm (fun x own A E' i ys v c I C D g₅ s₅ l₃ oI oC m2 oD hon G R go hlt hcv hV c₃ h1 h2 h3 P hP=>?_) fun x cs A E g s g' s' ys C D oC oD m2 l N st j e hN hC hD h3 O=>ending x cs A E g s g' s' ys C D oC m2 l (e▸N) st j.2 j.1 hN hC hD h3
 refine go target _ (c₃.turn (cells:=own++cl) (E':=E') G R hk h1 h2 h3 fun mo zs N back=>?_)
 have t:=turn _ x (own.map (·.2)) i c v ys m2 l₃ (.vh (mo:=mo) (zs:=zs) (C:=C) hon) hlt hcv hV c₃.j.2 c₃.j.1
 refine Ok.wp (d:=d.fF (bu d scope (own++cl) C) C mo zs) t N fun O s₇ g₇ m₇ l₇ e₇ N t=>Ok.wp (d:=d.fF (bu d scope (own++cl) C) C mo zs) t N fun ok s₈ g₈ m₈ l₈ e₈ N t=>?_
 have e₈:=e₇.trans e₈
 induction ok with
 | false=>exact back e₈ N.a fun oC' st c'=>hP g₈ s₈ l₈ oI oC' m₈ _ ys st ⟨c'.it,c'.ns,⟨Nat.le_succ_of_le c₃.j.1,t⟩,c'.ob,c'.i,c'.c,c'.n,c'.a⟩
 | true =>
  refine Ok.wp (d:=d.fF (bu d scope (own++cl) C) C mo zs) t N fun y s₉ g₉ m₉ l₉ e₉ N j₉=>back (e₈.trans e₉) N.a fun oC' st c'=>?_
  refine append_at (hsz:=by show ys.toArray.size≤sizeLine;rw [List.size_toArray];exact Nat.le_trans c₃.j.1 (Nat.le_trans (Nat.le_of_lt hlt) hz)) (c'.ob▸c'.yl h2) fun h₉ hs hD₉=>?_
  exact hP g₉ _ l₉ oI oC' m₉ _ (ys++[y]) (st.trans (.of (t:=s₉.toks))) (c'.app h2 h3 hs (hD₉.trans (congrArg some (lst_snoc ys y))) ⟨by rw [List.length_append];exact Nat.succ_le_succ c₃.j.1,j₉⟩ rfl)
theorem Ok.d8{d:Dy}{r:Nat}{m:Mp}{l:Led}{elt target iter:Ex}{ifs:List Ex}{scope:Scope}{pos:Pos}{cl:List (Str × Addr)}{n:Nat}{α:Type}{V:α→Nat→CV→Prop}{S:α→Nat→Led→Prop}{It:α→Nat→Obj→Prop}{K:Value→Mp→Led→Prop}{J0:α→List Addr→Led→Prop}(J:α→List Addr→Nat→List Value→Led→Prop)
  (hset:aM iter=true) (hclos:closureFor scope d.env=Pure.pure cl) (hk:scope.kind=.function) (hnames:∀ y∈scope.names,y.2=.local→scope.names.lookup y.1=some .local) (hz:n≤sizeLine)
  (h:Ok d r (eval iter d.env) (PV (lj d ((cellsFrom 0 scope.names []).map (·.1)) (fun O=>n) V S It J0) m) m l) (hJ:∀ x cs l,J0 x cs l→J x cs 0 [] l)
  (hS:∀ x cs i ys l,J x cs i ys l→S x i l) (hSm:∀ x i l l',S x i l→l.le l'→S x i l')
  (turn:∀ d2 x cs i c v ys m2 l,iv d d2 scope ((cellsFrom 0 scope.names []).map (·.1)) cs cl→i < n→CV.Is c v→V x i c→J x cs i ys l→ys.length≤i →
   Ok d2 r (assign target d2.env v) (fun O m2 l=>Ok d2 r (bP ifs d2.env) (fun ok m2 l=>if ok then Ok d2 r (eval elt d2.env) (fun y m2 l=>J x cs (i+1) (ys++[y]) l) m2 l else J x cs (i+1) ys l) m2 l) m2 l)
  (fin:∀ x cs D ys l l',J x cs n ys l→ys.length≤n→rE l D (lst ys) l'→K (.ref D) m l'):Ok d r (eval (.ListComp elt [⟨target,iter,ifs,0⟩] scope pos) d.env) K m l:=by
 rw [eval_ListComp]
 refine Ok.iK J hset hclos hk hnames hz h hJ hS hSm turn fun x cs A E g s g' s' ys C D oC m2 l N st hJ hy hN hC hD h3=>⟨m2,hN.ns (N.a.get (b:=C) ((Led.off h3).trans Led.hit)),fun h₅ sb=>?_⟩
 exact ⟨g',m,_,st.trans (.of (t:=s'.toks)),(Led.comm h3▸N.a:At d g' s'.heap m ((l.set D (lst ys)).set C oC)).over (Led.at2 hC h3) sb.extBut,fin x cs D ys l _ hJ hy (.set hD)⟩
end
section
noncomputable def fm(fi:Fi)(cs:List Addr):List Str→Option (List (Str × Addr))
 | []=>some []
 | y::r=>(match slot (fi.cn++fi.fr) y with
  | some i=>(match cs[i]? with
   | some a=>(match fm fi cs r with | some l=>some ((y,a)::l) | none=>none)
   | none=>none)
  | none=>none)
noncomputable def freeOf(scope:Scope):List Str:=((scope.names.filter fun x=>x.2==.free).map (·.1)).reverse
theorem tL{env:Env}{y:Str}{a:Addr}(h:env.cells.lookup y=some a):cellOf env y=Pure.pure a:=by
 unfold cellOf
 rw [h]
theorem cN{d:Dy}{fi:Fi}{cs:List Addr}(ev:Ev d fi cs):∀ {ys:List Str} {cl:List (Str × Addr)},fm fi cs ys=some cl→cl.map (·.1)=ys∧∀ p∈cl,d.env.cells.lookup p.1=some p.2:=by
 intro ys
 induction ys with
 | nil=>intro cl h;cases h;exact ⟨rfl,fun O h=>nomatch h⟩
 | cons y r ih =>
  intro cl h
  unfold fm at h
  refine aJ (slot (fi.cn++fi.fr) y) (fun h1=>?_) (fun i h1=>?_)
  ·rw [h1] at h;cases h
  ·rw [h1] at h;dsimp only at h
   refine aJ (cs[i]?) (fun h2=>?_) (fun a h2=>?_)
   ·rw [h2] at h;cases h
   ·rw [h2] at h;dsimp only at h
    refine aJ (fm fi cs r) (fun h3=>?_) (fun l h3=>?_)
    ·rw [h3] at h;cases h
    ·rw [h3] at h;cases h
     obtain (⟨a1,a2⟩):=ih h3
     refine ⟨by rw [List.map_cons,a1],fun p hp=>?_⟩
     rcases List.mem_cons.mp hp with rfl | hp
     ·exact (ev.w7 y i a h1 h2).2.2
     ·exact a2 p hp
theorem bt{d:Dy}{fi:Fi}{cs:List Addr}(ev:Ev d fi cs){scope:Scope}{cl:List (Str × Addr)}(h:fm fi cs (freeOf scope)=some cl):closureFor scope d.env=Pure.pure cl:=by
 obtain (⟨h1,h2⟩):=cN ev h
 unfold closureFor
 have key:∀ (names:List (Str × NameKind)) (acc res:List (Str × Addr)),res.map (·.1)=((names.filter fun x=>x.2==.free).map (·.1)).reverse→(∀ p∈res,d.env.cells.lookup p.1=some p.2) →
   (forIn names acc fun (x:Str × NameKind) (r:List (Str × Addr))=>match x with | (name,kind)=>if (kind==.free)=true then do let a ← cellOf d.env name;Pure.pure (ForInStep.yield ((name,a)::r)) else Pure.pure (ForInStep.yield r))=(Pure.pure (res++acc):Sem (List (Str × Addr))):=by
  intro names
  induction names with
  | nil=>intro acc res hr _;simp only [List.filter_nil,List.map_nil,List.reverse_nil,List.map_eq_nil_iff] at hr;subst hr;rw [List.forIn_nil];rfl
  | cons p r ih =>
   intro acc res hr hc
   obtain (⟨y,k⟩):=p
   rw [List.forIn_cons]
   by_cases e:(k==NameKind.free)=true
   ·rw [List.filter_cons_of_pos (by exact e),List.map_cons,List.reverse_cons] at hr
    obtain ⟨res',q,rfl,hr1,hr2⟩:=List.map_eq_append_iff.mp hr
    obtain ⟨z,zs,rfl,hz,hzs⟩:=List.map_eq_cons_iff.mp hr2
    rw [List.map_eq_nil_iff] at hzs;subst hzs
    obtain (⟨zn,za⟩):=z
    have hz:zn=y:=hz
    subst hz
    have hl:=hc (zn,za) (by simp)
    dsimp only
    rw [if_pos e,tL hl]
    simp only [pure_bind]
    rw [ih ((zn,za)::acc) res' hr1 fun p hp=>hc p (List.mem_append_left _ hp),List.append_assoc];rfl
   ·rw [List.filter_cons_of_neg (by exact e)] at hr
    dsimp only
    rw [if_neg e]
    simp only [pure_bind]
    exact ih acc res hr hc
 have:=key scope.names [] cl h1 h2
 rw [List.append_nil] at this
 exact (bind_pure _).trans this
set_option tactic.hygienic true in
theorem jq{env:Env}{x:Str}:∀ {names:List (Str × NameKind)},(names.map fun (n,k)=>if (k==NameKind.free&&env.scope.kind==.function&&env.kindOf n==some .cell) then (n,NameKind.cell) else (n,k)).lookup x=(names.lookup x).map fun k=>if (k==NameKind.free&&env.scope.kind==.function&&env.kindOf x==some .cell) then .cell else k:=by
 intro names
 induction names with
 | nil=>rfl
 | cons p r ih =>
  obtain (⟨n,k⟩):=p
  rw [List.map_cons]
  by_cases e:x=n
  ·subst e
   dsimp only
   split
   ·rename_i q;rw [List.lookup_cons,List.lookup_cons,BEq.rfl];exact (congrArg some (if_pos q)).symm
   ·rename_i q;rw [List.lookup_cons,List.lookup_cons,BEq.rfl];exact (congrArg some (if_neg q)).symm
  ·have e':(x==n)=false:=by simpa using e
   dsimp only
   split<;>simp only [List.lookup_cons,e']<;>exact ih
theorem kQ{scope:Scope}{env:Env}{fi:Fi}(h:qW scope fi=true):qW (relabel scope env) fi=true:=by
 have lk:∀ x,(relabel scope env).names.lookup x=(scope.names.lookup x).map fun k=>if (k==NameKind.free&&env.scope.kind==.function&&env.kindOf x==some .cell) then .cell else k:=fun x=>jq
 have same':∀ x k,scope.names.lookup x=some k→k≠.free→(relabel scope env).names.lookup x=some k:=fun x k e n=>by
  rw [lk,e]
  have:(k==NameKind.free)=false:=by
   cases k<;>first | rfl | exact absurd rfl n
  show some (if _ then _ else _)=_
  rw [this,Bool.false_and,Bool.false_and,if_neg (by decide)]
 have same:∀ {x k},scope.names.lookup x=some k→k≠.free→(relabel scope env).names.lookup x=some k:=fun {x k}=>same' x k
 unfold qW at h ⊢
 simp only [Bool.and_eq_true,Bool.or_eq_true,List.all_eq_true,beq_iff_eq,Bool.not_eq_true'] at h ⊢
 obtain ⟨⟨⟨h1,h2⟩,h3⟩,h4⟩:=h
 refine ⟨⟨⟨fun x hx=>⟨same (h1 x hx).1 (by decide),(h1 x hx).2⟩,fun k hk=>?_⟩,fun x hx=>⟨same (h3 x hx).1 (by decide),(h3 x hx).2⟩⟩,fun x hx=>⟨⟨?_,(h4 x hx).1.2⟩,(h4 x hx).2⟩⟩
 ·have:=h2 k hk
  split at this
  ·simp only [Bool.and_eq_true,beq_iff_eq] at this ⊢;exact ⟨same this.1 (by decide),this.2⟩
  ·rfl
 ·rcases (h4 x hx).1.1 with e | e
  ·rw [lk,e]
   show some (if _ then _ else _)=_∨some (if _ then _ else _)=_
   split
   ·exact .inr rfl
   ·exact .inl rfl
  ·exact .inr (same e (by decide))
noncomputable def j7(scope:Scope)(fi2:Fi):Bool :=
 (scope.kind==.function)&&scope.names.all (fun y=>!(y.2==.local)||scope.names.lookup y.1==some .local)&&qW scope fi2&&decide ((cellsFrom 0 scope.names []).map (·.1)=fi2.cn)&&decide (freeOf scope=fi2.fr)
set_option backward.match.sparseCases false in
noncomputable def jJ(fi2:Fi)(k:Nat):Ex→Bool
 | .ListComp _ [⟨_,it,ifs,0⟩] scope _=>aM it&&decide (ifs.length=k)&&j7 scope fi2
 | _=>false
structure zg(scope:Scope)(fi2:Fi):Prop where
 k:scope.kind=.function
 n:∀ y∈scope.names,y.2=.local→scope.names.lookup y.1=some .local
 b:qW scope fi2=true
 c:(cellsFrom 0 scope.names []).map (·.1)=fi2.cn
 f:freeOf scope=fi2.fr
theorem dG{scope:Scope}{fi2:Fi}(h:j7 scope fi2=true):zg scope fi2:=by
 unfold j7 at h
 simp only [Bool.and_eq_true,decide_eq_true_eq,beq_iff_eq,List.all_eq_true,Bool.or_eq_true,Bool.not_eq_true'] at h
 exact ⟨h.1.1.1.1,fun y hy e=>(h.1.1.1.2 y hy).resolve_left (by rw [e];decide),h.1.1.2,h.1.2,h.2⟩
theorem pb{fi2:Fi}{k:Nat}{P:Ex→Prop}(h:∀ elt target it ifs scope pos,(aM it&&decide (ifs.length=k)&&j7 scope fi2)=true→P (.ListComp elt [⟨target,it,ifs,0⟩] scope pos)):∀ e,jJ fi2 k e=true→P e:=by
 intro e
 cases e with
 | ListComp elt gs scope pos =>
  induction gs with
  | nil=>exact ff
  | cons g r =>
   cases g with | mk t it ifs a =>
   induction r with
   | cons _ _ =>
    induction a with
    | ofNat n=>cases n<;>exact ff
    | negSucc n=>exact ff
   | nil =>
    induction a with
    | ofNat n =>
     induction n with
     | zero=>exact h _ _ _ _ _ _
     | succ _=>exact ff
    | negSucc n=>exact ff
 | _=>exact ff
noncomputable def pX(p:Pe):Nat→Tk
 | 0=>.e (p.c 1) .ret
 | _=>.t (p.c 3) (.te (p.c 1) .ret) .out
theorem jZ{fi2:Fi}{r:Nat}{x:Cx fi2 r}{p:Pe}{σ:Sl}{m:Mp}{l:Led}{K:Bool→Mp→Led→Prop}{ifs:List Ex}{k:Nat}(ev:Ev x.d fi2 x.cs)(hm:bL fi2.ns σ m)(hl:ifs.length=k)(hk:k < 2)(q3:(p.c 3).at=ifs.getD 0 eY)(g:Mine.go x 99 (pX p k) σ l)
  (kt:∀ m l,bL fi2.ns σ m→LE x.d r fi2 (eval (p.c 1).at x.d.env) (fun c l=>x.P (some c) σ l) σ l→K true m l) (kf:∀ m l,x.Q σ l→K false m l):Ok x.d r (bP ifs x.d.env) K m l:=by
 subst hl
 induction ifs with
 | nil=>exact .tests (kt _ _ hm (cf ev 99 (.e (p.c 1) .ret) σ l g))
 | cons c0 rest =>
  induction rest with
  | nil =>
   have g:pH x (p.c 3).at (fun l=>LE x.d r fi2 (eval (p.c 1).at x.d.env) (fun c l=>x.P (some c) σ l) σ l) (fun l=>x.Q σ l) σ l:=cf ev 99 (.t (p.c 3) (.te (p.c 1) .ret) .out) σ l g
   rw [q3] at g
   refine .tests (Ok.mono (t:=PySem.isTrue c0 x.d.env (eval c0 x.d.env)) (g m hm) fun b m' l q=>?_)
   induction q with
   | t h=>exact kt _ _ hm h
   | f h=>exact kf _ _ h
  | cons _ _=>exact absurd hk (Nat.not_lt.mpr (Nat.succ_le_succ (Nat.succ_le_succ (Nat.zero_le _))))
theorem iv.ev{d d2:Dy}{scope:Scope}{fi2:Fi}{as:List Addr}{cl:List (Str × Addr)}(s:iv d d2 scope fi2.cn as cl)(hf:qW scope fi2=true)(hc:cl.map (·.1)=fi2.fr):Ev d2 fi2 (as++cl.map (·.2)):=by
 obtain (⟨own,e1,e2,e3⟩):=s.cells
 have:as++cl.map (·.2)=d2.env.cells.map (·.2):=by rw [e1,List.map_append,e3]
 rw [this]
 exact Ev.of (by rw [s.sc];exact kQ hf) (by rw [e1,List.map_append,e2,hc])
section
variable {fi fi2:Fi}{r:Nat}{d:Dy}{cs:List Addr}{p:Pe}{σ:Sl}{l:Led}{K:CV→Led→Prop}
theorem LE.d8{α:Type}{V:α→Nat→CV→Prop}{S:α→Nat→Led→Prop}{It:α→Nat→Obj→Prop}{cl:List (Str × Addr)}(k n:Nat)(J:α→List Addr→Nat→List Value→Led→Prop)(ev:Ev d fi cs)(hok:jJ fi2 k p.at=true)(hk:k < 2)(hz:n≤sizeLine)(hcl:fm fi cs fi2.fr=some cl)
  (h:∀ P',(∀ x c l',bQ d l' c n (V x) (S x) (It x)→ak (fun O=>none) fi2.cn (fun as l=>J x as 0 [] l) l'→P' (some c) σ l')→Mine.go (fi:=fi) (r:=r) ⟨d,cs,P',fun O O=>False⟩ 99 (.e (p.c 0) .ret) σ l)
  (hS:∀ x as i ys l,J x as i ys l→S x i l) (hSm:∀ x i l l',S x i l→l.le l'→S x i l')
  (turn:∀ (d2:Dy) x as P2 Q2 i c ys l,pj d d2 fi2 (as++cl.map (·.2))→i < n→V x i c→J x as i ys l→ys.length≤i→(∀ c σ l,(bF c fun v=>J x as (i+1) (ys++[v]) l)→P2 (some c) σ l)→(∀ σ l,J x as (i+1) ys l→Q2 σ l) →
   eu fi2 (as++cl.map (·.2)) c (Mine.go (fi:=fi2) (r:=r) ⟨d2,as++cl.map (·.2),P2,Q2⟩ 99 (pX p k)) .nil l (p.c 2).at)
  (fin:∀ x as D ys l l',J x as n ys l→ys.length≤n→rE l D (lst ys) l'→K (.v (.ref D)) l'):LE d r fi (eval p.at d.env) K σ l:=by
 refine pb (P:=fun e=>p.at=e→LE d r fi (eval p.at d.env) K σ l) (fun elt target it ifs scope pos k3 e=>?_) p.at hok rfl
 have q0:(p.c 0).at=it:=congrArg (ch · 0) e
 have q1:(p.c 1).at=elt:=congrArg (ch · 1) e
 have q2:(p.c 2).at=target:=congrArg (ch · 2) e
 have q3:(p.c 3).at=ifs.getD 0 eY:=congrArg (ch · 3) e
 rw [Bool.and_eq_true,Bool.and_eq_true,decide_eq_true_eq] at k3
 have sc:=dG k3.2
 have he:=LE.go (r:=r) (σ:=σ) (l:=l) (p:=p.c 0) (K:=lj d fi2.cn (fun O=>n) V S It fun x cs l=>J x cs 0 [] l) ev fun P' hP=>h P' fun x c l' s j=>hP c l' (.mk x s j)
 rw [q0,← sc.c] at he
 rw [e]
 refine ⟨fun m hm=>Ok.d8 (V:=V) (It:=It) J k3.1.1 (bt ev (sc.f▸hcl)) sc.k sc.n hz (he.run m hm) (fun O O O j=>j) hS hSm (fun d2 x as i c v ys m2 l sub hlt hcv hV hJ hyl=>?_) fun x as D ys l l' hJ hyl nw=>⟨_,.refl _,.v _,fin x as D ys l l' hJ hyl nw⟩⟩
 rw [sc.c] at sub
 have ev2:=sub.ev sc.b ((cN ev hcl).1)
 let P2:Option CV→Sl→Led→Prop:=fun o O l=>match o with | some c=>bF c fun v=>J x as (i+1) (ys++[v]) l | none=>False
 let Q2:Sl→Led→Prop:=fun O l=>J x as (i+1) ys l
 refine (cX ev2 (q2▸turn d2 x as P2 Q2 i c ys l ⟨sub.w,sub.base,sub.az,ev2⟩ hlt hV hJ hyl (fun c σ l h=>h) fun σ l h=>h) hcv bL.nil).mono fun O m2 l q=>q.elim fun σ' q=>jZ (x:=⟨d2,as++cl.map (·.2),P2,Q2⟩) ev2 q.1 k3.1.2 hk q3 q.2 (fun m l hm h=>?_) fun O O h=>h
 exact (q1▸h.run _ hm:Ok d2 r (eval elt d2.env) (PV (fun c l=>P2 (some c) σ' l) _) _ _).mono fun v m l pv=>by cases pv with | mk c e is kk=>exact bF.on kk is
end
end
section
inductive Hs(l:Led)(a:Addr)(P:Obj→Prop):Prop
 | mk (o:Obj) (e:l a=some o) (h:P o):Hs l a P
inductive ai(cs:List CV)(o:Obj):Prop
 | mk (vs:List Value) (n:Nat) (e:o=listOf (List.toArray vs) n) (h:ar cs vs):ai cs o
inductive bJ(cs:List CV)(o:Obj):Prop
 | mk (vs:List Value) (e:o=fG vs) (h:ar cs vs):bJ cs o
noncomputable abbrev HL(l:Led)(a:Addr)(cs:List CV):Prop:=Hs l a (ai cs)
noncomputable abbrev HT(l:Led)(a:Addr)(cs:List CV):Prop:=Hs l a (bJ cs)
noncomputable def wO(l:Led)(a:Addr)(l':Led):Prop:=∀ b,b≠a→l' b=l b
structure Up(l:Led)(a:Addr)(P:Obj→Prop)(l':Led):Prop where
 but:wO l a l'
 is:Hs l' a P
structure Mk(l:Led)(a:Addr)(P:Obj→Prop)(l':Led):Prop where
 fresh:l a=none
 but:wO l a l'
 is:Hs l' a P
theorem Hs.le{l l':Led}{a:Addr}{P:Obj→Prop}(h:Hs l a P)(le:l.le l'):Hs l' a P:=by
 induction h with | mk o e p=>exact ⟨o,le _ _ e,p⟩
theorem Hs.of{l l':Led}{a:Addr}{P:Obj→Prop}(h:Hs l a P)(k:∀ o,l a=some o→l' a=some o):Hs l' a P:=by
 induction h with | mk o e p=>exact ⟨o,k _ e,p⟩
theorem Hs.ne{l:Led}{a b:Addr}{P:Obj→Prop}(h:Hs l a P)(hb:l b=none):a≠b:=by
 induction h with | mk o e p=>exact Led.ne e hb
theorem Hs.but{l l':Led}{a b:Addr}{P:Obj→Prop}(h:Hs l a P)(k:wO l b l')(n:a≠b):Hs l' a P:=by
 induction h with | mk o e p=>exact ⟨o,(k a n).trans e,p⟩
theorem Hs.apart{l:Led}{a b:Addr}{P R:Obj→Prop}(h:Hs l a P)(k:Hs l b R)(x:∀ o,P o→R o→False):a≠b:=fun e=>by
 obtain (⟨o,e1,p⟩):=h;obtain (⟨o',e2,q⟩):=k;subst e;rw [e1] at e2;cases e2;exact x o p q
theorem Mk.le{l l':Led}{a:Addr}{P:Obj→Prop}(k:Mk l a P l'):l.le l':=fun b o e=>(k.but b (Led.ne e k.fresh)).trans e
theorem Mk.keep{l l':Led}{a b:Addr}{P R:Obj→Prop}(k:Mk l a P l')(h:Hs l b R):Hs l' b R:=h.le k.le
theorem Up.keep{l l':Led}{a b:Addr}{P R:Obj→Prop}(k:Up l a P l')(h:Hs l b R)(n:b≠a):Hs l' b R:=h.but k.but n
theorem Mk.set{l:Led}{a:Addr}{P:Obj→Prop}{o:Obj}(f:l a=none)(p:P o):Mk l a P (l.set a o):=⟨f,fun O h=>if_neg h,o,Led.hit,p⟩
theorem Up.set{l:Led}{a:Addr}{P:Obj→Prop}{o:Obj}(p:P o):Up l a P (l.set a o):=⟨fun O h=>if_neg h,o,Led.hit,p⟩
set_option tactic.hygienic true in
theorem Mk.fin{l lf:Led}{a:Addr}{P:Obj→Prop}(le:l.le lf)(f:l a=none)(h:Hs lf a P):∃ l',Mk l a P l'∧l'.le lf:=by
 obtain (⟨o,e,p⟩):=h
 refine ⟨l.set a o,.set f p,fun b x q=>?_⟩
 unfold Led.set at q
 split at q
 ·rename_i z;cases q;rw [z];exact e
 ·exact le _ _ q
theorem ar.get{cs:List CV}{vs:List Value}(h:ar cs vs):∀ {i:Nat} {c:CV},cs[i]?=some c→∃ v,vs[i]?=some v∧CV.Is c v:=by
 induction h with
 | nil=>intro i c e;cases e
 | cons hc _ ih =>
  intro i c e
  induction i with
  | zero=>cases e;exact ⟨_,rfl,hc⟩
  | succ i=>exact ih e
section
variable {d:Dy}{r:Nat}{l:Led}{K:CV→Led→Prop}
theorem LN.makes{t:List Value→Sem Value}{cs:List CV}{P:Obj→Prop}
  (h:∀ A E g (s:Shared) (m mo:Mp) (Q:Value→Shared→Prop) vs news,ar cs vs→bx d r A E g s m l→Fr g d.L s.heap mo→News g d.L s.heap news→(∀ b o,l b=some o→s.heap.get? b=some o)→(∀ h' tk D o,Fr g d.L h' mo→News g d.L h' ((D,o)::news)→(∀ p∈news,p.1≠D)→P o→Q (.ref D) {s with heap:=h',toks:=tk})→wpAny (model Pg d.w) A (t vs) Q E s)
  (k:∀ a l',Mk l a P l'→K (.v (.ref a)) l'):LN d r t cs K l:=⟨fun vs m hv=>⟨fun A E g s n=>by
 obtain (⟨mo,news,F,N,_,_,nw,_⟩):=n.a.led
 refine h A E g s m mo _ vs news hv n F N (fun O O e=>n.a.get e) fun h' tk D o F' N' ne p=>?_
 obtain (⟨f,a'⟩):=nw h' D o F' N' ne
 exact ⟨g,m,_,.of,a',_,.refl _,.v _,k _ _ (.set f p)⟩⟩⟩
theorem LN.turns{t:List Value→Sem Value}{cs:List CV}{a:Addr}{P R:Obj→Prop}(hm:Hs l a P)
  (h:∀ A E g (s:Shared) (m mo:Mp) (Q:Value→Shared→Prop) vs o rest,ar cs vs→bx d r A E g s m l→Fr g d.L s.heap mo→News g d.L s.heap ((a,o)::rest)→(∀ p∈rest,p.1≠a)→P o→(∀ h' tk o' c v,Fr g d.L h' mo→News g d.L h' ((a,o')::rest)→R o'→CV.Is c v→(∀ l',Up l a R l'→K c l')→Q v {s with heap:=h',toks:=tk})→wpAny (model Pg d.w) A (t vs) Q E s):LN d r t cs K l:=by
 obtain (⟨o,e,p⟩):=hm
 refine ⟨fun vs m hv=>⟨fun A E g s n=>?_⟩⟩
 obtain (⟨mo,news,F,N,_,_,_,ch⟩):=n.a.led
 obtain (⟨rest,N1,off,_,k1⟩):=ch a o e
 exact h A E g s m mo _ vs o rest hv n F N1 off p fun h' tk o' c v F' N' ro is k=>⟨g,m,_,.of,k1 h' o' F' N',c,.refl _,is,k _ (.set ro)⟩
theorem LN.au{cs:List CV}(hz:cs.length≤1000)(k:∀ a l',Mk l a (bJ cs) l'→K (.v (.ref a)) l'):LN d r newTuple cs K l :=
 .makes (fun A E g s m mo Q vs news hv n F N O kk=>newTuple_N F N (fun h' F' N'=>kk h' s.toks _ _ F' N' (du N) ⟨vs,rfl,hv⟩) (by rw [PySem.sizeLine_eq,hv.len];omega)) k
theorem LN.ag{cs:List CV}(hz:cs.length≤1000)(k:∀ a l',Mk l a (ai cs) l'→K (.v (.ref a)) l'):LN d r newList cs K l :=
 .makes (fun A E g s m mo Q vs news hv n F N O kk=>newList_N F N (fun h' F' N'=>kk h' s.toks _ _ F' N' (du N) ⟨vs,0,rfl,hv⟩) (by rw [PySem.sizeLine_eq,hv.len];omega)) k
theorem bh.of{a:Addr}{cs:List CV}{n:Nat}{C:List CV→Prop}(h:HT l a cs)(hn:cs.length=n)(k:C cs):bh (.v (.ref a)) l n C:=by
 obtain (⟨o,e,vs,rfl,hv⟩):=h;exact .mk a vs cs _ rfl e (.inl rfl) (hv.len.trans hn) hv k
theorem bh.fC{a:Addr}{cs:List CV}{n:Nat}{C:List CV→Prop}(h:HL l a cs)(hn:cs.length=n)(k:C cs):bh (.v (.ref a)) l n C:=by
 obtain (⟨o,e,vs,n,rfl,hv⟩):=h;exact .mk a vs cs _ rfl e (.inr ⟨n,rfl⟩) (hv.len.trans hn) hv k
set_option tactic.hygienic true in
theorem LN.aR{o i:Ex}{a:Addr}{cs:List CV}{k:Int}{c:CV}(hm:HL l a cs)(h0:0≤k)(hx:cs[k.toNat]?=some c)(hk:k < 2 ^ 63)(h:K c l)(hi:isSlice i=false:=by rfl):LN d r (fH o i) [.v (.ref a),.int k] K l:=by
 obtain ⟨ob,e,vs,n,rfl,hv⟩:=hm
 obtain ⟨v,hx',is⟩:=hv.get hx
 refine ⟨fun us m hu=>?_⟩
 refine ar.dg hu fun x u hx1 hx2=>?_
 cases hx1;cases hx2;rename_i u
 have hs:subscripted i false (.ref a) (.int k u)=operate [.ref a,.int k u] (getItem (.ref a) (.int k u)):=by cases i<;>first | rfl | cases hi
 exact .quiet fun A E g s Q nn kk=>tail_any (Heap.IsList.typeIs ⟨_,nn.a.get e,rfl,_,rfl⟩) slot_list_getitem.lookup (wpAny_getItem_list ⟨_,nn.a.get e,rfl,_,rfl⟩ h0 hk (by simpa using hx') (kk v s.toks ⟨_,.refl _,is,h⟩)) hs
theorem LN.cL{a:Addr}{cs:List CV}(hm:HL l a cs)(hz:cs.length≤1000)(h:K (.int (cs.length:Int)) l):LN d r (fun vs=>call (.builtin "len") vs) [.v (.ref a)] K l:=by
 obtain ⟨ob,e,vs,n,rfl,hv⟩:=hm
 refine ⟨fun us m hu=>?_⟩
 refine ar.eX hu fun x hx1=>?_
 cases hx1
 refine .quiet fun A E g s Q nn kk=>PyProof.Rows.len_list ⟨_,nn.a.get e,rfl,_,rfl⟩ (by rw [List.size_toArray,hv.len];omega) ?_
 rw [List.size_toArray,hv.len]
 exact kk _ _ ⟨_,.refl _,.int _ _,h⟩
theorem LN.copy{a:Addr}{cs:List CV}(hm:HL l a cs)(hz:cs.length≤1000)(k:∀ b l',Mk l b (ai cs) l'→K (.v (.ref b)) l'):LN d r (fun vs=>call (.type "list") vs) [.v (.ref a)] K l:=by
 obtain ⟨ob,e,vs,n,rfl,hv⟩:=hm
 refine .makes (fun A E g s m mo Q us news hu nn F N get kk=>?_) k
 refine ar.eX hu fun x hx1=>?_
 cases hx1
 exact list_copyK F N ⟨_,get _ _ e,rfl,_,rfl⟩ (fun D c h' F' N' hlt=>kk h' s.toks D _ F' N' (fun p hp=>Nat.ne_of_lt (hlt p hp)) ⟨vs,c,rfl,hv⟩) (by rw [List.size_toArray,hv.len,PySem.sizeLine_eq];omega)
end
end
section
inductive dY:List DictEntry→List (Str × CV)→Prop
 | nil:dY [] []
 | cons {h:Int} {n:Str} {t:Tok} {v:Value} {c:CV} {es fs} (is:CV.Is c v) (r:dY es fs):dY (⟨h,.str n t,v⟩::es) ((n,c)::fs)
noncomputable def sA(n:Str)(c:CV):List (Str × CV)→List (Str × CV)
 | []=>[(n,c)]
 | p::r=>if p.1=n then (p.1,c)::r else p::sA n c r
theorem eh{n name:Str}{t:Tok}:(Value.str n t).isStr name=(n==name):=rfl
theorem dY.len{es fs}(h:dY es fs):es.length=fs.length:=by
 induction h with
 | nil=>rfl
 | cons _ _ ih=>rw [List.length_cons,List.length_cons,ih]
theorem dY.vK{es fs}(h:dY es fs):es.any (·.refKey)=false:=by
 induction h with
 | nil=>rfl
 | cons _ _ ih=>rw [List.any_cons,ih];rfl
theorem dY.get{es fs}(h:dY es fs){name:Str}{c:CV}(e:fs.lookup name=some c):∃ v,getL name es=some (some v)∧CV.Is c v:=by
 unfold getL
 induction h with
 | nil=>cases e
 | @cons hh n t v c' es fs is r ih =>
  rw [List.lookup_cons] at e
  by_cases q:name=n
  ·subst q
   rw [BEq.rfl] at e;cases e
   rw [List.find?_cons,eh,BEq.rfl];exact ⟨v,rfl,is⟩
  ·have q1:(name==n)=false:=by simpa using q
   have q2:(n==name)=false:=by simpa using Ne.symm q
   rw [q1] at e
   obtain (⟨w,a,b⟩):=ih e
   refine ⟨w,?_,b⟩
   rw [List.find?_cons,eh,q2,List.any_cons]
   exact a
theorem dY.no{es fs}(h:dY es fs){name:Str}(e:fs.lookup name=none):getL name es=some none:=by
 unfold getL
 have:es.find? (·.key.isStr name)=none:=by
  induction h with
  | nil=>rfl
  | @cons hh n t v c' es fs is r ih =>
   rw [List.lookup_cons] at e
   by_cases q:name=n
   ·subst q;rw [BEq.rfl] at e;cases e
   ·have q1:(name==n)=false:=by simpa using q
    have q2:(n==name)=false:=by simpa using Ne.symm q
    rw [q1] at e
    rw [List.find?_cons,eh,q2];exact ih e
 rw [this,h.vK];rfl
theorem dY.put{es fs}(h:dY es fs){name:Str}{hsh:Int}{t:Tok}{v:Value}{c:CV}(is:CV.Is c v):dY (putL name hsh (.str name t) v es) (sA name c fs):=by
 induction h with
 | nil=>exact .cons is .nil
 | @cons hh n t' v' c' es fs is' r ih =>
  unfold putL sA
  rw [eh]
  by_cases q:n=name
  ·subst q;rw [BEq.rfl,if_pos rfl,if_pos rfl];exact .cons is r
  ·have q2:(n==name)=false:=by simpa using q
   rw [q2,if_neg (by decide),if_neg q];exact .cons is' ih
theorem qn(name:Str)(hsh:Int)(k v:Value):∀ es,(putL name hsh k v es).length≤es.length+1:=by
 intro es
 induction es with
 | nil=>exact Nat.le_refl _
 | cons e r ih=>unfold putL;split<;>simp only [List.length_cons]<;>omega
inductive wL(fs:List (Str × CV))(o:Obj):Prop
 | mk (es:List DictEntry) (n:Nat) (e:o=dictOf es n) (is:dY es fs):wL fs o
structure Inst(l:Led)(x dx C:Addr)(fs:List (Str × CV)):Prop where
 i:l x=some (instObj C dx)
 d:Hs l dx (wL fs)
theorem Inst.le{l l':Led}{x dx C:Addr}{fs}(h:Inst l x dx C fs)(le:l.le l'):Inst l' x dx C fs:=⟨le _ _ h.1,h.2.le le⟩
theorem Inst.ne{l:Led}{x dx C:Addr}{fs}(h:Inst l x dx C fs):x≠dx:=fun e=>by
 obtain (⟨a,o,b,es,n,rfl,_⟩):=h;rw [e,b] at a;cases a
theorem Inst.but{l l':Led}{a x dx C:Addr}{fs}(h:Inst l x dx C fs)(k:wO l a l')(n1:x≠a)(n2:dx≠a):Inst l' x dx C fs:=⟨(k _ n1).trans h.1,h.2.but k n2⟩
noncomputable def ua(K:Frag)(C:Addr)(name:Str):Bool:=plainGet K C name&&hasDictIn K C&&(match findIn K (.ref C) name with | some a=>noGet K a | none=>false)
noncomputable def qz(K:Frag)(C:Addr)(name:Str)(f:Addr):Bool:=plainGet K C name&&(findIn K (.ref C) name==some (some (.ref f)))&&isFn K (.ref f)&&keepIn K (.ref f)
noncomputable def setB(K:Frag)(C:Addr)(name:Str):Bool:=(findIn K (.ref C) "__setattr__"==some (some (.builtin "object.__setattr__")))&&plainOver K C&&(takerIn K C name==some none)&&hasDictIn K C
noncomputable def wx(K:Frag)(C fI:Addr):Bool:=makesIn K C&&(findIn K (.ref C) "__init__"==some (some (.ref fI)))&&isFn K (.ref fI)
noncomputable def v8:CV→Bool
 | .v v=>handedIn v
 | _=>true
section
variable {d:Dy}{r:Nat}{l:Led}{x dx C:Addr}{fs:List (Str × CV)}{name:Str}
theorem InstAt.ji{g h:Heap}{m:Mp}{es n}(a:At d g h m l)(h1:l x=some (instObj C dx))(h2:l dx=some (dictOf es n)):InstAt h x (instObj C dx) C (some (dictOf es n)):=⟨a.get h1,rfl,rfl,a.get h2⟩
theorem LN.attr{K:CV→Led→Prop}{c:CV}(I:Inst l x dx C fs)(hB:ua (K39 d.w.params) C name=true)(hl:fs.lookup name=some c)(h:K c l)(hh:v8 c=true:=by rfl):LN d r (fZ name) [.v (.ref x)] K l:=by
 unfold ua at hB
 have b3:=(bA hB).2
 obtain ⟨i1,o,i2,es,n,rfl,hes⟩:=I
 obtain ⟨v,gv,is⟩:=hes.get hl
 have hv:handedIn v=true:=by cases is<;>first | rfl | exact hh
 refine aJ (findIn (K39 d.w.params) (.ref C) name) (fun q=>?_) (fun at_ q=>?_)
 ·rw [q] at b3;cases b3
 ·rw [q] at b3
  refine ⟨fun us m hu=>?_⟩
  refine ar.eX hu fun y hy=>?_
  cases hy
  exact .quiet fun A E g s Q N kk=>get_value N.X (InstAt.ji N.a i1 i2) (plainGet_of ((bA (bA hB).1).1)).1 (findObj_own ((bA (bA hB).1).2) q b3 gv) hv (kk v _ ⟨_,.refl _,is,h⟩)
theorem LU.aL{K:Led→Prop}{c:CV}(I:Inst l x dx C fs)(hB:setB (K39 d.w.params) C name=true)(hz:fs.length≤100)(h:∀ l',wO l dx l'→Inst l' x dx C (sA name c fs)→K l'):LU d r (iD name) [.v (.ref x),c] K l:=by
 unfold setB at hB
 have c3:=bA (bA hB).1
 have ne:=I.ne
 obtain ⟨i1,o,i2,es,n,rfl,hes⟩:=I
 refine ⟨fun us m hu=>?_⟩
 refine ar.dg hu fun y z hy hz'=>?_
 cases hy
 refine ⟨fun A E g s N=>?_⟩
 obtain ⟨mo,news,F,_,_,_,_,ch⟩:=N.a.led
 obtain ⟨rest,N1,off,_,k1⟩:=ch dx _ i2
 have hlen:=qn name (PyData.keyHash d.w.params name) (.str name (s.toks+1)) z es
 rw [hes.len] at hlen
 refine set_plain N.X (InstAt.ji N.a i1 i2) (eq_of_beq (bA c3.1).1) (osa_dict (s:={s with toks:=s.toks+1}) (pre:=[]) (post:=rest) F N1 N.X (InstAt.ji N.a i1 i2) rfl ((bA c3.1).2) (eq_of_beq c3.2) ((bA hB).2) ?_ (fun O h=>nomatch h) off (by rw [putName_dict]) rfl (Nat.le_trans hlen (by omega)) fun h' F' N'=>?_)
 ·show (getL name es).isSome=true
  refine aJ (fs.lookup name) (fun q=>?_) (fun c q=>?_)
  ·rw [hes.no q];rfl
  ·obtain (⟨v,e,_⟩):=hes.get q;rw [e];rfl
 ·exact ⟨g,m,_,.of (t:=s.toks+2),k1 h' _ F' N',.refl _,h _ (fun b e=>if_neg e) ⟨(if_neg ne).trans i1,_,Led.hit,_,_,rfl,hes.put hz'⟩⟩
theorem bG.own(f:Addr){C':Value→List CV→Prop}(I:Inst l x dx C fs)(hB:qz (K39 d.w.params) C name f=true)(k:C' (.ref f) [.v (.ref x)])(hl:fs.lookup name=none:=by rfl):bG d r (.v (.ref x)) name l C':=by
 unfold qz at hB
 simp only [Bool.and_eq_true,beq_iff_eq] at hB
 obtain ⟨⟨⟨b1,b2⟩,b3⟩,b4⟩:=hB
 obtain ⟨i1,o,i2,es,n,rfl,hes⟩:=I
 refine .mk (.ref f) [.v (.ref x)] (fun l' X hp O=>keeps_K b4 _ hp) (fun v pl m hv=>?_) k
 cases hv
 exact .quiet fun A E g s Q N kk=>method_fn N.X (InstAt.ji N.a i1 i2) (plainGet_of b1).1 (plainGet_of b1).2 b2 (beq_iff_eq.mp b3) (by show (lookIn name (dictOf es n)).map _=_;rw [lookIn_dict,hes.no hl];rfl) (kk _ s.toks ⟨rfl,rfl,rfl,.cons (.v _) .nil⟩)
theorem LN.cls{K:CV→Led→Prop}{fI:Addr}{cs:List CV}(hB:wx (K39 d.w.params) C fI=true)
  (h:∀ x dx l1,l x=none→l dx=none→l.le l1→(∀ b,b≠x→b≠dx→l1 b=l b)→Inst l1 x dx C []→Cc d.q r fI (.v (.ref x)::cs) (fun c l2=>c=.v .none∧K (.v (.ref x)) l2) l1):LN d (r+1) (fun vs=>call (.ref C) vs) cs K l:=by
 unfold wx at hB
 simp only [Bool.and_eq_true,beq_iff_eq] at hB
 obtain ⟨⟨b1,b2⟩,b3⟩:=hB
 refine ⟨fun vs m hv=>⟨fun A E g s N=>?_⟩⟩
 obtain (⟨f1,a1⟩):=N.a.push emptyDict
 obtain (⟨f2,a2⟩):=a1.push (instObj C s.heap.objs.size)
 rw [Heap.size_push] at f2 a2
 have X:=N.X
 have up:(K39 d.w.params).In s.heap:=X
 refine wpAny_call ?_
 obtain (⟨hh,gg,dd,tk,os⟩):=s
 refine make_core (makes_of X b1) (looks_findIn X b2) (fun self=>bind_fn X self (beq_iff_eq.mp b3)) (.inl rfl) ?_
 have f2':l (hh.objs.size+1)=none:=(Led.le.new f1).none f2
 have hl1:(l.set hh.objs.size emptyDict).le ((l.set hh.objs.size emptyDict).set (hh.objs.size+1) (instObj C hh.objs.size)):=.new f2
 have I1:Inst ((l.set hh.objs.size emptyDict).set (hh.objs.size+1) (instObj C hh.objs.size)) (hh.objs.size+1) hh.objs.size C []:=⟨Led.hit,_,hl1 _ _ Led.hit,[],0,rfl,.nil⟩
 have R':jN d.q r (A.under (.builtin "type.__call__" ⟨.ref C::vs,[]⟩)):=⟨N.R.hd,N.R.fr,by have:=N.R.dep;show A.depth+1+r+1 < 1000;omega,by have:=N.R.pB;show A.units+1+16 * r+64 < 9900;omega⟩
 have N2:bx d.q r (A.under (.builtin "type.__call__" ⟨.ref C::vs,[]⟩)) (fun e s'=>E e s') g ⟨(hh.push emptyDict).push (instObj C hh.objs.size),gg,dd,tk,os⟩ m ((l.set hh.objs.size emptyDict).set (hh.objs.size+1) (instObj C hh.objs.size)) :=
  ⟨(N.q E).G,R',a2.toQ,fun h=>h.elim,fun a s' th=>by cases th<;>exact False.elim ‹_›⟩
 refine codeAny_mono ((h (hh.objs.size+1) hh.objs.size _ f2' f1 ((Led.le.new f1).trans hl1) (fun b h1 h2=>(if_neg h1).trans (if_neg h2)) I1).run (.ref (hh.objs.size+1)::vs) m (.cons (.v _) hv) _ _ g _ N2) fun res s' q=>?_
 induction res with
 | error e=>exact q
 | ok f =>
  induction f with
  | ret v =>
   obtain ⟨g',m',l',e,a,c,em,is,rfl,k⟩:=q
   cases is
   exact ⟨rfl,g',m',l',⟨e.T,⟨e.e.g,e.e.d,e.e.o⟩,e.st⟩,a.xW,_,em,.v _,k⟩
  | _=>exact q.elim
end
end
section
section
variable {d:Dy}{r:Nat}{l:Led}{K:CV→Led→Prop}
theorem LN.q1{t:List Value→Sem Value}{c:CV}(h:∀ A E g (s:Shared) (Q:Value→Shared→Prop) v (m:Mp),CV.Is c v→bx d r A E g s m l→(∀ c' v' tk,CV.Is c' v'→K c' l→Q v' {s with toks:=tk})→wpAny (model Pg d.w) A (t [v]) Q E s):LN d r t [c] K l:=⟨fun vs m hv=>by
 refine ar.eX hv fun v is=>?_
 exact .quiet fun A E g s Q n k=>h A E g s Q v m is n fun c' v' tk is k'=>k v' tk ⟨c',rfl,is,k'⟩⟩
theorem LN.q2{t:List Value→Sem Value}{a b:CV}(h:∀ A E g (s:Shared) (Q:Value→Shared→Prop) v w (m:Mp),CV.Is a v→CV.Is b w→bx d r A E g s m l→(∀ c' v' tk,CV.Is c' v'→K c' l→Q v' {s with toks:=tk})→wpAny (model Pg d.w) A (t [v,w]) Q E s):LN d r t [a,b] K l:=⟨fun vs m hv=>by
 refine ar.dg hv fun v w i1 i2=>?_
 exact .quiet fun A E g s Q n k=>h A E g s Q v w m i1 i2 n fun c' v' tk is k'=>k v' tk ⟨c',rfl,is,k'⟩⟩
theorem d9{e:Ex}{x:Str}{t:Tok}(q:Value):letTemporaryGo e (.str x t) q=pure ():=by cases e<;>rfl
theorem gb{e:Ex}(h:isSlice e=false)(a b:Value):subscripted e false a b=operate [a,b] (getItem a b):=by cases e<;>first | rfl | cases h
theorem LN.eZ{x:Str}(hz:x.length≤100000000)(h:K (.int (x.length:Int)) l):LN d r (fun vs=>call (.builtin "len") vs) [.str x] K l :=
 .q1 fun A E g s Q v m is n k=>by cases is;exact len_writK x.length rfl (by omega) (k _ _ _ (.int _ _) h)
theorem LN.gH{o i:Ex}{x:Str}{k:Int}(hz:x.length≤100000000)(h1:-(x.length:Int)≤k)(h2:k < x.length)(h:K (.str (Txt.item x k)) l)(hi:isSlice i=false:=by rfl):LN d r (fH o i) [.str x,.int k] K l :=
 .q2 fun A E g s Q v w m i1 i2 n kk=>by
  cases i1;cases i2
  exact item_str (by unfold fitsSsize;simp;omega) h1 h2 (fun O=>kk _ _ _ (.str _ _) h) (gb hi _ _) d9
theorem LN.abs{a:Int}(h:K (.int a.natAbs) l):LN d r (fun vs=>call (.builtin "abs") vs) [.int a] K l :=
 .q1 fun A E g s Q v m is n k=>by cases is;exact call_abs_int fun u tk=>k _ _ _ (.int _ _) (by rw [show (if a < 0 then -a else a)=((a.natAbs:Nat):Int) by split<;>omega];exact h)
theorem LN.j5{a:Int}(ha:a.natAbs < 2 ^ 1900)(h:K (.str (Str.ofString (toString a))) l):LN d r (fun vs=>call (.type "str") vs) [.int a] K l :=
 .q1 fun A E g s Q v m is n k=>by
  cases is
  refine PySem.P.str_of_int ?_ (k _ _ _ (.str _ _) h)
  by_cases hz:a.natAbs=0
  ·rw [hz];decide
  ·exact (Nat.log2_lt hz).mpr (Nat.lt_of_lt_of_le ha (Nat.pow_le_pow_right (by decide) (by decide)))
theorem LN.pow10{n:Nat}(hn:n≤100)(h:K (.int (10 ^ n)) l):LN d r (fY .Pow) [.int 10,.int (n:Int)] K l :=
 .q2 fun A E g s Q v w m i1 i2 O kk=>by
  cases i1;cases i2
  exact pow_int_small (by omega) (by omega) (by decide) (kk _ _ _ (.int _ _) h)
theorem LN.vN{x:Str}{i:Int}(hx:x.length≤16)(h1:-1000≤i)(h2:i≤1000)(h:K (.str (Txt.mul x i)) l):LN d r (fY .Mult) [.str x,.int i] K l :=
 .q2 fun A E g s Q v w m i1 i2 O kk=>by
  cases i1;cases i2
  exact KXi.mul rfl hx (by omega) (by omega) fun t' k O O=>kk _ _ _ (.str _ _) h
noncomputable def uz:Option Int→CV
 | none=>.v .none
 | some i=>.int i
set_option backward.match.sparseCases false in
noncomputable def oO:Ex→Bool
 | .Slice _ _ none _=>true
 | _=>false
theorem nh{P:Ex→Prop}(h:∀ lo hi p,P (.Slice lo hi none p)):∀ e,oO e=true→P e:=by
 intro e
 cases e with
 | Slice lo hi st p =>
  induction st with
  | none=>exact fun O=>h lo hi p
  | some _=>exact ff
 | _=>exact ff
theorem gJ{e:Ex}(h:oO e=true):isSlice e=true:=nh (P:=fun e=>isSlice e=true) (fun O O O=>rfl) e h
theorem eN{e:Ex}(h:oO e=true)(a:Value)(b:Addr):subscripted e false a (.ref b)=operate [.ref b,a] (getItem a (.ref b)):=nh (P:=fun e=>subscripted e false a (.ref b)=operate [.ref b,a] (getItem a (.ref b))) (fun O O O=>rfl) e h
@[elab_as_elim] theorem jh{o:Option Int}{v:Value}{P:Option Int→Value→Prop}(h:CV.Is (uz o) v)(h0:P none .none)(h1:∀ i t,P (some i) (.int i t)):P o v:=by
 induction o with
 | none=>exact CV.Is.ev (P:=P none) h h0
 | some i=>exact CV.Is.ei (P:=P (some i)) h (h1 i)
theorem bX.yX{o i:Ex}{c1 c2 c3 c4:CV}(h:∀ v a b c m,CV.Is c1 v→CV.Is c2 a→CV.Is c3 b→CV.Is c4 c→∀ A E g s,bx d r A E g s m l→wpAny (model Pg d.w) A (subscriptTail o i v (.ref s.heap.objs.size)) (aO d g (PV K m) s) E {s with heap:=s.heap.push {cls:=.type "slice",data:=.fields #[a,b,c]}}):bX d r o i [c1,c2,c3,c4] K l :=
 ⟨fun v a b c m hv=>by cases hv with | cons h1 hv=>cases hv with | cons h2 hv=>cases hv with | cons h3 hv=>cases hv with | cons h4 hv=>exact h v a b c m h1 h2 h3 h4⟩
theorem bX.str{o i:Ex}{x:Str}(lo hi:Option Int)(hz:x.length≤1000)(h:K (.str (Txt.slice x lo hi)) l)(hs:oO i=true:=by rfl):bX d r o i [.str x,uz lo,uz hi,.v .none] K l:=.yX fun v a b c m h1 h2 h3 h4 A E g s n=>by
 refine h1.es fun t=>h4.ev ?_
 obtain (⟨mo,news,F,N,_,st,_⟩):=n.a.led
 have sz:x.length≤sizeLine:=Nat.le_trans hz (aj rfl)
 have fin:∀ h' t' k,Fr g d.L h' mo→News g d.L h' news→aO d g (PV K m) s (.str (Txt.slice x lo hi) t') {s with heap:=h',toks:=k}:=fun h' t' k F' N'=>⟨g,m,l,.of,st h' F' N',_,rfl,.str _ _,h⟩
 clear h
 revert fin
 refine jh h2 (jh h3 (fun fin=>?_) fun j u fin=>?_) fun i t=>jh h3 (fun fin=>?_) fun j u fin=>?_
 ·exact slice_strN_nn F N fin (eN hs _ _) d9 sz
 ·exact slice_strN_ns F N fin (eN hs _ _) d9 sz
 ·exact slice_strN_sn F N fin (eN hs _ _) d9 sz
 ·exact slice_strN_ss F N fin (eN hs _ _) d9 sz
theorem bG.str{x name:Str}{C:Value→List CV→Prop}(id:String)(slot:Slot "str" name id)(ty:typeOf (.builtin id)=pure (.type "method_descriptor"))(k:C (.builtin id) [.str x]):bG d r (.str x) name l C :=
 .mk _ [.str x] (fun l'=>CW.of rfl l') (fun v pl m hv=>by cases hv;exact .quiet fun A E g s Q n kk=>GM.of _ (typeIs_str _ _ _) slot ty GM.noRef (kk _ s.toks ⟨rfl,rfl,rfl,.cons (.str _ _) .nil⟩)) k
theorem LN.rj{x y:Str}(h:K (.int (Txt.count x y)) l):LN d r (fun vs=>call (.builtin "str.count") vs) [.str x,.str y] K l :=
 .q2 fun A E g s Q v w m i1 i2 O kk=>by cases i1;cases i2;exact KXw.count rfl fun t' k=>kk _ _ _ (.int _ _) h
theorem LN.uH{x y:Str}(e:(Builtin.Str.occurrences x y 0 x.length 1).isEmpty=false)(h:K (.int (Txt.find x y)) l):LN d r (fun vs=>call (.builtin "str.index") vs) [.str x,.str y] K l :=
 .q2 fun A E g s Q v w m i1 i2 n kk=>by cases i1;cases i2;exact index_or n.R.hd (fun O q=>by rw [e] at q;cases q) fun O O=>kk _ _ _ (.int _ _) h
theorem LN.vE{x y z:Str}(e:(Builtin.Str.occurrences x y 0 x.length (x.length+1)).isEmpty=true)(h:K (.str x) l):LN d r (fun vs=>call (.builtin "str.replace") vs) [.str x,.str y,.str z] K l:=⟨fun vs m hv=>by
 refine ar.fU hv fun u v w i1 i2 i3=>?_
 cases i1;cases i2;cases i3
 refine .quiet fun A E g s Q n k=>?_
 have hc:((Builtin.Str.occurrences x y 0 x.length (x.length+1)).isEmpty||(y.length==0&&z.length==0))=true:=by rw [e];rfl
 refine call_gives F.slot_str_replace (typeIs_str _ _ _) F.entry_str_replace (F.args_str_replace_3 _ _ _) (gives_str_replace x y z _ _ _ fun q=>by rw [hc] at q;cases q) ?_
 rw [hc]
 simp only [if_true]
 exact k _ s.toks ⟨_,rfl,.str _ _,h⟩⟩
theorem LN.vH{x y:Str}(hy:(y.length==0)=false)(hz:x.length≤1000)(k:∀ a l',Mk l a (bJ [.str (Txt.partition x y).1,.str (Txt.partition x y).2.1,.str (Txt.partition x y).2.2]) l'→K (.v (.ref a)) l'):LN d r (fun vs=>call (.builtin "str.partition") vs) [.str x,.str y] K l :=
 .makes (fun A E g s m mo Q vs news hv n F N O kk=>by
  refine ar.dg hv fun v w i1 i2=>?_
  cases i1;cases i2
  exact KXpa.partition F N hy rfl rfl rfl (by rw [PySem.sizeLine_eq];omega) fun D ta tb tc h' k F' N' lt=>kk h' k D _ F' N' (fun p hp=>Nat.ne_of_lt (lt p hp)) ⟨_,rfl,.cons (.str _ _) (.cons (.str _ _) (.cons (.str _ _) .nil))⟩) k
theorem j4{vs:List Value}{ys:List Str}(h:StrsAre vs ys):ar (ys.map .str) vs:=by
 induction h with
 | nil=>exact .nil
 | cons y t h ih=>exact .cons (.str _ _) ih
theorem LN.lK{x y:Str}(hy:(y.length==0)=false)(hz:x.length≤1000)(k:∀ a l',Mk l a (ai ((Txt.split x y).map .str)) l'→K (.v (.ref a)) l'):LN d r (fun vs=>call (.builtin "str.split") vs) [.str x,.str y] K l :=
 .makes (fun A E g s m mo Q vs news hv n F N O kk=>by
  refine ar.dg hv fun v w i1 i2=>?_
  cases i1;cases i2
  exact KSpl.split1 F N hy (fun D q h' k e h F' N' lt=>kk h' k D _ F' N' (fun p hp=>Nat.ne_of_lt (lt p hp)) ⟨_,0,rfl,e▸j4 h⟩) (by rw [PySem.sizeLine_eq];omega)) k
inductive Ty(l:Led):CV→String→Prop
 | str (x:Str):Ty l (.str x) "str"
 | bool (b:Bool):Ty l (.v (.bool b)) "bool"
 | list {a:Addr} {cs:List CV} (h:HL l a cs):Ty l (.v (.ref a)) "list"
 | tup {a:Addr} {cs:List CV} (h:HT l a cs):Ty l (.v (.ref a)) "tuple"
theorem LN.fL{c:CV}{Tx T:String}(ty:Ty l c Tx)(hT:T="str"∨T="bool"∨T="tuple"∨T="list")(h:K (.v (.bool (Tx==T))) l):LN d r (fun vs=>call (.builtin "isinstance") vs) [c,.v (.type T)] K l :=
 .q2 fun A E g s Q v w m i1 i2 n kk=>by
  cases i2
  have fin:∀ {b} tk,(Tx==T)=b→Q (.bool b) {s with toks:=tk}:=fun tk e=>kk _ _ _ (.v _) (e▸h)
  induction ty with
  | str x =>
   cases i1
   rcases hT with rfl | rfl | rfl | rfl
   ·exact IsiPair.str_str (fin s.toks rfl)
   ·exact IsiPair.str_bool (fin _ rfl)
   ·exact IsiPair.str_tuple (fin _ rfl)
   ·exact IsiPair.str_list (fin _ rfl)
  | bool x =>
   cases i1
   rcases hT with rfl | rfl | rfl | rfl
   ·exact IsiPair.bool_str (fin _ rfl)
   ·exact IsiPair.bool_bool (fin s.toks rfl)
   ·exact IsiPair.bool_tuple (fin _ rfl)
   ·exact IsiPair.bool_list (fin _ rfl)
  | list hm =>
   cases i1
   obtain ⟨o,e,vs,k,rfl,_⟩:=hm
   have e:=n.a.get e
   rcases hT with rfl | rfl | rfl | rfl
   ·exact IsiPair.list_str e rfl (fin _ rfl)
   ·exact IsiPair.list_bool e rfl (fin _ rfl)
   ·exact IsiPair.list_tuple e rfl (fin _ rfl)
   ·exact IsiPair.list_list e rfl (fin s.toks rfl)
  | tup hm =>
   cases i1
   obtain ⟨o,e,vs,rfl,_⟩:=hm
   have e:=n.a.get e
   rcases hT with rfl | rfl | rfl | rfl
   ·exact IsiPair.tuple_str e rfl (fin _ rfl)
   ·exact IsiPair.tuple_bool e rfl (fin _ rfl)
   ·exact IsiPair.tuple_tuple e rfl (fin s.toks rfl)
   ·exact IsiPair.tuple_list e rfl (fin _ rfl)
theorem LN.cJ{o i:Ex}{a:Addr}{cs:List CV}{k:Int}{c:CV}(hm:HT l a cs)(h0:0≤k)(hx:cs[k.toNat]?=some c)(hk:k < 1000)(h:K c l)(hi:isSlice i=false:=by rfl):LN d r (fH o i) [.v (.ref a),.int k] K l:=by
 obtain ⟨ob,e,vs,rfl,hv⟩:=hm
 obtain ⟨v,hx',is⟩:=hv.get hx
 exact .q2 fun A E g s Q v w m i1 i2 n kk=>by
  cases i1;cases i2
  have hlt:k.toNat < vs.length:=(List.getElem?_eq_some_iff.mp hx').1
  refine item_tupleT ⟨_,n.a.get e,rfl,_,rfl⟩ (by omega) (by omega) (j:=k.toNat) ?_ hx' (kk _ _ s.toks is h) (gb hi _ _)
  exact PySem.seqIndex_of h0 (by omega)
end
end
section
noncomputable abbrev nm(l:List String):List Str:=l.map Str.ofString
theorem aA.yes{T F:Prop}(h:T):aA true T F:=⟨fun O=>h,fun e=>nomatch e⟩
theorem aA.no{T F:Prop}(h:F):aA false T F:=⟨fun e=>(nomatch e),fun O=>h⟩
theorem Mk.out{l l1 l2:Led}{a:Addr}{P:Obj→Prop}(le:l.le l1)(m:Mk l1 a P l2):∃ l',Mk l a P l'∧l'.le l2:=Mk.fin (le.trans m.le) (le.none m.fresh) m.is
set_option backward.match.sparseCases false in
noncomputable def v5:BoolOp→Ex→Bool
 | .And,.BoolOp .And [_,_] _=>true
 | .Or,.BoolOp .Or [_,_] _=>true
 | _,_=>false
noncomputable def u9:BoolOp→Bool→Prop→Prop→Prop
 | .And,b,X,Y=>aA b X Y
 | .Or,b,X,Y=>aA b Y X
section
variable {fi:Fi}{r:Nat}{d:Dy}{cs:List Addr}{p:Pe}{σ:Sl}{l:Led}{K:CV→Led→Prop}
theorem sS{op:BoolOp}{P:Ex→Prop}(h:∀ a b pos,P (.BoolOp op [a,b] pos)):∀ e,v5 op e=true→P e:=by
 intro e
 cases e with
 | BoolOp o xs pos =>
  induction xs with
  | nil=>cases op<;>cases o<;>exact ff
  | cons a r =>
   induction r with
   | nil=>cases op<;>cases o<;>exact ff
   | cons b r =>
    induction r with
    | nil=>cases op<;>cases o<;>first | exact fun O=>h a b pos | exact ff
    | cons _ _=>cases op<;>cases o<;>exact ff
 | _=>cases op<;>exact ff
theorem u9.mono{op:BoolOp}{b:Bool}{X Y X' Y':Prop}(h:u9 op b X Y)(f:X→X')(g:Y→Y'):u9 op b X' Y':=by
 induction op with
 | And=>exact ⟨fun e=>f (h.t e),fun e=>g (h.f e)⟩
 | Or=>exact ⟨fun e=>g (h.t e),fun e=>f (h.f e)⟩
theorem LE.xH(op:BoolOp)(ev:Ev d fi cs)(hok:v5 op p.at=true)
  (h:∀ P',(∀ b l',u9 op b (LE d r fi (eval (p.c 1).at d.env) K σ l') (K (.v (.bool b)) l')→P' (some (.v (.bool b))) σ l')→Mine.go (fi:=fi) (r:=r) ⟨d,cs,P',fun O O=>False⟩ 99 (.e (p.c 0) .ret) σ l):LE d r fi (eval p.at d.env) K σ l:=by
 refine sS (P:=fun e=>p.at=e→LE d r fi (eval p.at d.env) K σ l) (fun e1 e2 pos e=>?_) p.at hok rfl
 have he:=LE.go (r:=r) (σ:=σ) (l:=l) (p:=p.c 0) (K:=fun c l'=>∃ b,c=.v (.bool b)∧u9 op b (LE d r fi (eval (p.c 1).at d.env) K σ l') (K (.v (.bool b)) l')) ev fun P' hP=>h P' fun b l' k=>hP _ l' ⟨b,rfl,k⟩
 rw [show (p.c 0).at=e1 from congrArg (ch · 0) e,show (p.c 1).at=e2 from congrArg (ch · 1) e] at he
 rw [e]
 refine ⟨fun m hm=>⟨fun A E g s N=>?_⟩⟩
 have main:wpAny (model Pg d.w) A (eval e1 d.env) (fun v s₁=>wpAny (model Pg d.w) A (truthy v) (fun b s₁=>u9 op b (wpAny (model Pg d.w) A (eval e2 d.env) (aO d g (PV K m) s) E s₁) (aO d g (PV K m) s v s₁)) E s₁) E s:=Ok.tQ (he.run m hm) N fun v s₁ g₁ l₁ c e₁ N₁ is k=>k.elim fun b k=>by
  rw [k.1] at is
  exact is.ev (P:=fun v=>wpAny (model Pg d.w) A (truthy v) (fun b s₁=>u9 op b (wpAny (model Pg d.w) A (eval e2 d.env) (aO d g (PV K m) s) E s₁) (aO d g (PV K m) s v s₁)) E s₁) (wpAny_truthy_bool (k.2.mono (fun h=>(h.run m hm).xU e₁ N₁) fun h=>⟨g₁,m,l₁,e₁,N₁.a,_,rfl,.v _,h⟩))
 induction op with
 | And=>exact BoolOp_and (wpAny_mono main (fun v s₁ k=>wpAny_mono k (fun b s₁ k=>by cases b;exact k.f rfl;exact k.t rfl) fun O O x=>x) fun O O x=>x)
 | Or=>exact BoolOp_or (wpAny_mono main (fun v s₁ k=>wpAny_mono k (fun b s₁ k=>by cases b;exact k.f rfl;exact k.t rfl) fun O O x=>x) fun O O x=>x)
end
section
variable {d:Dy}{r:Nat}{l:Led}{K:CV→Led→Prop}
theorem Cl.oZ{f T:Addr}{D:Stmt}{q mo:String}{t:Tok}{c:Addr}{cs es:List CV}{o:Obj}{items:Array Value}{m:Nat}(fi:Fi)(ps:List Str)(ds:List Value)
  (ho:(K39 d.w.params).lookup f=some (fo D q (.ref T) mo t c)) (hcd:codeIn (K39 d.w.params) (.ref c) (Str.ofString q)=true) (hT:(K39 d.w.params).lookup T=some o) (hs:o.data=.seq items m) (hds:ar es ds) (hok:kV D fi ps=true)
  (hb:g6 cs.length fun vs=>∃ k,bindArgs (fdOf D q (.ref T) mo t c) ⟨vs,[]⟩=seqItems? (.ref T) >>= k∧k (some items)=pure (ps.zip (vs++ds)))
  (h:∀ (d':Dy) (P:Option CV→Sl→Led→Prop),Sub d d' (fdOf D q (.ref T) mo t c) f→(∀ o σ l l',K (o.getD (.v .none)) l→l.le l'→P o σ l') →
   ak (vals ps (cs++es)) fi.cn (fun as l=>Ev d' fi as→go (fi:=fi) (r:=r) ⟨d',as,P,fun O O=>False⟩ 400 (.s (.f D) 0 .nil) (Sl.fC (vals ps (cs++es)) fi.ns) l) l) :
  Cl d (r+1) (.ref f) cs K l :=
 (Cc.qI fi ps 400 ho hcd hok (fun s vs X hv=>by
  obtain (⟨k,h1,h2⟩):=g6.on (P:=fun vs=>∃ k,bindArgs (fdOf D q (.ref T) mo t c) ⟨vs,[]⟩=seqItems? (.ref T) >>= k∧k (some items)=pure (ps.zip (vs++ds))) (by rw [hv.len];exact hb)
  exact ⟨vs++ds,hv.append hds,binds_K X rfl hT hs h1 h2⟩) h).cl
end
end
section
theorem ar.rev{cs:List CV}{vs:List Value}(h:ar cs vs):ar cs.reverse vs.reverse:=by
 induction h with
 | nil=>exact .nil
 | cons h t ih=>rw [List.reverse_cons,List.reverse_cons];exact ih.append (.cons h .nil)
theorem ar.drop{cs:List CV}{vs:List Value}(h:ar cs vs):∀ n,ar (cs.drop n) (vs.drop n):=by
 induction h with
 | nil=>intro n;rw [List.drop_nil,List.drop_nil];exact .nil
 | cons h t ih=>intro n;induction n with | zero=>exact .cons h t | succ n=>exact ih n
theorem ar.ints{ns:List Int}{vs:List Value}(h:ar (ns.map .int) vs):IntsAre vs ns:=by
 induction ns generalizing vs with
 | nil=>cases h;exact .nil
 | cons n r ih=>cases h with | cons h t=>cases h;exact .cons _ _ (ih t)
theorem ar.strs{ns:List Str}{vs:List Value}(h:ar (ns.map .str) vs):StrsAre vs ns:=by
 induction ns generalizing vs with
 | nil=>cases h;exact .nil
 | cons n r ih=>cases h with | cons h t=>cases h;exact .cons _ _ (ih t)
theorem sT{vs:List Value}{ns:List Int}(h:IntsAre vs ns):kf_ints vs=true:=by
 induction h with
 | nil=>rfl
 | cons n t h ih=>exact ih
noncomputable abbrev aq(ks:List Nat):List CV:=ks.map fun (n:Nat)=>.int (n:Int)
theorem ar.nats{ns:List Nat}{vs:List Value}(h:ar (aq ns) vs):IntsAre vs (ns.map fun (n:Nat)=>(n:Int)):=ar.ints (by rw [List.map_map];exact h)
theorem vT{c:Nat}{ns:List Nat}:∀ {ws:List Value},ar (aq ns) ws→c∈ns→kf_at (c:Int) ws=some (ns.idxOf c):=by
 induction ns with
 | nil=>intro ws _ hc;exact nomatch hc
 | cons x r ih =>
  intro ws h hc
  cases h with | cons h1 h =>
  cases h1
  unfold kf_at
  rw [List.idxOf_cons]
  show cond ((x:Int)==(c:Int)) _ _=_
  by_cases e:x=c
  ·subst e;rw [BEq.rfl,BEq.rfl];rfl
  ·rw [show ((x:Int)==(c:Int))=false from beq_eq_false_iff_ne.mpr fun q=>e (Int.ofNat.inj q),show (x==c)=false by simpa using e,ih h ((List.mem_cons.mp hc).resolve_left fun q=>e q.symm)];rfl
section
variable {d:Dy}{r:Nat}{l:Led}{K:CV→Led→Prop}{a b:Addr}{cs ds:List CV}{c:CV}
theorem HL.at(h:HL l a cs):∃ vs n,l a=some (listOf (List.toArray vs) n)∧ar cs vs:=by
 obtain ⟨o,e,vs,n,rfl,hv⟩:=h;exact ⟨vs,n,e,hv⟩
theorem HT.at(h:HT l a cs):∃ vs,l a=some (fG vs)∧ar cs vs:=by
 obtain (⟨o,e,vs,rfl,hv⟩):=h;exact ⟨vs,e,hv⟩
theorem bG.lst{name:Str}{C:Value→List CV→Prop}(id:String)(hm:HL l a cs)(slot:Slot "list" name id)(ty:typeOf (.builtin id)=pure (.type "method_descriptor"))(k:C (.builtin id) [.v (.ref a)]):bG d r (.v (.ref a)) name l C:=by
 obtain ⟨vs,n,e,_⟩:=hm.at
 exact .mk _ [.v (.ref a)] (fun l'=>CW.of rfl l') (fun v pl m hv=>by cases hv;exact .quiet fun A E g s Q N kk=>getMethod_builtin ⟨_,N.a.get e,rfl⟩ PySem.F.plainAttrs_list slot ty (fun O q=>by cases q;exact ⟨_,N.a.get e,rfl⟩) (kk _ s.toks ⟨rfl,rfl,rfl,.cons (.v _) .nil⟩)) k
theorem LN.append(hm:HL l a cs)(hz:cs.length≤1000)(k:∀ l',Up l a (ai (cs++[c])) l'→K (.v .none) l'):LN d r (fun vs=>call (.builtin "list.append") vs) [.v (.ref a),c] K l :=
 .turns hm (fun A E g s m mo Q vs o rest hv n F N off p kk=>by
  refine ar.dg hv fun v w i1 i2=>?_
  cases i1
  obtain (⟨us,q,rfl,hu⟩):=p
  refine append_head F N off (fun h' F' N'=>kk h' s.toks _ _ _ F' N' ⟨us++[w],q+1,by show W.listOf _ _=_;rw [List.push_toArray],hu.append (.cons i2 .nil)⟩ (.v _) k) ?_
  rw [List.size_toArray,hu.len,PySem.sizeLine_eq];omega)
theorem LN.extend(hm:HL l a cs)(hb:HL l b ds)(hab:b≠a)(hz:cs.length+ds.length≤1000)(k:∀ l',Up l a (ai (cs++ds)) l'→K (.v .none) l'):LN d r (fun vs=>call (.builtin "list.extend") vs) [.v (.ref a),.v (.ref b)] K l:=by
 obtain ⟨ws,q2,eb,hw⟩:=hb.at
 refine .mk fun vs m hv=>⟨fun A E g s n=>?_⟩
 refine ar.dg hv fun v w i1 i2=>?_
 cases i1;cases i2
 obtain ⟨us,q,e,hu⟩:=hm.at
 obtain ⟨mo,news,F,N,_,_,_,ch⟩:=n.a.led
 obtain ⟨rest,N1,off,oth,k1⟩:=ch a _ e
 have z1:(us.toArray).size=cs.length:=by rw [List.size_toArray,hu.len]
 have z2:(ws.toArray).size=ds.length:=by rw [List.size_toArray,hw.len]
 have hd:¬(!(us.toArray).isEmpty&&Builtin.List.listTooLong ((us.toArray).size+(ws.toArray).size))=true:=extend_door (by rw [z1,z2,PySem.sizeLine_eq];omega)
 by_cases hn:ws=[]
 ·subst hn
  refine kxn_extend F N1 (.tail _ (oth b _ eb hab)) rfl (.head off) hd (by show us.length≤_;rw [hu.len,PySem.sizeLine_eq];omega) (by rw [z1,z2,PySem.sizeLine_eq];omega) fun h' F' N'=>⟨g,m,_,.of (t:=s.toks),k1 h' _ F' N',_,rfl,.v _,k _ (.set ⟨us,q,rfl,?_⟩)⟩
  cases hw;rw [List.append_nil];exact hu
 ·exact kl_extend F N1 (.tail _ (oth b _ eb hab)) (l:=us++ws) rfl (fun q=>hn (List.eq_nil_of_length_eq_zero q)) (.head off) hd (by show us.length≤_;rw [hu.len,PySem.sizeLine_eq];omega) (by rw [z1,z2,PySem.sizeLine_eq];omega) fun h' F' N'=>⟨g,m,_,.of (t:=s.toks),k1 h' _ F' N',_,rfl,.v _,k _ (.set ⟨us++ws,q+1,rfl,hu.append hw⟩)⟩
theorem LN.pop(hm:HL l a (cs++[c]))(hz:cs.length≤1000)(k:∀ l',Up l a (ai cs) l'→K c l'):LN d r (fun vs=>call (.builtin "list.pop") vs) [.v (.ref a)] K l :=
 .turns hm (fun A E g s m mo Q vs o rest hv n F N off p kk=>by
  refine ar.eX hv fun v i1=>?_
  cases i1
  obtain (⟨us,q,rfl,hu⟩):=p
  obtain (⟨p,w,rfl,hp,hw⟩):∃ p w,us=p++[w]∧ar cs p∧CV.Is c w:=by
   have h1:=hu.rev
   rw [List.reverse_append] at h1
   generalize hr:us.reverse=ur at h1
   cases h1 with | cons h1 h2 =>
   refine ⟨_,_,?_,by simpa using h2.rev,h1⟩
   rw [← List.reverse_reverse us,hr,List.reverse_cons]
  refine kl_pop F N (p:=p) (y:=w) (by simpa using kpa_last w p) (.head off) ?_ fun h' F' N'=>kk h' s.toks _ _ _ F' N' ⟨p,_,rfl,hp⟩ hw k
  show (p++[w]).length≤_
  rw [hu.len,List.length_append,PySem.sizeLine_eq];simp;omega)
theorem LN.d7(hm:HL l a cs)(hb:HL l b [])(h:K (.v (.bool (decide (cs.length≠0)))) l):LN d r (br .NotEq) [.v (.ref a),.v (.ref b)] K l :=
 .q2 fun A E g s Q v w m i1 i2 n kk=>by
  cases i1;cases i2
  obtain ⟨us,q,e,hu⟩:=hm.at
  obtain ⟨ws,q2,e2,hw⟩:=hb.at
  cases hw
  have hu1:A.units < cLine:=by have:=n.R.pB;rw [cLine_is];omega
  have hl':s.heap.IsList a us.toArray:=⟨_,n.a.get e,rfl,_,rfl⟩
  have hb':s.heap.IsList b #[]:=⟨_,n.a.get e2,rfl,_,rfl⟩
  have fin:Q (.bool (decide (us.length≠0))) s:=kk _ _ s.toks (.v _) (by rw [hu.len];exact h)
  induction us with
  | nil=>exact EqBoolInt.of_rcne (SeqAt.RcNeAt.lists (e:=fun O=>true) hl' hb' rfl hu1 (fun j h1 h2=>absurd h1 (Nat.not_lt_zero _))) fin
  | cons y r=>exact EqBoolInt.of_rcne (SeqAt.RcNeAt.lists_lengths hl' hb' (by simp) hu1) fin
theorem LN.vb(hm:HL l a cs)(hb:HL l b ds)(hz:cs.length+ds.length≤1000)(k:∀ D l',Mk l D (ai (cs++ds)) l'→K (.v (.ref D)) l'):LN d r (fY .Add) [.v (.ref a),.v (.ref b)] K l:=by
 obtain ⟨us,q,e,hu⟩:=hm.at
 obtain ⟨ws,q2,e2,hw⟩:=hb.at
 refine .makes (fun A E g s m mo Q vs news hv n F N get kk=>?_) k
 refine ar.dg hv fun v w i1 i2=>?_
 cases i1;cases i2
 exact kmk_add_lit F N ⟨_,get _ _ e,rfl,_,rfl⟩ ⟨_,get _ _ e2,rfl,_,rfl⟩ (zs:=us++ws) rfl (fun D h' F' N' lt=>kk h' s.toks D _ F' N' (fun p hp=>Nat.ne_of_lt (lt p hp)) ⟨_,_,rfl,hu.append hw⟩) (by show us.length+ws.length≤_;rw [hu.len,hw.len,PySem.sizeLine_eq];omega)
theorem LN.xI(hm:HT l a cs)(hb:HT l b ds)(h1:cs≠[])(h2:ds≠[])(hz:cs.length+ds.length≤10000)(k:∀ D l',Mk l D (bJ (cs++ds)) l'→K (.v (.ref D)) l'):LN d r (fY .Add) [.v (.ref a),.v (.ref b)] K l:=by
 obtain ⟨us,e,hu⟩:=hm.at
 obtain ⟨ws,e2,hw⟩:=hb.at
 refine .makes (fun A E g s m mo Q vs news hv n F N get kk=>?_) k
 refine ar.dg hv fun v w i1 i2=>?_
 cases i1;cases i2
 exact kde_addT F N ⟨_,get _ _ e,rfl,_,rfl⟩ ⟨_,get _ _ e2,rfl,_,rfl⟩ (by show us≠[];rintro rfl;cases hu;exact h1 rfl) (by show ws≠[];rintro rfl;cases hw;exact h2 rfl) (by show us.length+ws.length≤_;rw [hu.len,hw.len];omega) (zs:=us++ws) rfl fun D h' F' N' lt=>kk h' s.toks D _ F' N' (fun p hp=>Nat.ne_of_lt (lt p hp)) ⟨_,rfl,hu.append hw⟩
theorem LN.mc{ns:List Nat}{k:Nat}(hm:HL l a (aq ns))(hz:ns.length≤1000)(hk:k∈ns)(h:K (.int (ns.idxOf k:Nat)) l):LN d r (fun vs=>call (.builtin "list.index") vs) [.v (.ref a),.int (k:Int)] K l :=
 .q2 fun A E g s Q v w m i1 i2 n kk=>by
  cases i1;cases i2
  obtain ⟨us,q,e,hu⟩:=hm.at
  obtain ⟨mo,news,F,N,mem,_⟩:=n.a.led
  exact kf_index N (mem a _ e) (sT hu.nats) (vT hu hk) rfl (by show us.length≤_;rw [hu.len,List.length_map,PySem.sizeLine_eq];omega) (kk _ _ _ (.int _ _) h)
theorem LN.uC{ns:List Int}{k:Int}(hm:HL l a (ns.map .int))(h:K (.v (.bool (!(ns.any (·==k))))) l):LN d r (br .NotIn) [.int k,.v (.ref a)] K l :=
 .q2 fun A E g s Q v w m i1 i2 n kk=>by
  cases i1;cases i2
  obtain ⟨us,q,e,hu⟩:=hm.at
  exact notin_list_ints ⟨_,n.a.get e,rfl,_,rfl⟩ hu.ints (kk _ _ s.toks (.v _) h)
theorem LN.zb{ns:List Int}{k:Int}(hm:HL l a (ns.map .int))(h:K (.v (.bool (ns.any (·==k)))) l):LN d r (br .In) [.int k,.v (.ref a)] K l :=
 .q2 fun A E g s Q v w m i1 i2 n kk=>by
  cases i1;cases i2
  obtain ⟨us,q,e,hu⟩:=hm.at
  exact in_list_ints ⟨_,n.a.get e,rfl,_,rfl⟩ hu.ints (kk _ _ s.toks (.v _) h)
theorem LN.yZ{ys:List Str}{x:Str}(hm:HL l a (ys.map .str))(h:K (.v (.bool (ys.any (·==x)))) l):LN d r (br .In) [.str x,.v (.ref a)] K l :=
 .q2 fun A E g s Q v w m i1 i2 n kk=>by
  cases i1;cases i2
  obtain ⟨us,q,e,hu⟩:=hm.at
  exact in_list_strs ⟨_,n.a.get e,rfl,_,rfl⟩ hu.strs (kk _ _ s.toks (.v _) h)
theorem LN.uA{ys:List Str}{x:Str}(hm:HT l a (ys.map .str))(h:K (.v (.bool (!(ys.any (·==x))))) l):LN d r (br .NotIn) [.str x,.v (.ref a)] K l :=
 .q2 fun A E g s Q v w m i1 i2 n kk=>by
  cases i1;cases i2
  obtain (⟨us,e,hu⟩):=hm.at
  exact notin_tuple_strs ⟨_,n.a.get e,rfl,_,rfl⟩ hu.strs (kk _ _ s.toks (.v _) h)
theorem LN.vU{ys:List Str}{x:Str}(hm:HL l a (ys.map .str))(hz:(ys.map (·.length)).sum+ys.length * x.length≤16777216)(h:K (.str (Txt.join x ys)) l):LN d r (fun vs=>call (.builtin "str.join") vs) [.str x,.v (.ref a)] K l :=
 .q2 fun A E g s Q v w m i1 i2 n kk=>by
  cases i1;cases i2
  obtain ⟨us,q,e,hu⟩:=hm.at
  exact join_list ⟨_,n.a.get e,rfl,_,rfl⟩ hu.strs hz fun t' k=>kk _ _ k (.str _ _) h
theorem LN.isNotNone(h:K (.v (.bool true)) l){i:Int}:LN d r (br .IsNot) [.int i,.v .none] K l :=
 .q2 fun A E g s Q v w m i1 i2 n kk=>by cases i1;cases i2;exact isnot_int_none (kk _ _ s.toks (.v _) h)
theorem LN.dK(h:K (.v (.bool false)) l):LN d r (br .IsNot) [.v .none,.v .none] K l :=
 .q2 fun A E g s Q v w m i1 i2 n kk=>by cases i1;cases i2;exact isnot_none_none (kk _ _ s.toks (.v _) h)
theorem bX.makes{o i:Ex}{c1 c2 c3:CV}{P:Obj→Prop}(hs:isSlice i=true)
  (h:∀ A E g (s:Shared) (m mo:Mp) (Q:Value→Shared→Prop) u v w news,CV.Is c1 u→CV.Is c2 v→CV.Is c3 w→bx d r A E g s m l→Fr g d.L s.heap mo→News g d.L s.heap news→(∀ b o,l b=some o→s.heap.get? b=some o) →
   (∀ D h' o,Fr g d.L h' mo→News g d.L h' ((D,o)::news)→(∀ p∈news,p.1 < D)→P o→Q (.ref D) {s with heap:=h'})→wpAny (model Pg d.w) A (subscriptTail (.Name "a" ⟨0,0,0,0⟩) i (.ref a) (.ref s.heap.objs.size)) Q E {s with heap:=s.heap.push {cls:=.type "slice",data:=.fields #[u,v,w]}})
  (k:∀ D l',Mk l D P l'→K (.v (.ref D)) l'):bX d r o i [.v (.ref a),c1,c2,c3] K l:=⟨fun x u v w m hv A E g s n=>by
 cases hv with | cons h1 hv=>cases hv with | cons h2 hv=>cases hv with | cons h3 hv=>cases hv with | cons h4 hv =>
 cases h1
 obtain (⟨mo,news,F,N,_,_,nw,_⟩):=n.a.led
 refine kba_turn (value':=.Name "a" ⟨0,0,0,0⟩) (fun O=>rfl) (h A E g s m mo _ u v w news h2 h3 h4 n F N (fun O O e=>n.a.get e) fun D h' o F' N' lt p=>?_)
 obtain (⟨f,a'⟩):=nw h' D o F' N' fun p hp=>Nat.ne_of_lt (lt p hp)
 exact ⟨g,m,_,.of (t:=s.toks),a',_,rfl,.v _,k _ _ (.set f p)⟩⟩
theorem bX.rev{o i:Ex}(hm:HL l a cs)(hz:cs.length≤1000)(k:∀ D l',Mk l D (ai cs.reverse) l'→K (.v (.ref D)) l')(hs:isSlice i=true:=by rfl):bX d r o i [.v (.ref a),.v .none,.v .none,.int (-1)] K l:=by
 obtain ⟨us,q,e,hu⟩:=hm.at
 refine .makes hs (fun A E g s m mo Q u v w news h1 h2 h3 n F N get kk=>?_) k
 cases h1;cases h2;cases h3
 have hop:∃ ops,subscripted i false (.ref a) (.ref s.heap.objs.size)=operate ops (getItem (.ref a) (.ref s.heap.objs.size)):=by
  revert hs
  cases i with
  | Slice _ _ st _=>cases st<;>exact fun O=>⟨_,rfl⟩
  | _=>exact ff
 obtain ⟨ops,hop⟩:=hop
 exact krv_lit F N ⟨_,get _ _ e,rfl,_,rfl⟩ (.int _ _) (zs:=us.reverse) rfl (fun D h' F' N' lt=>kk D h' _ F' N' lt ⟨_,_,rfl,hu.rev⟩) hop (fun O=>rfl) (by rw [List.size_toArray,hu.len,PySem.sizeLine_eq];omega)
theorem bX.from{o i:Ex}(n:Nat)(hm:HL l a cs)(hn:n≤cs.length)(hz:cs.length≤1000)(k:∀ D l',Mk l D (ai (cs.drop n)) l'→K (.v (.ref D)) l')(hs:oO i=true:=by rfl):bX d r o i [.v (.ref a),.int (n:Int),.v .none,.v .none] K l:=by
 obtain ⟨us,q,e,hu⟩:=hm.at
 refine .makes (gJ hs) (fun A E g s m mo Q u v w news h1 h2 h3 nn F N get kk=>?_) k
 cases h1;cases h2;cases h3
 refine kmk_slice_lit F N ⟨_,get _ _ e,rfl,_,rfl⟩ (.int _ _) .none (zs:=us.drop n) ?_ (fun D h' F' N' lt=>kk D h' _ F' N' lt ⟨_,_,rfl,hu.drop n⟩) (eN hs _ _) (fun O=>rfl) (by rw [List.size_toArray,hu.len,PySem.sizeLine_eq];omega)
 rw [slicePick_from _ _ (by rw [List.size_toArray,hu.len];exact hn)]
theorem bX.last{o i:Ex}(hm:HL l a cs)(hz:cs.length≤1000)(k:∀ D l',Mk l D (ai (cs.drop (cs.length - 1))) l'→K (.v (.ref D)) l')(hs:oO i=true:=by rfl):bX d r o i [.v (.ref a),.int (-1),.v .none,.v .none] K l:=by
 obtain ⟨us,q,e,hu⟩:=hm.at
 refine .makes (gJ hs) (fun A E g s m mo Q u v w news h1 h2 h3 nn F N get kk=>?_) k
 cases h1;cases h2;cases h3
 refine kmk_slice_lit F N ⟨_,get _ _ e,rfl,_,rfl⟩ (.int _ _) .none (zs:=us.drop (us.length - 1)) ?_ (fun D h' F' N' lt=>kk D h' _ F' N' lt ⟨_,_,rfl,by rw [hu.len];exact hu.drop _⟩) (eN hs _ _) (fun O=>rfl) (by rw [List.size_toArray,hu.len,PySem.sizeLine_eq];omega)
 have e:sliceBounds (some (-1)) none none us.toArray.size=(((us.toArray.size - 1:Nat):Int),((us.toArray.size:Nat):Int),1):=by
  simp only [sliceBounds,Option.getD_none,show (1:Int) > 0 by decide,if_true,if_pos (show (-1:Int) < 0 by decide)]
  congr 1
  omega
 rw [kmk_pick_nat _ e]
 show (us.drop (us.length - 1)).take (us.length - (us.length - 1))=_
 exact List.take_of_length_le (by rw [List.length_drop];omega)
end
end
section
noncomputable def pD:CV→Bool
 | .v (.int ..)=>false
 | .v (.str ..)=>false
 | _=>true
theorem bF.mk{c:CV}{P:Value→Prop}(h:∀ v,CV.Is c v→P v):bF c P:=by
 induction c with
 | int i=>exact fun t=>h _ (.int i t)
 | str i=>exact fun t=>h _ (.str i t)
 | v v=>exact h _ (.v v)
theorem ak.le{val:Str→Option CV}:∀ {ns:List Str} {K:List Addr→Led→Prop} {l:Led},ak val ns K l→ak val ns (fun cs l'=>l.le l'∧K cs l') l
 | [],_,_,h=>⟨.rfl,h⟩
 | _::_,_,_,h=>fun a l' n=>(ak.le (h a l' n)).mono fun cs l h=>⟨n.le.trans h.1,h.2⟩
theorem sZ{c:CV}{v:Value}(h:CV.Is c v)(hh:pD c=true):CV.of v=c:=by
 induction h with
 | v v=>cases v<;>first | rfl | cases hh
 | _=>rfl
theorem ar.uK{cs:List CV}{vs:List Value}(h:ar cs vs)(hh:cs.all pD=true){k:Nat}{v:Value}(e:vs[k]?=some v):∃ c,cs[k]?=some c∧CV.of v=c:=by
 induction h generalizing k with
 | nil=>cases e
 | cons h1 h ih =>
  rw [List.all_cons,Bool.and_eq_true] at hh
  induction k with
  | zero=>cases e;exact ⟨_,rfl,sZ h1 hh.1⟩
  | succ k=>exact ih hh.2 e
theorem fh(ks:List Nat):(aq ks).all pD=true:=by
 rw [List.all_map];exact List.all_eq_true.mpr fun O O=>rfl
structure LL(l:Led)(xs:List CV)(x:Addr × List Value × Nat):Prop where
 e:l x.1=some (listOf x.2.1.toArray x.2.2)
 u:ar xs x.2.1
theorem LL.at{l:Led}{xs:List CV}{x:Addr × List Value × Nat}{i:Nat}{c:CV}{P:Prop}(h:LL l xs x)(hh:xs.all pD=true)(hV:∃ v,x.2.1.toArray[i]?=some v∧c=CV.of v)(k:xs[i]?=some c→P):P :=
 hV.elim fun v hv=>(h.u.uK hh (by simpa using hv.1)).elim fun c' hc=>k (hv.2▸hc.2▸hc.1)
noncomputable abbrev SrcL(d:Dy)(ns:List Str)(xs:List CV)(J0:Addr→List Addr→Led→Prop):CV→Led→Prop :=
 lj d ns (α:=Addr × List Value × Nat) (fun O=>xs.length) (fun x i c=>∃ v,x.2.1.toArray[i]?=some v∧c=CV.of v) (fun x O l=>l x.1=some (listOf x.2.1.toArray x.2.2)) (fun x i o=>o.cls=.type "list_iterator"∧o.data=.fields #[.ref x.1,.int i 0]) fun x cs l=>LL l xs x∧J0 x.1 cs l
theorem SrcL.fC{d:Dy}{ns:List Str}{xs:List CV}{J0:Addr→List Addr→Led→Prop}{a:Addr}{l:Led}(h:HL l a xs)(j:ak (fun O=>none) ns (fun as l=>J0 a as l) l):SrcL d ns xs J0 (.v (.ref a)) l:=by
 obtain ⟨us,q,e,hu⟩:=HL.at h
 have src:=bQ.list (d:=d) e (fun O l=>l a=some (listOf us.toArray q)) fun O O h=>h
 rw [List.size_toArray,hu.len] at src
 exact .mk (a,us,q) src (j.le.mono fun as l j=>⟨⟨j.1 _ _ e,hu⟩,j.2⟩)
section
variable {fi:Fi}{r:Nat}{d:Dy}{cs:List Addr}{b:Bk}{i:Nat}{σ:Sl}{l:Led}
theorem LS.forL{K:Option CV→Sl→Led→Prop}(xs:List CV)(J:Addr→Nat→Sl→Led→Prop)(ev:Ev d fi cs)(hm:d.may)(hfe:d.ay=d.env)(hst:fE (cC b i)=true)(hh:xs.all pD=true)
  (h:∀ P',(∀ a σ' l',Sl.Le σ' σ→HL l' a xs→J a 0 σ' l'→P' (some (.v (.ref a))) σ l')→go (fi:=fi) (r:=r) ⟨d,cs,P',fun O O=>False⟩ 99 (.e (.v b i) .ret) σ l)
  (turn:∀ (d1:Dy) (P1:Option CV→Sl→Led→Prop) a k c o σ l,SubL d d1→xs[k]?=some c→l a=some o→ai xs o→J a k σ l→(∀ σ' σ l',Sl.Le σ' σ→l' a=some o→J a (k+1) σ' l'→P1 none σ l')→(∀ c σ l,K (some c) σ l→P1 (some c) σ l) →
   eu fi cs c (go (fi:=fi) (r:=r) ⟨d1,cs,P1,fun O O=>False⟩ 99 (.s (.t b i) 0 .nil)) σ l (Pe.g b i).at)
  (fin:∀ a σ l,HL l a xs→J a xs.length σ l→K none σ l):LS d r fi (exec (cC b i) d.env) K σ l:=by
 refine LS.uT 99 (α:=Addr × List Value × Nat) (V:=fun x i c=>∃ v,x.2.1.toArray[i]?=some v∧c=CV.of v) (S:=fun x O l=>l x.1=some (listOf x.2.1.toArray x.2.2)) (It:=fun x i o=>o.cls=.type "list_iterator"∧o.data=.fields #[.ref x.1,.int i 0]) (fun x k σ l=>LL l xs x∧J x.1 k σ l) (fun O=>xs.length) ev hm hfe hst (fun P' hP'=>h P' fun a σ' l' le hl j=>?_) (fun x k σ l j=>j.1.1) (fun d1 P1 x k c σ l s hk hv j next ret=>j.1.at hh hv fun hc=>turn d1 P1 x.1 k c _ σ l s hc j.1.1 ⟨_,_,rfl,j.1.2⟩ j.2 (fun σ' σ l' le e j'=>next σ' σ l' le ⟨⟨e,j.1.2⟩,j'⟩) ret) fun x σ l j=>fin x.1 σ l ⟨_,j.1.1,_,_,rfl,j.1.2⟩ j.2
 cases (SrcL.fC (d:=d) (ns:=[]) (J0:=fun a O l=>J a 0 σ' l) hl j) with
 | mk x s j=>exact hP' x _ σ' l' le s j
variable {fi2:Fi}{p:Pe}{K:CV→Led→Prop}
theorem LE.dA{cl:List (Str × Addr)}(k:Nat)(xs:List CV)(J:Addr→List Addr→Nat→List CV→Led→Prop)(ev:Ev d fi cs)(hok:jJ fi2 k p.at=true)(hk:k < 2)(hcl:fm fi cs fi2.fr=some cl)(hh:xs.all pD=true)(hz:xs.length≤1000)
  (h:∀ P',(∀ a l',HL l' a xs→ak (fun O=>none) fi2.cn (fun as l=>J a as 0 [] l) l'→P' (some (.v (.ref a))) σ l')→Mine.go (fi:=fi) (r:=r) ⟨d,cs,P',fun O O=>False⟩ 99 (.e (p.c 0) .ret) σ l)
  (turn:∀ (d2:Dy) a as P2 Q2 i c ys o l,pj d d2 fi2 (as++cl.map (·.2))→xs[i]?=some c→l a=some o→ai xs o→J a as i ys l→ys.length≤i→(∀ c σ l',l' a=some o→J a as (i+1) (ys++[c]) l'→P2 (some c) σ l')→(∀ σ l',l' a=some o→J a as (i+1) ys l'→Q2 σ l') →
   eu fi2 (as++cl.map (·.2)) c (Mine.go (fi:=fi2) (r:=r) ⟨d2,as++cl.map (·.2),P2,Q2⟩ 99 (pX p k)) .nil l (p.c 2).at)
  (fin:∀ a as D ys l l',J a as xs.length ys l→ys.length≤xs.length→Mk l D (ai ys) l'→K (.v (.ref D)) l'):LE d r fi (eval p.at d.env) K σ l:=by
 refine LE.d8 (α:=Addr × List Value × Nat) (V:=fun x i c=>∃ v,x.2.1.toArray[i]?=some v∧c=CV.of v) (S:=fun x O l=>l x.1=some (listOf x.2.1.toArray x.2.2)) (It:=fun x i o=>o.cls=.type "list_iterator"∧o.data=.fields #[.ref x.1,.int i 0]) k xs.length (fun x as i ys l=>LL l xs x∧∃ cs,ar cs ys∧J x.1 as i cs l) ev hok hk (Nat.le_trans hz (aj rfl)) hcl (fun P' hP'=>h P' fun a l' hl j=>?_) (fun x as i ys l j=>j.1.1) (fun x i l l' e le=>le _ _ e) (fun d2 x as P2 Q2 i c ys l hw hi hv j hy next skip=>j.1.at hh hv fun hc=>j.2.elim fun cs' j2=>?_) fun x as D ys l l' j hy nw=>j.2.elim fun cs' j2=>fin x.1 as D cs' l l' j2.2 (j2.1.len▸hy) ⟨nw.fresh,nw.other,_,nw.hit,_,_,rfl,j2.1⟩
 ·cases (SrcL.fC (d:=d) (J0:=fun a cs l=>J a cs 0 [] l) hl j) with
  | mk x s j=>exact hP' x _ l' s (j.mono fun as l j=>⟨j.1,[],.nil,j.2⟩)
 ·exact turn d2 x.1 as P2 Q2 i c cs' _ l hw hc j.1.1 ⟨_,_,rfl,j.1.2⟩ j2.2 (j2.1.len▸hy) (fun c σ l' e j'=>next c σ l' (.mk fun v is=>⟨⟨e,j.1.2⟩,_,j2.1.append (.cons is .nil),j'⟩)) fun σ l' e j'=>skip σ l' ⟨⟨e,j.1.2⟩,cs',j2.1,j'⟩
end
end
section
noncomputable def pI{w:World}{Kt:Type}[DecidableEq Kt](knd:KeyKind Pg w Kt)(kvs:List (Kt × Value))(o:Obj):Prop:=o.IsDictOf knd kvs
section
variable {d:Dy}{r:Nat}{l:Led}{K:CV→Led→Prop}{a:Addr}{Kt:Type}[DecidableEq Kt]{knd:KeyKind Pg d.w Kt}{kvs:List (Kt × Value)}{o:Obj}{c:CV}{k:Kt}
theorem LN.cp{e i:Ex}{x:Value}(hm:Hs l a (pI knd kvs))(hk:bF c fun v=>knd.is k v=true)(hl:valueAt kvs k=some x)(h:K (CV.of x) l)(hi:isSlice i=false:=by rfl):LN d r (fH e i) [.v (.ref a),c] K l:=by
 obtain (⟨o,e1,hD⟩):=hm
 exact .q2 fun A E g s Q v w m i1 i2 n kk=>by
  cases i1
  have hd:s.heap.DictOf knd a kvs:=Heap.dictOf_iff.mpr ⟨o,n.a.get e1,hD⟩
  exact tail_any hd.typeIs slot_dict_getitem.lookup (wpAny_getItem_of (hk.on i2) hd.mapOf hl (kk _ _ _ (CV.dM x) h)) (gb hi _ _)
theorem LN.jI(hm:Hs l a (pI knd kvs))(lo:(a==sysModules)=false)(hk:bF c fun v=>knd.is k v=true)(h:K (.v (.bool (!(valueAt kvs k).isSome))) l):LN d r (br .NotIn) [c,.v (.ref a)] K l:=by
 obtain (⟨o,e1,hD⟩):=hm
 exact .q2 fun A E g s Q v w m i1 i2 n kk=>by
  cases i2
  exact wpAny_notIn_of (hk.on i1) lo (Heap.dictOf_iff.mpr ⟨o,n.a.get e1,hD⟩:s.heap.DictOf knd a kvs).mapOf (kk _ _ _ (.v _) h)
theorem bG.dict{name:Str}{C:Value→List CV→Prop}(id:String)(hm:Hs l a (pI knd kvs))(slot:Slot "dict" name id)(ty:typeOf (.builtin id)=pure (.type "method_descriptor"))(k:C (.builtin id) [.v (.ref a)]):bG d r (.v (.ref a)) name l C:=by
 obtain (⟨o,e,hD⟩):=hm
 exact .mk _ [.v (.ref a)] (fun l'=>CW.of rfl l') (fun v pl m hv=>by
  cases hv
  exact .quiet fun A E g s Q N kk=>by
   have hd:s.heap.DictOf knd a kvs:=Heap.dictOf_iff.mpr ⟨o,N.a.get e,hD⟩
   exact getMethod_builtin hd.typeIs PySem.F.plainAttrs_dict slot ty hd.mapOf.noDict (kk _ s.toks ⟨rfl,rfl,rfl,.cons (.v _) .nil⟩)) k
theorem LN.xF{c2:CV}(hm:Hs l a (pI knd kvs))(lo:(a==sysModules)=false)(hk:bF c fun v=>knd.is k v=true)(h:K (match valueAt kvs k with | some x=>CV.of x | none=>c2) l):LN d r (fun vs=>call (.builtin "dict.get") vs) [.v (.ref a),c,c2] K l:=by
 obtain (⟨o,e1,hD⟩):=hm
 refine ⟨fun vs m hv=>?_⟩
 refine ar.fU hv fun u v w i1 i2 i3=>?_
 cases i1
 refine .quiet fun A E g s Q n kk=>?_
 obtain (⟨mo,news,F,N,mem,_⟩):=n.a.led
 refine kdg_get2 N (mem _ _ e1) hD lo (hk.on i2) _ rfl (kk _ _ ?_)
 revert h
 cases valueAt kvs k with
 | none=>exact fun h=>⟨_,rfl,i3,h⟩
 | some x=>exact fun h=>⟨_,rfl,CV.dM x,h⟩
theorem LU.wq{c2:CV}{K:Led→Prop}(hm:Hs l a (pI knd kvs))(hz:kvs.length≤1000)(hk:bF c fun v=>knd.is k v=true)(h:bF c2 fun x=>∀ l',Up l a (pI knd (PySem.stored kvs k x)) l'→K l'):LU d r fX [.v (.ref a),c,c2] K l:=by
 obtain (⟨o,e1,hD⟩):=hm
 refine ⟨fun vs m hv=>⟨fun A E g s n=>?_⟩⟩
 refine ar.fU hv fun u v w i1 i2 i3=>?_
 cases i1
 obtain (⟨mo,news,F,N,_,_,_,ch⟩):=n.a.led
 obtain (⟨rest,N1,off,_,k1⟩):=ch a _ e1
 have hs:kvs.length≤sizeLine:=by rw [PySem.sizeLine_eq];omega
 have hm:=N1 (a,o) (.head _)
 refine wpAny_setItem_pairs (hsz:=hs) (hk.on i2) (Heap.dictOf_iff.mpr ⟨o,hm.1,hD⟩) fun h' hmm hsb=>?_
 obtain ⟨o',ho',hd'⟩:=Heap.dictOf_iff.mp hmm
 exact ⟨g,m,_,.of (t:=s.toks+1),k1 h' o' (F.change hsb hm.2.1 hm.2.2) (N1.setHead off hsb ho'),rfl,h.on i3 _ (.set hd')⟩
theorem LN.oo{c2:CV}{b:Addr}(hm:Hs l a (pI knd kvs))(lo:(a==sysModules)=false)(hz:kvs.length≤1000)(hk:bF c fun v=>knd.is k v=true)(hl:valueAt kvs k=none)(h:∀ l',Up l a (pI knd (PySem.stored kvs k (.ref b))) l'→K (.v (.ref b)) l'):LN d r (fun vs=>call (.builtin "dict.setdefault") vs) [.v (.ref a),c,.v (.ref b)] K l:=by
 refine .turns (R:=pI knd (PySem.stored kvs k (.ref b))) hm fun A E g s m mo Q vs o rest hv n F N off p kk=>?_
 refine ar.fU hv fun u v w i1 i2 i3=>?_
 cases i1;cases i3
 have hs:kvs.length≤sizeLine:=by rw [PySem.sizeLine_eq];omega
 have hD:s.heap.DictOf knd a kvs:=Heap.dictOf_iff.mpr ⟨o,(N _ (.head _)).1,p⟩
 have hm:=N (a,o) (.head _)
 refine call_meetsIn PySem.F.slot_dict_setdefault hD.typeIs PySem.F.entry_dict_setdefault (PySem.F.args_dict_setdefault_3 _ _ _) (kt_meets_setdefault knd a (hk.on i2) lo (.ref b)) ⟨kvs,hD,hs,(fun v' hv'=>by rw [hl] at hv';cases hv'),fun O h' hmm hsb=>?_⟩
 obtain (⟨o',ho',hd'⟩):=Heap.dictOf_iff.mp hmm
 exact kk h' (s.toks+1) o' _ _ (F.change hsb hm.2.1 hm.2.2) (N.setHead off hsb ho') hd' (.v _) h
theorem LN.om{c2:CV}{x:Value}(hm:Hs l a (pI knd kvs))(lo:(a==sysModules)=false)(hz:kvs.length≤1000)(hk:bF c fun v=>knd.is k v=true)(hl:valueAt kvs k=some x)(h:K (CV.of x) l):LN d r (fun vs=>call (.builtin "dict.setdefault") vs) [.v (.ref a),c,c2] K l:=by
 obtain (⟨o,e1,hD⟩):=hm
 refine ⟨fun vs m hv=>?_⟩
 refine ar.fU hv fun u v w i1 i2 i3=>?_
 cases i1
 refine .quiet fun A E g s Q n kk=>?_
 obtain (⟨mo,news,F,N,mem,_⟩):=n.a.led
 exact kob_setdef_there N (mem _ _ e1) hD lo (hk.on i2) (PySem.F.args_dict_setdefault_3 _ _ _) hl (by rw [PySem.sizeLine_eq];omega) (kk _ _ ⟨_,rfl,CV.dM x,h⟩)
end
set_option backward.match.sparseCases false in
noncomputable def vZ:Ex→Bool
 | .Dict [] [] _=>true
 | _=>false
theorem sR{P:Ex→Prop}(h:∀ pos,P (.Dict [] [] pos)):∀ e,vZ e=true→P e:=by
 intro e
 cases e with
 | Dict ks vs pos=>cases ks<;>cases vs<;>first | exact fun O=>h pos | exact ff
 | _=>exact ff
section
variable {d:Dy}{r:Nat}{l:Led}{fi:Fi}{σ:Sl}{K:CV→Led→Prop}{Kt:Type}[DecidableEq Kt]
theorem LE.iR{p:Pe}(knd:KeyKind Pg d.w Kt)(hok:vZ p.at=true)(k:∀ a l',Mk l a (pI knd []) l'→(a==sysModules)=false→K (.v (.ref a)) l'):LE d r fi (eval p.at d.env) K σ l:=by
 refine sR (P:=fun e=>LE d r fi (eval e d.env) K σ l) (fun pos=>⟨fun m hm=>⟨fun A E g s n=>wpAny_Dict_empty ?_⟩⟩) _ hok
 obtain (⟨o,ho,hd⟩):=Heap.dictOf_iff.mp (Heap.DictOf.new (knd:=knd) s.heap)
 rw [Heap.get?_push_size _ rfl] at ho
 injection ho with ho
 have pu:=n.a.push {cls:=.type "dict",data:=.dict #[]}
 exact ⟨g,m,_,.of (t:=s.toks),pu.2,_,rfl,.v _,k _ _ (.set pu.1 (ho▸hd)) (beq_eq_false_iff_ne.mpr (Nat.ne_of_gt (modules_low n.T.nolimit)))⟩
end
end
section
noncomputable abbrev Off(d:Dy)(g:Heap)(l:Led)(I:Addr):Prop:=yC d g l I
section
variable {d:Dy}{r:Nat}{g h h':Heap}{m:Mp}{l:Led}
theorem At.off(a:At d g h m l){I:Addr}{o:Obj}(e:l I=some o):Off d g (fun b=>if b=I then none else l b) I :=
 ⟨if_pos rfl,a.apart e,(a.N I o e).2.1,(a.N I o e).2.2⟩
theorem At.moved{bs:List Addr}(a:At d g h m l)(x:∀ c o,c ∉ bs→h.get? c=some o→h'.get? c=some o)(hb:∀ b∈bs,Off d g l b):At d g h' m l:=by
 have no:∀ {c},(∀ b∈bs,c≠b)→c ∉ bs:=fun k q=>k _ q rfl
 have fr:∀ {mo},Fr g d.L h mo→Fr g d.L h' mo:=fun F=>⟨F.ns.at' fun o e=>x _ o (no fun b hm=>(hb b hm).L.symm) e,fun b o e=>x _ _ (no fun c hm q=>nomatch (q▸(hb c hm).g).symm.trans e) (F.keep b o e),F.above⟩
 exact ⟨a.B,fun b o e=>have n:=a.N b o e;⟨x _ _ (no fun c hm=>Led.ne e (hb c hm).l) n.1,n.2⟩,a.W.el (fun e F=>gr e (fr F)) fun p oc e w=>fJ e ⟨fr w.F,w.ns,x _ _ (no fun c hm=>(hb c hm).ap.c p e) w.get,w.L,w.g,w.l,w.z⟩,
  fun p hp=>have y:=a.Z p hp;⟨x _ _ (no fun c hm=>(hb c hm).ap.z p hp) y.1,y.2⟩⟩
noncomputable abbrev Dy.bE(d:Dy)(bs:List (Addr × Obj)):Dy:={d with fz:=bs++d.fz}
theorem At.vt{bs:List (Addr × Obj)}(t:At (d.bE bs) g h m l):At d g h m l∧∀ p∈bs,h.get? p.1=some p.2∧p.1≠d.L∧g.get? p.1=none∧l p.1=none :=
 ⟨⟨t.B,t.N,t.W.el (fun e F=>gr (d:=d) e F) fun p oc e w=>fJ (d:=d) e ⟨w.F,w.ns,w.get,w.L,w.g,w.l,fun r hr=>w.z r (List.mem_append_right _ hr)⟩,fun p hp=>t.Z p (List.mem_append_right _ hp)⟩,fun p hp=>t.Z p (List.mem_append_left _ hp)⟩
theorem At.xx{bs:List (Addr × Obj)}(t:At d g h m l)(e:∀ p∈bs,h.get? p.1=some p.2∧Off d g l p.1):At (d.bE bs) g h m l :=
 ⟨t.B,t.N,t.W.el (fun e F=>gr (d:=d.bE bs) e F) fun p oc q w=>fJ (d:=d.bE bs) q ⟨w.F,w.ns,w.get,w.L,w.g,w.l,fun r hr=>(List.mem_append.mp hr).elim (fun hr=>((e r hr).2.ap.c p q).symm) (w.z r)⟩,
  fun p hp=>(List.mem_append.mp hp).elim (fun hp=>have y:=e p hp;⟨y.1,y.2.L,y.2.g,y.2.l⟩) (t.Z p)⟩
theorem bx.xA{A:Around}{E:Value→Shared→Prop}{s:Shared}{bs:List (Addr × Obj)}(n:bx d r A E g s m l)(e:∀ p∈bs,s.heap.get? p.1=some p.2∧Off d g l p.1):bx (d.bE bs) r A E g s m l :=
 ⟨⟨n.G.XB,n.G.TB,n.G.fk,n.G.ff,n.G.hk,n.G.hl,n.G.hg,n.G.hb⟩,⟨n.R.hd,n.R.fr,n.R.dep,n.R.pB⟩,n.a.xx e,n.x.p,fun a s' th=>n.x.x a s' (by
  induction th with
  | own g' m c l oe a0 e hn hc hd at_ y=>exact .own g' m c l oe a0 ⟨e.T,e.e,e.st⟩ hn hc hd at_.vt.1 y
  | on g' G mo c l e B F R u x=>exact .on g' G mo c l ⟨e.T,e.e,e.st⟩ B F R u x)⟩
theorem SubL.bE{bs:List (Addr × Obj)}:SubL d (d.bE bs):=⟨rfl,fun O O h=>h,fun O O h=>h,fun h=>h,rfl,rfl,rfl,rfl,rfl,rfl⟩
structure mE(l:Led)(a b b0:Addr)(l1:Led):Prop where
 le:l.le l1
 off:∀ j,j < 5→l (b0+j)=none
 z:l1 (b0+4)=some {cls:=.type "zip",dict:=none,data:=.fields #[.none,.bool false,.bool false,.ref (b0+2),.ref (b0+3)],slots:=#[]}
 ti:l1 (b0+2)=some (fG [.ref b0,.ref (b0+1)])
 to:l1 (b0+3)=some (fG [.none,.none])
 i1:∃ o,l1 b0=some o∧o.cls=.type "list_iterator"∧o.data=.fields #[.ref a,.int 0 0]
 i2:∃ o,l1 (b0+1)=some o∧o.cls=.type "list_iterator"∧o.data=.fields #[.ref b,.int 0 0]
theorem LN.zip{K:CV→Led→Prop}{a b:Addr}{cs ds:List CV}(hm:HL l a cs)(hb:HL l b ds)(k:∀ b0 l1,mE l a b b0 l1→K (.v (.ref (b0+4))) l1):LN d r (fun vs=>call (.type "zip") vs) [.v (.ref a),.v (.ref b)] K l:=⟨fun vs m hv=>⟨fun A E g s n=>by
 refine ar.dg hv fun v w i1 i2=>?_
 cases i1;cases i2
 obtain ⟨us,q,e,hu⟩:=hm.at
 obtain ⟨ws,q2,e2,hw⟩:=hb.at
 refine call_zip_2 ⟨_,n.a.get e,rfl,_,rfl⟩ ⟨_,n.a.get e2,rfl,_,rfl⟩ fun h' hz hTI hTO hi1 hi2 hsz hk=>?_
 obtain ⟨o1,g1,p1⟩:=hi1
 obtain ⟨o2,g2,p2⟩:=hi2
 generalize hB:s.heap.objs.size=B at *
 have off:∀ j,Off d g l (B+j):=fun j=>n.a.low (by rw [hB];exact Nat.le_add_right ..)
 have a0:At d g h' m l:=n.a.moved (bs:=[]) (fun c o O e=>hk c o e) (fun O hb=>nomatch hb)
 have add:∀ {l':Led} {I o},At d g h' m l'→Off d g l I→l' I=none→h'.get? I=some o→At d g h' m (l'.set I o):=fun a f i e=>a.take i f.ap ⟨e,f.L,f.g⟩
 have ne:∀ {i j:Nat},i≠j→B+i≠B+j:=fun h q=>h (Nat.add_left_cancel q)
 have a2:=add (add a0 (off 0) (off 0).l g1) (off 1) ((if_neg (ne (by decide))).trans (off 1).l) g2
 have a3:=add a2 (off 2) ((if_neg (ne (by decide))).trans ((if_neg (ne (by decide))).trans (off 2).l)) hTI
 have a4:=add a3 (off 3) ((if_neg (ne (by decide))).trans ((if_neg (ne (by decide))).trans ((if_neg (ne (by decide))).trans (off 3).l))) hTO
 have a5:=add a4 (off 4) ((if_neg (ne (by decide))).trans ((if_neg (ne (by decide))).trans ((if_neg (ne (by decide))).trans ((if_neg (ne (by decide))).trans (off 4).l)))) hz
 refine ⟨g,m,_,.of (t:=s.toks),a5,_,rfl,.v _,k B _ ⟨fun b o e=>?_,fun j O=>(off j).l,Led.hit,?_,?_,⟨o1,?_,p1⟩,⟨o2,?_,p2⟩⟩⟩
 ·have nb:∀ j,b≠B+j:=fun j q=>Led.ne e (off j).l q
  exact (if_neg (nb 4)).trans ((if_neg (nb 3)).trans ((if_neg (nb 2)).trans ((if_neg (nb 1)).trans ((if_neg (nb 0)).trans e))))
 ·exact (if_neg (ne (i:=2) (by decide))).trans ((if_neg (ne (i:=2) (by decide))).trans Led.hit)
 ·exact (if_neg (ne (i:=3) (by decide))).trans Led.hit
 ·exact (if_neg (ne (i:=0) (by decide))).trans ((if_neg (ne (i:=0) (by decide))).trans ((if_neg (ne (i:=0) (by decide))).trans ((if_neg (ne (i:=0) (by decide))).trans Led.hit)))
 ·exact (if_neg (ne (i:=1) (by decide))).trans ((if_neg (ne (i:=1) (by decide))).trans ((if_neg (ne (i:=1) (by decide))).trans Led.hit))⟩⟩
structure ud(h:Heap)(a b B:Addr)(i:Nat):Prop where
 z:IsZip h (B+4) (B+2) (B+3) .none
 ti:IsPair h (B+2) (.ref B) (.ref (B+1))
 to:∃ x y,IsPair h (B+3) x y
 i1:h.IsListIter B a i
 i2:h.IsListIter (B+1) b i
theorem nT{a b B:Addr}(ha:∀ j,j < 5→a≠B+j)(hb:∀ j,j < 5→b≠B+j):ZipApart (B+4) (B+2) (B+3) B (B+1) a b:=by
 have ne:∀ {i j:Nat},i≠j→B+i≠B+j:=fun h q=>h (Nat.add_left_cancel q)
 exact ⟨ne (by decide),ne (by decide),ne (i:=0) (by decide),ne (by decide),ne (by decide),ne (j:=0) (by decide),ne (by decide),ne (j:=0) (by decide),ne (by decide),ne (i:=0) (by decide),ha 4 (by decide),ha 3 (by decide),ha 0 (by decide),ha 1 (by decide),hb 4 (by decide),hb 3 (by decide),hb 0 (by decide),hb 1 (by decide)⟩
inductive FZ(d:Dy)(a b B:Addr)(n:Nat)(J:Nat→Mp→Led→Prop)(g:Heap)(s:Shared)(k:Nat)(s':Shared):Prop
 | mk (i:Nat) (g':Heap) (m:Mp) (l:Led) (ek:k=n - i+1) (hi:i≤n) (z:ud s'.heap a b B i) (o:∀ j,j < 5→Off d g' l (B+j)) (j:J i m l) (e:Step d g s g' s') (a:At d g' s'.heap m l)
theorem Ok.xB{elts:List Ex}{tk:Nat}{tp:Pos}{body:List Stmt}{B a b:Addr}{us ws:List Value}{n1 n2:Nat}{J:Nat→Mp→Led→Prop}{K:Flow→Mp→Led→Prop}{A:Around}{E:Value→Shared→Prop}{s:Shared}{Q:Flow→Shared→Prop}
  (hm:d.may) (hfe:d.ay=d.env) (hS:∀ i m l,J i m l→l a=some (listOf us.toArray n1)∧l b=some (listOf ws.toArray n2))
  (turn:∀ bs i x y m l T,us[i]?=some x→ws[i]?=some y→J i m l→l T=none→Ok (d.bE bs) r (assign (.Tuple elts tk tp) d.env (.ref T)) (fun O m l=>Ok (d.bE bs) r (execs body d.env) (Turn J (i+1) K) m l) m (l.set T (fG [x,y])))
  (fin:∀ i m l,us[i]?=none∨ws[i]?=none→J i m l→K .next m l) (hJ:J 0 m l) (hZ:ud s.heap a b B 0) (ho:∀ j,j < 5→Off d g l (B+j)) (N:bx d r A E g s m l) (hQ:∀ f s',aO d g K s f s'→Q f s') :
  codeAny (model Pg d.w) A (.forLoop (.Tuple elts tk tp) (.ref (B+4)) body [] d.env) (fun r s'=>match r with | .ok f=>Q f s' | .error e=>cameBackBy (model Pg d.w) A d.env E e s') s:=by
 have pE:∀ e s',E e s'→notedBy (model Pg d.w) A d.env (fun e s'=>cameBackBy (model Pg d.w) A d.env E e s') e s':=hfe▸N.x.p hm A (.refl _)
 refine codeAny_forLoop_any (FZ d a b B us.length J g s) (fun k s₁ p=>?_) (us.length+1) (.mk 0 g m l rfl (Nat.zero_le _) hZ ho hJ .rfl N.a)
 induction p with | mk i g₁ m₁ l₁ ek hi hZ ho hJ₁ e₁ a₁ =>
 have ab:=hS _ _ _ hJ₁
 have D:=nT (fun j hj=>Led.ne ab.1 (ho j hj).l) (fun j hj=>Led.ne ab.2 (ho j hj).l)
 have mv:∀ {h':Heap},(∀ c o,c≠B+4→c≠B+3→c≠B→c≠B+1→s₁.heap.get? c=some o→h'.get? c=some o)→At d g₁ h' m₁ l₁:=fun x=>a₁.moved (bs:=[B+4,B+3,B,B+1]) (fun c o hc=>x c o (fun q=>hc (q▸.head _)) (fun q=>hc (q▸.tail _ (.head _))) (fun q=>hc (q▸.tail _ (.tail _ (.head _)))) fun q=>hc (q▸.tail _ (.tail _ (.tail _ (.head _)))))
  (List.forall_mem_cons.mpr ⟨ho 4 (by decide),List.forall_mem_cons.mpr ⟨ho 3 (by decide),List.forall_mem_cons.mpr ⟨ho 0 (by decide),List.forall_mem_cons.mpr ⟨ho 1 (by decide),fun O h=>nomatch h⟩⟩⟩⟩)
 have l1:s₁.heap.IsList a us.toArray:=⟨_,a₁.get ab.1,rfl,_,rfl⟩
 have l2:s₁.heap.IsList b ws.toArray:=⟨_,a₁.get ab.2,rfl,_,rfl⟩
 obtain ⟨x0,y0,hTO⟩:=hZ.to
 by_cases hend:us[i]?=none∨ws[i]?=none
 ·exact wpAny_pyNext_zip_end N.R.hd D hZ.z hZ.ti hTO hZ.i1 hZ.i2 l1 l2 (by simpa using hend) fun h' x=>wpAny_execs_nil (hQ _ _ ⟨g₁,m₁,l₁,e₁.trans (.of (t:=s₁.toks)),mv x,fin i _ _ hend hJ₁⟩)
 ·obtain ⟨x,hx⟩:=Option.ne_none_iff_exists'.mp fun q=>hend (.inl q)
  obtain ⟨y,hy⟩:=Option.ne_none_iff_exists'.mp fun q=>hend (.inr q)
  refine wpAny_pyNext_zip_item D hZ.z hZ.ti hTO hZ.i1 hZ.i2 l1 l2 (by simpa using hx) (by simpa using hy) fun h' z1 z2 z3 z4 z5 z6 z7=>?_
  have oT:=a₁.low (Nat.le_refl s₁.heap.objs.size)
  have lt:∀ {c:Addr} {o:Obj},s₁.heap.get? c=some o→c≠s₁.heap.objs.size:=fun e=>Nat.ne_of_lt (Heap.lt_size e)
  generalize s₁.heap.objs.size=T at *
  refine wpAny_letOwnedTupleGo_zip z1 fun h'' y1 y2=>?_
  have ne:∀ {i j:Nat},i≠j→B+i≠B+j:=fun h q=>h (Nat.add_left_cancel q)
  have w1:h''.get? (B+2)=_:=y2.extBut _ _ (ne (by decide)) (z7 _ _ (ne (by decide)) (ne (by decide)) (ne (j:=0) (by decide)) (ne (by decide)) hZ.ti)
  have w2:=y2.extBut _ _ (ne (by decide)) z2
  obtain ⟨o3,g3,w3⟩:=z3.extBut y2.extBut (ne (i:=0) (by decide))
  obtain ⟨o4,g4,w4⟩:=z4.extBut y2.extBut (ne (by decide))
  have of:∀ j,j < 5→∀ {o},s₁.heap.get? (B+j)=some o→Off d g₁ (l₁.set T (fG [x,y])) (B+j):=fun j hj O e=>have q:=ho j hj;⟨(if_neg (lt e)).trans q.l,q.ap,q.L,q.g⟩
  have N₃:=((N.next (e₁.trans (.of (t:=s₁.toks))) ((mv fun c o q1 q2 q3 q4 e=>y2.extBut c o q1 (z7 c o q1 q2 q3 q4 e)).take oT.l oT.ap (o:=fG [x,y]) ⟨y2.extBut _ _ (lt hZ.z).symm z5,oT.L,oT.g⟩))).xA (bs:=[(B+0,o3),(B+1,o4),(B+2,{cls:=.type "tuple",data:=.seq #[.ref B,.ref (B+1)]}),(B+3,{cls:=.type "tuple",data:=.seq #[x,y]}),(B+4,{cls:=.type "zip",dict:=none,data:=.fields #[.none,.bool false,.bool false,.ref (B+2),.ref (B+3)],slots:=#[]})])
   (List.forall_mem_cons.mpr ⟨⟨g3,hZ.i1.elim fun O q=>of 0 (by decide) q.1⟩,List.forall_mem_cons.mpr ⟨⟨g4,hZ.i2.elim fun O q=>of 1 (by decide) q.1⟩,List.forall_mem_cons.mpr ⟨⟨w1,of 2 (by decide) hZ.ti⟩,List.forall_mem_cons.mpr ⟨⟨w2,of 3 (by decide) hTO⟩,List.forall_mem_cons.mpr ⟨⟨y1,of 4 (by decide) hZ.z⟩,fun O h=>nomatch h⟩⟩⟩⟩⟩)
  refine Ok.wp (d:=d.bE _) (turn _ i x y m₁ l₁ T hx hy hJ₁ oT.l) N₃ (fun O s₄ g₄ m₄ l₄ e₄ N₄ t₄=>Ok.wp (d:=d.bE _) t₄ N₄ (fun f s₅ g₅ m₅ l₅ e₅ N₅ k₅=>?_) pE) pE
  have a₆:=N₅.a.vt
  have e:Step d g s g₅ s₅:=e₁.trans ((Step.of (t:=s₁.toks)).trans ⟨(e₄.trans e₅).T,(e₄.trans e₅).e,(e₄.trans e₅).st⟩)
  have nxt:J (i+1) m₅ l₅→∃ k',k' < k∧FZ d a b B us.length J g s k' s₅:=fun hJ=>by
   have hlt:=(List.getElem?_eq_some_iff.mp hx).1
   have h0:=a₆.2 _ (.head _)
   have h1:=a₆.2 _ (.tail _ (.head _))
   have h2:=a₆.2 _ (.tail _ (.tail _ (.head _)))
   have h3:=a₆.2 _ (.tail _ (.tail _ (.tail _ (.head _))))
   have h4:=a₆.2 _ (.tail _ (.tail _ (.tail _ (.tail _ (.head _)))))
   exact ⟨us.length - (i+1)+1,ek▸Nat.succ_lt_succ (Nat.sub_succ_lt_self _ _ hlt),.mk (i+1) g₅ m₅ l₅ rfl hlt ⟨h4.1,h2.1,⟨x,y,h3.1⟩,⟨o3,h0.1,w3⟩,⟨o4,h1.1,w4⟩⟩ (fun j hj=>match j,hj with
    | 0,_=>⟨h0.2.2.2,(ho 0 (by decide)).ap,h0.2.1,h0.2.2.1⟩
    | 1,_=>⟨h1.2.2.2,(ho 1 (by decide)).ap,h1.2.1,h1.2.2.1⟩
    | 2,_=>⟨h2.2.2.2,(ho 2 (by decide)).ap,h2.2.1,h2.2.2.1⟩
    | 3,_=>⟨h3.2.2.2,(ho 3 (by decide)).ap,h3.2.1,h3.2.2.1⟩
    | 4,_=>⟨h4.2.2.2,(ho 4 (by decide)).ap,h4.2.1,h4.2.2.1⟩) hJ e a₆.1⟩
  induction f with
  | next=>exact nxt k₅
  | cont=>exact nxt k₅
  | brk=>exact hQ _ _ ⟨g₅,m₅,l₅,e,a₆.1,k₅⟩
  | ret v=>exact hQ _ _ ⟨g₅,m₅,l₅,e,a₆.1,k₅⟩
end
set_option backward.match.sparseCases false in
noncomputable def qF:Ex→Bool
 | .Tuple ..=>true
 | _=>false
section
variable {fi:Fi}{r:Nat}{d:Dy}{cs:List Addr}{b:Bk}{i:Nat}{σ:Sl}{l:Led}{K:Option CV→Sl→Led→Prop}
theorem oN{P:Ex→Prop}(h:∀ elts k p,P (.Tuple elts k p)):∀ e,qF e=true→P e:=by
 intro e
 cases e with
 | Tuple elts k p=>exact fun O=>h elts k p
 | _=>exact ff
inductive ze(J:Addr→List Value→Nat→Nat→Sl→Led→Prop)(a1:Addr)(σ:Sl)(c:CV)(l:Led):Prop
 | mk {σ0:Sl} {b0:Addr} {l0:Led} {a2:Addr} {ws:List Value} {n2:Nat} (e:c=.v (.ref (b0+4))) (le:Sl.Le σ0 σ) (z:mE l0 a1 a2 b0 l) (j:J a2 ws n2 0 σ0 l0)
set_option tactic.hygienic true in
theorem LS.zip{a1:Addr}{us:List Value}{n1:Nat}(J:Addr→List Value→Nat→Nat→Sl→Led→Prop)(ev:Ev d fi cs)(hm:d.may)(hfe:d.ay=d.env)(hst:fE (cC b i)=true)(htg:qF (fW (cC b i))=true)
  (h:∀ P',(∀ a2 ws n2 σ' l' b0 l1,Sl.Le σ' σ→mE l' a1 a2 b0 l1→J a2 ws n2 0 σ' l'→P' (some (.v (.ref (b0+4)))) σ l1)→go (fi:=fi) (r:=r) ⟨d,cs,P',fun O O=>False⟩ 99 (.e (.v b i) .ret) σ l)
  (hS:∀ a2 ws n2 k σ l,J a2 ws n2 k σ l→l a1=some (listOf us.toArray n1)∧l a2=some (listOf ws.toArray n2))
  (turn:∀ (d1:Dy) (P1:Option CV→Sl→Led→Prop) a2 ws n2 k x y T σ l l',SubL d d1→us[k]?=some x→ws[k]?=some y→J a2 ws n2 k σ l→Mk l T (bJ [CV.of x,CV.of y]) l'→(∀ σ' σ l,Sl.Le σ' σ→J a2 ws n2 (k+1) σ' l→P1 none σ l)→(∀ c σ l,K (some c) σ l→P1 (some c) σ l) →
   eu fi cs (.v (.ref T)) (go (fi:=fi) (r:=r) ⟨d1,cs,P1,fun O O=>False⟩ 99 (.s (.t b i) 0 .nil)) σ l' (Pe.g b i).at)
  (fin:∀ a2 ws n2 k σ l,us[k]?=none∨ws[k]?=none→J a2 ws n2 k σ l→K none σ l):LS d r fi (exec (cC b i) d.env) K σ l:=by
 obtain (⟨target,iter,body,pos,hS',hset⟩):=gK hst
 have e0:(Pe.v b i).at=iter:=congrArg valOf hS'
 have e1:(Pe.g b i).at=target:=congrArg fW hS'
 have e2:(Bk.t b i).at=body:=congrArg fV hS'
 rw [hS']
 rw [show fW (cC b i)=target from e1] at htg
 have he:=LE.go (r:=r) (σ:=σ) (l:=l) (p:=.v b i) (K:=fun c l'=>ze J a1 σ c l') ev fun P' hP=>h P' fun a2 ws n2 σ' l' b0 l1 le z j=>hP _ l1 (.mk rfl le z j)
 rw [e0] at he
 refine oN (P:=fun target=>(Pe.g b i).at=target→LS d r fi (exec (.For target iter body [] pos) d.env) K σ l) (fun elts tk tp e1=>⟨fun m hmm=>⟨fun A E g s N=>wpAny_For (Ok.tQ (he.run m hmm) N fun xv s₁ g₁ l₁ c e₁ N₁ hc k=>?_) (eF hset d.env)⟩⟩) target htg e1
 induction k with | mk ec le0 z hJ =>
 rename_i σ0 b0 l0 a2 ws n2
 subst ec
 cases hc
 have a₁:=N₁.a
 refine wpAny_pyIter_zip (a₁.get z.z) ?_
 obtain (⟨o1,q1,r1⟩):=z.i1
 obtain (⟨o2,q2,r2⟩):=z.i2
 have of:∀ j,j < 5→∀ {o},l₁ (b0+j)=some o→Off d g₁ l0 (b0+j):=fun j hj O e=>have q:=a₁.off e;⟨z.off j hj,q.ap,q.L,q.g⟩
 refine Ok.xB (J:=fun k m l=>∃ σ,bL fi.ns σ m∧J a2 ws n2 k σ l) (K:=PS fi.ns K) (us:=us) (ws:=ws) (n1:=n1) (n2:=n2) (a:=a1) (b:=a2) (B:=b0) hm hfe (fun k m l j=>j.elim fun σ j=>hS _ _ _ k σ l j.2) (fun bs k x y m l T hx hy hj hT=>hj.elim fun σ hj=>?_) (fun k m l e j=>j.elim fun σ j=>.next σ j.1 (fin _ _ _ k σ l e j.2)) ⟨σ0,hmm.le le0,hJ⟩ ⟨a₁.get z.z,a₁.get z.ti,⟨_,_,a₁.get z.to⟩,⟨o1,a₁.get q1,r1⟩,⟨o2,a₁.get q2,r2⟩⟩ (fun j hj=>match j,hj with
  | 0,_=>of 0 (by decide) q1
  | 1,_=>of 1 (by decide) q2
  | 2,_=>of 2 (by decide) z.ti
  | 3,_=>of 3 (by decide) z.to
  | 4,_=>of 4 (by decide) z.z) (N₁.next .rfl (a₁.sub z.le)) (fun f s' p=>p.then e₁)
 let P1:Option CV→Sl→Led→Prop:=fun o σ l=>match o with | none=>∃ σ',Sl.Le σ' σ∧J a2 ws n2 (k+1) σ' l | some c=>K (some c) σ l
 have t:=e1▸turn (d.bE bs) P1 _ _ _ k x y T σ l _ .bE hx hy hj.2 (.set hT ⟨[x,y],rfl,.cons (CV.dM x) (.cons (CV.dM y) .nil)⟩) (fun σ' O O a b=>⟨σ',a,b⟩) fun O O O h=>h
 refine (cX (ev.sub .bE) t (.v _) hj.1).mono fun O m l q=>q.elim fun σ' q=>?_
 have hb:Ok (d.bE bs) r (execs ((Bk.t b i).at.drop 0) d.env) _ m l:=LS.run (cf (x:=⟨d.bE bs,cs,P1,fun O O=>False⟩) (ev.sub .bE) 99 _ _ _ q.2) m q.1
 rw [e2,List.drop_zero] at hb
 refine hb.mono fun f m l q=>?_
 induction q with
 | next σ h k=>exact k.elim fun σ' k=>⟨σ',h.le k.1,k.2⟩
 | ret σ c h is k=>exact .ret σ c h is k
end
end
section
theorem wj{d:Dy}{kx vx target iter:Ex}{scope:Scope}{pos:Pos}{oD:Obj}(ht:∀ a v,letOwnedTupleGo target a v=Pure.pure ())(ho:oD={cls:=.type "dict",data:=.dict #[]}):ly d (.DictComp kx vx [⟨target,iter,[],0⟩] scope pos) iter scope oD fun A env it acc v P E' s₁ =>
  wpAny (model Pg d.w) A (assign target env v) (fun O s₂=>wpAny (model Pg d.w) A (eval kx env) (fun kv s₄=>wpAny (model Pg d.w) A (eval vx env) (fun vv s₅=>∀ D,acc=.ref D→wpAny (model Pg d.w) A (dictSet D kv vv) (fun O s₆=>P s₆) E' s₅) E' s₄) E' s₂) E' s₁ :=
 ⟨⟨_,newDict,fun env=>arm_eval_DictComp _ _ _ _ _ env,⟨_,[],rfl,rfl⟩,fun A Q E s h=>wpAny_newObj_type (ho▸h) (by size_fits)⟩,fun h0 h=>codeAny_compStart_dict h0 h,fun I turn k h=>codeAny_compLoop_testsD I (fun n s hI=>wpAny_mono (turn n s hI _) (fun ov s₁ h=>by
  induction ov with
  | none=>exact h
  | some v =>
   refine wpAny_mono h (fun O s₂ h=>?_) fun O O x=>x
   rw [List.forIn_nil]
   refine wpAny_pure ?_
   simp only [if_true]
   exact wpAny_mono h (fun kv s₃ h=>wpAny_mono h (fun vv s₄ h=>h _ rfl) fun O O x=>x) fun O O x=>x) fun O O x=>x) k h (ht _)⟩
theorem Ok.gR{d:Dy}{r:Nat}{m:Mp}{l:Led}{kx vx target iter:Ex}{scope:Scope}{pos:Pos}{cl:List (Str × Addr)}{n:Nat}{α:Type}{V:α→Nat→CV→Prop}{S:α→Nat→Led→Prop}{It:α→Nat→Obj→Prop}{K:Value→Mp→Led→Prop}{J0:α→List Addr→Led→Prop}(J:α→List Addr→Nat→List (Int × Value)→Led→Prop)
  (hset:aM iter=true) (hclos:closureFor scope d.env=Pure.pure cl) (hk:scope.kind=.function) (hnames:∀ y∈scope.names,y.2=.local→scope.names.lookup y.1=some .local) (hz:n≤sizeLine)
  (h:Ok d r (eval iter d.env) (PV (lj d ((cellsFrom 0 scope.names []).map (·.1)) (fun O=>n) V S It J0) m) m l) (hJ:∀ x cs l,J0 x cs l→J x cs 0 [] l)
  (hS:∀ x cs i ys l,J x cs i ys l→S x i l) (hSm:∀ x i l l',S x i l→l.le l'→S x i l')
  (turn:∀ d2 x cs i c v ys m2 l,iv d d2 scope ((cellsFrom 0 scope.names []).map (·.1)) cs cl→i < n→CV.Is c v→V x i c→J x cs i ys l→ys.length≤i →
   Ok d2 r (assign target d2.env v) (fun O m2 l=>Ok d2 r (eval kx d2.env) (fun kv m2 l=>∃ k t,kv=.int k t∧Ok d2 r (eval vx d2.env) (fun y m2 l=>J x cs (i+1) (PySem.stored ys k y) l) m2 l) m2 l) m2 l)
  (ht:∀ a v,letOwnedTupleGo target a v=Pure.pure ())
  (fin:∀ x cs D o ys l l',J x cs n ys l→ys.length≤n→o.IsDictOf (PySem.intKind Pg d.w) ys→rE l D o l'→(D==sysModules)=false→K (.ref D) m l'):Ok d r (eval (.DictComp kx vx [⟨target,iter,[],0⟩] scope pos) d.env) K m l:=by
 obtain ⟨oD₀,gD,hDk⟩:=Heap.dictOf_iff.mp (Heap.DictOf.new (knd:=PySem.intKind Pg d.w) ({objs:=#[]}:Heap))
 have ho:oD₀={cls:=.type "dict",data:=.dict #[]}:=by rw [Heap.get?_push_size _ rfl] at gD;exact (Option.some.inj gD).symm
 refine Ok.t7 (OB:=fun ys o=>o.IsDictOf (PySem.intKind Pg d.w) ys) (fun x cs i ys l=>ys.length≤i∧J x cs i ys l) (wj ht ho) hset hclos hk hnames (by rw [ho];rfl) hDk h (fun x cs l j=>⟨Nat.le_refl _,hJ x cs l j⟩) (fun x cs i ys l j=>hS _ _ _ _ _ j.2) hSm (fun x own A E' i ys v c I C D g₅ s₅ l₃ oI oC m2 oD hon G R go hlt hcv hV c₃ h1 h2 h3 P hP=>?_) fun x cs D oD ys l j e hl lo=>fin x cs D oD ys l _ j.2 j.1 e (.set hl) lo
 refine c₃.turn (cells:=own++cl) (E':=E') G R hk h1 h2 h3 fun mo zs N back=>?_
 have t:=turn _ x (own.map (·.2)) i c v ys m2 l₃ (.vh (mo:=mo) (zs:=zs) (C:=C) hon) hlt hcv hV c₃.j.2 c₃.j.1
 refine Ok.wp (d:=d.fF (bu d scope (own++cl) C) C mo zs) t N fun O s₇ g₇ m₇ l₇ e₇ N t=>Ok.wp (d:=d.fF (bu d scope (own++cl) C) C mo zs) t N fun kv s₈ g₈ m₈ l₈ e₈ N t=>t.elim fun kk t=>t.elim fun tkk t=>?_
 refine Ok.wp (d:=d.fF (bu d scope (own++cl) C) C mo zs) t.2 N fun y s₉ g₉ m₉ l₉ e₉ N hJ₉=>back (e₇.trans (e₈.trans e₉)) N.a fun oC' st c' D' hD'=>?_
 injection hD' with hD'
 subst hD'
 rw [t.1]
 refine wpAny_dictSet_pairs (knd:=PySem.intKind Pg d.w) (kvs:=ys) (k:=kk) (hsz:=Nat.le_trans c₃.j.1 (Nat.le_trans (Nat.le_of_lt hlt) hz)) (by simp [PySem.intKind,Value.isInt]) (Heap.dictOf_iff.mpr ⟨oD,c'.yl h2,c'.ob⟩) fun h₉ hm₉ hs₉=>(Heap.dictOf_iff.mp hm₉).elim fun oD₉ q=>?_
 exact hP g₉ _ l₉ oI oC' m₉ _ (PySem.stored ys kk y) (st.trans (.of (t:=s₉.toks+1))) (c'.app h2 h3 hs₉ q.1 ⟨Nat.le_trans (stored_length_le ys kk y) (Nat.succ_le_succ c₃.j.1),hJ₉⟩ q.2)
set_option backward.match.sparseCases false in
noncomputable def isNm:Ex→Bool
 | .Name ..=>true
 | _=>false
set_option backward.match.sparseCases false in
noncomputable def nG(fi2:Fi):Ex→Bool
 | .DictComp _ _ [⟨tg,it,[],0⟩] scope _=>isNm tg&&aM it&&j7 scope fi2
 | _=>false
theorem sP:∀ tg,isNm tg=true→∀ a v,letOwnedTupleGo tg a v=Pure.pure ():=by
 intro tg;cases tg<;>first | exact fun O O O=>rfl | exact ff
theorem mz{fi2:Fi}{P:Ex→Prop}(h:∀ kx vx tg it scope pos,(isNm tg&&aM it&&j7 scope fi2)=true→P (.DictComp kx vx [⟨tg,it,[],0⟩] scope pos)):∀ e,nG fi2 e=true→P e:=by
 intro e
 cases e with
 | DictComp kx vx gs scope pos =>
  induction gs with
  | nil=>exact ff
  | cons g r =>
   cases g with | mk t it ifs a =>
   induction r with
   | cons _ _=>cases ifs<;>first | exact ff | (induction a with | ofNat n=>cases n<;>exact ff | negSucc n=>exact ff)
   | nil =>
    induction ifs with
    | cons _ _=>exact ff
    | nil =>
     induction a with
     | ofNat n =>
      induction n with
      | zero=>exact h _ _ _ _ _ _
      | succ _=>exact ff
     | negSucc n=>exact ff
 | _=>exact ff
section
variable {fi fi2:Fi}{r:Nat}{d:Dy}{cs:List Addr}{p:Pe}{σ:Sl}{l:Led}{K:CV→Led→Prop}
theorem LE.gR{cl:List (Str × Addr)}(xs:List CV)(J:Addr→List Addr→Nat→List (Int × Value)→Led→Prop)(ev:Ev d fi cs)(hok:nG fi2 p.at=true)(hcl:fm fi cs fi2.fr=some cl)(hh:xs.all pD=true)(hz:xs.length≤1000)
  (h:∀ P',(∀ a l',HL l' a xs→ak (fun O=>none) fi2.cn (fun as l=>J a as 0 [] l) l'→P' (some (.v (.ref a))) σ l')→Mine.go (fi:=fi) (r:=r) ⟨d,cs,P',fun O O=>False⟩ 99 (.e (p.c 0) .ret) σ l)
  (turn:∀ (d2:Dy) a as i c kvs o l,d2.w=d.w→xs[i]?=some c→l a=some o→ai xs o→J a as i kvs l→kvs.length≤i→∀ P2,
   (∀ k σ' l',(∀ P3,(∀ c l',l' a=some o→(∀ v,CV.Is c v→J a as (i+1) (PySem.stored kvs k v) l')→P3 (some c) σ' l')→Mine.go (fi:=fi2) (r:=r) ⟨d2,as++cl.map (·.2),P3,fun O O=>False⟩ 99 (.e (p.c 7) .ret) σ' l')→P2 (some (.int k)) σ' l') →
   eu fi2 (as++cl.map (·.2)) c (Mine.go (fi:=fi2) (r:=r) ⟨d2,as++cl.map (·.2),P2,fun O O=>False⟩ 99 (.e (p.c 1) .ret)) .nil l (p.c 2).at)
  (fin:∀ a as D o kvs l l',J a as xs.length kvs l→kvs.length≤xs.length→o.IsDictOf (PySem.intKind Pg d.w) kvs→rE l D o l'→(D==sysModules)=false→K (.v (.ref D)) l'):LE d r fi (eval p.at d.env) K σ l:=by
 refine mz (P:=fun e=>p.at=e→LE d r fi (eval p.at d.env) K σ l) (fun kx vx tg it scope pos k3 e=>?_) p.at hok rfl
 have q0:(p.c 0).at=it:=congrArg (ch · 0) e
 have q1:(p.c 1).at=kx:=congrArg (ch · 1) e
 have q2:(p.c 2).at=tg:=congrArg (ch · 2) e
 have q7:(p.c 7).at=vx:=congrArg (ch · 7) e
 rw [Bool.and_eq_true,Bool.and_eq_true] at k3
 have sc:=dG k3.2
 have he:=LE.go (r:=r) (σ:=σ) (l:=l) (p:=p.c 0) (K:=SrcL d fi2.cn xs fun a cs l=>J a cs 0 [] l) ev fun P' hP=>h P' fun a l' hl j=>hP _ l' (.fC hl j)
 rw [q0,← sc.c] at he
 rw [e]
 refine ⟨fun m hm=>Ok.gR (fun x as i kvs l=>LL l xs x∧J x.1 as i kvs l) k3.1.2 (bt ev (sc.f▸hcl)) sc.k sc.n (Nat.le_trans hz (aj rfl)) (he.run m hm) (fun O O O j=>j) (fun x as i ys l j=>j.1.1) (fun x i l l' e le=>le _ _ e) (fun d2 x as i c v kvs m2 l sub hlt hcv hV hJ hyl=>?_) (sP tg k3.1.1) fun x as D o kvs l l' hJ hyl hD nw lo=>⟨_,.refl _,.v _,fin x.1 as D o kvs l l' hJ.2 hyl hD nw lo⟩⟩
 rw [sc.c] at sub
 have ev2:=sub.ev sc.b ((cN ev hcl).1)
 refine hJ.1.at hh hV fun hc=>?_
 let P2:Option CV→Sl→Led→Prop:=fun o σ' l=>match o with
  | some c=>∃ k,c=.int k∧LE d2 r fi2 (eval vx d2.env) (fun c l'=>∀ v,CV.Is c v→LL l' xs x∧J x.1 as (i+1) (PySem.stored kvs k v) l') σ' l
  | none=>False
 have t:=q2▸turn d2 x.1 as i c kvs _ l sub.w hc hJ.1.1 ⟨_,_,rfl,hJ.1.2⟩ hJ.2 hyl P2 fun k σ' l h=>⟨k,rfl,q7▸LE.go ev2 fun P3 hP=>h P3 fun c l' e j=>hP c l' fun v is=>⟨⟨e,hJ.1.2⟩,j v is⟩⟩
 refine (cX ev2 t hcv bL.nil).mono fun O m2 l q=>q.elim fun σ' q=>?_
 have g:LE d2 r fi2 (eval (p.c 1).at d2.env) (fun c l=>P2 (some c) σ' l) σ' l:=cf (x:=⟨d2,as++cl.map (·.2),P2,fun O O=>False⟩) ev2 99 (.e (p.c 1) .ret) σ' l q.2
 rw [q1] at g
 refine (g.run m2 q.1).mono fun kv m l pv=>?_
 induction pv with | mk c em is kk =>
 obtain ⟨k,rfl,kk⟩:=kk
 cases is with | int _ t =>
 exact ⟨k,t,rfl,em▸(kk.run m2 q.1).mono fun y m l pv=>by cases pv with | mk c e is kk=>exact kk y is⟩
end
end
section
section
variable {prog:Program}{w:World}{A:Around}{E:Value→Shared→Prop}{s:Shared}{h₀:Heap}{L a kS:Addr}{m:Str→Option Value}{news:List (Addr × Obj)}{ks vs:List Value}
theorem oi{e e1:Nat}{P:PySem.Fin→Shared→Prop}(hl:ks.length=vs.length)(h2:vs.length < 2)
  (h:KatFin h₀ L m kS a ks e e1 vs (fun s4=>P (.done (.ret .none)) s4) s):wpAny (model prog w) A (ksk_end a false vs.toArray e1 (.ref kS) (List.toArray ks)) P E s:=by
 have hn2:vs.toArray.size < 2:=by rw [List.size_toArray];exact h2
 unfold ksk_end
 try dsimp only
 rw [if_pos hn2,if_pos hn2]
 simp only [Bool.false_eq_true,if_false]
 refine wpAny_bind (wpAny_pure ?_)
 rw [StateT.run_pure]
 refine wpAny_bind (wpAny_pure ?_)
 try dsimp only
 refine kat_tail (b:=false) (out:=vs) ?_ (by omega) (by omega) rfl h
 show ((List.toArray ks).zip vs.toArray).map (·.2)=List.toArray vs
 apply Array.toList_inj.mp
 rw [Array.toList_map,ksk_zip]
 exact List.map_snd_zip (by show vs.length≤ks.length;omega)
noncomputable def cG(prog:Program)(w:World)(A:Around)(h₀:Heap)(L:Addr)(m:Str→Option Value)(kS a:Addr)(e1:Nat)(vs:List Value)(C:Shared→Prop)(ks:List Value)(e:Nat)(s:Shared):Prop :=
 if vs.length < 2 then KatFin h₀ L m kS a ks e e1 vs C s
 else wpAny (model prog w) A (keyKind' (List.toArray ks)) (fun κ s''=>(kas_sort vs.length).kasWp (kas_ask prog w A κ ks) (fun p s3=>KatFin h₀ L m kS a ks e e1 (p.toList.map fun i=>vs.getD i Value.none) C s3) s'') (fun O O=>False) s
theorem oh{f:Value}{e1:Nat}{P:PySem.Fin→Shared→Prop}(hk:s.heap.get? kS=some (seqObj "list" #[] 0))(h64:vs.length < 64)
  (h:KatKeys prog w A h₀ L m kS f (fun ks e s'=>cG prog w A h₀ L m kS a e1 vs (fun s4=>P (.done (.ret .none)) s4) ks e s') vs [] 0 s) :
  wpAny (model prog w) A (ksk_rest a f false vs.toArray e1 (.ref kS)) P E s:=by
 by_cases h2:vs.length < 2
 ·unfold ksk_rest
  refine wpAny_bind (wpAny_rule ?_)
  first
   | rw [List.forIn_toArray]
   | (rw [← Array.forIn_toList];simp only [List.toList_toArray])
   | rw [← Array.forIn_toList]
  refine wpAny_bind (wpAny_mono (kat_fold h64 (fun x ks e s' C hz hx=>?_) vs [] 0 s (by simp) hk h) (fun O s' hd=>?_) fun O O x=>x)
  ·refine wpAny_bind (wpAny_attempt (wpAny_mono hx (fun k s'' hk=>?_) fun O O hF=>hF.elim))
   obtain ⟨news',g,F',N',U,c⟩:=hk
   obtain ⟨pre,post,e0,hg,x1,x2⟩:=U.split
   rw [e0] at N'
   have nk:=N' (kS,seqObj "list" (List.toArray ks) e) (List.mem_append_right _ (.head _))
   have s1:=Heap.SameBut.update s''.heap kS (Obj.mapSeq (·.push k))
   have ea:(List.toArray ks).push k=List.toArray (ks++[k]):=by simp
   obtain (⟨c2,hc2⟩):∃ c2,(s''.heap.update kS (Obj.mapSeq (·.push k))).get? kS=some (seqObj "list" (List.toArray (ks++[k])) c2):=⟨_,by rw [← ea];exact get?_update_seq nk.1 (·.push k)⟩
   try dsimp only
   refine wpAny_bind (listUpdate_at nk.1 rfl ?_ (by rw [List.size_toArray,sizeLine_eq];omega) (Nat.le_trans (Nat.le_of_eq (Array.size_push ..)) (by rw [List.size_toArray,sizeLine_eq];omega)))
   exact wpAny_pure ⟨rfl,k,c2,hc2,c _ c2 (kas_fr F' s1 nk.2.1 nk.2.2) (by rw [hg];exact news_set N' x1 x2 s1 hc2)⟩
  ·obtain ⟨ks,e,hk',hl,fin⟩:=hd
   try dsimp only
   refine wpAny_bind (listItems_at hk' rfl ?_)
   unfold cG at fin
   rw [if_pos h2] at fin
   exact oi hl h2 fin
 ·refine kat_rest hk (by omega) h64 (kat_keys_mono h fun ks e s' hl hf=>?_)
  unfold cG at hf
  rw [if_neg h2] at hf
  exact hf
theorem lM{f:Value}{n:Nat}{P:PySem.Fin→Shared→Prop}(F:Fr h₀ L s.heap m)(N:News h₀ L s.heap news)(ho:s.heap.get? a=some (seqObj "list" vs.toArray n))(haL:a≠L)(ha0:h₀.get? a=none)(hna:∀ p∈news,p.1≠a)
  (h64:vs.length < 64)
  (h:∀ kS e1 h',Fr h₀ L h' m→News h₀ L h' ((kS,seqObj "list" #[] 0)::(a,seqObj "list" #[] e1)::news)→a < kS→(∀ q∈news,q.1 < kS) →
   KatKeys prog w A h₀ L m kS f (fun ks e s'=>cG prog w A h₀ L m kS a e1 vs (fun s4=>P (.done (.ret .none)) s4) ks e s') vs [] 0 {s with heap:=h'}) :
  wpAny (model prog w) A (ksk_tree a f false) P E s:=by
 have ha:a < s.heap.objs.size:=Heap.lt_size ho
 have s1:=Heap.SameBut.update s.heap a (Obj.mapSeq fun O=>(#[]:Array Value))
 obtain (⟨e1,ho1⟩):∃ e1,(s.heap.update a (Obj.mapSeq fun O=>(#[]:Array Value))).get? a=some (seqObj "list" #[] e1):=⟨_,get?_update_seq ho fun O=>#[]⟩
 have F1:=kas_fr F s1 haL ha0
 have N1:=kas_news N s1 hna
 have hkS:((s.heap.update a (Obj.mapSeq fun O=>(#[]:Array Value))).push (seqObj "tuple" vs.toArray 0)).objs.size=s.heap.objs.size+1:=by rw [size_push',Heap.size_update]
 have hLk:L < ((s.heap.update a (Obj.mapSeq fun O=>(#[]:Array Value))).push (seqObj "tuple" vs.toArray 0)).objs.size:=(F1.push _).ns.lt
 unfold ksk_tree
 refine wpAny_bind (listItems_at ho rfl ?_)
 refine wpAny_bind (listUpdate_at ho rfl ?_ (by rw [List.size_toArray,sizeLine_eq];omega) (Nat.zero_le _))
 refine wpAny_bind (seqEpoch_at ho1 rfl ?_)
 refine wpAny_bind (wpAny_newTuple ?_ (by show vs.length≤_;rw [sizeLine_eq];omega))
 refine wpAny_bind (wpAny_newList ?_ (Nat.zero_le _))
 refine wpAny_holding ?_
 refine oh (s:={s with heap:=((s.heap.update a (Obj.mapSeq fun O=>(#[]:Array Value))).push (seqObj "tuple" vs.toArray 0)).push (seqObj "list" #[] 0)}) (kS:=((s.heap.update a (Obj.mapSeq fun O=>(#[]:Array Value))).push (seqObj "tuple" vs.toArray 0)).objs.size)
  (Heap.get?_push_size _ rfl) h64 (h _ e1 _ ((F1.push _).push _) (fun p hp=>?_) (by rw [hkS];exact Nat.lt_succ_of_lt ha) fun q hq=>by rw [hkS];exact Nat.lt_succ_of_lt (Heap.lt_size (N q hq).1))
 rcases List.mem_cons.mp hp with rfl | hp
 ·exact ⟨Heap.get?_push_size _ rfl,Nat.ne_of_gt hLk,Heap.get?_none_of_le (Nat.le_trans F.above (Nat.le_of_lt hLk))⟩
 ·rcases List.mem_cons.mp hp with rfl | hp
  ·exact ⟨Heap.get?_push_of_some _ (Heap.get?_push_of_some _ ho1),haL,ha0⟩
  ·exact ⟨Heap.get?_push_of_some _ (Heap.get?_push_of_some _ (N1 p hp).1),(N1 p hp).2⟩
end
section
variable {prog:Program}{w:World}{A:Around}{E:Value→Shared→Prop}{s:Shared}{h₀:Heap}{L:Addr}{m:Str→Option Value}{news:List (Addr × Obj)}{K:Type}[DecidableEq K]{knd:KeyKind prog w K}
set_option tactic.hygienic true in
theorem j6{A:Around}{kS a:Addr}{e1 e:Nat}{vs ks:List Value}{C C':Shared→Prop}{s:Shared}(hl:ks.length=vs.length)(h:cG prog w A h₀ L m kS a e1 vs C ks e s)(hc:∀ s,C s→C' s):cG prog w A h₀ L m kS a e1 vs C' ks e s:=by
 unfold cG at h ⊢
 split
 ·rename_i h2
  rw [if_pos h2] at h
  exact h.mono hc
 ·rename_i h2
  rw [if_neg h2] at h
  refine wpAny_mono h (fun κ s'' hk=>?_) fun O O x=>x
  rw [kat_ask_eq (vs:=vs) hl] at hk ⊢
  exact kas_wp_mono hk fun p s3 hk'=>hk'.mono hc
theorem jb{d:Addr}{oD:Obj}{kvs:List (K × Value)}{f:Value}{kw:List (Str × Value)}{Q:Value→Shared→Prop}(hh:A.handled=none)(F:Fr h₀ L s.heap m)(N:News h₀ L s.heap news)(hm:(d,oD)∈news)(hD:oD.IsDictOf knd kvs)(lo:(d==sysModules)=false)(h64:kvs.length < 64)
  (ha1:argsOk "sorted" ⟨[.ref d],kw⟩) (ha2:∀ x,argsOk "list.sort" ⟨[.ref x],kw⟩) (ht:∀ x,Builtin.«list.sort» ⟨[.ref x],kw⟩=ksk_tree x f false)
  (h:∀ D kS e1 h' tk (vs:List Value),vs.length=kvs.length→(∀ (j:Nat) (v:Value),vs[j]?=some v→∃ k x,kvs[j]?=some (k,x)∧knd.is k v=true)→Fr h₀ L h' m→News h₀ L h' ((kS,seqObj "list" #[] 0)::(D,seqObj "list" #[] e1)::news)→D < kS→(∀ q∈news,q.1 < D) →
   KatKeys prog w A.in1.in1 h₀ L m kS f (fun ks e s'=>cG prog w A.in1.in1 h₀ L m kS D e1 vs (fun s4=>Q (.ref D) s4) ks e s') vs [] 0 {s with heap:=h',toks:=tk}) :
  wpAny (model prog w) A (call (.builtin "sorted") [.ref d] kw) Q E s:=by
 obtain ⟨ep,hat⟩:=(Heap.dictOf_iff.mpr ⟨oD,(N _ hm).1,hD⟩:s.heap.DictOf knd d kvs).dictAt
 refine call_function_entry_kw kind_sorted plain_sorted entry_sorted ha1 ?_
 unfold Builtin.«sorted»
 refine wpAny_bind (m:=checkCount "sorted" 1 1 _) (wpAny_pure ?_)
 refine wpAny_bind (kdu_collect (A:=A.in1) (kdl_dict (knd:=knd) (kvs:=kvs) (ep:=ep) lo) hh hat (by rw [sizeLine_eq];omega) fun h' tk acc hk hacc=>?_)
 have hl:acc.toList.length=kvs.length:=by rw [Array.length_toList];exact hacc.1
 refine wpAny_bind (wpAny_newList ?_ (by rw [hl,sizeLine_eq];omega))
 have hsz:h'.objs.size=h'.objs.size:=rfl
 have hoL:(h'.push (seqObj "list" acc.toList.toArray 0)).get? h'.objs.size=some (seqObj "list" acc.toList.toArray 0):=Heap.get?_push_size _ rfl
 have keep:∀ b o,s.heap.get? b=some o→(h'.push (seqObj "list" acc.toList.toArray 0)).get? b=some o:=fun b o q=>Heap.get?_push_of_some _ (hk b o q)
 have hL:L < h'.objs.size:=(F.keeps hk).ns.lt
 show wpAny _ _ _ _ _ {s with heap:=h'.push (seqObj "list" acc.toList.toArray 0),toks:=tk}
 refine wpAny_bind (wpAny_holding (wpAny_call_entry_kw slot_list_sort ⟨_,hoL,rfl⟩ entry_list_sort ?body (ha2 _)))
 case body =>
  show wpAny (model prog w) A.in1.in1 (Builtin.«list.sort» ⟨[.ref h'.objs.size],kw⟩) _ _ _
  rw [ht h'.objs.size]
  refine lM (s:={s with heap:=h'.push (seqObj "list" acc.toList.toArray 0),toks:=tk})
   (F.kept keep) (N.grown keep) hoL (Nat.ne_of_gt hL) (Heap.get?_none_of_le (Nat.le_trans (F.keeps hk).above (Nat.le_of_lt hL)))
   (fun p hp=>Nat.ne_of_lt (Heap.lt_size (hk _ _ (N p hp).1))) (by rw [hl];exact h64) fun kS e1 h2 F' N' l0 l1=>?_
  refine kat_keys_mono (h _ kS e1 h2 tk acc.toList hl (fun j v e=>hacc.2 j v (by rw [← Array.getElem?_toList];exact e)) F' N' l0 fun q hq=>Heap.lt_size (hk _ _ (N q hq).1)) fun ks e s' hl' hd=>?_
  exact j6 (by simpa using hl') hd fun s4 hq=>⟨_,rfl,wpAny_pure ⟨_,rfl,hq⟩⟩
end
end
section
noncomputable def sv{α:Type}(n:Nat)(lt:Nat→Nat→Bool):KasT α→Option α
 | .ret a=>some a
 | .ask i j k=>if i < n∧j < n then sv n lt (k (lt i j)) else none
set_option tactic.hygienic true in
theorem su{α:Type}{n:Nat}{lt:Nat→Nat→Bool}{cmp:Nat→Nat→(Bool→Shared→Prop)→Shared→Prop}{Q:α→Shared→Prop}{s:Shared}(hc:∀ i j C,i < n→j < n→C (lt i j) s→cmp i j C s) :
  ∀ (t:KasT α) {a:α},sv n lt t=some a→Q a s→t.kasWp cmp Q s:=by
 intro t
 induction t with
 | ret b=>intro a e h;cases e;exact h
 | ask i j k ih =>
  intro a e h
  unfold sv at e
  split at e
  ·rename_i hij
   exact hc i j _ hij.1 hij.2 (ih _ e h)
  ·cases e
noncomputable def uG:Nat→List (List Nat)
 | 0=>[[]]
 | n+1=>(uG n).flatMap fun l=>(List.range 5).filterMap fun x=>if x∈l then none else some (x::l)
theorem qJ:∀ {rs:List Nat},rs.Nodup→(∀ r∈rs,r < 5)→rs∈uG rs.length:=by
 intro rs
 induction rs with
 | nil=>intro _ _;exact .head _
 | cons x r ih =>
  intro hn hb
  have hn':=List.nodup_cons.mp hn
  refine List.mem_flatMap.mpr ⟨r,ih hn'.2 fun y hy=>hb y (.tail _ hy),List.mem_filterMap.mpr ⟨x,List.mem_range.mpr (hb x (.head _)),?_⟩⟩
  rw [if_neg hn'.1]
theorem iH{n:Nat}:∀ {rs:List Nat},rs.Nodup→(∀ r∈rs,r < n)→rs.length≤n:=by
 induction n with
 | zero=>intro rs _ hb;induction rs with
  | nil=>exact Nat.le_refl _
  | cons x r=>exact absurd (hb x (.head _)) (Nat.not_lt_zero _)
 | succ n ih =>
  intro rs hn hb
  by_cases h:n∈rs
  ·have h1:=ih (hn.erase n) fun r hr=>by
    have h2:=(List.Nodup.mem_erase_iff hn).mp hr
    have h3:=hb r h2.2
    have h4:=h2.1
    omega
   rw [List.length_erase_of_mem h] at h1
   omega
  ·exact Nat.le_succ_of_le (ih hn fun r hr=>by
    have h3:=hb r hr
    have h4:r≠n:=fun e=>h (e▸hr)
    omega)
theorem lS{rs:List Nat}(hn:rs.Nodup)(hb:∀ r∈rs,r < 5):rs.length≤5:=iH hn hb
noncomputable def goodRun(rs:List Nat):Bool:=match sv rs.length (fun i j=>decide (rs.getD i 0 < rs.getD j 0)) (kas_sort rs.length) with
 | some p=>decide (p.toList.map (fun i=>rs.getD i 0)=(List.range 5).filter (fun x=>decide (x∈rs)))&&p.toList.all (fun i=>decide (i < rs.length))
 | none=>false
theorem qO:[2,3,4,5].all (fun n=>(uG n).all goodRun)=true:=by decide +kernel
theorem qN{rs:List Nat}(hn:rs.Nodup)(hb:∀ r∈rs,r < 5)(h2:2≤rs.length):goodRun rs=true:=by
 have h5:=lS hn hb
 have hm:rs.length∈[2,3,4,5]:=by simp;omega
 exact List.all_eq_true.mp (List.all_eq_true.mp qO _ hm) _ (qJ hn hb)
noncomputable abbrev iB(vs:List Value):Obj:={cls:=.type "tuple",data:=.seq vs.toArray}
inductive bI(h:Heap):List Value→List (List Int)→Prop
 | nil:bI h [] []
 | cons {a:Addr} {ws:List Value} {T:List Int} {ks:List Value} {Ts:List (List Int)}:h.get? a=some (iB ws)→IntsAre ws T→bI h ks Ts→bI h (.ref a::ks) (T::Ts)
theorem bI.get{h:Heap}{ks:List Value}{Ts:List (List Int)}(k:bI h ks Ts):∀ {i:Nat},i < Ts.length→∃ a ws,ks.getD i Value.none=.ref a∧h.get? a=some (iB ws)∧IntsAre ws (Ts.getD i []):=by
 induction k with
 | nil=>intro i hi;cases hi
 | cons ho hi _ ih =>
  intro i hlt
  induction i with
  | zero=>exact ⟨_,_,rfl,ho,hi⟩
  | succ i=>exact ih (Nat.lt_of_succ_lt_succ hlt)
theorem bI.length{h:Heap}{ks:List Value}{Ts:List (List Int)}(k:bI h ks Ts):ks.length=Ts.length:=by
 induction k with
 | nil=>rfl
 | cons _ _ _ ih=>exact congrArg (·+1) ih
theorem bI.xd{h:Heap}{ks:List Value}{Ts:List (List Int)}(k:bI h ks Ts)(hne:∀ T∈Ts,T≠[]):∃ fs,KatTups h ks fs∧fs.length=Ts.length∧∀ v∈fs,∃ n t,v=.int n t:=by
 induction k with
 | nil=>exact ⟨[],trivial,rfl,fun O h=>by cases h⟩
 | @cons a ws T ks Ts ho hi _ ih =>
  obtain ⟨fs,h1,h2,h3⟩:=ih fun T hT=>hne T (.tail _ hT)
  induction hi with
  | nil=>exact absurd rfl (hne _ (.head _))
  | @cons n t ws T hi =>
   exact ⟨.int n t::fs,⟨⟨a,_,_,0,rfl,ho,rfl,rfl,rfl⟩,h1⟩,congrArg (·+1) h2,fun v hv=>by
    rcases List.mem_cons.mp hv with rfl | hv
    ·exact ⟨_,_,rfl⟩
    ·exact h3 v hv⟩
section
variable {prog:Program}{w:World}{A:Around}{E:Value→Shared→Prop}{s:Shared}{h₀:Heap}{L a kS:Addr}{m:Str→Option Value}{ks vs:List Value}
theorem lY{b fin:Bool}{Q:Bool→Shared→Prop}:∀ {xs ys:List Value} {X Y:List Int} {i:Nat},IntsAre xs X→IntsAre ys Y→(X <+: Y∨Y <+: X)→Q fin s→KatLex prog w A b fin Q (xs.zip ys) i s:=by
 intro xs ys X Y i hx
 induction hx generalizing ys Y i with
 | nil=>intro _ _ h;exact kat_nil h
 | @cons n t xs X hx ih =>
  intro hy hp h
  induction hy with
  | nil=>exact kat_nil h
  | @cons n2 t2 ys Y hy =>
   have hp2:n=n2∧(X <+: Y∨Y <+: X):=by
    rcases hp with hp | hp
    ·have:=List.cons_prefix_cons.mp hp;exact ⟨this.1,.inl this.2⟩
    ·have:=List.cons_prefix_cons.mp hp;exact ⟨this.1.symm,.inr this.2⟩
   refine kat_cons (wpAny_eqBool_int ?_)
   have e:decide (n=n2)=true:=decide_eq_true hp2.1
   first
    | (rw [e];exact kat_yes (ih hy hp2.2 h))
    | (rw [show (n==n2)=true by simpa using hp2.1];exact kat_yes (ih hy hp2.2 h))
theorem qu:∀ r,r < 5→[0].map (fun i=>[r].getD i 0)=(List.range 5).filter fun x=>decide (x∈[r]):=by decide
theorem oj{P:List Nat→List Value→Prop}{rs:List Nat}{vs:List Value}(hl:vs.length=rs.length)(h2:vs.length < 2)(h0:P [] [])(h1:∀ r v,P [r] [v]):P rs vs:=by
 induction vs with
 | nil=>rw [List.eq_nil_of_length_eq_zero hl.symm];exact h0
 | cons v vs =>
  induction vs with
  | nil =>
   induction rs with
   | nil=>exact nomatch hl
   | cons r rs=>rw [List.eq_nil_of_length_eq_zero (Nat.succ.inj hl).symm];exact h1 r v
  | cons _ _=>exact absurd h2 (Nat.not_lt.mpr (Nat.succ_le_succ (Nat.succ_le_succ (Nat.zero_le _))))
set_option tactic.hygienic true in
theorem jd{e1 e:Nat}{C:Shared→Prop}{rs:List Nat}{key:Nat→List Int}(hk:bI s.heap ks (rs.map key))(hl:vs.length=rs.length)(hn:rs.Nodup)(hb:∀ r∈rs,r < 5)
  (hpre:∀ i j,i∈rs→j∈rs→i≤j→key i <+: key j) (hlen:∀ i j,i∈rs→j∈rs→i < j→(key i).length < (key j).length) (hne:∀ i,key i≠[])
  (h:∀ out:List Nat,out.map (fun i=>rs.getD i 0)=(List.range 5).filter (fun x=>decide (x∈rs))→(∀ i∈out,i < rs.length)→KatFin h₀ L m kS a ks e e1 (out.map fun i=>vs.getD i Value.none) C s) :
  cG prog w A h₀ L m kS a e1 vs C ks e s:=by
 rw [List.length_map] at hk.length
 unfold cG
 by_cases h2:vs.length < 2
 ·rw [if_pos h2]
  exact oj (P:=fun rs vs=>(∀ r∈rs,r < 5)→(∀ out:List Nat,out.map (fun i=>rs.getD i 0)=(List.range 5).filter (fun x=>decide (x∈rs))→(∀ i∈out,i < rs.length)→KatFin h₀ L m kS a ks e e1 (out.map fun i=>vs.getD i Value.none) C s)→KatFin h₀ L m kS a ks e e1 vs C s) hl h2 (fun O h=>h [] (by simp) (by simp)) (fun r v hb h=>h [0] (qu r (hb r (.head _))) (by simp)) hb h
 ·rw [if_neg h2]
  obtain ⟨fs,t1,t2,t3⟩:=hk.xd (by intro T hT;obtain (⟨r,_,rfl⟩):=List.mem_map.mp hT;exact hne r)
  refine kat_kind (T:=.type "int") t1 (by rw [t2,List.length_map];omega) (fun v hv=>?_) (by decide) ?_
  ·obtain ⟨n,t,rfl⟩:=t3 v hv
   exact Looks.of_pure rfl
  have hg:=qN hn hb (by omega)
  unfold goodRun at hg
  split at hg
  ·rename_i p hp
   simp only [Bool.and_eq_true,decide_eq_true_eq,List.all_eq_true] at hg
   rw [← hl] at hp
   refine su (fun i j C hi hj hC=>?_) _ hp (h p.toList hg.1 hg.2)
   obtain ⟨x,xs,ex,gx,ix⟩:=hk.get (i:=i) (by rw [List.length_map];omega)
   obtain ⟨y,ys,ey,gy,iy⟩:=hk.get (i:=j) (by rw [List.length_map];omega)
   unfold kas_ask
   rw [ex,ey]
   have gi:rs.getD i 0∈rs:=by rw [List.getD_eq_getElem?_getD,List.getElem?_eq_getElem (show i < rs.length by omega)];exact List.getElem_mem _
   have gj:rs.getD j 0∈rs:=by rw [List.getD_eq_getElem?_getD,List.getElem?_eq_getElem (show j < rs.length by omega)];exact List.getElem_mem _
   have ki:(rs.map key).getD i []=key (rs.getD i 0):=by simp [List.getElem?_eq_getElem (show i < rs.length by omega)]
   have kj:(rs.map key).getD j []=key (rs.getD j 0):=by simp [List.getElem?_eq_getElem (show j < rs.length by omega)]
   rw [ki] at ix
   rw [kj] at iy
   have fin:decide (xs.toArray.size < ys.toArray.size)=decide (rs.getD i 0 < rs.getD j 0):=by
    rw [List.size_toArray,List.size_toArray,ix.length,iy.length]
    rcases Nat.lt_trichotomy (rs.getD i 0) (rs.getD j 0) with q | q | q
    ·have:=hlen _ _ gi gj q
     rw [decide_eq_true this,decide_eq_true q]
    ·rw [q,decide_eq_false (Nat.lt_irrefl _),decide_eq_false (Nat.lt_irrefl _)]
    ·have:=hlen _ _ gj gi q
     rw [decide_eq_false (by omega),decide_eq_false (by omega)]
   refine kat_lt gx rfl gy rfl ?_
   rw [fin]
   refine lY ix iy ?_ hC
   rcases Nat.le_total (rs.getD i 0) (rs.getD j 0) with q | q
   ·exact .inl (hpre _ _ gi gj q)
   ·exact .inr (hpre _ _ gj gi q)
  ·cases hg
end
end
section
section
variable {prog:Program}{w:World}{A:Around}{E:Value→Shared→Prop}{s:Shared}{h₀:Heap}{L:Addr}{m:Str→Option Value}{rest:List (Addr × Obj)}{K:Type}[DecidableEq K]{knd:KeyKind prog w K}
theorem qE{kS:Addr}{f:Value}{keyv:Value→Value}{Fin:List Value→Nat→Shared→Prop}(hoff:∀ p∈rest,p.1≠kS) :
  ∀ (r ks:List Value) (e:Nat) (s:Shared),Fr h₀ L s.heap m→News h₀ L s.heap ((kS,seqObj "list" (List.toArray ks) e)::rest) →
  (∀ v∈r,∀ (s:Shared) (o:Obj) (Q E:Value→Shared→Prop),Fr h₀ L s.heap m→News h₀ L s.heap ((kS,o)::rest)→(∀ h' tk',Fr h₀ L h' m→News h₀ L h' ((kS,o)::rest)→Q (keyv v) {s with heap:=h',toks:=tk'})→wpAny (model prog w) A (call f [v]) Q E s) →
  (∀ e' h' tk',Fr h₀ L h' m→News h₀ L h' ((kS,seqObj "list" (List.toArray (ks++r.map keyv)) e')::rest)→Fin (ks++r.map keyv) e' {s with heap:=h',toks:=tk'}) →
  KatKeys prog w A h₀ L m kS f Fin r ks e s:=by
 intro r
 induction r with
 | nil =>
  intro ks e s F N _ fin
  have:=fin e s.heap s.toks F (by simpa using N)
  rw [List.map_nil,List.append_nil] at this
  exact KatKeys.nil this
 | cons v r ih =>
  intro ks e s F N hc fin
  refine KatKeys.cons (hc v (.head _) s _ _ _ F N fun h' tk' F' N'=>?_)
  refine KatBack.intro (s:={s with heap:=h',toks:=tk'}) F' N' (.head hoff) fun h2 c2 F2 N2=>?_
  refine ih (ks++[keyv v]) c2 _ F2 N2 (fun u hu=>hc u (.tail _ hu)) fun e3 h3 tk3 F3 N3=>?_
  have:=fin e3 h3 tk3 F3 (by simpa using N3)
  simpa using this
theorem c7{kvs:List (Int × Value)}{k:Int}{x:Value}(hn:(kvs.map (·.1)).Nodup)(h:(k,x)∈kvs):valueAt kvs k=some x:=by
 induction kvs with
 | nil=>cases h
 | cons q r ih =>
  rw [List.map_cons] at hn
  have hn':=List.nodup_cons.mp hn
  unfold valueAt
  rcases List.mem_cons.mp h with rfl | h
  ·simp
  ·have:q.1≠k:=fun e=>hn'.1 (e▸List.mem_map_of_mem (f:=(·.1)) h)
   rw [List.find?_cons_of_neg (by simpa using this)]
   exact ih hn'.2 h
theorem mn{es rs:List Nat}{q:Nat→Bool}(h5:es.length≤5)(h:∀ x,x∈rs↔∃ e,es[x]?=some e∧q e=true):((List.range 5).filter (fun x=>decide (x∈rs))).map (fun x=>es.getD x 0)=es.filter q:=by
 obtain (⟨d,hd⟩):∃ d,5=es.length+d:=⟨5 - es.length,by omega⟩
 rw [hd,List.range_add,List.filter_append,List.map_append]
 have e2:((List.range d).map (es.length+·)).filter (fun x=>decide (x∈rs))=[]:=by
  rw [List.filter_eq_nil_iff]
  intro x hx
  obtain (⟨y,_,rfl⟩):=List.mem_map.mp hx
  intro hh
  obtain (⟨e,he,_⟩):=(h _).mp (of_decide_eq_true hh)
  rw [List.getElem?_eq_none (by omega)] at he
  cases he
 rw [e2,List.map_nil,List.append_nil]
 have e1:es=(List.range es.length).map fun x=>es.getD x 0:=by
  apply List.ext_getElem
  ·simp
  ·intro i h1 h2
   simp [List.getElem?_eq_getElem h1]
 have e3:(List.range es.length).filter (fun x=>decide (x∈rs))=(List.range es.length).filter (q ∘ fun x=>es.getD x 0):=by
  apply List.filter_congr
  intro x hx
  have hx':=List.mem_range.mp hx
  have:(x∈rs)↔q (es.getD x 0)=true:=by
   rw [h x]
   simp [List.getElem?_eq_getElem hx']
  by_cases hq:q (es.getD x 0)=true
  ·rw [decide_eq_true (this.mpr hq)];exact hq.symm
  ·rw [decide_eq_false (fun hh=>hq (this.mp hh))]
   simp only [Function.comp]
   cases hv:q (es.getD x 0) with
   | true=>exact absurd hv hq
   | false=>rfl
 rw [e3]
 conv=>rhs;rw [e1]
 rw [List.filter_map]
theorem og{d:Addr}{oD:Obj}{kvs:List (Int × Value)}{f:Value}{kw:List (Str × Value)}{Q:Value→Shared→Prop}{es:List Nat}{key:Nat→List Int}(hh:A.handled=none)(F:Fr h₀ L s.heap m)(N:News h₀ L s.heap rest)(hm:(d,oD)∈rest)(hD:oD.IsDictOf (PySem.intKind prog w) kvs)(lo:(d==sysModules)=false)
  (ha1:argsOk "sorted" ⟨[.ref d],kw⟩) (ha2:∀ x,argsOk "list.sort" ⟨[.ref x],kw⟩) (ht:∀ x,Builtin.«list.sort» ⟨[.ref x],kw⟩=ksk_tree x f false)
  (hn:es.Nodup) (h5:es.length≤5) (hkv:∀ k x,(k,x)∈kvs→∃ (i e:Nat) (a:Addr) (ws:List Value),es[i]?=some e∧k=(e:Int)∧x=.ref a∧(a,iB ws)∈rest∧IntsAre ws (key i)) (hnd:(kvs.map (·.1)).Nodup)
  (hpre:∀ i j,i≤j→j < es.length→key i <+: key j) (hlen:∀ i j,i < j→j < es.length→(key i).length < (key j).length) (hne:∀ i,key i≠[])
  (hcall:∀ (k:Int) (t:Tok) (x:Value),(k,x)∈kvs→∀ (rest':List (Addr × Obj)) (s:Shared) (Q E:Value→Shared→Prop),(∀ p∈rest,p∈rest')→Fr h₀ L s.heap m→News h₀ L s.heap rest' →
   (∀ h' tk',Fr h₀ L h' m→News h₀ L h' rest'→Q x {s with heap:=h',toks:=tk'})→wpAny (model prog w) A.in1.in1 (call f [.int k t]) Q E s)
  (h:∀ D c h' tk ws,Fr h₀ L h' m→News h₀ L h' ((D,listOf (List.toArray ws) c)::rest)→IntsAre ws (List.map (fun (n:Nat)=>(n:Int)) (es.filter fun (e:Nat)=>decide ((e:Int)∈kvs.map (·.1))))→(∀ p∈rest,p.1 < D)→Q (.ref D) {s with heap:=h',toks:=tk}) :
  wpAny (model prog w) A (call (.builtin "sorted") [.ref d] kw) Q E s:=by
 have hmemk:∀ q∈kvs,∃ (i e:Nat) (a:Addr) (ws:List Value),es[i]?=some e∧q.1=(e:Int)∧q.2=.ref a∧(a,iB ws)∈rest∧IntsAre ws (key i):=fun q hq=>hkv q.1 q.2 hq
 have hidx:∀ {i e:Nat},es[i]?=some e→es.idxOf e=i:=fun {i e} h=>by
  obtain ⟨hi,rfl⟩:=List.getElem?_eq_some_iff.mp h
  exact hn.idxOf_getElem i hi
 let rank:Int × Value→Nat:=fun q=>es.idxOf q.1.toNat
 have hrank:∀ q∈kvs,∃ (a:Addr) (ws:List Value),es[rank q]?=some q.1.toNat∧0≤q.1∧q.2=.ref a∧(a,iB ws)∈rest∧IntsAre ws (key (rank q)):=fun q hq=>by
  obtain ⟨i,e,a,ws,h1,h2,h3,h4,h5⟩:=hmemk q hq
  have e1:rank q=i:=by show es.idxOf q.1.toNat=i;rw [h2,Int.toNat_natCast];exact hidx h1
  exact ⟨a,ws,by rw [e1,h1,h2,Int.toNat_natCast],by omega,h3,h4,e1▸h5⟩
 have hrsn:(kvs.map rank).Nodup:=by
  have:∀ l:List (Int × Value),(∀ q∈l,q∈kvs)→(l.map (·.1)).Nodup→(l.map rank).Nodup:=by
   intro l
   induction l with
   | nil=>intro _ _;exact List.nodup_nil
   | cons q r ih =>
    intro hs hn2
    rw [List.map_cons] at hn2 ⊢
    have hn3:=List.nodup_cons.mp hn2
    refine List.nodup_cons.mpr ⟨fun hm=>?_,ih (fun p hp=>hs p (.tail _ hp)) hn3.2⟩
    obtain ⟨p,hp,he⟩:=List.mem_map.mp hm
    obtain ⟨_,_,a1,a2,_⟩:=hrank q (hs q (.head _))
    obtain ⟨_,_,b1,b2,_⟩:=hrank p (hs p (.tail _ hp))
    rw [← he,b1] at a1
    have e5:=Option.some.inj a1
    have:p.1=q.1:=by omega
    exact hn3.1 (this▸List.mem_map_of_mem (f:=(·.1)) hp)
  exact this kvs (fun O h=>h) hnd
 have hrsb:∀ r∈kvs.map rank,r < es.length:=fun r hr=>by
  obtain ⟨q,hq,rfl⟩:=List.mem_map.mp hr
  obtain ⟨_,_,a1,_⟩:=hrank q hq
  exact (List.getElem?_eq_some_iff.mp a1).1
 have hkl:kvs.length≤5:=by
  have:=iH hrsn (fun r hr=>Nat.lt_of_lt_of_le (hrsb r hr) h5)
  rwa [List.length_map] at this
 refine jb hh F N hm hD lo (by omega) ha1 ha2 ht ?_
 intro D kS e1 h' tk vs hvl hvs F' N' l0 l1
 let keyv:Value→Value:=fun v=>match v with
  | .int k _=>(valueAt kvs k).getD .none
  | _=>.none
 have hvs2:∀ j,j < kvs.length→∃ k x t,kvs[j]?=some (k,x)∧vs[j]?=some (.int k t):=fun j hj=>by
  obtain ⟨k,x,h1,h2⟩:=hvs j vs[j] (List.getElem?_eq_getElem (by omega))
  obtain ⟨t,h3⟩:=Value.isInt_shape h2
  exact ⟨k,x,t,h1,by rw [List.getElem?_eq_getElem (by omega),h3]⟩
 have hkeyv:vs.map keyv=kvs.map (·.2):=by
  apply List.ext_getElem
  ·simp [hvl]
  ·intro j h1 h2
   rw [List.length_map] at h1 h2
   obtain ⟨k,x,t,g1,g2⟩:=hvs2 j h2
   have g3:vs[j]=.int k t:=by rw [List.getElem?_eq_getElem h1] at g2;exact Option.some.inj g2
   have g4:kvs[j]=(k,x):=by rw [List.getElem?_eq_getElem h2] at g1;exact Option.some.inj g1
   rw [List.getElem_map,List.getElem_map,g3,g4]
   show (valueAt kvs k).getD .none=x
   rw [c7 hnd (List.mem_of_getElem? g1)]
   rfl
 have hoff:∀ p∈(D,seqObj "list" #[] e1)::rest,p.1≠kS:=fun p hp=>by
  rcases List.mem_cons.mp hp with rfl | hp
  ·exact Nat.ne_of_lt l0
  ·exact Nat.ne_of_lt (Nat.lt_trans (l1 p hp) l0)
 refine qE (keyv:=keyv) hoff vs [] 0 {s with heap:=h',toks:=tk} F' N' (fun v hv s2 o Q2 E2 F2 N2 hq=>?_) fun e2 h2 tk2 F2 N2=>?_
 ·obtain ⟨j,hj⟩:=List.getElem?_of_mem hv
  have hjl:j < kvs.length:=by have:=(List.getElem?_eq_some_iff.mp hj).1;omega
  obtain ⟨k,x,t,g1,g2⟩:=hvs2 j hjl
  obtain rfl:v=.int k t:=by rw [g2] at hj;exact (Option.some.inj hj).symm
  have hx:keyv (.int k t)=x:=by
   show (valueAt kvs k).getD .none=x
   rw [c7 hnd (List.mem_of_getElem? g1)]
   rfl
  rw [hx] at hq
  exact hcall k t x (List.mem_of_getElem? g1) _ s2 Q2 E2 (fun p hp=>.tail _ (.tail _ hp)) F2 N2 hq
 ·rw [List.nil_append,hkeyv] at N2 ⊢
  have hKA:bI h2 (kvs.map (·.2)) ((kvs.map rank).map key):=by
   have:∀ l:List (Int × Value),(∀ q∈l,q∈kvs)→bI h2 (l.map (·.2)) ((l.map rank).map key):=by
    intro l
    induction l with
    | nil=>intro _;exact .nil
    | cons q r ih =>
     intro hs
     obtain ⟨a,ws,_,_,a3,a4,a5⟩:=hrank q (hs q (.head _))
     simp only [List.map_cons]
     rw [a3]
     exact .cons (N2 (a,iB ws) (.tail _ (.tail _ a4))).1 a5 (ih fun p hp=>hs p (.tail _ hp))
   exact this kvs fun O h=>h
  refine jd (rs:=kvs.map rank) (key:=key) hKA (by rw [List.length_map];exact hvl) hrsn (fun r hr=>Nat.lt_of_lt_of_le (hrsb r hr) h5) (fun i j hi hj hij=>hpre i j hij (hrsb j hj)) (fun i j hi hj hij=>hlen i j hij (hrsb j hj)) hne fun out ho1 ho2=>?_
  refine KatFin.intro (s:={s with heap:=h2,toks:=tk2}) F2 N2 (.head hoff) fun h3 c3 F3 N3=>?_
  refine KasFin.intro (s:={s with heap:=h3,toks:=tk2}) F3 N3 (.tail (Nat.ne_of_gt l0) (.head fun p hp=>Nat.ne_of_lt (l1 p hp))) fun h4 c4 F4 N4=>?_
  refine h D c4 h4 tk2 (out.map fun i=>vs.getD i .none) F4 (cb_drop N4 fun p hp=>.tail _ hp) ?_ l1
  have hfi:=mn (es:=es) (rs:=kvs.map rank) (q:=fun e=>decide ((e:Int)∈kvs.map (·.1))) h5 fun x=>by
   constructor
   ·intro hx
    obtain ⟨q,hq,rfl⟩:=List.mem_map.mp hx
    obtain ⟨_,_,a1,a2,_⟩:=hrank q hq
    refine ⟨_,a1,decide_eq_true ?_⟩
    rw [Int.toNat_of_nonneg a2]
    exact List.mem_map_of_mem hq
   ·rintro ⟨e,he,hq⟩
    obtain ⟨q,hq2,hqe⟩:=List.mem_map.mp (of_decide_eq_true hq)
    refine List.mem_map.mpr ⟨q,hq2,?_⟩
    show es.idxOf q.1.toNat=x
    rw [hqe,Int.toNat_natCast]
    exact hidx he
  rw [← hfi,← ho1,List.map_map,List.map_map]
  have:∀ l:List Nat,(∀ i∈l,i < kvs.length)→IntsAre (l.map fun i=>vs.getD i .none) (l.map ((fun (n:Nat)=>(n:Int)) ∘ ((fun x=>es.getD x 0) ∘ fun i=>(kvs.map rank).getD i 0))):=by
   intro l
   induction l with
   | nil=>intro _;exact .nil
   | cons i r ih =>
    intro hl
    have hi:=hl i (.head _)
    obtain ⟨k,x,t,g1,g2⟩:=hvs2 i hi
    obtain ⟨_,_,a1,a2,_⟩:=hrank (k,x) (List.mem_of_getElem? g1)
    have e3:vs.getD i .none=.int k t:=by rw [List.getD_eq_getElem?_getD,g2];rfl
    have e4:(kvs.map rank).getD i 0=rank (k,x):=by rw [List.getD_eq_getElem?_getD,List.getElem?_map,g1];rfl
    have e5:es.getD (rank (k,x)) 0=k.toNat:=by rw [List.getD_eq_getElem?_getD,a1];rfl
    simp only [List.map_cons,Function.comp]
    rw [e3,e4,e5,Int.toNat_of_nonneg a2]
    exact .cons _ _ (ih fun j hj=>hl j (.tail _ hj))
  exact this out fun i hi=>by have:=ho2 i hi;rwa [List.length_map] at this
end
end
section
inductive cy(l:Led)(c:Addr)(qual:Str):Prop
 | mk (oc:Obj) (vs:Array Value) (t:Tok) (e:l c=some oc) (h:oc.data=.fields vs) (q:vs[1]?=some (.str qual t)):cy l c qual
theorem cy.le{l l':Led}{c:Addr}{qual:Str}(h:cy l c qual)(le:l.le l'):cy l' c qual:=by
 induction h with | mk oc vs t e h q=>exact ⟨oc,vs,t,le _ _ e,h,q⟩
inductive Tab(l:Led)(P:Addr)(pos:Pos)(qual:Str):Prop
 | mk (x:Array Value) (e:l P=some (tabObj x)) (h:x=#[]∨∃ c,x=#[rawInt pos.line,rawInt pos.col,.ref c]∧cy l c qual):Tab l P pos qual
theorem Tab.le{l l':Led}{P:Addr}{pos:Pos}{qual:Str}(h:Tab l P pos qual)(le:l.le l'):Tab l' P pos qual:=by
 induction h with | mk x e q=>exact ⟨x,le _ _ e,q.imp id fun h=>h.elim fun c h=>⟨c,h.1,h.2.le le⟩⟩
noncomputable def Led.ky(l:Led)(P:Addr)(l':Led):Prop:=∀ b o,b≠P→l b=some o→l' b=some o
structure nR(l:Led)(P:Addr)(pos:Pos)(qual:Str)(fd:Addr→Value→FuncData)(f:Addr)(l':Led):Prop where
 keep:l.ky P l'
 fresh:l f=none
 tab:Tab l' P pos qual
 fn:∃ c ctv,l' f=some {cls:=.type "function",data:=.func (fd c ctv)}∧cy l' c qual
set_option backward.match.sparseCases false in
noncomputable def vX:Ex→Bool
 | .Lambda ..=>true
 | _=>false
noncomputable def vR:Ex→Arguments
 | .Lambda a _ _ _=>a
 | _=>default
noncomputable def xu:Ex→Ex
 | .Lambda _ b _ _=>b
 | _=>eY
noncomputable def vQ:Ex→Scope
 | .Lambda _ _ s _=>s
 | _=>default
noncomputable def jt:Ex→Pos
 | .Lambda _ _ _ p=>p
 | _=>⟨0,0,0,0⟩
section
variable {d:Dy}{r:Nat}{fi:Fi}{cs:List Addr}{σ:Sl}{l:Led}
set_option tactic.hygienic true in
theorem sI{A:Around}{E:Value→Shared→Prop}{g:Heap}{s:Shared}{m:Mp}{c P:Addr}{pos:Pos}{name qual:Str}{params:Arguments}{body:Ex}{scope:Scope}{clos:List (Str × Addr)}{fl:Nat}{Q:Value→Shared→Prop}(n:bx d r A E g s m l)
  (hcl:closureFor scope d.env=Pure.pure clos) (hc:d.env.code=.ref c) (hC:CodeHd s.heap c P) (ht:Tab l P pos qual)
  (h:∀ f l' s',nR l P pos qual (fun c' ctv=>kla_fn name qual params body scope clos ((d.mg "__name__").getD .none) (.ref c') ctv) f l'→Step d g s g s'→At d g s'.heap m l'→Q (.ref f) s') :
  wpAny (model Pg d.w) A (makeFunction name qual params (.expr body) scope d.env [] [] [] pos fl) Q E s:=by
 have T:=n.T
 obtain ⟨x,hP,hx⟩:=ht
 have hm:=n.a.N _ _ hP
 obtain ⟨bm,ob,b1,b2,b3,b4,b5,b6⟩:=T.bmain
 have hgP:mainGlobals≠P:=fun q=>by
  obtain ⟨o,es,ep,e,hd,_⟩:=T.g
  rw [q,hm.1] at e;cases e;cases hd
 have hbP:bm≠P:=fun q=>by rw [q,hm.1] at b3;cases b3;cases b4
 have hbG:bm≠mainGlobals:=fun q=>by
  obtain ⟨o,es,ep,e,hd,_⟩:=T.g
  rw [q,e] at b3;cases b3;rw [hd] at b6;cases b6
 have l0:(Led.set (fun b=>if b=P then none else l b) P (tabObj x))=l:=funext fun b=>by
  unfold Led.set
  split
  ·rename_i e;rw [e,hP]
  ·rename_i e;exact if_neg e
 have hn:(fun b=>if b=P then none else l b) P=none:=if_pos rfl
 rcases hx with rfl | ⟨c',rfl,hc'⟩
 ·refine kla_makeFunction (mg:=d.mg) hcl n.G.hg T.g hc hC hm.1 trivial rfl hgP ⟨bm,ob,b1,b2,hbG,hbP,b3,b4,b5,b6⟩ fun c' ctv h' tk hx hge hlt hrec htb=>?_
  obtain ⟨c₂,oc,vs,t,e2,hoc,hd,hv⟩:=hrec
  cases e2
  have tc:=n.a.low hge
  have tf:=n.a.low (Nat.le_trans hge (Nat.le_of_lt hlt))
  have a1:=n.a
  rw [← l0] at a1
  have lc:(Led.set (fun b=>if b=P then none else l b) P (tabObj (#[]++#[rawInt pos.line,rawInt pos.col,.ref c']))) c'=none:=(if_neg (Led.ne hP tc.l).symm).trans ((if_neg (Led.ne hP tc.l).symm).trans tc.l)
  have nfc:h'.objs.size≠c':=Nat.ne_of_gt hlt
  have nfP:h'.objs.size≠P:=(Led.ne hP tf.l).symm
  have lf:(Led.set (Led.set (fun b=>if b=P then none else l b) P (tabObj (#[]++#[rawInt pos.line,rawInt pos.col,.ref c']))) c' oc) h'.objs.size=none:=(if_neg nfc).trans ((if_neg nfP).trans ((if_neg nfP).trans tf.l))
  have ncP:c'≠P:=(Led.ne hP tc.l).symm
  refine h _ _ _ ⟨fun b o hb e=>?_,tf.l,⟨_,(if_neg nfP.symm).trans ((if_neg ncP.symm).trans Led.hit),.inr ⟨c',by simp,?_⟩⟩,⟨c',ctv,Led.hit,?_⟩⟩ (.of (t:=tk)) (((((a1.anew hn hx htb).take lc tc.ap ⟨hoc,tc.L,tc.g⟩).moved (bs:=[]) (h':=h'.push (kla_obj name qual params body scope clos ((d.mg "__name__").getD .none) c' ctv)) (fun c o O e=>Heap.get?_push_of_some _ e) fun O hb=>nomatch hb)).take lf tf.ap ⟨Heap.get?_push_size _ rfl,tf.L,tf.g⟩)
  ·exact (if_neg (Led.ne e tf.l)).trans ((if_neg (Led.ne e tc.l)).trans ((if_neg hb).trans ((if_neg hb).trans e)))
  ·exact ⟨oc,vs,t,(if_neg nfc.symm).trans Led.hit,hd,hv⟩
  ·exact ⟨oc,vs,t,(if_neg nfc.symm).trans Led.hit,hd,hv⟩
 ·have hamong:codeAmong pos (#[rawInt pos.line,rawInt pos.col,Value.ref c']:Array Value).toList=some (.ref c'):=by simp [codeAmong,rawInt]
  refine kla_makeFunctionHit (mg:=d.mg) hcl n.G.hg T.g hc hC hm.1 (by simp [TriplesOk,rawInt]) hamong ⟨bm,ob,b1,b2,hbG,hbP,b3,b4,b5,b6⟩ fun ctv h' tk hk hsz=>?_
  have tf:=n.a.low hsz
  have le:l.le (l.set h'.objs.size _):=.new (o:=kla_obj name qual params body scope clos ((d.mg "__name__").getD .none) c' ctv) tf.l
  exact h _ _ _ ⟨fun b o O e=>le _ _ e,tf.l,Tab.le ⟨_,hP,.inr ⟨c',rfl,hc'⟩⟩ le,⟨c',ctv,Led.hit,hc'.le le⟩⟩ (.of (t:=tk)) (((n.a.moved (bs:=[]) (h':=h'.push (kla_obj name qual params body scope clos ((d.mg "__name__").getD .none) c' ctv)) (fun c o O e=>Heap.get?_push_of_some _ (hk _ _ e)) fun O hb=>nomatch hb)).take tf.l tf.ap ⟨Heap.get?_push_size _ rfl,tf.L,tf.g⟩)
theorem LE.lam{p:Pe}{K:CV→Led→Prop}{clos:List (Str × Addr)}{c P:Addr}(ev:Ev d fi cs)(he:vX p.at=true)(hdef:defaultsOf (vR p.at) d.env=([],[]))(hcl:fm fi cs (freeOf (vQ p.at))=some clos)(hc:d.env.code=.ref c)
  (hC:∀ h,(∀ b o,d.base.get? b=some o→h.get? b=some o)→(∀ b o,l b=some o→h.get? b=some o)→CodeHd h c P) (ht:Tab l P (jt p.at) (d.env.qual++"<lambda>"))
  (k:∀ f l',nR l P (jt p.at) (d.env.qual++"<lambda>") (fun c' ctv=>kla_fn "<lambda>" (d.env.qual++"<lambda>") (vR p.at) (xu p.at) (vQ p.at) clos ((d.mg "__name__").getD .none) (.ref c') ctv) f l'→K (.v (.ref f)) l'):LE d r fi (eval p.at d.env) K σ l:=by
 generalize p.at=e at *
 cases e with
 | Lambda params body scope pos =>
  refine ⟨fun m hm=>⟨fun A E g s n=>kla_eval hdef (sI n (bt ev hcl) hc (hC _ (fun O O e=>n.a.up e) fun O O e=>n.a.get e) ht fun f l' s' fn st a=>⟨g,m,l',st,a,_,rfl,.v _,k f l' fn⟩)⟩⟩
 | _=>cases he
end
end
section
set_option backward.match.sparseCases false in
noncomputable def vS:Ex→Ex
 | .Call _ _ (kw::_) _=>kw.value
 | _=>eY
noncomputable def qb:List Value→Sem Value
 | [a,f]=>call (.builtin "sorted") [a] [(Str.ofString "key",f)]
 | _=>pure .none
section
variable {d:Dy}{r:Nat}{fi:Fi}{cs:List Addr}{σ:Sl}{l:Led}
theorem LE.qd{p:Pe}{K:CV→Led→Prop}{fp kp pos:Pos}{a v:Ex}(ev:Ev d fi cs)(e:p.at=.Call (.Name (Str.ofString "sorted") fp) [a] [⟨some (Str.ofString "key"),v,kp⟩] pos)(hs:isStar a=false)(hg:dN (Str.ofString "sorted") fi.gi=some (.builtin "sorted"))
  (h:LE d r fi (eval (p.c 1).at d.env) (fun c l1=>LE d r fi (eval (vS p.at) d.env) (fun c2 l2=>LN d r qb [c,c2] K l2) σ l1) σ l):LE d r fi (eval p.at d.env) K σ l:=by
 have q1:(p.c 1).at=ch p.at 1:=rfl
 rw [q1] at h
 rw [e] at h ⊢
 refine ⟨fun m hm=>⟨fun A E g s n=>wpAny_Call_Name_kw (wpAny_mono ((jD (r:=r) ev (pos:=fp) hg (l:=l) (K:=fun c l'=>c=.v (.builtin "sorted")∧l'=l) ⟨rfl,rfl⟩:Ok d r _ _ m l).run A E g s n) (fun fv s₁ p=>?_) fun O O x=>x)⟩⟩
 induction p with | mk g₁ m₁ l₁ e₁ a₁ k=>cases k with | mk c em is k =>
 obtain ⟨rfl,rfl⟩:=k
 subst em
 cases is
 have N₁:=n.next e₁ a₁
 have he:=fun {rest:List Ex}=>fS hs rest d.env
 have he2:backTo pos (starEach [a] d.env)=(false,eval a d.env)::backTo pos (starEach [] d.env):=by rw [he];rfl
 refine callWith_kw (args_cons (wpAny_mono ((h.run m₁ hm).run A E g₁ s₁ N₁) (fun v1 s₂ p=>args_nil ?_) fun O O x=>x) he) he2 (by rw [he2];rfl) rfl rfl
 induction p with | mk g₂ m₂ l₂ e₂ a₂ k=>cases k with | mk c em is k =>
 subst em
 have N₂:=N₁.next e₂ a₂
 refine kwAll_cons (wpAny_mono ((k.run m₂ hm).run A E g₂ s₂ N₂) (fun v2 s₃ p=>kwAll_nil ?_) fun O O x=>x)
 induction p with | mk g₃ m₃ l₃ e₃ a₃ k=>cases k with | mk c2 em is2 k =>
 subst em
 exact wpAny_mono ((k.run [v1,v2] m₃ (.cons is (.cons is2 .nil))).run A E g₃ s₃ (N₂.next e₃ a₃)) (fun v s' p=>p.then ((e₁.trans e₂).trans e₃)) fun O O x=>x
inductive wD(d:Dy)(g:Heap)(h':Heap)(m:Mp)(l:Led)(rest':List (Addr × Obj)):Prop
 | mk (l':Led) (le:l.le l') (a:At d g h' m l') (k:∀ h'',At d g h'' m l'→Fr g d.L h'' m∧News g d.L h'' rest'):wD d g h' m l rest'
inductive wC(d:Dy)(g h:Heap)(m:Mp)(l:Led):Prop
 | mk (news:List (Addr × Obj)) (F:Fr g d.L h m) (N:News g d.L h news) (mem:wG l news) (fz:∀ p∈d.fz,p∈news) (w:∀ h' rest',(∀ p∈news,p∈rest')→Fr g d.L h' m→News g d.L h' rest'→wD d g h' m l rest'):wC d g h m l
theorem At.wide{g h:Heap}{m:Mp}(a:At d g h m l)(hc:d.cmp=none):wC d g h m l:=by
 have fr:∀ {h l},At d g h m l→Fr g d.L h m:=fun a=>by have W:=a.W;unfold Own at W;rw [hc] at W;exact W
 refine ⟨d.fz++fK h l,fr a,fun p hp=>?_,fun b o e=>List.mem_append_right _ (a.N.mem e),fun p hp=>List.mem_append_left _ hp,fun h' rest' hs F' N'=>?_⟩
 ·rcases List.mem_append.mp hp with hp | hp
  ·have z:=a.Z p hp;exact ⟨z.1,z.2.1,z.2.2.1⟩
  ·exact a.N.news p hp
 ·have key:∀ b o,(∃ o,(b,o)∈rest')∧(∀ p∈d.fz,p.1≠b)→h'.get? b=some o→h'.get? b=some o∧b≠d.L∧g.get? b=none:=fun b o q e=>by
   obtain ⟨⟨o',m'⟩,_⟩:=q
   exact ⟨e,(N' _ m').2⟩
  refine ⟨fun b=>open Classical in if (∃ o,(b,o)∈rest')∧∀ p∈d.fz,p.1≠b then h'.get? b else none,fun b o e=>?_,⟨a.B,fun b o e=>?_,?_,fun p hp=>?_⟩,fun h'' a''=>⟨fr a'',fun p hp=>?_⟩⟩
  ·have m':=hs _ (List.mem_append_right _ (a.N.mem e))
   exact (if_pos ⟨⟨_,m'⟩,fun p hp q=>by have:=(a.Z p hp).2.2.2;rw [q,e] at this;cases this⟩).trans (N' _ m').1
  ·by_cases q:(∃ o,(b,o)∈rest')∧∀ p∈d.fz,p.1≠b
   ·exact key b o q ((if_pos q).symm.trans e)
   ·cases (if_neg q).symm.trans e
  ·unfold Own;rw [hc];exact F'
  ·have m':=hs _ (List.mem_append_left _ hp)
   exact ⟨(N' _ m').1,(N' _ m').2.1,(N' _ m').2.2,if_neg fun q=>q.2 p hp rfl⟩
  ·by_cases hf:∀ q∈d.fz,q.1≠p.1
   ·exact a''.N p.1 p.2 ((if_pos ⟨⟨_,hp⟩,hf⟩).trans (N' p hp).1)
   ·obtain (⟨q,hq,e⟩):∃ q∈d.fz,q.1=p.1:=by
     by_cases h:∃ q∈d.fz,q.1=p.1
     ·exact h
     ·exact absurd (fun q hq e=>h ⟨q,hq,e⟩) hf
    have z:=a''.Z q hq
    have e1:=(N' q (hs _ (List.mem_append_left _ hq))).1
    rw [e,(N' p hp).1] at e1
    rw [e,← Option.some.inj e1] at z
    exact ⟨z.1,z.2.1,z.2.2.1⟩
noncomputable abbrev Dy.fix(d:Dy):Dy:={d with az:=True}
theorem bx.ya{A:Around}{E:Value→Shared→Prop}{g:Heap}{s:Shared}{m:Mp}(n:bx d (r+1) A E g s m l):jN d r A.in1.in1 :=
 ⟨n.R.hd,n.R.fr,by have:=n.R.dep;show A.depth+r+1 < 1000;omega,by have:=n.R.pB;show A.units+1+1+16 * r+64 < 9900;omega⟩
theorem uF{ws:List Value}{ns:List Nat}(h:IntsAre ws (ns.map fun (n:Nat)=>(n:Int))):ar (aq ns) ws:=by
 induction ns generalizing ws with
 | nil=>cases h;exact .nil
 | cons n r ih=>cases h with | cons _ t h=>exact .cons (.int _ _) (ih h)
theorem LN.qd{K:CV→Led→Prop}{a f:Addr}{oD:Obj}{kvs:List (Int × Value)}{es:List Nat}{key:Nat→List Int}(hc:d.cmp=none)(hm:l a=some oD)(hD:oD.IsDictOf (PySem.intKind Pg d.w) kvs)(lo:(a==sysModules)=false)
  (hn:es.Nodup) (h5:es.length≤5) (hkv:∀ k x,(k,x)∈kvs→∃ (i e:Nat) (b:Addr),es[i]?=some e∧k=(e:Int)∧x=.ref b∧HT l b ((key i).map .int)) (hnd:(kvs.map (·.1)).Nodup)
  (hpre:∀ i j,i≤j→j < es.length→key i <+: key j) (hlen:∀ i j,i < j→j < es.length→(key i).length < (key j).length) (hne:∀ i,key i≠[])
  (hcall:∀ (d':Dy) k x l',d'.w=d.w→d'.base=d.base→(k,x)∈kvs→l.le l'→Cl d' r (.ref f) [.int k] (fun c l2=>c=.v x∧l2=l') l') (hx:∀ k x,(k,x)∈kvs→∃ b,x=.ref b)
  (k:∀ D l',Mk l D (ai (aq (es.filter fun (e:Nat)=>decide ((e:Int)∈kvs.map (·.1))))) l'→K (.v (.ref D)) l'):LN d (r+1) qb [.v (.ref a),.v (.ref f)] K l:=⟨fun vs m hv=>⟨fun A E g s n=>by
 refine ar.dg hv fun v w i1 i2=>?_
 cases i1;cases i2
 obtain ⟨news,F,N,mem,fzm,wide⟩:=n.a.wide hc
 show wpAny _ A (call (.builtin "sorted") [.ref a] [(Str.ofString "key",.ref f)]) _ E s
 with_unfolding_all refine og (kw:=[(Str.ofString "key",.ref f)]) (es:=es) (key:=key) (kvs:=kvs) n.R.hd F N (mem _ _ hm) hD lo (ksk_s1 _ _) (fun O=>ksk_l1 _ _) (fun O=>ksk_t1 _ _) hn h5 (fun k x hk=>?_) hnd hpre hlen hne (fun k t x hk rest' s' Q' E' hs F' N' hQ=>?_) fun D c h' tk ws F' N' hw lt=>?_
 ·obtain ⟨i,e,b,h1,h2,h3,h4⟩:=hkv k x hk
  obtain ⟨ws,e4,hw⟩:=HT.at h4
  exact ⟨i,e,b,ws,h1,h2,h3,mem _ _ e4,hw.ints⟩
 ·obtain ⟨l',le,a',back⟩:=wide s'.heap rest' hs F' N'
  let d':Dy:={d with az:=True,may:=False,X:=fun O O=>False,Y:=fun O O=>False}
  have n':bx d' r A.in1.in1 E' g s' m l':=⟨⟨n.G.XB,n.G.TB,n.G.fk,n.G.ff,n.G.hk,n.G.hl,n.G.hg,n.G.hb⟩,⟨n.R.hd,n.R.fr,n.ya.dep,n.ya.pB⟩,⟨a'.B,a'.N,a'.W,a'.Z⟩,fun h=>h.elim,fun a s' th=>by cases th<;>exact False.elim ‹_›⟩
  refine wpAny_mono (((hcall d' k x l' rfl rfl hk le).run [.int k t] m (.cons (.int _ _) .nil)).run A.in1.in1 E' g s' n') (fun v s₂ p=>?_) fun O O x=>x
  induction p with | mk g₂ m₂ l₂ e₂ a₂ q=>cases q with | mk c em is q =>
  obtain ⟨rfl,rfl⟩:=q
  have e3:=e₂.st trivial
  subst e3;subst em
  cases is
  obtain ⟨F2,N2⟩:=back s₂.heap ⟨a₂.B,a₂.N,a₂.W,a₂.Z⟩
  have e4:s₂={s' with heap:=s₂.heap,toks:=s₂.toks}:=by
   obtain ⟨h1,h2,h3⟩:=e₂.e
   cases s₂;cases s';cases h1;cases h2;cases h3;rfl
  rw [e4]
  exact hQ _ _ F2 N2
 ·obtain ⟨l',le,a',back⟩:=wide h' ((D,W.listOf (List.toArray ws) c)::news) (fun O h=>.tail _ h) F' N'
  have lD:l D=none:=by
   cases q:l D with
   | none=>rfl
   | some o=>exact absurd (lt _ (mem _ _ q)) (Nat.lt_irrefl _)
  exact ⟨g,m,_,.of (t:=tk),((a'.sub le).take lD ⟨fun p hp=>Nat.ne_of_lt (lt _ (fzm p hp)),fun p hp=>nomatch hc.symm.trans hp⟩ (N' _ (.head _))),_,rfl,.v _,k _ _ (.set lD ⟨ws,c,rfl,uF hw⟩)⟩⟩⟩
end
end
section
section
variable {fi fi2:Fi}{r:Nat}{d:Dy}{cs:List Addr}{σ:Sl}{l:Led}{b:Bk}{i:Nat}
theorem LS.qh{K:Option CV→Sl→Led→Prop}{cl:List (Str × Addr)}{y:Str}{py pos spos:Pos}{elt target it:Ex}{ifs:List Ex}{scope:Scope}(k sl:Nat)(xs:List CV)(J:Addr→List Addr→Nat→List CV→Led→Prop)(ev:Ev d fi cs)(hS:cC b i=.Assign [.Name y py] (.ListComp elt [⟨target,it,ifs,0⟩] scope pos) spos)(hok:(aM it&&decide (ifs.length=k)&&j7 scope fi2)=true)(hk:k < 2)(hx:slot fi.ns y=some sl)(hsw:swapsWith (.ListComp elt [⟨target,it,ifs,0⟩] scope pos) (some (.Name y py)) spos.line d.env=Pure.pure true)(hcl:fm fi cs fi2.fr=some cl)(hh:xs.all pD=true)(hz:xs.length≤1000)
  (h:∀ P',(∀ a l',HL l' a xs→ak (fun O=>none) fi2.cn (fun as l=>J a as 0 [] l) l'→P' (some (.v (.ref a))) σ l')→go (fi:=fi) (r:=r) ⟨d,cs,P',fun O O=>False⟩ 99 (.e ((Pe.v b i).c 0) .ret) σ l)
  (turn:∀ (d2:Dy) a as P2 Q2 j c ys o l,pj d d2 fi2 (as++cl.map (·.2))→xs[j]?=some c→l a=some o→ai xs o→J a as j ys l→ys.length≤j→(∀ c σ l',l' a=some o→J a as (j+1) (ys++[c]) l'→P2 (some c) σ l')→(∀ σ l',l' a=some o→J a as (j+1) ys l'→Q2 σ l') →
   eu fi2 (as++cl.map (·.2)) c (go (fi:=fi2) (r:=r) ⟨d2,as++cl.map (·.2),P2,Q2⟩ 99 (pX (Pe.v b i) k)) .nil l ((Pe.v b i).c 2).at)
  (fin:∀ a as D ys l l',J a as xs.length ys l→ys.length≤xs.length→Mk l D (ai ys) l'→K none (σ.set sl (.v (.ref D))) l'):LS d r fi (exec (cC b i) d.env) K σ l:=by
 have q:(Pe.v b i).at=.ListComp elt [⟨target,it,ifs,0⟩] scope pos:=congrArg valOf hS
 have q0:((Pe.v b i).c 0).at=it:=congrArg (ch · 0) q
 have q1:((Pe.v b i).c 1).at=elt:=congrArg (ch · 1) q
 have q2:((Pe.v b i).c 2).at=target:=congrArg (ch · 2) q
 have q3:((Pe.v b i).c 3).at=ifs.getD 0 eY:=congrArg (ch · 3) q
 rw [Bool.and_eq_true,Bool.and_eq_true,decide_eq_true_eq] at hok
 have sc:=dG hok.2
 have he:=LE.go (r:=r) (σ:=σ) (l:=l) (p:=(Pe.v b i).c 0) (K:=SrcL d fi2.cn xs fun a cs l=>J a cs 0 [] l) ev fun P' hP=>h P' fun a l' hl j=>hP _ l' (.fC hl j)
 rw [q0,← sc.c] at he
 rw [hS]
 refine ⟨fun m hm=>⟨fun A E g s N=>?_⟩⟩
 rw [exec_Assign_Name_used _ _ _ _ hsw]
 refine wpAny_bind (wpAny_standAt (wpAny_bind ?_))
 show wpAny _ A (do let _ ← comprehension (.ListComp elt [⟨target,it,ifs,0⟩] scope pos) scope d.env _ (newList []) false (eval it d.env) (some (assign (.Name y py) d.env))) _ _ s
 refine wpAny_bind ((Ok.iK (K:=fun O m' l'=>∃ σ',bL fi.ns σ' m'∧K none σ' l') (fun x as i ys l=>LL l xs x∧∃ cs,ar cs ys∧J x.1 as i cs l) hok.1.1 (bt ev (sc.f▸hcl)) sc.k sc.n (Nat.le_trans hz (aj rfl)) (he.run m hm) (fun x cs l j=>⟨j.1,[],.nil,j.2⟩) (fun x as i ys l j=>j.1.1) (fun x i l l' e le=>le _ _ e) (fun d2 x as j c v ys m2 l sub hlt hcv hV hJ hyl=>?_) fun x as A E g s g' s' ys C D oC m2 l N st hJ hy hN hC hD h3=>hJ.2.elim fun cs' j=>?_).wp N fun v s' g' m' l' e n k=>wpAny_pure (wpAny_pure (k.elim fun σ' k=>⟨g',m',l',e,n.a,.next σ' k.1 k.2⟩)))
 ·rw [sc.c] at sub
  have ev2:=sub.ev sc.b ((cN ev hcl).1)
  refine hJ.1.at hh hV fun hc=>hJ.2.elim fun cs' j0=>?_
  let P2:Option CV→Sl→Led→Prop:=fun o O l=>match o with | some c=>LL l xs x∧J x.1 as (j+1) (cs'++[c]) l | none=>False
  let Q2:Sl→Led→Prop:=fun O l=>LL l xs x∧J x.1 as (j+1) cs' l
  have t:=q2▸turn d2 x.1 as P2 Q2 j c cs' _ l ⟨sub.w,sub.base,sub.az,ev2⟩ hc hJ.1.1 ⟨_,_,rfl,hJ.1.2⟩ j0.2 (j0.1.len▸hyl) (fun c σ l e j=>⟨⟨e,hJ.1.2⟩,j⟩) fun σ l e j=>⟨⟨e,hJ.1.2⟩,j⟩
  refine (cX ev2 t hcv bL.nil).mono fun O m2 l q=>q.elim fun σ' q=>jZ (x:=⟨d2,as++cl.map (·.2),P2,Q2⟩) ev2 q.1 hok.1.2 hk q3 q.2 (fun m l hm h=>?_) fun O O h=>⟨h.1,cs',j0.1,h.2⟩
  exact (q1▸h.run _ hm:Ok d2 r (eval elt d2.env) (PV (fun c l=>P2 (some c) σ' l) _) _ _).mono fun v m l pv=>by cases pv with | mk c e is kk=>exact ⟨kk.1,_,j0.1.append (.cons is .nil),kk.2⟩
 ·show wpAny _ A (assign (.Name y py) d.env (.ref D)) _ E s'
  refine wpAny_assign_Name (wpAny_storeName_local (ev.loc y sl hx).1 (N.a.ns N.G) (fun h' hn hs=>?_) (by rw [N.G.hk];rfl))
  have b₄:=N.a.store N.G hn hs
  refine ⟨m2,hN.ns (b₄.get (b:=C) ((Led.off h3).trans Led.hit)),fun h₅ sb=>?_⟩
  rw [Led.comm h3] at b₄
  exact ⟨g',_,_,st.trans (.of (t:=s'.toks+1)),b₄.over (Led.at2 hC h3) sb.extBut,_,hm.set hx (.v _),fin x.1 as D cs' l _ j.2 (j.1.len▸hy) ⟨hD,fun O h=>if_neg h,_,Led.hit,_,_,rfl,j.1⟩⟩
end
end
section
structure ah where
 kind:Str
 val:Str
 par:Option Nat
 kids:List Nat
noncomputable def qs:Option Nat→CV
 | none=>.v .none
 | some n=>.int (n:Int)
noncomputable abbrev uy(d:ah)(c2 c3 c4 c8 c9:CV)(ch:Addr):List (Str × CV):=[(Str.ofString "kind",.str d.kind),(Str.ofString "name",c2),(Str.ofString "uri",c3),(Str.ofString "local",c4),(Str.ofString "value",.str d.val),(Str.ofString "parent",qs d.par),(Str.ofString "children",.v (.ref ch)),(Str.ofString "attributes",c8),(Str.ofString "namespaces",c9)]
inductive rB(l:Led)(av:List Addr)(r ch:Addr)(d:ah):Prop
 | mk (dr:Addr) (c2 c3 c4 c8 c9:CV) (I:Inst l r dr 429 (uy d c2 c3 c4 c8 c9 ch)) (b:dr ∉ av):rB l av r ch d
inductive lh(l:Led)(av:List Addr)(t rl:Addr):Prop
 | mk (dt:Addr) (I:Inst l t dt 618 [(Str.ofString "rows",.v (.ref rl))]) (b:dt ∉ av):lh l av t rl
structure mF(l:Led)(av:List Addr)(r ch:Addr)(d:ah):Prop where
 i:rB l av r ch d
 kids:HL l ch (aq d.kids)
 kz:d.kids.length < 900
 off:r ∉ av∧ch ∉ av
structure cO(l:Led)(av:List Addr)(t:Addr)(D:List ah)(rl:Addr)(rs cs:List Addr):Prop where
 i:lh l av t rl
 rows:HL l rl (rs.map fun r=>.v (.ref r))
 off:t ∉ av∧rl ∉ av
 n1:rs.length=D.length
 n2:cs.length=D.length
 z:D.length < 900
 nd:(rl::cs).Nodup
 row:∀ (i:Nat) d r c,D[i]?=some d→rs[i]?=some r→cs[i]?=some c→mF l av r c d
inductive Tree(l:Led)(av:List Addr)(t:Addr)(D:List ah):Prop
 | mk (rl:Addr) (rs cs:List Addr) (h:cO l av t D rl rs cs):Tree l av t D
theorem rB.map{l l':Led}{av av':List Addr}{r ch:Addr}{d:ah}(h:rB l av r ch d)(k:∀ dx fs,Inst l r dx 429 fs→dx ∉ av→Inst l' r dx 429 fs∧dx ∉ av'):rB l' av' r ch d:=by
 induction h with | mk dr c2 c3 c4 c8 c9 I b=>exact ⟨dr,c2,c3,c4,c8,c9,(k _ _ I b).1,(k _ _ I b).2⟩
theorem lh.map{l l':Led}{av av':List Addr}{t rl:Addr}(h:lh l av t rl)(k:∀ dx fs,Inst l t dx 618 fs→dx ∉ av→Inst l' t dx 618 fs∧dx ∉ av'):lh l' av' t rl:=by
 induction h with | mk dt I b=>exact ⟨dt,(k _ _ I b).1,(k _ _ I b).2⟩
theorem mF.le{l l':Led}{av:List Addr}{r ch:Addr}{d:ah}(h:mF l av r ch d)(le:l.le l'):mF l' av r ch d :=
 ⟨h.i.map fun _ _ i b=>⟨i.le le,b⟩,h.kids.le le,h.kz,h.off⟩
theorem cO.le{l l':Led}{av:List Addr}{t:Addr}{D:List ah}{rl:Addr}{rs cs:List Addr}(h:cO l av t D rl rs cs)(le:l.le l'):cO l' av t D rl rs cs :=
 ⟨h.i.map fun _ _ i b=>⟨i.le le,b⟩,h.rows.le le,h.off,h.n1,h.n2,h.z,h.nd,fun i d r c h1 h2 h3=>(h.row i d r c h1 h2 h3).le le⟩
theorem Tree.le{l l':Led}{av:List Addr}{t:Addr}{D:List ah}(h:Tree l av t D)(le:l.le l'):Tree l' av t D:=by
 induction h with | mk rl rs cs a=>exact ⟨rl,rs,cs,a.le le⟩
section
variable {d:Dy}{r:Nat}{l:Led}{av:List Addr}{t:Addr}{D:List ah}{K:CV→Led→Prop}
theorem aa{α:Type}{l:List α}{i:Nat}(h:i < l.length):∃ x,l[i]?=some x:=⟨_,List.getElem?_eq_getElem h⟩
theorem eT{rl:Addr}{rs cs:List Addr}{i:Nat}{ra:Addr}(hT:cO l av t D rl rs cs)(hr:rs[i]?=some ra)(k:K (.v (.ref ra)) l):Cl d (r+1) (.ref 461) [.v (.ref t),.int (i:Int)] K l:=by
 obtain ⟨⟨dt,I,_⟩,hL,_,n1,_,z,_⟩:=hT
 have hi:i < rs.length:=(List.getElem?_eq_some_iff.mp hr).1
 refine Cl.def {ns:=["self", "node"].map Str.ofString,gi:=[59,0]} (["self", "node"].map Str.ofString) 99 rfl rfl (by kernel_rfl) (fun O O=>rfl) fun d P sb hP ev=>?_
 refine aA.mk (fun h=>?_) fun h=>(by simp at h)
 refine LN.attr I (by kernel_rfl) rfl ?_
 refine LN.cL hL (by simp;omega) ?_
 refine aA.mk (fun h=>?_) fun h=>(by simp at h;omega)
 refine LN.attr I (by kernel_rfl) rfl ?_
 exact LN.aR hL (by omega) (by simp [hr]) (by omega) (hP _ _ _ _ k .rfl)
theorem ju{i:Nat}{dd:ah}(hT:Tree l av t D)(hd:D[i]?=some dd)(k:K (.str dd.kind) l):Cl d (r+2) (.ref 538) [.v (.ref t),.int (i:Int)] K l:=by
 obtain (⟨rl,rs,cs,hT⟩):=hT
 obtain (⟨ra,hr⟩):=aa (l:=rs) (i:=i) (by rw [hT.n1];exact (List.getElem?_eq_some_iff.mp hd).1)
 obtain (⟨ca,hc⟩):=aa (l:=cs) (i:=i) (by rw [hT.n2];exact (List.getElem?_eq_some_iff.mp hd).1)
 obtain (⟨dr,c2,c3,c4,c8,c9,IR,_⟩):=(hT.row i dd ra ca hd hr hc).i
 obtain (⟨dt,I,_⟩):=hT.i
 refine Cl.def {ns:=["self", "node"].map Str.ofString,gi:=[]} (["self", "node"].map Str.ofString) 99 rfl rfl (by kernel_rfl) (fun O O=>rfl) fun d P sb hP ev=>?_
 refine bG.own 461 I (by kernel_rfl) ?_
 refine eT hT hr ?_
 exact LN.attr IR (by kernel_rfl) rfl (hP _ _ _ _ k .rfl)
theorem pN{i:Nat}{dd:ah}(hT:Tree l av t D)(hd:D[i]?=some dd)(k:K (.str dd.val) l):Cl d (r+2) (.ref 566) [.v (.ref t),.int (i:Int)] K l:=by
 obtain (⟨rl,rs,cs,hT⟩):=hT
 obtain (⟨ra,hr⟩):=aa (l:=rs) (i:=i) (by rw [hT.n1];exact (List.getElem?_eq_some_iff.mp hd).1)
 obtain (⟨ca,hc⟩):=aa (l:=cs) (i:=i) (by rw [hT.n2];exact (List.getElem?_eq_some_iff.mp hd).1)
 obtain (⟨dr,c2,c3,c4,c8,c9,IR,_⟩):=(hT.row i dd ra ca hd hr hc).i
 obtain (⟨dt,I,_⟩):=hT.i
 refine Cl.def {ns:=["self", "node"].map Str.ofString,gi:=[]} (["self", "node"].map Str.ofString) 99 rfl rfl (by kernel_rfl) (fun O O=>rfl) fun d P sb hP ev=>?_
 refine bG.own 461 I (by kernel_rfl) ?_
 refine eT hT hr ?_
 exact LN.attr IR (by kernel_rfl) rfl (hP _ _ _ _ k .rfl)
theorem oz{i:Nat}{dd:ah}(hT:Tree l av t D)(hd:D[i]?=some dd)(k:K (qs dd.par) l):Cl d (r+2) (.ref 573) [.v (.ref t),.int (i:Int)] K l:=by
 obtain (⟨rl,rs,cs,hT⟩):=hT
 obtain (⟨ra,hr⟩):=aa (l:=rs) (i:=i) (by rw [hT.n1];exact (List.getElem?_eq_some_iff.mp hd).1)
 obtain (⟨ca,hc⟩):=aa (l:=cs) (i:=i) (by rw [hT.n2];exact (List.getElem?_eq_some_iff.mp hd).1)
 obtain (⟨dr,c2,c3,c4,c8,c9,IR,_⟩):=(hT.row i dd ra ca hd hr hc).i
 obtain (⟨dt,I,_⟩):=hT.i
 refine Cl.def {ns:=["self", "node"].map Str.ofString,gi:=[]} (["self", "node"].map Str.ofString) 99 rfl rfl (by kernel_rfl) (fun O O=>rfl) fun d P sb hP ev=>?_
 refine bG.own 461 I (by kernel_rfl) ?_
 refine eT hT hr ?_
 exact LN.attr IR (by kernel_rfl) rfl (hP _ _ _ _ k .rfl) (by cases dd.par<;>rfl)
theorem dB{i:Nat}{dd:ah}(hT:Tree l av t D)(hd:D[i]?=some dd)(k:∀ a l',Mk l a (ai (aq dd.kids)) l'→K (.v (.ref a)) l'):Cl d (r+2) (.ref 580) [.v (.ref t),.int (i:Int)] K l:=by
 obtain (⟨rl,rs,cs,hT⟩):=hT
 obtain (⟨ra,hr⟩):=aa (l:=rs) (i:=i) (by rw [hT.n1];exact (List.getElem?_eq_some_iff.mp hd).1)
 obtain (⟨ca,hc⟩):=aa (l:=cs) (i:=i) (by rw [hT.n2];exact (List.getElem?_eq_some_iff.mp hd).1)
 have R:=hT.row i dd ra ca hd hr hc
 obtain (⟨dr,c2,c3,c4,c8,c9,IR,_⟩):=R.i
 obtain (⟨dt,I,_⟩):=hT.i
 refine Cl.def {ns:=["self", "node"].map Str.ofString,gi:=[69]} (["self", "node"].map Str.ofString) 99 rfl rfl (by kernel_rfl) (fun O O=>rfl) fun d P sb hP ev=>?_
 refine bG.own 461 I (by kernel_rfl) ?_
 refine eT hT hr ?_
 refine LN.attr IR (by kernel_rfl) rfl ?_
 exact LN.copy R.kids (by have:=R.kz;simp;omega) fun a l' mk=>hP _ _ _ _ (k _ _ mk) .rfl
end
end
section
inductive yL(a b:Int)(l:Led)(n:Nat)(σ:Sl)(l':Led):Prop
 | mk (x y:Nat) (e:σ=.c (.int a) (.c (.int b) (.c (.int x) (.c (.int y) .nil)))) (el:l'=l) (en:n=y) (h:Nat.gcd x y=Int.gcd a b):yL a b l n σ l'
noncomputable abbrev pF:Str:=Str.ofString "0123456789"
noncomputable abbrev spS:Str:=Str.ofString " \t\n\x0d"
noncomputable def dZ(y x:Str)(i:Nat):Bool:=!(Builtin.Str.occurrences y (Txt.item x (i:Int)) 0 y.length 1).isEmpty
noncomputable def scan(p:Nat→Bool):Nat→Nat→Nat
 | 0,a=>a
 | n+1,a=>if p a then scan p n (a+1) else a
noncomputable def gh(p:Nat→Bool):Nat→Nat→Nat
 | 0,e=>e
 | n+1,e=>if p (e - 1) then gh p n (e - 1) else e
noncomputable def vp(x:Str):Nat→Int
 | 0=>0
 | i+1=>vp x i * 10+Txt.find pF ⟨#[x.cps.getD i 0]⟩
noncomputable def rd(x:Str):Bool:=x.cps.all fun k=>decide (k < 128)&&!(Builtin.Str.occurrences pF ⟨#[k]⟩ 0 pF.length 1).isEmpty
section
variable {d:Dy}{r:Nat}{l:Led}{K:CV→Led→Prop}
theorem uR{a b:Int}(hb:0≤b)(k:K (.int (Int.gcd a b)) l):Cl d (r+1) (.ref 204) [.int a,.int b] K l:=by
 refine Cl.def {ns:=nm ["one", "other", "first", "second"],gi:=[60]} (nm ["one", "other"]) 99 rfl rfl (by kernel_rfl) (fun O O=>rfl) fun d P sb hP ev=>?_
 refine LN.abs ?_
 refine LS.bq (yL a b l) b.toNat ev sb.may sb.ay (by kernel_rfl) .rfl ⟨a.natAbs,b.toNat,?_,rfl,rfl,?_⟩ ?_
 ·rw [Int.toNat_of_nonneg hb];rfl
 ·rw [Int.gcd,show b.toNat=b.natAbs by omega]
 ·rintro P1 Q1 n σ l' ⟨x,y,rfl,rfl,rfl,e⟩ next ret exit
  refine aA.mk (fun h=>?_) fun h=>exit _ _ ?_
  ·have h:=of_decide_eq_true h
   refine And.intro (by omega) ?_
   refine next (x % n) _ _ _ (Nat.mod_lt _ (by omega)) .rfl ⟨n,x % n,?_,rfl,rfl,?_⟩
   ·exact congrArg (fun z=>Sl.c (.int a) (.c (.int b) (.c (.int (n:Int)) (.c (.int z) .nil)))) (show Int.fmod (x:Int) n=((x % n:Nat):Int) by rw [Int.fmod_eq_emod_of_nonneg _ (by omega)];rfl)
   ·rw [Nat.gcd_comm,← Nat.gcd_rec,Nat.gcd_comm];exact e
  ·have h:=of_decide_eq_false h
   have:n=0:=by omega
   subst this
   rw [Nat.gcd_zero_right] at e
   exact hP _ _ _ _ (e▸k) .rfl
theorem d6{a b:Int}(hb:0 < b)(hb2:b < 1000000000)(k:∀ x l',Mk l x (bJ [.int (a.fdiv (Int.gcd a b)),.int (b.fdiv (Int.gcd a b))]) l'→K (.v (.ref x)) l'):Cl d (r+2) (.ref 219) [.int a,.int b] K l:=by
 refine Cl.oZ {ns:=nm ["top", "bottom", "common"],gi:=[13,12]} (nm ["top", "bottom"]) [] rfl rfl rfl rfl .nil (by kernel_rfl) (fun O O=>⟨_,rfl,rfl⟩) fun d P sb hP ev=>?_
 have g0:0 < Int.gcd a b:=Nat.pos_of_ne_zero fun e=>by rw [Int.gcd_eq_zero_iff] at e;omega
 have g1:(Int.gcd a b:Int)≤b:=Int.le_of_dvd hb (Int.gcd_dvd_right ..)
 have np:∀ x,Builtin.divisionGoesByPylong x (Int.gcd a b:Int)=false:=fun x=>PyProof.noPylong_small (by omega)
 refine aA.mk (fun h=>(by simp at h;omega)) fun O=>?_
 refine aA.mk (fun h=>(by simp at h;omega)) fun O=>?_
 refine uR (by omega) ?_
 refine And.intro ⟨by omega,np _⟩ ?_
 refine And.intro ⟨by omega,np _⟩ ?_
 exact LN.au (aj rfl) fun x l' m=>hP _ _ _ _ (k x l' m) .rfl
theorem lU{x:Addr}{a b:Int}(hx:HT l x [.int a,.int b])(k:∀ x l',Mk l x (bJ [.int (-a),.int b]) l'→K (.v (.ref x)) l'):Cl d (r+1) (.ref 233) [.v (.ref x)] K l:=by
 refine Cl.def {ns:=nm ["a"],gi:=[]} (nm ["a"]) 99 rfl rfl (by kernel_rfl) (fun O=>rfl) fun d P sb hP ev=>?_
 refine LN.cJ hx (by decide) rfl (by decide) ?_
 refine LN.cJ hx (by decide) rfl (by decide) ?_
 exact LN.au (aj rfl) fun x l' m=>hP _ _ _ _ (k x l' m) .rfl
theorem iN{x:Addr}{a b:Int}(hx:HT l x [.int a,.int b])(k:K (.v (.bool (b==0&&a==0))) l):Cl d (r+1) (.ref 226) [.v (.ref x)] K l:=by
 refine Cl.def {ns:=nm ["a"],gi:=[]} (nm ["a"]) 99 rfl rfl (by kernel_rfl) (fun O=>rfl) fun d P sb hP ev=>?_
 refine LE.xH .And ev (by kernel_rfl) fun P' hP'=>?_
 refine LN.cJ hx (by decide) rfl (by decide) ?_
 refine hP' _ _ (aA.mk (fun h=>LE.go ev fun P'' hP''=>?_) fun h=>hP _ _ _ _ ?_ .rfl)
 ·refine LN.cJ hx (by decide) rfl (by decide) (hP'' _ _ (hP _ _ _ _ ?_ .rfl))
  rw [h] at k;exact k
 ·rw [h] at k;rw [h];exact k
inductive yQ(x:Str)(at_:Nat)(l:Led)(n:Nat)(σ:Sl)(l':Led):Prop
 | mk (b:Nat) (e:σ=.c (.str x) (.c (.int b) .nil)) (el:l'=l) (en:n=x.length - b) (h:scan (dZ pF x) n b=scan (dZ pF x) (x.length - at_) at_):yQ x at_ l n σ l'
theorem bC{x:Str}{at_:Nat}(hz:x.length≤1000)(k:K (.int (scan (dZ pF x) (x.length - at_) at_)) l):Cl d (r+1) (.ref 240) [.str x,.int at_] K l:=by
 refine Cl.def {ns:=nm ["text", "at"],gi:=[59,56]} (nm ["text", "at"]) 99 rfl rfl (by kernel_rfl) (fun O O=>rfl) fun d P sb hP ev=>?_
 refine LS.bq (yQ x at_ l) (x.length - at_) ev sb.may sb.ay (by kernel_rfl) (.c (.c .nil)) ⟨at_,rfl,rfl,rfl,rfl⟩ ?_
 rintro P1 Q1 n σ l' ⟨b,rfl,rfl,e1,e2⟩ next ret exit
 refine LN.eZ (by omega) ?_
 refine aA.mk (fun h=>?_) fun h=>exit _ _ ?_
 ·have h:=of_decide_eq_true h
  obtain (⟨n,rfl⟩):∃ m,n=m+1:=⟨n - 1,by omega⟩
  refine LN.gH (by omega) (by omega) (by omega) ?_
  refine aA.mk (fun h2=>?_) fun h2=>exit _ _ ?_
  ·exact next n _ _ _ (by omega) .rfl ⟨b+1,rfl,rfl,by omega,by rw [← e2,scan,if_pos (show dZ pF x b=true from h2)]⟩
  ·rw [scan,if_neg (by rw [show dZ pF x b=false from h2];decide)] at e2
   exact hP _ _ _ _ (e2▸k) .rfl
 ·have h:=of_decide_eq_false h
  obtain rfl:n=0:=by omega
  have e2:b=_:=e2
  exact hP _ _ _ _ (e2▸k) .rfl
noncomputable def bS(x:Str):Str:=Txt.slice x (some ((scan (dZ spS x) x.length 0:Nat):Int)) (some ((gh (dZ spS x) (x.length - scan (dZ spS x) x.length 0) x.length:Nat):Int))
inductive yp(x:Str)(l:Led)(n:Nat)(σ:Sl)(l':Led):Prop
 | mk (b:Nat) (e:σ=.c (.str x) (.c (.int b) (.c (.int x.length) .nil))) (el:l'=l) (en:b+n=x.length) (h:scan (dZ spS x) n b=scan (dZ spS x) x.length 0):yp x l n σ l'
inductive yo(x:Str)(b:Nat)(l:Led)(n:Nat)(σ:Sl)(l':Led):Prop
 | mk (e:Nat) (es:σ=.c (.str x) (.c (.int b) (.c (.int e) .nil))) (el:l'=l) (en:e=b+n) (h1:e≤x.length) (h:gh (dZ spS x) n e=gh (dZ spS x) (x.length - b) x.length):yo x b l n σ l'
theorem y1{b n L:Nat}(e:b+n=L)(h:(b:Int) < (L:Int)):∃ m,n=m+1:=match n,e with
 | 0,e=>absurd (show b < b+0 from e▸Int.ofNat_lt.mp h) (Nat.lt_irrefl b)
 | m+1,_=>⟨m,rfl⟩
theorem y2{b n L:Nat}(e:b+n=L)(h:¬ (b:Int) < (L:Int)):n=0:=Nat.eq_zero_of_le_zero (Nat.le_of_add_le_add_left (e▸Nat.le_of_not_lt fun q=>h (Int.ofNat_lt.mpr q)))
theorem y3{b L:Nat}:-(L:Int)≤(b:Int):=Int.le_trans (Int.neg_nonpos_of_nonneg (Int.natCast_nonneg L)) (Int.natCast_nonneg b)
theorem y4{b n L:Nat}(e:b+(n+1)=L):b+1+n=L:=(Nat.add_right_comm b 1 n).trans e
theorem y7{b n L:Nat}(e:b+n=L):L - b=n:=by rw [← e];exact Nat.add_sub_cancel_left ..
theorem y9{b n:Nat}:(((b+(n+1):Nat):Int) - 1)=((b+n:Nat):Int):=by rw [← Nat.add_assoc,Int.natCast_add];exact Int.add_sub_cancel _ 1
theorem y5{b n L:Nat}(e:b+(n+1)≤L):-(L:Int)≤((b+(n+1):Nat):Int) - 1:=by rw [y9];exact y3
theorem y6{b n L:Nat}(e:b+(n+1)≤L):((b+(n+1):Nat):Int) - 1 < (L:Int):=by rw [y9];exact Int.ofNat_lt.mpr e
theorem lF{x:Str}(hz:x.length≤1000)(k:K (.str (bS x)) l):Cl d (r+1) (.ref 247) [.str x] K l:=by
 refine Cl.def {ns:=nm ["text", "begin", "end"],gi:=[59,55]} (nm ["text"]) 99 rfl rfl (by kernel_rfl) (fun O=>rfl) fun d P sb hP ev=>?_
 refine LN.eZ (by omega) ?_
 refine LS.bq (yp x l) x.length ev sb.may sb.ay (by kernel_rfl) (.c (.c (.c .nil))) ⟨0,rfl,rfl,Nat.zero_add _,rfl⟩ ?_
 rintro P1 Q1 n σ l' ⟨b,rfl,rfl,e1,e2⟩ next ret exit
 have tail:scan (dZ spS x) x.length 0=b→Q1 (.c (.str x) (.c (.int b) (.c (.int x.length) .nil))) l':=fun hb=>exit _ _ (by
  refine LS.bq (yo x b _) n ev sb.may sb.ay (by kernel_rfl) .rfl ⟨x.length,rfl,rfl,e1.symm,Nat.le_refl _,by rw [y7 e1]⟩ ?_
  rintro P1 Q1 n σ l' ⟨e,rfl,rfl,e3,e4,e5⟩ next ret exit
  have fin:gh (dZ spS x) (x.length - b) x.length=e→Q1 (.c (.str x) (.c (.int b) (.c (.int e) .nil))) l':=fun he=>exit _ _ (by
   refine bX.str (some (b:Int)) (some (e:Int)) hz (hP _ _ _ _ ?_ .rfl)
   unfold bS at k
   rw [hb,he] at k
   exact k)
  refine aA.mk (fun h=>?_) fun h=>fin ?_
  ·have h:=of_decide_eq_true h
   obtain ⟨n,rfl⟩:=y1 e3.symm h
   subst e3
   refine LN.gH (by omega) (y5 e4) (y6 e4) ?_
   have ee:=y9 (b:=b) (n:=n)
   rw [ee]
   refine aA.mk (fun h2=>?_) fun h2=>fin ?_
   ·exact next n _ _ _ (Nat.lt_succ_self _) .rfl ⟨b+n,congrArg (fun z=>Sl.c (.str x) (.c (.int b) (.c (.int z) .nil))) ee,rfl,rfl,Nat.le_of_succ_le e4,by rw [← e5,gh];exact (if_pos (show dZ spS x (b+n)=true from h2)).symm⟩
   ·rw [← e5,gh];exact if_neg (fun q=>by rw [show dZ spS x (b+(n+1) - 1)=false from h2] at q;cases q)
  ·have h:=of_decide_eq_false h
   obtain rfl:=y2 e3.symm h
   exact e5.symm)
 refine aA.mk (fun h=>?_) fun h=>tail ?_
 ·have h:=of_decide_eq_true h
  obtain ⟨n,rfl⟩:=y1 e1 h
  refine LN.gH (by omega) y3 h ?_
  refine aA.mk (fun h2=>?_) fun h2=>tail ?_
  ·exact next n _ _ _ (Nat.lt_succ_self _) .rfl ⟨b+1,rfl,rfl,y4 e1,by rw [← e2,scan,if_pos (show dZ spS x b=true from h2)]⟩
  ·rw [← e2,scan,if_neg (by rw [show dZ spS x b=false from h2];decide)]
 ·have h:=of_decide_eq_false h
  obtain rfl:=y2 e1 h
  exact e2.symm
theorem fA{x:Str}(hz:rd x=true)(k:K (.int (vp x x.cps.size)) l):Cl d (r+1) (.ref 254) [.str x] K l:=by
 have hz:=Array.all_eq_true.mp hz
 refine Cl.def {ns:=nm ["digits", "number", "digit"],gi:=[56]} (nm ["digits"]) 99 rfl rfl (by kernel_rfl) (fun O=>rfl) fun d P sb hP ev=>?_
 refine LS.uS (α:=Unit) (V:=fun O i c=>∃ k,x.cps[i]?=some k∧c=.str ⟨#[k]⟩) (S:=fun O O O=>True) (It:=fun O i o=>o.cls=.type "str_ascii_iterator"∧∃ t,o.data=.fields #[.str x t,.int i 0]) (fun O i σ l'=>σ=.c (.str x) (.c (.int (vp x i)) .nil)∧l'=l) (fun O=>x.cps.size) ev sb.may sb.ay (by kernel_rfl) (fun P' hP'=>hP' () _ _ _ (.c (.c .nil)) (bQ.str (Array.all_eq_true.mpr fun i hi=>(Bool.and_eq_true _ _▸hz i hi).1) fun O O=>True) ⟨rfl,rfl⟩) (fun O O O O O=>trivial) ?_ ?_
 ·rintro d1 P1 _ i c _ _ s1 hi ⟨q,hq,rfl⟩ ⟨rfl,rfl⟩ next ret
  have hd:=hz i hi
  rw [Bool.and_eq_true] at hd
  have e1:q=x.cps[i]:=by rw [Array.getElem?_eq_getElem hi] at hq;exact (Option.some.inj hq).symm
  have e2:x.cps.getD i 0=q:=by rw [Array.getD_eq_getD_getElem?,hq];rfl
  refine And.intro (IntMulOk.of_right (by decide)) ?_
  refine bG.str "str.index" F.slot_str_index F.type_str_index ?_
  refine LN.uH (by rw [e1];simpa using hd.2) ?_
  exact next _ _ _ (.c (.c .nil)) ⟨by rw [vp,e2],rfl⟩
 ·rintro _ _ _ ⟨rfl,rfl⟩
  exact hP _ _ _ _ k .rfl
noncomputable def tT(t:Str):Nat:=if (Txt.slice t none (some 1)==Str.ofString "-")=true then 1 else 0
noncomputable def gn(t:Str):Nat:=scan (dZ pF t) (t.length - tT t) (tT t)
noncomputable def vF(t:Str):Nat:=scan (dZ pF t) (t.length - (gn t+1)) (gn t+1)
noncomputable def rJ(t:Str):Str:=Txt.slice t (some (tT t:Int)) (some (gn t:Int))
noncomputable def mY(t:Str):Str:=Txt.slice t (some ((gn t:Int)+1)) (some (vF t:Int))
noncomputable def qk(t:Str):Int:=vp (rJ t++mY t) (rJ t++mY t).cps.size
noncomputable def ql(t:Str):Int:=(Int.gcd (qk t) (10 ^ (mY t).length):Nat)
noncomputable def mX(t:Str):Int:=((10:Int) ^ (mY t).length).fdiv (ql t)
noncomputable def iF(t:Str):Int:=if tT t=1 then -((qk t).fdiv (ql t)) else (qk t).fdiv (ql t)
noncomputable def je(t:Str):Bool:=decide (t.length≤100)&&(Txt.slice t (some (gn t:Int)) (some ((gn t:Int)+1))==Str.ofString ".")&&!decide (vF t < t.length)&&!(rJ t++mY t==Str.ofString "")&&rd (rJ t++mY t)&&decide ((rJ t).length+(mY t).length≤100)&&decide ((mY t).length≤8)
theorem gm{x:Str}(hz:x.length≤100)(h:je (bS x)=true)(k:∀ z l',Mk l z (bJ [.int (iF (bS x)),.int (mX (bS x))]) l'→K (.v (.ref z)) l'):Cl d (r+3) (.ref 261) [.str x] K l:=by
 refine Cl.def {ns:=nm ["text", "told", "begin", "end", "whole", "parts", "last", "found"],gi:=[18,17,59,54,14,19,16]} (nm ["text"]) 400 rfl rfl (by kernel_rfl) (fun O=>rfl) fun d P sb hP ev=>?_
 refine lF (by omega) ?_
 generalize bS x=t at h k
 refine wz h of_decide_eq_true id (fun h=>of_decide_eq_false ((Bool.not_eq_true' _).mp h)) (fun h=>beq_eq_false_iff_ne.mp ((Bool.not_eq_true' _).mp h)) id of_decide_eq_true of_decide_eq_true fun h1 h2 h3 h4 h5 h6 h7=>?_
 have hpos:(0:Int) < 10 ^ (mY t).length:=Int.pow_pos (by decide)
 have hlt:(10:Int) ^ (mY t).length < 1000000000:=by
  have:(10:Int) ^ (mY t).length=((10 ^ (mY t).length:Nat):Int):=by simp
  have:10 ^ (mY t).length≤10 ^ 8:=Nat.pow_le_pow_right (by decide) h7
  omega
 have eP:(Txt.slice t (some ((gn t:Int)+1)) (some (vF t:Int))).length≤8:=h7
 have sz:(rJ t).length+(mY t).length≤sizeLine:=by rw [PySem.sizeLine_eq];omega
 refine bX.str none (some 1) (by omega) ?_
 refine aA.mk (fun e=>?_) fun e=>?_
 all_goals first
  | have hb:tT t=1:=by unfold tT;rw [if_pos e]
  | have hb:tT t=0:=by unfold tT;rw [if_neg (by rw [e];decide)]
 ·have eE:scan (dZ pF t) (t.length - 1) 1=gn t:=by unfold gn;rw [hb]
  have eW:Txt.slice t (some 1) (some (gn t:Int))=rJ t:=by unfold rJ;rw [hb];rfl
  refine bC (at_:=1) (by omega) ?_
  rw [eE]
  refine bX.str (some 1) (some (gn t:Int)) (by omega) ?_
  rw [eW]
  refine bX.str (some (gn t:Int)) (some ((gn t:Int)+1)) (by omega) ?_
  refine aA.mk (fun O=>?_) fun e=>absurd (h2.symm.trans e) (by decide)
  refine bC (at_:=gn t+1) (by omega) ?_
  refine bX.str (some ((gn t:Int)+1)) (some (vF t:Int)) (by omega) ?_
  refine LN.eZ (by omega) ?_
  refine aA.mk (fun h=>absurd (of_decide_eq_true h) fun h=>h3 (Int.ofNat_lt.mp h)) fun O=>?_
  refine And.intro sz ?_
  refine aA.mk (fun h=>absurd (eq_of_beq h) h4) fun O=>?_
  refine And.intro sz ?_
  refine fA h5 ?_
  refine LN.eZ (by omega) ?_
  refine LN.pow10 (by omega) ?_
  refine d6 hpos hlt fun y l1 m1=>?_
  refine aA.yes ?_
  refine lU m1.is fun z l2 m2=>?_
  obtain ⟨l3,m3,le⟩:=Mk.out m1.le m2
  refine hP _ _ _ _ (k _ _ ?_) le
  unfold iF
  rw [if_pos hb]
  exact m3
 ·have eE:scan (dZ pF t) (t.length - 0) 0=gn t:=by unfold gn;rw [hb]
  have eW:Txt.slice t (some 0) (some (gn t:Int))=rJ t:=by unfold rJ;rw [hb];rfl
  refine bC (at_:=0) (by omega) ?_
  rw [eE]
  refine bX.str (some 0) (some (gn t:Int)) (by omega) ?_
  rw [eW]
  refine bX.str (some (gn t:Int)) (some ((gn t:Int)+1)) (by omega) ?_
  refine aA.mk (fun O=>?_) fun e=>absurd (h2.symm.trans e) (by decide)
  refine bC (at_:=gn t+1) (by omega) ?_
  refine bX.str (some ((gn t:Int)+1)) (some (vF t:Int)) (by omega) ?_
  refine LN.eZ (by omega) ?_
  refine aA.mk (fun h=>absurd (of_decide_eq_true h) fun h=>h3 (Int.ofNat_lt.mp h)) fun O=>?_
  refine And.intro sz ?_
  refine aA.mk (fun h=>absurd (eq_of_beq h) h4) fun O=>?_
  refine And.intro sz ?_
  refine fA h5 ?_
  refine LN.eZ (by omega) ?_
  refine LN.pow10 (by omega) ?_
  refine d6 hpos hlt fun y l1 m1=>?_
  refine aA.no ?_
  refine hP _ _ _ _ (k _ _ ?_) .rfl
  unfold iF
  rw [if_neg (by rw [hb];decide)]
  exact m1
end
end
section
inductive Flat(D:List ah):List Nat→List Nat→Prop
 | nil:Flat D [] []
 | cons {x:Nat} {d:ah} {st rest:List Nat}:D[x]?=some d→Flat D (d.kids++st) rest→Flat D (x::st) (x::rest)
theorem Flat.len{D:List ah}{st rest:List Nat}(h:Flat D st rest):st.length≤rest.length:=by
 induction h with
 | nil=>exact Nat.le_refl _
 | cons _ _ ih=>rw [List.length_append] at ih;exact Nat.succ_le_succ (Nat.le_trans (Nat.le_add_left ..) ih)
inductive iu(D:List ah):Option Nat→List Nat→Prop
 | nil:iu D none []
 | cons {x:Nat} {d:ah} {rest:List Nat}:D[x]?=some d→iu D d.par rest→iu D (some x) (x::rest)
section
variable {d:Dy}{r:Nat}{l:Led}{av:List Addr}{t:Addr}{D:List ah}{K:CV→Led→Prop}
theorem Up.le{l l1 l2:Led}{a:Addr}{P:Obj→Prop}(k:Up l1 a P l2)(le:l.le l1)(f:l a=none):l.le l2:=fun b o e=>(k.but b (Led.ne e f)).trans (le _ _ e)
theorem Tree.iJ{name:Str}{C':Value→List CV→Prop}(hT:Tree l av t D)(f:Addr)(hB:qz (K39 d.w.params) 618 name f=true)(k:C' (.ref f) [.v (.ref t)])(hl:(name==Str.ofString "rows")=false:=by rfl):bG d r (.v (.ref t)) name l C':=by
 obtain (⟨rl,rs,cs,hT⟩):=hT
 obtain (⟨dt,I,_⟩):=hT.i
 exact .own f I hB k (by rw [List.lookup_cons,hl];rfl)
theorem aT(a b:List Nat):aq (a++b)=aq a++aq b:=List.map_append
theorem gF(a:List Nat):aq a.reverse=(aq a).reverse:=List.map_reverse
inductive yV(l:Led)(D:List ah)(t f:Addr)(i:Nat)(out:List Nat)(n:Nat)(σ:Sl)(l':Led):Prop
 | mk (g:Addr) (done st:List Nat) (e:σ=.c (.v (.ref t)) (.c (.int i) (.c (.v (.ref f)) (.c (.v (.ref g)) .nil)))) (le:l.le l') (fg:l g=none) (ne:f≠g) (h1:HL l' f (aq done)) (h2:HL l' g (aq st.reverse)) (rest:List Nat) (fl:Flat D st rest) (ho:done++rest=out) (hn:n=rest.length):yV l D t f i out n σ l'
theorem mC{i:Nat}{dd:ah}{out:List Nat}(hT:Tree l av t D)(hd:D[i]?=some dd)(hfl:Flat D dd.kids out)(hz:out.length≤900)(k:∀ a l',Mk l a (ai (aq out)) l'→K (.v (.ref a)) l'):Cl d (r+3) (.ref 302) [.v (.ref t),.int (i:Int)] K l:=by
 refine Cl.def {ns:=nm ["tree", "node", "found", "left", "here"],gi:=[]} (nm ["tree", "node"]) 99 rfl rfl (by kernel_rfl) (fun O O=>rfl) fun d P sb hP ev=>?_
 refine LN.ag (Nat.zero_le _) fun f l1 m1=>?_
 refine (hT.le m1.le).iJ 580 (by kernel_rfl) ?_
 refine dB (hT.le m1.le) hd fun c l2 m2=>?_
 have z1:dd.kids.length≤900:=Nat.le_trans hfl.len hz
 refine bX.rev m2.is (by rw [List.length_map];omega) fun g l3 m3=>?_
 refine LS.bq (yV l D t f i out) out.length ev sb.may sb.ay (by kernel_rfl) (.c (.c (.c (.c .nil))))
  ⟨g,[],dd.kids,rfl,((m1.le.trans m2.le).trans m3.le),(m1.le.trans m2.le).none m3.fresh,m1.is.ne (m2.le.none m3.fresh),m1.is.le (m2.le.trans m3.le),(by rw [gF];exact m3.is),out,hfl,rfl,rfl⟩ ?_
 rintro P1 Q1 n σ l4 ⟨g,done,st,rfl,le4,fg,nfg,hf,hg,rest,hf2,rfl,rfl⟩ next ret exit
 rw [List.length_append] at hz
 have zs:=hf2.len
 refine LN.ag (Nat.zero_le _) fun e l5 m5=>?_
 refine LN.d7 (m5.keep hg) m5.is ?_
 rw [List.length_map,List.length_reverse]
 induction hf2 with
 | nil =>
  refine aA.no (exit _ _ ?_)
  obtain ⟨l6,m6,le6⟩:=Mk.fin (le4.trans m5.le) m1.fresh (m5.keep hf)
  exact hP _ _ _ _ (k _ _ (by rw [List.append_nil];exact m6)) le6
 | @cons x dx st rest hdx hf3 =>
  refine aA.yes ?_
  have hg:=m5.keep hg
  rw [List.reverse_cons,aT] at hg
  refine bG.lst "list.pop" hg F.slot_list_pop F.type_list_pop ?_
  have zr:(aq st.reverse).length≤900:=by rw [List.length_map,List.length_reverse];exact Nat.le_trans (Nat.le_of_succ_le zs) (Nat.le_trans (Nat.le_add_left ..) hz)
  have zd:(aq done).length≤900:=by rw [List.length_map];exact Nat.le_trans (Nat.le_add_right ..) hz
  refine LN.pop hg (Nat.le_trans zr (by decide)) fun l6 u6=>?_
  have hf6:=u6.keep (m5.keep hf) nfg
  refine bG.lst "list.append" hf6 F.slot_list_append F.type_list_append ?_
  refine LN.append hf6 (Nat.le_trans zd (by decide)) fun l7 u7=>?_
  have le7:=u7.le (u6.le (le4.trans m5.le) fg) m1.fresh
  refine (hT.le le7).iJ 580 (by kernel_rfl) ?_
  refine dB (hT.le le7) hdx fun c l8 m8=>?_
  have zk:=hf3.len
  rw [List.length_append] at zk
  have zk':dx.kids.length≤900:=Nat.le_trans (Nat.le_trans (Nat.le_add_right ..) zk) (Nat.le_trans (Nat.le_succ _) (Nat.le_trans (Nat.le_add_left ..) hz))
  refine bX.rev m8.is (by rw [List.length_map];exact Nat.le_trans zk' (by decide)) fun q l9 m9=>?_
  have le79:=m8.le.trans m9.le
  refine LN.vb ((u7.keep u6.is nfg.symm).le le79) m9.is (by rw [List.length_reverse,List.length_map,List.length_map,List.length_reverse];simp only [List.length_cons] at hz zs;omega) fun q2 l10 m10=>?_
  refine next rest.length _ _ _ (Nat.lt_succ_self _) (.c (.c (.c (.c .nil)))) ⟨q2,done++[x],dx.kids++st,rfl,(le7.trans le79).trans m10.le,(le7.trans le79).none m10.fresh,(u7.is.le le79).ne m10.fresh,(by rw [aT];exact u7.is.le (le79.trans m10.le)),(by rw [List.reverse_append,aT,gF dx.kids];exact m10.is),rest,hf3,by rw [List.append_assoc];rfl,rfl⟩
inductive yE(l:Led)(D:List ah)(t f:Addr)(out:List Nat)(n:Nat)(σ:Sl)(l':Led):Prop
 | mk (o:Option Nat) (done rest:List Nat) (e:σ=.c (.v (.ref t)) (.c (qs o) (.c (.v (.ref f)) .nil))) (le:l.le l') (h1:HL l' f (aq done)) (up:iu D o rest) (ho:done++rest=out) (hn:n=rest.length):yE l D t f out n σ l'
theorem qC{i:Nat}{out:List Nat}(hT:Tree l av t D)(hup:iu D (some i) out)(hz:out.length≤900)(k:∀ a l',Mk l a (ai (aq out.reverse)) l'→K (.v (.ref a)) l'):Cl d (r+3) (.ref 276) [.v (.ref t),.int (i:Int)] K l:=by
 refine Cl.def {ns:=nm ["tree", "node", "found"],gi:=[]} (nm ["tree", "node"]) 99 rfl rfl (by kernel_rfl) (fun O O=>rfl) fun d P sb hP ev=>?_
 refine LN.ag (Nat.zero_le _) fun f l1 m1=>?_
 refine LS.bq (yE l D t f out) out.length ev sb.may sb.ay (by kernel_rfl) .rfl
  ⟨some i,[],out,rfl,m1.le,m1.is,hup,rfl,rfl⟩ ?_
 rintro P1 Q1 n σ l4 ⟨o,done,rest,rfl,le4,hf,hup,e,rfl⟩ next ret exit
 have hz':done.length+rest.length≤900:=by rw [← List.length_append,e];exact hz
 induction hup with
 | nil =>
  refine LN.dK (aA.no (exit _ _ ?_))
  rw [List.append_nil] at e
  subst e
  refine bX.rev hf (by rw [List.length_map];exact Nat.le_trans hz (by decide)) fun g l5 m5=>?_
  obtain (⟨l6,m6,le6⟩):=Mk.out le4 m5
  exact hP _ _ _ _ (k _ _ (by rw [gF];exact m6)) le6
 | @cons x dx rest hdx hup =>
  refine LN.isNotNone (aA.yes ?_)
  refine bG.lst "list.append" hf F.slot_list_append F.type_list_append ?_
  refine LN.append hf (by rw [List.length_map];exact Nat.le_trans (Nat.le_trans (Nat.le_add_right ..) hz') (by decide)) fun l5 u5=>?_
  have le5:=u5.le le4 m1.fresh
  refine (hT.le le5).iJ 573 (by kernel_rfl) ?_
  refine oz (hT.le le5) hdx ?_
  exact next rest.length _ _ _ (Nat.lt_succ_self _) (.c (.c (.c .nil))) ⟨dx.par,done++[x],rest,rfl,le5,(by rw [aT];exact u5.is),hup,by rw [List.append_assoc];exact e,rfl⟩
theorem ry{i:Nat}{a:Nat}{da db:ah}(hT:Tree l av t D)(ha:D[a]?=some da)(hb:D[i]?=some db)(hk:db.kind=Str.ofString "element"∨db.kind=Str.ofString "text")(hi:i∈da.kids)(hz:da.kids.length≤900)
  (k:∀ z l',Mk l z (bJ [.int 2,.int (da.kids.idxOf i:Nat)]) l'→K (.v (.ref z)) l'):Cl d (r+3) (.ref 283) [.v (.ref t),.int (a:Int),.int (i:Int)] K l:=by
 refine Cl.def {ns:=nm ["tree", "parent", "node", "kind"],gi:=[]} (nm ["tree", "parent", "node"]) 99 rfl rfl (by kernel_rfl) (fun O O O=>rfl) fun d P sb hP ev=>?_
 refine hT.iJ 538 (by kernel_rfl) ?_
 refine ju hT hb ?_
 refine aA.mk (fun h=>absurd (eq_of_beq h) (by rcases hk with h | h<;>rw [h]<;>decide)) fun O=>?_
 refine aA.mk (fun h=>absurd (eq_of_beq h) (by rcases hk with h | h<;>rw [h]<;>decide)) fun O=>?_
 refine hT.iJ 580 (by kernel_rfl) ?_
 refine dB hT ha fun c l2 m2=>?_
 refine bG.lst "list.index" m2.is F.slot_list_index F.type_list_index ?_
 refine LN.mc m2.is (Nat.le_trans hz (by decide)) hi ?_
 refine LN.au (aj rfl) fun z l3 m3=>?_
 obtain ⟨l4,m4,le4⟩:=Mk.out m2.le m3
 exact hP _ _ _ _ (k _ _ m4) le4
end
end
section
noncomputable def bV(D:List ah):List Nat→Prop
 | []=>True
 | [_]=>True
 | a::b::r=>(∃ da,D[a]?=some da∧b∈da.kids)∧(∃ db,D[b]?=some db∧db.kind=Str.ofString "element")∧bV D (b::r)
noncomputable def idx(D:List ah)(a b:Nat):Nat:=match D[a]? with
 | some da=>da.kids.idxOf b
 | none=>0
noncomputable def eg(D:List ah):List Nat→List Int
 | []=>[]
 | [_]=>[]
 | a::b::r=>2::(idx D a b:Int)::eg D (b::r)
theorem bV.at{D:List ah}{l:List Nat}{i x y:Nat}(h:bV D l)(hx:l[i]?=some x)(hy:l[i+1]?=some y):(∃ da,D[x]?=some da∧y∈da.kids)∧(∃ db,D[y]?=some db∧db.kind=Str.ofString "element"):=by
 induction i generalizing l with
 | zero =>
  rcases l with _ | ⟨a,_ | ⟨b,r⟩⟩
  ·exact nomatch hx
  ·exact nomatch hy
  ·rw [← Option.some.inj hx,← Option.some.inj hy];exact ⟨h.1,h.2.1⟩
 | succ i ih =>
  rcases l with _ | ⟨a,_ | ⟨b,r⟩⟩
  ·exact nomatch hx
  ·exact nomatch hy
  ·exact ih (l:=b::r) h.2.2 hx hy
theorem iM{D:List ah}{l:List Nat}{i x y:Nat}(hx:l[i]?=some x)(hy:l[i+1]?=some y):eg D (l.take (i+2))=eg D (l.take (i+1))++[2,(idx D x y:Int)]:=by
 induction i generalizing l with
 | zero =>
  rcases l with _ | ⟨a,_ | ⟨b,r⟩⟩
  ·exact nomatch hx
  ·exact nomatch hy
  ·rw [← Option.some.inj hx,← Option.some.inj hy];rfl
 | succ i ih =>
  rcases l with _ | ⟨a,_ | ⟨b,r⟩⟩
  ·exact nomatch hx
  ·exact nomatch hy
  ·exact congrArg (fun z=>2::(idx D a b:Int)::z) (ih (l:=b::r) hx hy)
theorem kG{D:List ah}:∀ (l:List Nat),(eg D l).length≤2 * l.length
 | []=>Nat.le_refl _
 | [_]=>Nat.zero_le _
 | a::b::r=>by have:=kG (D:=D) (b::r);simp only [eg,List.length_cons] at this ⊢;omega
theorem ar.natAt{ns:List Nat}:∀ {vs:List Value} {k:Nat} {x:Value},ar (aq ns) vs→vs[k]?=some x→∃ n,ns[k]?=some n∧CV.of x=.int (n:Int):=by
 induction ns with
 | nil=>intro vs k x h e;cases h;cases e
 | cons n r ih =>
  intro vs k x h e
  cases h with | cons h1 h =>
  induction k with
  | zero=>cases e;cases h1;exact ⟨n,rfl,rfl⟩
  | succ k=>exact ih h e
section
variable {d:Dy}{r:Nat}{l:Led}{av:List Addr}{t:Addr}{D:List ah}{K:CV→Led→Prop}
inductive yu(l:Led)(D:List ah)(t ln:Addr)(i a:Nat)(rest:List Nat)(us:List Value)(n1:Nat)(a2:Addr)(ws:List Value)(n2 n:Nat)(σ:Sl)(l':Led):Prop
 | mk (fd:Addr) (e:σ=.c (.v (.ref t)) (.c (.int i) (.c (.v (.ref ln)) (.c (.v (.ref fd)) .nil)))) (le:l.le l') (f:l fd=none) (h:HT l' fd (((a:Int)::eg D ((a::rest).take (n+1))).map .int)) (h1:l' ln=some (listOf us.toArray n1)) (h2:l' a2=some (listOf ws.toArray n2)) (hw:ar (aq rest) ws):yu l D t ln i a rest us n1 a2 ws n2 n σ l'
theorem qo{i a:Nat}{ups rest:List Nat}(hT:Tree l av t D)(hD:∀ de∈D,de.kids.length≤900)(hup:iu D (some i) ups)(hol:ups.length≤400)(hrev:ups.reverse=a::rest)(hline:bV D (a::rest))
  (k:∀ z l',Mk l z (bJ (((a:Int)::eg D (a::rest)).map .int)) l'→K (.v (.ref z)) l'):Cl d (r+4) (.ref 290) [.v (.ref t),.int (i:Int)] K l:=by
 have hr:(a::rest).length≤400:=by rw [← hrev,List.length_reverse];exact hol
 refine Cl.def {ns:=nm ["tree", "node", "line", "found", "above", "below"],gi:=[22,72,23]} (nm ["tree", "node"]) 99 rfl rfl (by kernel_rfl) (fun O O=>rfl) fun d P sb hP ev=>?_
 refine qC hT hup (Nat.le_trans hol (by decide)) fun ln l1 m1=>?_
 have hln:=m1.is
 rw [hrev] at hln
 refine LN.aR hln (by decide) rfl (by decide) ?_
 refine LN.au (aj rfl) fun fd l2 m2=>?_
 obtain ⟨us,n1,e1,hu⟩:=HL.at hln
 have r1:rest.length≤399:=Nat.le_of_succ_le_succ hr
 refine LS.zip (us:=us) (a1:=ln) (n1:=n1) (yu l D t ln i a rest us n1) ev sb.may sb.ay (by kernel_rfl) (by kernel_rfl) (fun P' hP'=>?_) ?_ ?_ ?_
 ·have hl2:HL l2 ln (aq (a::rest)):=m2.keep hln
  refine bX.from 1 hl2 (by rw [List.length_map];exact Nat.succ_le_succ (Nat.zero_le _)) (by rw [List.length_map];exact Nat.le_trans hr (by decide)) fun a2 l3 m3=>?_
  refine LN.zip (m3.keep hl2) m3.is fun b0 l4 z=>?_
  obtain ⟨ws,n2,e2,hw⟩:=HL.at m3.is
  exact hP' a2 ws n2 _ l3 b0 l4 (.c (.c (.c (.c .nil)))) z ⟨fd,rfl,(m1.le.trans m2.le).trans m3.le,m1.le.none m2.fresh,m2.is.le m3.le,(m2.le.trans m3.le) _ _ e1,e2,hw⟩
 ·rintro a2 ws n2 n σ l' ⟨fd,_,_,_,_,h1,h2,_⟩
  exact ⟨h1,h2⟩
 ·rintro d1 P1 a2 ws n2 n x y T σ l5 l6 s1 hx hy ⟨fd,rfl,le5,ffd,hfd,h1,h2,hw⟩ mT next ret
  obtain ⟨xn,hxn,ex⟩:=hu.natAt hx
  obtain ⟨yn,hyn,ey⟩:=hw.natAt hy
  have hyn':(a::rest)[n+1]?=some yn:=hyn
  obtain ⟨⟨de,hde,hyk⟩,⟨db,hdb,hdk⟩⟩:=hline.at hxn hyn'
  rw [ex,ey] at mT
  refine bh.of mT.is rfl ?_
  have le6:=le5.trans mT.le
  refine ry (hT.le le6) hde hdb (.inl hdk) hyk (hD _ (List.mem_of_getElem? hde)) fun z l7 m7=>?_
  have kl:=kG (D:=D) ((a::rest).take (n+1))
  have kl2:((a::rest).take (n+1)).length≤400:=Nat.le_trans (List.length_take_le' ..) hr
  refine LN.xI (m7.keep (mT.keep hfd)) m7.is (by simp) (by simp) (by simp only [List.length_map,List.length_cons,List.length_nil];omega) fun fd2 l8 m8=>?_
  have le68:=(mT.le.trans m7.le).trans m8.le
  refine next _ _ _ (.c (.c (.c (.c .nil)))) ⟨fd2,rfl,le5.trans le68,((le6.trans m7.le)).none m8.fresh,?_,le68 _ _ h1,le68 _ _ h2,hw⟩
  have e:=iM (D:=D) hxn hyn'
  rw [e]
  rw [show idx D xn yn=de.kids.idxOf yn by unfold idx;rw [hde],List.map_cons,List.map_append]
  exact m8.is
 ·rintro a2 ws n2 n σ l' hn ⟨fd,rfl,rL,ffd,hfd,_,_,hw⟩
  have e:(a::rest).take (n+1)=a::rest:=List.take_of_length_le (by
   rcases hn with h | h
   ·have h:=List.getElem?_eq_none_iff.mp h;rw [hu.len,List.length_map] at h;exact Nat.le_succ_of_le h
   ·have h:=List.getElem?_eq_none_iff.mp h;rw [hw.len,List.length_map] at h;exact Nat.succ_le_succ h)
  rw [e] at hfd
  obtain ⟨l3,m3,cR⟩:=Mk.fin rL ffd hfd
  exact hP _ _ _ _ (k _ _ m3) cR
end
end
section
noncomputable def txt(D:List ah)(out:List Nat):List Str:=out.filterMap fun n=>match D[n]? with
 | some d=>if d.kind=Str.ofString "text" then some d.val else none
 | none=>none
theorem Flat.valid{D:List ah}{st rest:List Nat}(h:Flat D st rest):∀ x∈rest,∃ d,D[x]?=some d:=by
 induction h with
 | nil=>intro x hx;cases hx
 | cons hd _ ih =>
  intro x hx
  rcases List.mem_cons.mp hx with rfl | hx
  ·exact ⟨_,hd⟩
  ·exact ih x hx
theorem uu{D:List ah}{out:List Nat}(hval:∀ d∈D,d.val.length≤10)(hol:out.length≤900):((txt D out).map (·.length)).sum+(txt D out).length * (Str.ofString "").length≤16777216:=by
 rw [show (Str.ofString "").length=0 by decide,Nat.mul_zero,Nat.add_zero]
 have hb:∀ x∈txt D out,x.length≤10:=fun x hx=>by
  obtain (⟨n,hn,e⟩):=List.mem_filterMap.mp hx
  split at e
  ·split at e
   ·cases e;exact hval _ (List.mem_of_getElem? ‹_›)
   ·cases e
  ·cases e
 have hl:(txt D out).length≤out.length:=List.length_filterMap_le ..
 have:∀ l:List Str,(∀ x∈l,x.length≤10)→(l.map (·.length)).sum≤10 * l.length:=by
  intro l
  induction l with
  | nil=>intro _;exact Nat.le_refl _
  | cons x r ih=>intro h;have h1:=h x (.head _);have h2:=ih fun y hy=>h y (.tail _ hy);simp only [List.map_cons,List.sum_cons,List.length_cons];omega
 have:=this _ hb
 omega
theorem pS{D:List ah}{out:List Nat}{j x:Nat}{dx:ah}(hj:out[j]?=some x)(hd:D[x]?=some dx):txt D (out.take (j+1))=txt D (out.take j)++(if dx.kind=Str.ofString "text" then [dx.val] else []):=by
 unfold txt
 rw [List.take_add_one,hj,Option.toList_some,List.filterMap_append]
 congr 1
 by_cases h:dx.kind=Str.ofString "text"<;>simp [hd,h]
theorem ae.le{l l':Led}{a:Addr}{c:CV}(h:ae l a c)(le:l.le l'):ae l' a c:=by
 induction h with | mk o v e hd is=>exact ⟨o,v,le _ _ e,hd,is⟩
section
variable {d:Dy}{r:Nat}{l:Led}{av:List Addr}{t:Addr}{D:List ah}{K:CV→Led→Prop}
theorem nZ{i:Nat}{dd:ah}{out:List Nat}(hT:Tree l av t D)(hd:D[i]?=some dd)(hk:dd.kind=Str.ofString "element")(hval:∀ d∈D,d.val.length≤10)(hfl:Flat D dd.kids out)(hz:out.length≤900)
  (k:K (.str (Txt.join (Str.ofString "") (txt D out))) l):Cl d (r+4) (.ref 307) [.v (.ref t),.int (i:Int)] K l:=by
 refine Cl.def {ns:=nm ["node"],gi:=[26],cn:=nm ["tree"]} (nm ["tree", "node"]) 99 rfl rfl (by kernel_rfl) (fun O O=>rfl) fun d P sb hP tc l0 nc ev=>?_
 refine CK.mk _ (nc.has _ rfl) ?_
 refine (hT.le nc.le).iJ 538 (by kernel_rfl) ?_
 refine ju (hT.le nc.le) hd ?_
 refine LN.au (aj rfl) fun z l1 m1=>?_
 refine LN.uA (ys:=[Str.ofString "root",Str.ofString "element"]) m1.is ?_
 rw [hk]
 refine aA.mk (fun h=>absurd h (by decide)) fun O=>?_
 refine bG.str "str.join" F.slot_str_join F.type_str_join ?_
 refine LE.dA (fi2:={ns:=nm ["one"],gi:=[],fr:=nm ["tree"]}) 1 (aq out) (fun a as n ys l'=>as=[]∧l1.le l'∧ys=(txt D (out.take n)).map .str) ev (by kernel_rfl) (by decide) rfl (fh _) (by rw [List.length_map];omega) (fun P' hP'=>?_) ?_ ?_
 ·refine CK.mk _ ((nc.has _ rfl).le m1.le) ?_
  exact mC (hT.le (nc.le.trans m1.le)) hd hfl hz fun a l2 m2=>hP' a l2 m2.is ⟨rfl,m2.le,rfl⟩
 ·rintro d2 a as P2 Q2 n c ys o l' hw hc ho hl ⟨rfl,le,rfl⟩ hy next skip
  rw [List.getElem?_map,Option.map_eq_some_iff] at hc
  obtain (⟨x,hx,rfl⟩):=hc
  obtain (⟨dx,hdx⟩):=hfl.valid x (List.mem_of_getElem? hx)
  have e:=pS (D:=D) hx hdx
  have tl:=hT.le ((nc.le.trans m1.le).trans le)
  have cl:=((nc.has _ rfl).le m1.le).le le
  refine CK.mk _ cl ?_
  refine tl.iJ 538 (by kernel_rfl) ?_
  refine ju tl hdx ?_
  refine aA.mk (fun h=>?_) fun h=>skip _ _ ho ⟨rfl,le,?_⟩
  ·refine CK.mk _ cl ?_
   refine tl.iJ 566 (by kernel_rfl) ?_
   refine pN tl hdx (next _ _ _ ho ⟨rfl,le,?_⟩)
   rw [e,if_pos (eq_of_beq h),List.map_append];rfl
  ·rw [e,if_neg (fun q=>by rw [q] at h;cases h),List.append_nil]
 ·rintro a as D2 ys l' l2 ⟨rfl,le,rfl⟩ hy m2
  rw [List.take_of_length_le (by rw [List.length_map];exact Nat.le_refl _)] at m2
  refine LN.vU m2.is (uu hval hz) (hP _ _ _ _ k ?_)
  exact ((nc.le.trans m1.le).trans le).trans m2.le
end
end
section
structure Doc(D:List ah)(es:List Nat):Prop where
 len:es.length≤5
 nodup:es.Nodup
 line:bV D (0::es)
 up:∀ (i:Nat) (e:Nat),es[i]?=some e→iu D (some e) (0::es.take (i+1)).reverse
noncomputable def keyOf(D:List ah)(es:List Nat)(i:Nat):List Int:=((0:Nat):Int)::eg D (0::es.take (i+1))
noncomputable def picked(es ns:List Nat):List Nat:=es.filter fun e=>decide (e∈ns)
theorem bV.take{D:List ah}:∀ {l:List Nat} (n:Nat),bV D l→bV D (l.take n)
 | [],n,_=>by rw [List.take_nil];trivial
 | a::r,0,_=>trivial
 | [a],n+1,_=>by rw [List.take_succ_cons,List.take_nil];trivial
 | a::b::r,1,_=>trivial
 | a::b::r,n+2,h=>⟨h.1,h.2.1,bV.take (l:=b::r) (n+1) h.2.2⟩
theorem kF{D:List ah}{l:List Nat}:∀ (d i:Nat),eg D (l.take i) <+: eg D (l.take (i+d))
 | 0,i=>List.prefix_refl _
 | d+1,i=>by
  refine (kF d i).trans ?_
  show eg D (l.take (i+d)) <+: eg D (l.take (i+d+1))
  match h:i+d with
  | 0=>rw [List.take_zero];exact List.nil_prefix
  | n+1 =>
   by_cases hn:n+1 < l.length
   ·rw [iM (x:=l[n]) (y:=l[n+1]) (List.getElem?_eq_getElem (by omega)) (List.getElem?_eq_getElem hn)]
    exact List.prefix_append _ _
   ·rw [List.take_of_length_le (by omega:l.length≤n+1),List.take_of_length_le (by omega:l.length≤n+1+1)]
    exact List.prefix_refl _
theorem fD{D:List ah}:∀ (l:List Nat),(eg D l).length=2 * (l.length - 1)
 | []=>rfl
 | [_]=>rfl
 | a::b::r=>by have:=fD (D:=D) (b::r);simp only [eg,List.length_cons] at this ⊢;omega
theorem sN{D:List ah}{es:List Nat}{i j:Nat}(h:i≤j):keyOf D es i <+: keyOf D es j:=by
 obtain (⟨d,rfl⟩):∃ d,j=i+d:=⟨j - i,by omega⟩
 refine List.cons_prefix_cons.mpr ⟨rfl,?_⟩
 have:=kF (D:=D) (l:=0::es) d (i+2)
 simpa [List.take_succ_cons,Nat.add_right_comm] using this
theorem sO{D:List ah}{es:List Nat}{i j:Nat}(h:i < j)(hj:j < es.length):(keyOf D es i).length < (keyOf D es j).length:=by
 simp only [keyOf,List.length_cons,fD,List.length_take]
 omega
set_option tactic.hygienic true in
theorem lX{kvs:List (Int × Value)}{k k0:Int}{x y:Value}(h:(k,x)∈PySem.stored kvs k0 y):(k=k0∧x=y)∨(k,x)∈kvs:=by
 unfold PySem.stored at h
 split at h
 ·obtain (⟨q,hq,e⟩):=List.mem_map.mp h
  split at e
  ·rename_i hk
   cases e
   exact .inl ⟨hk,rfl⟩
  ·subst e
   exact .inr hq
 ·rcases List.mem_append.mp h with h | h
  ·exact .inr h
  ·have:=List.mem_singleton.mp h
   cases this
   exact .inl ⟨rfl,rfl⟩
set_option tactic.hygienic true in
theorem kD{kvs:List (Int × Value)}{k k0:Int}{y:Value}:k∈(PySem.stored kvs k0 y).map (·.1)↔k=k0∨k∈kvs.map (·.1):=by
 unfold PySem.stored
 split
 ·rename_i ha
  have e:(kvs.map fun kv=>if kv.1=k0 then (kv.1,y) else kv).map (·.1)=kvs.map (·.1):=by
   rw [List.map_map]
   apply List.map_congr_left
   intro q _
   simp only [Function.comp]
   split<;>rfl
  rw [e]
  constructor
  ·exact .inr
  ·rintro (rfl | h)
   ·obtain (⟨q,hq,hk⟩):=List.any_eq_true.mp ha
    exact List.mem_map.mpr ⟨q,hq,by simpa using hk⟩
   ·exact h
 ·rw [List.map_append,List.mem_append]
  constructor
  ·rintro (h | h)
   ·exact .inr h
   ·exact .inl (by simpa using h)
  ·rintro (rfl | h)
   ·exact .inr (by simp)
   ·exact .inl h
noncomputable abbrev aS:Pos:={line:=217,col:=29,endLine:=217,endCol:=53}
noncomputable abbrev aG:Str:=Str.ofString "in_order.<locals>.<lambda>"
section
variable {d:Dy}{r:Nat}{l:Led}{av:List Addr}{t:Addr}{D:List ah}{K:CV→Led→Prop}
theorem Makes.rq{fd:FuncData}{f:Addr}{ps:List Str}{vs:List Value}(hk:fd.scope.kind=.function)(h1:(fd.scope.names.all fun x=>!(x.2==.cell))=true)(h2:(ps.all fun y=>fd.scope.names.lookup y==some .local)=true):Makes fd f (ps.zip vs) :=
 Makes.clos hk (fun x hx e=>by have:=List.all_eq_true.mp h1 x hx;rw [e] at this;cases this) fun y hy=>eq_of_beq (List.all_eq_true.mp h2 y.1 (List.of_mem_zip hy).1)
theorem ow{es ns:List Nat}{kvs:List (Int × Value)}(h:∀ k,k∈kvs.map (·.1)↔k∈ns.map fun (n:Nat)=>(n:Int)):(es.filter fun (e:Nat)=>decide ((e:Int)∈kvs.map (·.1)))=picked es ns:=by
 apply List.filter_congr
 intro e _
 have:((e:Int)∈kvs.map (·.1))↔e∈ns:=by
  rw [h,List.mem_map]
  exact ⟨fun ⟨n,hn,he⟩=>Int.ofNat.inj he▸hn,fun hn=>⟨e,hn,rfl⟩⟩
 simp only [this]
theorem nR.old{l l':Led}{P:Addr}{pos:Pos}{qual:Str}{fd:Addr→Value→FuncData}{f b:Addr}(h:nR l P pos qual fd f l')(e:l' b=none):l b=none:=by
 cases q:l b with
 | none=>rfl
 | some x =>
  by_cases hb:b=P
  ·obtain (⟨y,ey,_⟩):=h.tab
   rw [hb,ey] at e;cases e
  ·rw [h.keep b x hb q] at e;cases e
inductive yR(D:List ah)(es:List Nat)(l':Led)(k:Int)(x:Value):Prop
 | mk (i e:Nat) (b:Addr) (he:es[i]?=some e) (ek:k=(e:Int)) (ex:x=.ref b) (h:HT l' b ((keyOf D es i).map .int)):yR D es l' k x
inductive yT(l2:Led)(D:List ah)(es ns:List Nat)(a:Addr)(as:List Addr)(i:Nat)(kvs:List (Int × Value))(l':Led):Prop
 | mk (e:as=[]) (le:l2.le l') (h1:∀ k x,(k,x)∈kvs→yR D es l' k x) (h2:∀ k,k∈kvs.map (·.1)↔k∈(ns.take i).map fun (n:Nat)=>(n:Int)):yT l2 D es ns a as i kvs l'
theorem kH{nl:Addr}{es ns:List Nat}(hT:Tree l av t D)(hkz:∀ de∈D,de.kids.length≤900)(hD:Doc D es)(hl:HL l nl (aq ns))(hns:∀ n∈ns,n∈es)(hz:ns.length≤1000)(hC:CodeHd d.base 294 292)(ht:Tab l 292 aS aG)
  (k:∀ a l',l.ky 292 l'→Tab l' 292 aS aG→l a=none→HL l' a (aq (picked es ns))→K (.v (.ref a)) l'):Cl d (r+6) (.ref 295) [.v (.ref t),.v (.ref nl)] K l:=by
 refine Cl.def {ns:=nm ["nodes"],gi:=[63],cn:=nm ["known", "tree"]} (nm ["tree", "nodes"]) 99 rfl rfl (by kernel_rfl) (fun O O=>rfl) fun d P sb hP kc l1 n1 tc l2 n2 ev=>?_
 have le2:=n1.le.trans n2.le
 refine LE.gR (fi2:={ns:=nm ["node"],gi:=[24],fr:=nm ["tree"]}) (aq ns) (yT l2 D es ns) ev (by kernel_rfl) rfl (fh _) (by rw [List.length_map];exact hz) (fun P' hP'=>hP' _ _ (hl.le le2) ⟨rfl,.rfl,fun O O h=>(nomatch h),fun k=>by simp⟩) ?_ ?_
 ·rintro d2 a as i c kvs o l' hw hc ho hlo ⟨rfl,le,hkv,hkk⟩ hy P2 next
  rw [List.getElem?_map,Option.map_eq_some_iff] at hc
  obtain ⟨e,he,rfl⟩:=hc
  obtain ⟨ix,hix⟩:=List.getElem?_of_mem (hns _ (List.mem_of_getElem? he))
  have hline:bV D (0::es.take (ix+1)):=by simpa using hD.line.take (ix+2)
  have hul:(0::es.take (ix+1)).reverse.length≤400:=by have:=hD.len;simp only [List.length_reverse,List.length_cons,List.length_take];omega
  refine next (e:Int) _ _ fun P3 done=>?_
  have tl:=hT.le (le2.trans le)
  refine CK.mk _ ((n2.has _ rfl).le le) ?_
  refine qo tl hkz (hD.up ix _ hix) hul (List.reverse_reverse (0::es.take (ix+1))) hline fun z l3 m3=>done _ _ (m3.le _ _ ho) fun v is=>?_
  cases is
  refine ⟨rfl,le.trans m3.le,fun k y hky=>?_,fun k=>?_⟩
  ·rcases lX hky with ⟨rfl,rfl⟩ | hky
   ·exact ⟨ix,e,z,hix,rfl,rfl,m3.is⟩
   ·obtain ⟨i2,e2,b2,q1,q2,q3,q4⟩:=hkv k y hky
    exact ⟨i2,e2,b2,q1,q2,q3,m3.keep q4⟩
  ·rw [kD,hkk,List.take_add_one,he,Option.toList_some,List.map_append,List.mem_append]
   exact ⟨fun h=>h.elim (fun h=>.inr (by simpa using h)) .inl,fun h=>h.elim .inr fun h=>.inl (by simpa using h)⟩
 ·rintro a as Dd od kvs l' l3 ⟨rfl,le,hkv,hkk⟩ hy hDd nw lo
  rw [List.take_of_length_le (by rw [List.length_map];exact Nat.le_refl _)] at hkk
  obtain ⟨ok,vk,ek,dk⟩:=n1.is
  refine And.intro ⟨ok,vk,nw.le _ _ (le _ _ (n2.le _ _ ek)),dk⟩ fun o v is hd=>?_
  cases (is)
  have lk:l kc=none:=n1.fresh
  have c0:l' kc=some ok:=le _ _ (n2.le _ _ ek)
  have dk':Dd≠kc:=(Led.ne c0 nw.fresh).symm
  have le4:l.le (l3.set kc o):=fun b x q=>(if_neg (Led.ne q lk)).trans (nw.le _ _ (le _ _ (le2 _ _ q)))
  have cell:ae (l3.set kc o) kc (.v (.ref Dd)):=⟨o,_,Led.hit,hd,.v _⟩
  obtain ⟨x292,e292,_⟩:=id ht
  have nd292:Dd≠292:=(Led.ne (le _ _ (le2 _ _ e292)) nw.fresh).symm
  have nk292:kc≠292:=(Led.ne e292 lk).symm
  have eq1:jt (vS (Pe.v (.f (st 36)) 1).at)=aS:=by kernel_rfl
  have eq2:d.env.qual++Str.ofString "<lambda>"=aG:=by rw [sb.env];kernel_rfl
  refine LE.qd ev rfl rfl rfl ?_
  refine LE.go ev fun P' hP'=>CK.mk _ cell (hP' _ _ ?_)
  refine LE.lam (p:=.x _) (c:=294) (P:=292) ev (by kernel_rfl) rfl rfl (by rw [sb.env];rfl) (fun h hb O=>hC.keeps fun b o e=>hb b o (sb.base▸e)) ?_ fun f l5 fn=>?_
  ·show Tab _ _ (jt (vS (Pe.v (.f (st 36)) 1).at)) _
   rw [eq1]
   exact (show d.env.qual++Str.ofString "<lambda>"=aG from eq2)▸ht.le le4
  ·have hD5:l5 Dd=some od:=fn.keep _ _ nd292 ((if_neg dk').trans nw.hit)
   have cell5:ae l5 kc (.v (.ref Dd)):=by obtain (⟨o2,v2,e2,q2,i2⟩):=cell;exact ⟨o2,v2,fn.keep _ _ nk292 e2,q2,i2⟩
   have htab:jt (vS (Pe.v (.f (st 36)) 1).at)=aS:=eq1
   obtain ⟨es0,ep0,_,_,_,_,hnd⟩:=id hDd
   refine LN.qd (es:=es) (key:=keyOf D es) (kvs:=kvs) sb.cmp hD5 hDd lo hD.nodup hD.len (fun k y hky=>?_) hnd (fun i j h O=>sN h) (fun i j h hj=>sO h hj) (fun i=>List.cons_ne_nil _ _) (fun d' k y l6 hw hb hky le6=>?_) (fun k y hky=>?_) fun Dr l6 m6=>hP _ _ _ _ (k Dr l6 (fun b x hb q=>m6.le _ _ (fn.keep _ _ hb (le4 _ _ q))) ?_ ?_ ?_) .rfl
   ·obtain ⟨i2,e2,b2,q1,q2,q3,q4⟩:=hkv k y hky
    obtain ⟨ws,e4,hw⟩:=HT.at q4
    have nb:b2≠kc:=fun q=>by rw [q,c0] at e4;cases e4;cases dk
    have n292:b2≠292:=fun q=>by
     have:=le _ _ (le2 _ _ e292)
     rw [← q,e4] at this;cases this
    exact ⟨i2,e2,b2,q1,q2,q3,_,fn.keep _ _ n292 ((if_neg nb).trans (nw.le _ _ e4)),_,rfl,hw⟩
   ·obtain ⟨c',ctv,ef,oc,vs,tq,ec,hoc,hq⟩:=fn.fn
    refine (Cc.lam {ns:=nm ["node"],gi:=[],fr:=nm ["known"]} (nm ["node"]) (.x _) rfl (fun h X hl=>⟨_,hl _ _ (le6 _ _ ef),rfl,c',oc,vs,tq,rfl,hl _ _ (le6 _ _ ec),hoc,hq⟩) (by kernel_rfl) (fun s vs O O hv=>⟨vs,hv,?_⟩) fun d2 P2 s2 hP2 ev2=>?_).cl
    ·refine ar.eX hv fun v O=>?_
     exact ⟨.of_eq rfl,Makes.rq rfl (by kernel_rfl) (by kernel_rfl)⟩
    ·refine CK.mk _ (ae.le cell5 le6) ?_
     obtain ⟨_,_,b2,_,_,rfl,_⟩:=hkv k y hky
     refine LN.cp (knd:=PySem.intKind Pg d2.w) (kvs:=kvs) (k:=k) (x:=.ref b2) ⟨od,le6 _ _ hD5,?_⟩ (fun t=>by simp [PySem.intKind,Value.isInt]) (c7 hnd hky) (hP2 _ _ l6 _ ⟨rfl,rfl⟩ .rfl)
     show od.IsDictOf (PySem.intKind Pg d2.w) kvs
     rw [s2.w,hw];exact hDd
   ·obtain ⟨_,_,b2,_,_,q3,_⟩:=hkv k y hky
    exact ⟨b2,q3⟩
   ·have:=fn.tab.le m6.le
    rw [show d.env.qual++Str.ofString "<lambda>"=aG from eq2] at this
    exact (show jt (vS (Pe.v (.f (st 36)) 1).at)=aS from eq1)▸this
   ·exact le4.none (fn.old m6.fresh)
   ·exact ow hkk▸m6.is
end
end
section
noncomputable def mV(p:Nat→Bool):Nat→Nat
 | 0=>0
 | e+1=>if p e then mV p e else e+1
noncomputable def zS:Str:=Str.ofString "0"
noncomputable def iw(t b:Int):Int:=(2 * t * 10 ^ 15+b).fdiv (2 * b)
noncomputable def nU(t b:Int):Str:=Txt.slice (Str.ofString (toString (10 ^ 15+(iw t b).fmod (10 ^ 15):Int))) (some 1) none
noncomputable def xa(t b:Int):Nat:=mV (fun e=>Txt.item (nU t b) (e:Int)==zS) (nU t b).length
noncomputable def wQ(t b:Int):Str :=
 if (iw t b).fmod (10 ^ 15) > 0 then Str.ofString (toString ((iw t b).fdiv (10 ^ 15)))++Str.ofString "."++Txt.slice (nU t b) none (some (xa t b:Int)) else Str.ofString (toString ((iw t b).fdiv (10 ^ 15)))
noncomputable def uj(t b:Int):Bool:=decide (0≤t)&&decide (0 < b)&&decide (t < 10 ^ 6)&&decide (b < 10 ^ 6)&&decide ((Str.ofString (toString ((iw t b).fdiv (10 ^ 15)))).length≤100)&&decide ((Str.ofString (toString (10 ^ 15+(iw t b).fmod (10 ^ 15):Int))).length≤100)&&decide ((nU t b).length≤100)&&(decide ((iw t b).fmod (10 ^ 15)≤0)||decide (0 < xa t b))
section
variable {d:Dy}{r:Nat}{l:Led}{K:CV→Led→Prop}
theorem iV{x:Addr}(hx:HT l x [.int 0,.int 0])(k:K (.str (Str.ofString "NaN")) l):Cl d (r+2) (.ref 269) [.v (.ref x)] K l:=by
 refine Cl.oZ {ns:=nm ["n", "places", "scale", "scaled", "told", "rest", "parts", "end"],gi:=[15,60,65,59]} (nm ["n", "places"]) [.int 15 552] rfl rfl rfl rfl (.cons (.int _ _) .nil) (by kernel_rfl) (fun O=>⟨_,rfl,rfl⟩) fun d P sb hP ev=>?_
 refine iN hx (aA.yes (hP _ _ _ _ k .rfl))
inductive ym(x:Addr)(t b:Int)(l:Led)(n:Nat)(σ:Sl)(l':Led):Prop
 | mk (e:Nat) (es:σ=.c (.v (.ref x)) (.c (.int 15) (.c (.int (10 ^ 15)) (.c (.int (iw t b)) (.c (.str (Str.ofString (toString ((iw t b).fdiv (10 ^ 15))))) (.c (.int ((iw t b).fmod (10 ^ 15))) (.c (.str (nU t b)) (.c (.int e) .nil)))))))) (el:l'=l) (en:n=e) (h1:e≤(nU t b).length) (h:mV (fun e=>Txt.item (nU t b) (e:Int)==zS) e=xa t b):ym x t b l n σ l'
theorem pK{x:Addr}{t b:Int}(hx:HT l x [.int t,.int b])(h:uj t b=true)(k:K (.str (wQ t b)) l):Cl d (r+2) (.ref 269) [.v (.ref x)] K l:=by
 refine wz (bA h).1 of_decide_eq_true of_decide_eq_true of_decide_eq_true of_decide_eq_true of_decide_eq_true of_decide_eq_true of_decide_eq_true fun h1 h2 h3 h4 h5 h6 h7=>?_
 have h8:=(Eq.mp (Bool.or_eq_true _ _) (bA h).2).imp of_decide_eq_true of_decide_eq_true
 refine Cl.oZ {ns:=nm ["n", "places", "scale", "scaled", "told", "rest", "parts", "end"],gi:=[15,60,65,59]} (nm ["n", "places"]) [.int 15 552] rfl rfl rfl rfl (.cons (.int _ _) .nil) (by kernel_rfl) (fun O=>⟨_,rfl,rfl⟩) fun d P sb hP ev=>?_
 refine iN hx ?_
 rw [show (b==0&&t==0)=false by rw [show (b==0)=false by simpa using (by omega:¬ b=0)];rfl]
 refine aA.no ?_
 refine LN.cJ hx (by decide) rfl (by decide) ?_
 refine aA.mk (fun e=>absurd (eq_of_beq e) (by omega)) fun O=>?_
 refine LN.pow10 (n:=15) (by decide) ?_
 refine LN.cJ hx (by decide) rfl (by decide) ?_
 refine LN.abs ?_
 rw [show (t.natAbs:Int)=t by omega]
 have sc:Builtin.Int.intBits ((10:Int) ^ 15)≤64:=by decide +kernel
 have np:∀ x,Builtin.divisionGoesByPylong x ((10:Int) ^ 15)=false:=fun x=>PyProof.noPylong_of_log2 (by decide +kernel)
 have s0:(0:Int) < 10 ^ 15:=by decide
 have x0:0≤2 * t * 10 ^ 15+b:=by omega
 have nN:0≤iw t b∧iw t b≤2 * t * 10 ^ 15+b:=bg x0 (by omega)
 have nD:=bg nN.1 s0
 have nM:=bU (z:=iw t b) s0
 have big:(2:Nat) ^ 100≤2 ^ 1900:=Nat.pow_le_pow_right (by decide) (by decide)
 refine And.intro (IntMulOk.of_left (by decide)) ?_
 refine And.intro (IntMulOk.of_right sc) ?_
 refine LN.cJ hx (by decide) rfl (by decide) ?_
 refine LN.cJ hx (by decide) rfl (by decide) ?_
 refine And.intro (IntMulOk.of_left (by decide)) ?_
 refine And.intro ⟨by omega,PyProof.noPylong_small (by omega)⟩ ?_
 refine And.intro ⟨by decide,np _⟩ ?_
 refine LN.j5 (Nat.lt_of_lt_of_le (show ((iw t b).fdiv (10 ^ 15)).natAbs < 2 ^ 100 by omega) big) ?_
 refine And.intro (by decide) ?_
 have sz:∀ {x y:Str},x.length≤300→y.length≤300→x.length+y.length≤sizeLine:=fun h1 h2=>by rw [PySem.sizeLine_eq];omega
 have neg:∀ {T F:Prop},F→aA (decide (t < 0)) T F:=fun h=>⟨fun e=>absurd (of_decide_eq_true e) (by omega),fun O=>h⟩
 unfold wQ at k
 refine aA.mk (fun h=>?_) fun h=>?_
 ·have h:(iw t b).fmod (10 ^ 15) > 0:=of_decide_eq_true h
  rw [if_pos h] at k
  refine LN.j5 (Nat.lt_of_lt_of_le (show ((10 ^ 15+(iw t b).fmod (10 ^ 15):Int)).natAbs < 2 ^ 100 by omega) big) ?_
  refine bX.str (some 1) none (Nat.le_trans h6 (by decide)) ?_
  refine LN.eZ (Nat.le_trans h7 (by decide)) ?_
  refine LS.bq (ym x t b l) (nU t b).length ev sb.may sb.ay (by kernel_rfl) .rfl ⟨(nU t b).length,rfl,rfl,rfl,Nat.le_refl _,rfl⟩ ?_
  rintro P1 Q1 n σ l' ⟨e,rfl,rfl,rfl,he,hs⟩ next ret exit
  induction n with
  | zero=>exact absurd hs (Nat.ne_of_lt (h8.resolve_left (Int.not_le.mpr h)))
  | succ m =>
   have em:((m+1:Nat):Int) - 1=(m:Int):=by omega
   have hml:m < (nU t b).length:=he
   unfold mV at hs
   refine LN.gH (Nat.le_trans h7 (by decide)) (by omega) (by omega) ?_
   refine aA.mk (fun h2=>?_) fun h2=>exit _ _ ?_
   ·have h2:(Txt.item (nU t b) (((m+1:Nat):Int) - 1)==zS)=true:=h2
    rw [em] at h2
    rw [if_pos h2] at hs
    exact next m _ _ _ (Nat.lt_succ_self _) .rfl ⟨m,congrArg (fun z=>Sl.c (.v (.ref x)) (.c (.int 15) (.c (.int (10 ^ 15)) (.c (.int (iw t b)) (.c (.str (Str.ofString (toString ((iw t b).fdiv (10 ^ 15))))) (.c (.int ((iw t b).fmod (10 ^ 15))) (.c (.str (nU t b)) (.c (.int z) .nil)))))))) em,rfl,rfl,Nat.le_of_lt hml,hs⟩
   ·have h2:(Txt.item (nU t b) (((m+1:Nat):Int) - 1)==zS)=false:=h2
    rw [em] at h2
    rw [if_neg (by rw [h2];decide)] at hs
    refine And.intro (sz (Nat.le_trans h5 (by decide)) (by decide)) ?_
    refine bX.str none (some ((m+1:Nat):Int)) (Nat.le_trans h7 (by decide)) ?_
    refine And.intro (sz ?_ ?_) ?_
    ·rw [Str.length_append];exact Nat.add_le_add h5 (show (Str.ofString ".").length≤200 by decide)
    ·exact Nat.le_trans (Txt.slice_le _ _ _) (Nat.le_trans h7 (by decide))
    refine LN.cJ hx (by decide) rfl (by decide) ?_
    refine neg (hP _ _ _ _ ?_ .rfl)
    rw [← hs] at k
    exact k
 ·have h:¬ (iw t b).fmod (10 ^ 15) > 0:=of_decide_eq_false h
  rw [if_neg h] at k
  refine LN.cJ hx (by decide) rfl (by decide) ?_
  exact neg (hP _ _ _ _ k .rfl)
end
end
section
section
variable {d:Dy}{r:Nat}{l:Led}{K:CV→Led→Prop}{tv:CV}
theorem aA.t'{b:Bool}{T F:Prop}(e:b=true)(h:T):aA b T F:=⟨fun O=>h,fun q=>by rw [e] at q;cases q⟩
theorem aA.f'{b:Bool}{T F:Prop}(e:b=false)(h:F):aA b T F:=⟨fun q=>(by rw [e] at q;cases q),fun O=>h⟩
noncomputable abbrev nB:Fi:={ns:=nm ["value", "tree"],gi:=[64,65,67,68,21,27]}
theorem ct{x:Str}(k:K (.str x) l):Cl d (r+1) (.ref 314) [.str x,tv] K l:=by
 refine Cl.def nB (nm ["value", "tree"]) 99 rfl rfl (by kernel_rfl) (fun O O=>rfl) fun d P sb hP ev=>?_
 exact LN.fL (.str x) (.inl rfl) (.t' (by decide) (hP _ _ _ _ k .rfl))
theorem jK(k:K (.str (Str.ofString "true")) l):Cl d (r+1) (.ref 314) [.v (.bool true),tv] K l:=by
 refine Cl.def nB (nm ["value", "tree"]) 99 rfl rfl (by kernel_rfl) (fun O O=>rfl) fun d P sb hP ev=>?_
 refine LN.fL (.bool true) (.inl rfl) (.f' (by decide) ?_)
 refine LN.fL (.bool true) (.inr (.inl rfl)) (.t' (by decide) ?_)
 exact aA.yes (hP _ _ _ _ k .rfl)
theorem kZ{x:Addr}{t b:Int}(hx:HT l x [.int t,.int b])(h:uj t b=true)(k:K (.str (wQ t b)) l):Cl d (r+3) (.ref 314) [.v (.ref x),tv] K l:=by
 refine Cl.def nB (nm ["value", "tree"]) 99 rfl rfl (by kernel_rfl) (fun O O=>rfl) fun d P sb hP ev=>?_
 refine LN.fL (.tup hx) (.inl rfl) (.f' (by decide) ?_)
 refine LN.fL (.tup hx) (.inr (.inl rfl)) (.f' (by decide) ?_)
 refine LN.fL (.tup hx) (.inr (.inr (.inl rfl))) (.t' (by decide) ?_)
 exact pK hx h (hP _ _ _ _ k .rfl)
theorem k7{x:Addr}(hx:HT l x [.int 0,.int 0])(k:K (.str (Str.ofString "NaN")) l):Cl d (r+3) (.ref 314) [.v (.ref x),tv] K l:=by
 refine Cl.def nB (nm ["value", "tree"]) 99 rfl rfl (by kernel_rfl) (fun O O=>rfl) fun d P sb hP ev=>?_
 refine LN.fL (.tup hx) (.inl rfl) (.f' (by decide) ?_)
 refine LN.fL (.tup hx) (.inr (.inl rfl)) (.f' (by decide) ?_)
 refine LN.fL (.tup hx) (.inr (.inr (.inl rfl))) (.t' (by decide) ?_)
 exact iV hx (hP _ _ _ _ k .rfl)
noncomputable abbrev qX:Fi:={ns:=nm ["value", "tree"],gi:=[64,68,67,20,28]}
theorem iq{x:Addr}{t b:Int}(hx:HT l x [.int t,.int b])(k:K (.v (.ref x)) l):Cl d (r+1) (.ref 321) [.v (.ref x),tv] K l:=by
 refine Cl.def qX (nm ["value", "tree"]) 99 rfl rfl (by kernel_rfl) (fun O O=>rfl) fun d P sb hP ev=>?_
 exact LN.fL (.tup hx) (.inr (.inr (.inl rfl))) (.t' (by decide) (hP _ _ _ _ k .rfl))
theorem gY(k:∀ z l',Mk l z (bJ [.int 1,.int 1]) l'→K (.v (.ref z)) l'):Cl d (r+1) (.ref 321) [.v (.bool true),tv] K l:=by
 refine Cl.def qX (nm ["value", "tree"]) 99 rfl rfl (by kernel_rfl) (fun O O=>rfl) fun d P sb hP ev=>?_
 refine LN.fL (.bool true) (.inr (.inr (.inl rfl))) (.f' (by decide) ?_)
 refine LN.fL (.bool true) (.inr (.inl rfl)) (.t' (by decide) ?_)
 exact aA.yes (LN.au (aj rfl) fun z l' m=>hP _ _ _ _ (k z l' m) .rfl)
theorem ir{x:Str}(hz:x.length≤100)(h:je (bS x)=true)(k:∀ z l',Mk l z (bJ [.int (iF (bS x)),.int (mX (bS x))]) l'→K (.v (.ref z)) l'):Cl d (r+4) (.ref 321) [.str x,tv] K l:=by
 refine Cl.def qX (nm ["value", "tree"]) 99 rfl rfl (by kernel_rfl) (fun O O=>rfl) fun d P sb hP ev=>?_
 refine LN.fL (.str x) (.inr (.inr (.inl rfl))) (.f' (by decide) ?_)
 refine LN.fL (.str x) (.inr (.inl rfl)) (.f' (by decide) ?_)
 refine ct ?_
 exact gm hz h fun z l' m=>hP _ _ _ _ (k z l' m) .rfl
end
end
section
noncomputable abbrev aB(C t:Addr):Obj:={cls:=.ref C,data:=.fields #[.ref t,.none,.none,.none,.bool false,.none]}
section
variable {prog:Program}{w:World}{A:Around}{E:Value→Shared→Prop}{h:Heap}{g:Array GenState}{d:Drawn}{t:Nat}{os:OsState}
variable {nm q:Str}{C N fI:Addr}{bs bm bmB:List Value}{hdct:Bool}{sn:List Str}{sub:List Value}{ab:Bool}{col:Option Bool}{dd:Option Addr}{k0 k1 k2 k3 k5:Option Value}{B newId initId:String}
theorem ie(F:ExcBaseFacts B newId initId bmB)(hcont:(Value.ref C::bm).contains (.type B)=true){M:Model}{rest:List Value}{Q:Unit→Shared→Prop}(hC:h.get? C=some (excClassObj nm q C N bs bm hdct sn sub ab col dd k0 k1 k2 k3 k5 newId))
  (hq:Q () ⟨h,g,d,t,os⟩):wpAny M A (checkBuiltinCall newId ⟨.ref C::rest,[]⟩) Q E ⟨h,g,d,t,os⟩ :=
 wpAny_check_new_subU F (bmB:=bm) (by rw [List.contains_cons] at hcont;exact hcont) .base hC hq
theorem tE{R:Result→Shared→Prop}(F:ExcBaseFacts B newId initId bmB)(hcB:(Value.ref C::bm).contains (.type B)=true)(hcA:(Value.ref C::bm).contains (.type "AttributeError")=false)(hcN:(Value.ref C::bm).contains (.type "NameError")=false){rest:List Value}
  (hC:h.get? C=some (excClassObj nm q C N bs bm hdct sn sub ab col dd k0 k1 k2 k3 k5 newId))
  (hq:R (.ok (.ret (.ref (h.objs.size+1)))) ⟨(h.push {cls:=.type "tuple",data:=.seq rest.toArray}).push (aB C h.objs.size),g,d,t,os⟩) (hrest:rest.length≤sizeLine) :
  codeAny (model prog w) A (.builtin newId ⟨.ref C::rest,[]⟩) R ⟨h,g,d,t,os⟩:=by
 have hends:=F.ends
 refine codeAny_builtinAt F.entry ?_
 unfold Builtin.«BaseException.__new__»
 refine _root_.PySem.wpAt_bind ?_
 show _root_.PySem.wpAt _ _ _ (stack >>= _) _ _ _
 refine _root_.PySem.wpAt_bind (_root_.PySem.wpAt_stack fun p below=>_root_.PySem.wpAt_of_wpAny ?_)
 wp_walk
 refine _root_.PySem.wpAt_of_wpAny ?_
 rw [F.owner]
 repeat (first | with_reducible refine wpAny_madeHere_exc F.canon hC ?_ | with_reducible refine wpAny_loadPart_at hC ?_ | (with_reducible refine wpAny_isSubtype_exc hC ?_;first | rewrite [hcB] | rewrite [hcA] | rewrite [hcN]) | wp_step)
 show R _ _
 rw [Heap.size_push]
 exact hq
theorem ib(F:ExcBaseFacts B newId initId bmB)(hcB:(Value.ref C::bm).contains (.type B)=true)(hcA:(Value.ref C::bm).contains (.type "AttributeError")=false)(hcN:(Value.ref C::bm).contains (.type "NameError")=false){rest:List Value}{Q:Fin→Shared→Prop}
  (hC:h.get? C=some (excClassObj nm q C N bs bm hdct sn sub ab col dd k0 k1 k2 k3 k5 newId)) (hi:Looks (model prog w) h (typeLookup (.ref C) "__init__") (some (.ref fI))) (hb:∀ self,Looks (model prog w) h (bindSpecial (.ref fI) self) (.ref fI,[self]))
  (hq:codeAny (model prog w) A (.call (.ref fI) ⟨.ref (h.objs.size+1)::rest,[]⟩) (InitBack (h.objs.size+1) (fun r s'=>match r with | .ok (.ret v)=>Q (.done (.ret v)) s' | .ok _=>False | .error e=>E e s'))
   ⟨(h.push {cls:=.type "tuple",data:=.seq rest.toArray}).push (aB C h.objs.size),g,d,t,os⟩) (hrest:rest.length≤sizeLine) :
  wpAny (model prog w) A (Builtin.«type.__call__» ⟨.ref C::rest,[]⟩) Q E ⟨h,g,d,t,os⟩:=by
 repeat (first | with_reducible refine wpAny_loadPart_at hC ?_ | with_reducible refine wpAny_madeBy_exc hC ?_ | wp_step)
 refine codeAny_call_builtin_code (Code.quiet_builtin _ F.quiet) (ie F hcB hC ?_)
 refine tE F hcB hcA hcN hC ?_ hrest
 show wpAny _ _ _ _ _ _
 have k:∀ b o,h.get? b=some o→((h.push {cls:=.type "tuple",data:=.seq rest.toArray}).push (aB C h.objs.size)).get? b=some o:=fun b o e=>Heap.get?_push_of_some _ (Heap.get?_push_of_some _ e)
 have hget:((h.push {cls:=.type "tuple",data:=.seq rest.toArray}).push (aB C h.objs.size)).get? (h.objs.size+1)=some (aB C h.objs.size):=by heap_get
 have hcC:(Value.ref C::bm).contains (.ref C)=true:=by simp
 unfold isInstance
 repeat (first | with_reducible refine wpAny_loadPart_at hget ?_ | (with_reducible refine wpAny_isSubtype_exc (k _ _ hC) ?_;rw [hcC]) | wp_step)
 refine (hi.keeps k).here ?_
 refine wpAny_holding (wpAny_bind (((hb (.ref (h.objs.size+1))).keeps k).here ?_))
 refine wpAny_bind (wpAny_call (codeAny_mono hq fun r s' z=>?_))
 rcases r with e | (v | _ | _ | _)<;>first | exact z | exact z.elim | skip
 obtain (⟨rfl,z⟩):=z
 wp_walk
 exact z
theorem q6(F:ExcBaseFacts B newId initId bmB)(hcB:(Value.ref C::bm).contains (.type B)=true)(hcA:(Value.ref C::bm).contains (.type "AttributeError")=false)(hcN:(Value.ref C::bm).contains (.type "NameError")=false){rest:List Value}{Q:Value→Shared→Prop}
  (hC:h.get? C=some (excClassObj nm q C N bs bm hdct sn sub ab col dd k0 k1 k2 k3 k5 newId)) (hi:Looks (model prog w) h (typeLookup (.ref C) "__init__") (some (.ref fI))) (hb:∀ self,Looks (model prog w) h (bindSpecial (.ref fI) self) (.ref fI,[self]))
  (hq:codeAny (model prog w) (A.under (.builtin "type.__call__" ⟨.ref C::rest,[]⟩)) (.call (.ref fI) ⟨.ref (h.objs.size+1)::rest,[]⟩) (InitBack (h.objs.size+1) (fun r s'=>match r with | .ok (.ret v)=>Q v s' | .ok _=>False | .error e=>E e s'))
   ⟨(h.push {cls:=.type "tuple",data:=.seq rest.toArray}).push (aB C h.objs.size),g,d,t,os⟩) (hrest:rest.length≤sizeLine) :
  wpAny (model prog w) A (call (.ref C) rest) Q E ⟨h,g,d,t,os⟩:=by
 have f1:=tc_lookup
 have f2:=tc_bind (.ref C)
 have hT:(⟨h,g,d,t,os⟩:Shared).TypeIs (.ref C) "type":=⟨_,hC,rfl⟩
 refine wpAny_call (codeAny_of_tree ?_)
 show wpAny _ _ (callAny (.ref C) _) _ _ _
 repeat (any_goals (first | assumption | with_reducible refine wpAny_loadPart_at hC ?_ | wp_step))
 refine ⟨rfl,?_⟩
 refine codeAny_call_builtin_at (Code.quiet_builtin _ (by decide +kernel)) entry_typeCall (wpAny_check_type_call_sub hC (ib F hcB hcA hcN hC hi hb (codeAny_mono hq fun r s' z=>?_) hrest))
 rcases r with e | (v | _ | _ | _)<;>exact z
theorem gQ(F:ExcBaseFacts B newId initId bmB)(hcB:(Value.ref C::bm).contains (.type B)=true){M:Model}{e:Addr}{oe:Obj}{rest:List Value}{Q:Unit→Shared→Prop}
  (hC:h.get? C=some (excClassObj nm q C N bs bm hdct sn sub ab col dd k0 k1 k2 k3 k5 newId)) (he:h.get? e=some oe) (hcls:oe.cls=.ref C) (hq:Q () ⟨h,g,d,t,os⟩) :
  wpAny M A (checkBuiltinCall initId ⟨.ref e::rest,[]⟩) Q E ⟨h,g,d,t,os⟩:=by
 have hshort:=F.noStar
 simp only [checkBuiltinCall,F.initKind,F.initSplit,F.initRow]
 repeat (first | (with_reducible refine wpAny_loadPart_at he ?_;rw [hcls]) | with_reducible refine wpAny_loadPart_at hC ?_ | (with_reducible refine wpAny_isSubtype_exc hC ?_;rw [hcB]) | wp_step)
 refine wpAny_onRaise ?_
 rw [show ∀ (a b:String) (n:Nat),Bind.check ⟨.positional, "*",B,.self,[⟨"args",.varPos,false⟩]⟩ a b n (List.map (fun x=>x.fst) ({pos:=Value.ref e::rest}:Args).kw)=pure () from
  fun a b n=>check_star_args _ _ _ _ _ _]
 exact wpAny_pure hq
theorem q5(F:ExcBaseFacts B newId initId bmB)(hcB:(Value.ref C::bm).contains (.type B)=true){e tt:Addr}{rest:List Value}{Q:Value→Shared→Prop}
  (hC:h.get? C=some (excClassObj nm q C N bs bm hdct sn sub ab col dd k0 k1 k2 k3 k5 newId)) (he:h.get? e=some (aB C tt)) (hrest:rest.length≤sizeLine)
  (hq:∀ h',(∀ b o,b≠e→h.get? b=some o→h'.get? b=some o)→h'.get? e=some (aB C h.objs.size)→h.objs.size < h'.objs.size→Q .none ⟨h',g,d,t,os⟩) :
  wpAny (model prog w) A (call (.builtin initId) (.ref e::rest)) Q E ⟨h,g,d,t,os⟩:=by
 refine wpAny_call (codeAny_call_builtin F.init.plain F.initEntry (gQ F hcB hC he rfl ?_))
 wp_walk
 refine hq _ (fun b o hb ho=>?_) ?_ ?_
 ·rw [Heap.get?_update_other _ _ (Ne.symm hb)]
  exact Heap.get?_push_of_some _ ho
 ·rw [Heap.get?_update_self _ (Heap.get?_push_of_some _ he) rfl]
  rfl
 ·rw [Heap.size_update,Heap.size_push]
  exact Nat.lt_succ_self _
end
theorem gP(self:Value):refuseLoop self "__setattr__" [.type "Exception",.type "BaseException",.type "object"]=pure ():=by kernel_rfl
section
variable {prog:Program}{w:World}{A:Around}{R:Result→Shared→Prop}{s:Shared}{K:Frag}{C e tt:Addr}
theorem tD{cd:ClassData}{name:Str}{tk:Tok}{v:Value}(X:K.In s.heap)(he:s.heap.get? e=some (aB C tt))(hc:clsIn K C=some cd)(hd:cd.hasDict=true)(hne:cd.mro.isEmpty=false)(hob:cd.mro.contains (.type "object")=true)
  (hr:refuseLoop (.ref e) "__setattr__" cd.mro=pure ()) (hf:findIn K (.ref C) name=some none)
  (h:∀ h' oe tk',(∀ b o,b≠e→s.heap.get? b=some o→h'.get? b=some o)→h'.get? e=some oe→oe.cls=.ref C→oe.data=(aB C tt).data→s.heap.objs.size≤h'.objs.size→R (.ok (.ret .none)) {s with heap:=h',toks:=tk'}) :
  codeAny (model prog w) A (.call (.builtin "object.__setattr__") ⟨[.ref e,.str name tk,v],[]⟩) R s:=by
 have SF:=PySem.F.store_object
 have I:InstAt s.heap e (aB C tt) C none:=⟨he,rfl,rfl,trivial⟩
 have sub:Looks (model prog w) s.heap (isInstance (.ref e) (.type "object")) true:=I.type.andThen (looks_mroIn X (by unfold mroIn;rw [hc,Option.bind_some,if_neg (by rw [hne];decide),hob]))
 refine codeAny_call_builtin SF.slot.plain SF.entry (@check_slot (model prog w) _ _ s "object.__setattr__" "object" "__setattr__" (.ref e) [.str name tk,v] [] _ SF.kind SF.split sub (SF.args (.ref e) (.str name tk) v) ?_)
 have hm:Looks (model prog w) s.heap (mroOf (.ref C)) cd.mro:=(looks_clsIn X hc).andThen .now
 rw [osa_eq,refuse_eq]
 refine wpAny_bind (wpAny_bind (I.type.here (wpAny_bind (hm.here ?_))))
 rw [hr]
 refine wpAny_pure (wpAny_bind (I.type.here (wpAny_bind ((looks_findIn X hf).here (wpAny_bind (wpAny_pure ?_))))))
 refine wpAny_bind (wpAny_pure (wpAny_bind (wpAny_bind (wpAny_loadPart he (wpAny_bind ((looks_clsIn X hc).here ?_))))))
 rw [hd]
 have hlt:e < s.heap.objs.size:=Heap.lt_size he
 refine wpAny_bind (wpAny_alloc (wpAny_bind (wpAny_update (Heap.get?_push_of_some _ he) ?_)))
 refine wpAny_pure (a:=some s.heap.objs.size) (wpAny_bind (wpAny_pure (wpAny_bind ?_)))
 unfold nsSet
 have D:((s.heap.push {cls:=.type "dict",data:=.dict #[]}).update e fun o=>{o with dict:=some s.heap.objs.size}).get? s.heap.objs.size=some {cls:=.type "dict",data:=.dict #[]}:=by
  rw [Heap.get?_update_other _ _ (Nat.ne_of_lt hlt)]
  exact Heap.get?_push_size _ rfl
 refine wpAny_bind (wpAny_bind (wpAny_askSetting (wpAny_pure (wpAny_bind (wpAny_mkText (wpAny_bind (wpAny_loadPart D ?_)))))))
 dsimp only
 have hz:aRefKeyMayBeTheName name #[]=false:=by rw [aRefKeyMayBeTheName_at];simp
 rw [hz]
 refine wpAny_updatePart D ?_
 generalize hH:(s.heap.push {cls:=.type "dict",data:=.dict #[]}).update e (fun o=>{o with dict:=some s.heap.objs.size})=H at *
 have hs9:=Heap.SameBut.update H s.heap.objs.size (Obj.putName name (if name.cps.isEmpty=true then 0 else reduceHash ((model prog w).w.params.strHash name.cps)) (.str name s.toks) v)
 refine wpAny_bind (wpAny_lookBehind (Heap.get?_update_self (Obj.putName name (if name.cps.isEmpty=true then 0 else reduceHash ((model prog w).w.params.strHash name.cps)) (.str name s.toks) v) D rfl) (pastItsLine_dict (es:=#[_]) (by rw [sizeLine_eq];show 1≤_;omega)) ?_)
 have heH:H.get? e=some {(aB C tt) with dict:=some s.heap.objs.size}:=by
  rw [← hH,Heap.get?_update_self _ (Heap.get?_push_of_some _ he) rfl]
 refine wpAny_pure (h _ {(aB C tt) with dict:=some s.heap.objs.size} _ (fun b o hb ho=>?_) ?_ rfl rfl ?_)
 ·rw [hs9.2 b (Nat.ne_of_lt (Heap.lt_size ho)),← hH,Heap.get?_update_other _ _ (Ne.symm hb)]
  exact Heap.get?_push_of_some _ ho
 ·rw [hs9.2 e (Nat.ne_of_lt hlt)]
  exact heH
 ·rw [Heap.size_update,← hH,Heap.size_update,Heap.size_push]
  exact Nat.le_succ _
end
end
section
inductive mJ(w:World)(C:Addr):Prop
 | mk {nm q:Str} {N:Addr} {bs bm:List Value} {hdct:Bool} {sn:List Str} {sub:List Value} {ab:Bool} {col:Option Bool} {dd:Option Addr} {k0 k1 k2 k3 k5:Option Value} {cd:ClassData}
  (hl:(K39 w.params).lookup C=some (excClassObj nm q C N bs bm hdct sn sub ab col dd k0 k1 k2 k3 k5 "Exception.__new__"))
  (c1:(Value.ref C::bm).contains (.type "Exception")=true) (c2:(Value.ref C::bm).contains (.type "AttributeError")=false) (c3:(Value.ref C::bm).contains (.type "NameError")=false)
  (e1:clsIn (K39 w.params) C=some cd) (e2:cd.hasDict=true) (e3:cd.mro.isEmpty=false) (e4:cd.mro.contains (.type "object")=true) (e5:∀ self,refuseLoop self "__setattr__" cd.mro=pure ())
  (e6:findIn (K39 w.params) (.ref C) (Str.ofString "message")=some none) (e7:findIn (K39 w.params) (.ref C) "__setattr__"=some (some (.builtin "object.__setattr__")))
  (e8:findIn (K39 w.params) (.ref C) "__init__"=some (some (.ref 35))) (e9:typeIn (K39 w.params) (.ref 35)=some (.type "function"))
theorem nE(w:World):mJ w 63:=.mk rfl (by decide) (by decide) (by decide) rfl rfl rfl (by decide) (fun self=>by rw [refuseLoop_ref,refuseLoop_ref];exact gP self) (by kernel_rfl) (by kernel_rfl) (by kernel_rfl) (by kernel_rfl)
theorem tF(w:World):mJ w 75:=.mk rfl (by decide) (by decide) (by decide) rfl rfl rfl (by decide) (fun self=>by rw [refuseLoop_ref,refuseLoop_ref];exact gP self) (by kernel_rfl) (by kernel_rfl) (by kernel_rfl) (by kernel_rfl)
section
variable {w:World}{A:Around}{E:Value→Shared→Prop}{s:Shared}{h₀:Heap}{L e C t:Addr}{m:Str→Option Value}{news:List (Addr × Obj)}
theorem iI{h h':Heap}{o o':Obj}(N:News h₀ L h ((e,o)::news))(hne:∀ p∈news,p.1≠e)(k:∀ b x,b≠e→h.get? b=some x→h'.get? b=some x)(he:h'.get? e=some o'):News h₀ L h' ((e,o')::news):=fun p hp=>by
 rcases List.mem_cons.mp hp with rfl | hp
 ·exact ⟨he,(N _ (.head _)).2⟩
 ·have z:=N p (.tail _ hp)
  exact ⟨k _ _ (hne p hp) z.1,z.2⟩
theorem ny{h h':Heap}{o:Obj}(F:Fr h₀ L h m)(N:News h₀ L h ((e,o)::news))(k:∀ b x,b≠e→h.get? b=some x→h'.get? b=some x):Fr h₀ L h' m :=
 have z:=N _ (.head _)
 ⟨F.ns.at' fun o x=>k L o (Ne.symm z.2.1) x,fun b o x=>k b o (fun q=>by rw [q,z.2.2] at x;cases x) (F.keep b o x),F.above⟩
end
noncomputable abbrev zc(t:Value):Data:=.fields #[t,.none,.none,.none,.bool false,.none]
noncomputable def lx(C:Addr)(o:Obj):Prop:=o.cls=.ref C∧∃ t:Addr,o.data=(aB C t).data
section
variable {d:Dy}{r:Nat}{l:Led}{K:CV→Led→Prop}{e C t:Addr}
theorem bG.typ{T:String}{name:Str}{v:Value}{C':Value→List CV→Prop}(ht:typeOf (.type T)=pure (.type "type"))(hs:Manifest.isStub T=false)(e:findCls (K39 d.w.params) (.type T) (.type "type") name=some (.val v))(hh:handedIn v=true)(hc:wy v=true)(k:C' v []):bG d r (.v (.type T)) name l C' :=
 .mk v [] (fun l'=>CW.of hc l') (fun u pl m hv=>by
  cases hv
  refine .quiet fun A E g s Q n kk=>?_
  obtain (⟨mo,news,F,N,_⟩):=n.a.led
  exact method_type F (n.G.XB.keeps fun O O e=>n.a.B.stays _ _ e) ht hs e hh (kk _ _ ⟨rfl,rfl,rfl,.nil⟩)) k
theorem LN.tG{msg:Str}(hE:mJ d.w C)(hm:l e=some (aB C t))(k:∀ t' l',Chg l e (aB C t') l'→K (.v .none) l'):LN d r (fun vs=>call (.builtin "Exception.__init__") vs) [.v (.ref e),.str msg] K l:=by
 refine ⟨fun vs m hv=>⟨fun A E g s n=>?_⟩⟩
 refine ar.dg hv fun u v i1 i2=>?_
 cases i1;cases i2
 obtain (⟨mo,news,F,N,_,_,_,ch⟩):=n.a.led
 obtain (⟨rest,N1,off,_,k1⟩):=ch e _ hm
 induction hE with | mk hl c1 c2 c3 e1 e2 e3 e4 e5 e6 e7 e8 e9 =>
 obtain (⟨hh,gg,ds,tk,os⟩):=s
 refine q5 (prog:=Pg) (w:=d.w) (tt:=t) PySem.F.excBase_Exception c1 (n.X _ _ hl) (N1 _ (.head _)).1 (by rw [sizeLine_eq];show 1≤_;omega) fun h' kp he O=>?_
 exact ⟨g,m,_,.of (s:=⟨hh,gg,ds,tk,os⟩),k1 h' _ (ny F N1 kp) (iI N1 off kp he),_,rfl,.v _,k _ _ .set⟩
theorem LU.uY{K:Led→Prop}{c:CV}(hE:mJ d.w C)(hm:l e=some (aB C t))(k:∀ oe l',Chg l e oe l'→oe.cls=.ref C→oe.data=(aB C t).data→K l'):LU d r (iD (Str.ofString "message")) [.v (.ref e),c] K l:=by
 refine ⟨fun vs m hv=>⟨fun A E g s n=>?_⟩⟩
 refine ar.dg hv fun u v i1 i2=>?_
 cases i1
 obtain (⟨mo,news,F,N,_,_,_,ch⟩):=n.a.led
 obtain (⟨rest,N1,off,_,k1⟩):=ch e _ hm
 induction hE with | mk hl c1 c2 c3 e1 e2 e3 e4 e5 e6 e7 e8 e9 =>
 have X:=n.X
 have he:=(N1 _ (.head _)).1
 refine set_plain (C:=C) (ox:=aB C t) (od:=none) X ⟨he,rfl,rfl,trivial⟩ e7 ?_
 refine tD (s:={s with toks:=s.toks+1}) (K:=K39 d.w.params) (tt:=t) X he e1 e2 e3 e4 (e5 _) e6 fun h' oe tk' kp hoe h1 h2 O=>?_
 exact ⟨g,m,_,.of (t:=tk'),k1 h' oe (ny F N1 kp) (iI N1 off kp hoe),rfl,k _ _ .set h1 h2⟩
theorem kT{msg:Str}(hE:mJ d.w C)(hm:l e=some (aB C t))(k:∀ oe l',Chg l e oe l'→lx C oe→K (.v .none) l'):Cc d (r+1) 35 [.v (.ref e),.str msg] K l:=by
 refine Cc.def {ns:=nm ["self", "message"],gi:=[73]} (nm ["self", "message"]) 99 rfl rfl (by kernel_rfl) (fun O O=>rfl) fun d P sb hP ev=>?_
 refine bG.typ (v:=.builtin "Exception.__init__") (by first | rfl | kernel_rfl) (by decide +kernel) (by kernel_rfl) rfl rfl ?_
 have hE':mJ d.w C:=sb.w▸hE
 refine LN.tG hE' hm fun t1 l1 c1=>?_
 refine LU.uY hE' c1.hit fun oe l2 c2 h1 h2=>?_
 exact hP _ _ _ _ (k oe l2 ⟨c2.hit,fun b hb=>(c2.other b hb).trans (c1.other b hb)⟩ ⟨h1,t1,h2⟩) .rfl
set_option tactic.hygienic true in
theorem LN.exc{msg:Str}(hE:mJ d.w C)(k:∀ e oe l',l e=none→lx C oe→Chg l e oe l'→K (.v (.ref e)) l'):LN d (r+2) (fun vs=>call (.ref C) vs) [.str msg] K l:=by
 refine ⟨fun vs m hv=>⟨fun A E g s N=>?_⟩⟩
 refine ar.eX hv fun u i1=>?_
 cases i1
 rename_i tm
 have hE0:=hE
 induction hE with | mk hl c1 c2 c3 e1 e2 e3 e4 e5 e6 e7 e8 e9 =>
 obtain (⟨f1,a1⟩):=N.a.push {cls:=.type "tuple",data:=.seq [Value.str msg tm].toArray}
 obtain (⟨f2,a2⟩):=a1.push (aB C s.heap.objs.size)
 rw [Heap.size_push] at f2 a2
 have X:=N.X
 obtain (⟨hh,gg,ds,tk,os⟩):=s
 refine q6 (prog:=Pg) (w:=d.w) (fI:=35) PySem.F.excBase_Exception c1 c2 c3 (X _ _ hl) (looks_findIn X e8) (fun self=>bind_fn X self e9) ?_ (by rw [sizeLine_eq];show 1≤_;omega)
 have f2':l (hh.objs.size+1)=none:=(Led.le.new f1).none f2
 have R':jN d.q (r+1) (A.under (.builtin "type.__call__" ⟨[.ref C,.str msg tm],[]⟩)):=⟨N.R.hd,N.R.fr,by have:=N.R.dep;show A.depth+1+(r+1)+1 < 1000;omega,by have:=N.R.pB;show A.units+1+16 * (r+1)+64 < 9900;omega⟩
 have N2:bx d.q (r+1) (A.under (.builtin "type.__call__" ⟨[.ref C,.str msg tm],[]⟩)) (fun e s'=>E e s') g ⟨(hh.push {cls:=.type "tuple",data:=.seq [Value.str msg tm].toArray}).push (aB C hh.objs.size),gg,ds,tk,os⟩ m (l.set (hh.objs.size+1) (aB C hh.objs.size)) :=
  ⟨(N.q E).G,R',(a2.sub (l':=l.set (hh.objs.size+1) (aB C hh.objs.size)) (.set (.new f1))).toQ,fun h=>h.elim,fun a s' th=>by cases th<;>exact False.elim ‹_›⟩
 refine codeAny_mono ((kT (d:=d.q) (r:=r) (msg:=msg) (K:=fun c l2=>c=.v .none∧K (.v (.ref (hh.objs.size+1))) l2) (l:=l.set (hh.objs.size+1) (aB C hh.objs.size)) hE0 Led.hit fun oe l' cg is=>⟨rfl,k _ oe l' f2' is ⟨cg.hit,fun b hb=>(cg.other b hb).trans (if_neg hb)⟩⟩).run [.ref (hh.objs.size+1),.str msg tm] m (.cons (.v _) (.cons (.str _ _) .nil)) _ _ g _ N2) fun res s' q=>?_
 induction res with
 | error e=>exact q
 | ok f =>
  induction f with
  | ret v =>
   obtain ⟨g',m',l',e,a,c,em,is,rfl,k⟩:=q
   cases is
   exact ⟨rfl,g',m',l',⟨e.T,⟨e.e.g,e.e.d,e.e.o⟩,e.st⟩,a.xW,_,em,.v _,k⟩
  | _=>exact q.elim
set_option tactic.hygienic true in
theorem pw.of{l':Led}{oe:Obj}(hC:C=63∨C=75)(hn:l e=none)(is:lx C oe)(cg:Chg l e oe l')(y:d.Y C l):pw d l' (.v (.ref e)):=by
 obtain (⟨h1,t,h2⟩):=is
 refine .mk e C l oe (.ref t) rfl (fun b o q=>?_) hn h1 hC h2 y
 unfold Led.set at q
 split at q
 ·rename_i hb;cases q;rw [hb];exact cg.hit
 ·rename_i hb;rw [cg.other b hb];exact q
end
end
section
section
variable {d:Dy}{r:Nat}{l:Led}{K:CV→Led→Prop}
noncomputable abbrev tY:Fi:={ns:=nm ["name", "arguments", "least", "most"],gi:=[59,1]}
theorem aU{x:Str}{a:Addr}{cs:List CV}{lo hi:Int}(hm:HL l a cs)(hz:cs.length≤1000)(h1:lo≤cs.length)(h2:cs.length≤hi)(k:K (.v .none) l):Cl d (r+1) (.ref 328) [.str x,.v (.ref a),.int lo,.int hi] K l:=by
 refine Cl.def tY (nm ["name", "arguments", "least", "most"]) 99 rfl rfl (by kernel_rfl) (fun O O O O=>rfl) fun d P sb hP ev=>?_
 refine LN.cL hm hz ?_
 refine .t' (decide_eq_true h1) ?_
 refine .t' (decide_eq_true h2) ?_
 exact hP none _ _ _ k .rfl
theorem bO{x:Str}{a:Addr}{cs:List CV}{lo hi:Int}(hm:HL l a cs)(hz:cs.length≤1000)(hx:x.length≤100)(h:cs.length < lo∨hi < cs.length)(y:d.X 63 l):Cl d (r+3) (.ref 328) [.str x,.v (.ref a),.int lo,.int hi] K l:=by
 refine Cl.def tY (nm ["name", "arguments", "least", "most"]) 99 rfl rfl (by kernel_rfl) (fun O O O O=>rfl) fun d P sb hP ev=>?_
 have sz:∀ {x y:Str},x.length≤300→y.length≤300→x.length+y.length≤sizeLine:=fun h1 h2=>by rw [PySem.sizeLine_eq];omega
 have go2:∀ {Q:CV→Led→Prop},(∀ e oe l',l e=none→lx 63 oe→Chg l e oe l'→Q (.v (.ref e)) l')→∀ {m:Str},LN d (r+2) (fun vs=>call (.ref 63) vs) [.str m] Q l:=fun k=>LN.exc (nE _) k
 refine LN.cL hm hz ?_
 have bad:∀ {T F:Prop} {b:Bool},True→True:=fun O=>trivial
 refine aA.mk (fun e1=>?_) fun O=>?_
 ·refine aA.mk (fun e2=>absurd h (by have:=of_decide_eq_true e1;have:=of_decide_eq_true e2;omega)) fun O=>?_
  refine And.intro (sz (by decide) (Nat.le_trans hx (by decide))) ?_
  refine And.intro (sz (by rw [Str.length_append];exact Nat.add_le_add (show _≤200 by decide) hx) (by decide)) ?_
  exact go2 fun e oe l' hn is cg=>pw.of (.inl rfl) hn is cg (sb.Y _ _ y)
 ·refine And.intro (sz (by decide) (Nat.le_trans hx (by decide))) ?_
  refine And.intro (sz (by rw [Str.length_append];exact Nat.add_le_add (show _≤200 by decide) hx) (by decide)) ?_
  exact go2 fun e oe l' hn is cg=>pw.of (.inl rfl) hn is cg (sb.Y _ _ y)
inductive nO(D:List ah)(n:Nat)(x:Str):Prop
 | mk (dd:ah) (out:List Nat) (e:D[n]?=some dd) (k:dd.kind=Str.ofString "element") (f:Flat D dd.kids out) (z:out.length≤900) (t:Txt.join (Str.ofString "") (txt D out)=x):nO D n x
variable {av:List Addr}{t:Addr}{D:List ah}
noncomputable abbrev nA:Fi:={ns:=nm ["value"],gi:=[64,69,28],cn:=nm ["tree"]}
theorem hU{a:Addr}{ns:List Nat}{tx:Nat→Str}(hT:Tree l av t D)(hval:∀ d∈D,d.val.length≤10)(hm:HL l a (aq ns))(hz:ns.length≤1000)(hx:∀ n∈ns,nO D n (tx n))
  (k:∀ b l',Mk l b (ai ((ns.map tx).map .str)) l'→K (.v (.ref b)) l'):Cl d (r+5) (.ref 333) [.v (.ref a),.v (.ref t)] K l:=by
 refine Cl.def nA (nm ["value", "tree"]) 99 rfl rfl (by kernel_rfl) (fun O O=>rfl) fun d P sb hP tc l1 nc ev=>?_
 refine LN.fL (.list (hm.le nc.le)) (.inr (.inr (.inr rfl))) (.t' (by decide) ?_)
 refine LE.dA (fi2:={ns:=nm ["node"],gi:=[27],fr:=nm ["tree"]}) 0 (aq ns) (fun b as n ys l'=>as=[]∧l1.le l'∧ys=((ns.take n).map tx).map .str) ev (by kernel_rfl) (by decide) rfl (fh _) (by rw [List.length_map];exact hz) (fun P' hP'=>?_) ?_ ?_
 ·exact hP' _ _ (hm.le nc.le) ⟨rfl,.rfl,rfl⟩
 ·rintro d2 b as P2 Q2 n c ys o l' hw hc ho hl ⟨rfl,le,rfl⟩ hy next skip
  rw [List.getElem?_map,Option.map_eq_some_iff] at hc
  obtain (⟨x,hxn,rfl⟩):=hc
  obtain (⟨dd,out,h1,h2,h3,h4,h5⟩):=hx x (List.mem_of_getElem? hxn)
  refine CK.mk _ ((nc.has _ rfl).le le) ?_
  refine nZ (hT.le (nc.le.trans le)) h1 h2 hval h3 h4 (next _ _ _ ho ⟨rfl,le,?_⟩)
  rw [h5,List.take_add_one,hxn,Option.toList_some,List.map_append,List.map_append];rfl
 ·rintro b as D2 ys l' l2 ⟨rfl,le,rfl⟩ hy m2
  rw [List.take_of_length_le (by rw [List.length_map];exact Nat.le_refl _)] at m2
  obtain (⟨l3,m3,cR⟩):=Mk.out (nc.le.trans le) m2
  exact hP _ _ _ _ (k _ _ m3) cR
theorem iZ{x:Str}(k:∀ b l',Mk l b (ai [.str x]) l'→K (.v (.ref b)) l'):Cl d (r+2) (.ref 333) [.str x,.v (.ref t)] K l:=by
 refine Cl.def nA (nm ["value", "tree"]) 99 rfl rfl (by kernel_rfl) (fun O O=>rfl) fun d P sb hP tc l1 nc ev=>?_
 refine LN.fL (.str x) (.inr (.inr (.inr rfl))) (.f' (by decide) ?_)
 refine CK.mk _ (nc.has _ rfl) ?_
 refine ct ?_
 refine LN.ag (aj rfl) fun b l2 m2=>?_
 obtain ⟨l3,m3,cR⟩:=Mk.out nc.le m2
 exact hP _ _ _ _ (k _ _ m3) cR
theorem g9(k:∀ b l',Mk l b (ai [.str (Str.ofString "true")]) l'→K (.v (.ref b)) l'):Cl d (r+2) (.ref 333) [.v (.bool true),.v (.ref t)] K l:=by
 refine Cl.def nA (nm ["value", "tree"]) 99 rfl rfl (by kernel_rfl) (fun O O=>rfl) fun d P sb hP tc l1 nc ev=>?_
 refine LN.fL (.bool true) (.inr (.inr (.inr rfl))) (.f' (by decide) ?_)
 refine CK.mk _ (nc.has _ rfl) ?_
 refine jK ?_
 refine LN.ag (aj rfl) fun b l2 m2=>?_
 obtain ⟨l3,m3,cR⟩:=Mk.out nc.le m2
 exact hP _ _ _ _ (k _ _ m3) cR
noncomputable def vc(p q:Int)(x:Str):Prop:=(p=0∧q=0∧x=Str.ofString "NaN")∨(uj p q=true∧x=wQ p q)
theorem ja{a:Addr}{p q:Int}{x:Str}(hx:HT l a [.int p,.int q])(h:vc p q x)(k:∀ b l',Mk l b (ai [.str x]) l'→K (.v (.ref b)) l'):Cl d (r+4) (.ref 333) [.v (.ref a),.v (.ref t)] K l:=by
 refine Cl.def nA (nm ["value", "tree"]) 99 rfl rfl (by kernel_rfl) (fun O O=>rfl) fun d P sb hP tc l1 nc ev=>?_
 refine LN.fL (.tup (hx.le nc.le)) (.inr (.inr (.inr rfl))) (.f' (by decide) ?_)
 refine CK.mk _ (nc.has _ rfl) ?_
 have fin:∀ {Q:CV→Led→Prop},Q (.str x) l1→LN d (r+3) (fun vs=>call (.ref 314) vs) [.v (.ref a),.v (.ref t)] Q l1:=fun {Q} k=>by
  rcases h with ⟨rfl,rfl,rfl⟩ | ⟨h,rfl⟩
  ·exact k7 (hx.le nc.le) k
  ·exact kZ (hx.le nc.le) h k
 refine fin (LN.ag (aj rfl) fun b l2 m2=>?_)
 obtain ⟨l3,m3,cR⟩:=Mk.out nc.le m2
 exact hP _ _ _ _ (k _ _ m3) cR
end
end
section
noncomputable def has(y x:Str):Bool:=!(Builtin.Str.occurrences y x 0 y.length 1).isEmpty
noncomputable def v7(a b:Int):Int:=if 2 * (a - a.fdiv b * b) > b∨(2 * (a - a.fdiv b * b)=b∧(a.fdiv b).fmod 2=1) then a.fdiv b+1 else a.fdiv b
noncomputable def wm(x y:Str):Bool:=!has x (Str.ofString "0#")&&!has y (Str.ofString "#0")&&!has y (Str.ofString ".")&&!has y (Str.ofString ",")&&!(x++y==Str.ofString "")&&decide (x.length≤100)&&decide (y.length≤100)
noncomputable abbrev tP(bf af:Str)(lw lr mr fac:Int):List (Str × CV):=[(Str.ofString "before",.str bf),(Str.ofString "after",.str af),(Str.ofString "least_whole",.int lw),(Str.ofString "group",.int 0),(Str.ofString "least_rest",.int lr),(Str.ofString "most_rest",.int mr),(Str.ofString "factor",.int fac)]
section
variable {d:Dy}{r:Nat}{l:Led}{K:CV→Led→Prop}
theorem fM{x y:Str}(h:wm x y=true)(k:K (.v .none) l):Cl d (r+1) (.ref 161) [.str x,.str y] K l:=by
 refine wz h (Bool.not_eq_true' _).mp (Bool.not_eq_true' _).mp (Bool.not_eq_true' _).mp (Bool.not_eq_true' _).mp (Bool.not_eq_true' _).mp of_decide_eq_true of_decide_eq_true fun h1 h2 h3 h4 h5 h6 h7=>?_
 refine Cl.def {ns:=nm ["whole", "rest"],gi:=[2]} (nm ["whole", "rest"]) 99 rfl rfl (by kernel_rfl) (fun O O=>rfl) fun d P sb hP ev=>?_
 refine .f' h1 (.f' h2 (.f' h3 (.f' h4 ?_)))
 refine And.intro (by rw [PySem.sizeLine_eq];omega) ?_
 exact .f' h5 (hP none _ _ _ k .rfl)
theorem jC{a b:Int}(ha:0≤a)(ha2:a < 10 ^ 15)(hb:0 < b)(hb2:b < 10 ^ 6)(k:K (.int (v7 a b)) l):Cl d (r+1) (.ref 175) [.int a,.int b] K l:=by
 have q:=bg (x:=a) ha hb
 refine Cl.def {ns:=nm ["top", "bottom", "whole", "twice"],gi:=[]} (nm ["top", "bottom"]) 99 rfl rfl (by kernel_rfl) (fun O O=>rfl) fun d P sb hP ev=>?_
 refine And.intro ⟨by omega,PyProof.noPylong_small (by omega)⟩ ?_
 refine And.intro (IntMulOk.of_right (intBits_le_64 (by omega) (by omega))) ?_
 refine And.intro (IntMulOk.of_left (by decide)) ?_
 unfold v7 at k
 refine aA.mk (fun h=>?_) fun h=>?_
 ·rw [if_pos (.inl (of_decide_eq_true h))] at k
  exact hP _ _ _ _ k .rfl
 ·have h:=of_decide_eq_false h
  refine aA.mk (fun h2=>?_) fun h2=>?_
  ·refine And.intro (by decide) ?_
   refine aA.mk (fun h3=>?_) fun h3=>?_
   ·rw [if_pos (.inr ⟨eq_of_beq h2,eq_of_beq h3⟩)] at k
    exact hP _ _ _ _ k .rfl
   ·rw [if_neg fun e=>e.elim h fun e=>(beq_eq_false_iff_ne.mp h3) e.2] at k
    exact hP _ _ _ _ k .rfl
  ·rw [if_neg fun e=>e.elim h fun e=>(beq_eq_false_iff_ne.mp h2) e.1] at k
   exact hP _ _ _ _ k .rfl
theorem gM{x:Str}(k:K (.str x) l):Cl d (r+1) (.ref 182) [.str x,.int 0] K l:=by
 refine Cl.def {ns:=nm ["digits", "size", "found"],gi:=[59]} (nm ["digits", "size"]) 99 rfl rfl (by kernel_rfl) (fun O O=>rfl) fun d P sb hP ev=>?_
 exact .t' (by decide) (hP _ _ _ _ k .rfl)
end
noncomputable def hX(b:Str):Str:=(Txt.partition b (Str.ofString ".")).1
noncomputable def ia(b:Str):Str:=(Txt.partition b (Str.ofString ".")).2.2
noncomputable def tV(bf b af:Str):Bool:=decide (b.length≤100)&&decide (bf.length≤100)&&decide (af.length≤100)&&decide ((hX b).length≤100)&&decide ((ia b).length≤100)&&(Builtin.Str.occurrences (hX b) (Str.ofString ",") 0 (hX b).length ((hX b).length+1)).isEmpty&&!has (hX b) (Str.ofString ",")&&wm (hX b) (ia b)&&!has (bf++af) (Str.ofString "\u2030")
noncomputable def oy(bf af:Str):Int:=if has (bf++af) (Str.ofString "%") then 100 else 1
section
variable {d:Dy}{r:Nat}{l:Led}{K:CV→Led→Prop}
theorem ke{p dp:Addr}{bf b af:Str}(h:tV bf b af=true)(I:Inst l p dp 150 [])(k:∀ l',(∀ b o,b≠dp→l b=some o→l' b=some o)→Inst l' p dp 150 (tP bf af (Txt.count (hX b) (Str.ofString "0")) (Txt.count (ia b) (Str.ofString "0")) (ia b).length (oy bf af))→K (.v .none) l'):Cc d (r+2) 147 [.v (.ref p),.str bf,.str b,.str af] K l:=by
 refine t9 h id id (Bool.not_eq_true' _).mp fun h h8 h9=>wz h of_decide_eq_true of_decide_eq_true of_decide_eq_true of_decide_eq_true of_decide_eq_true id (Bool.not_eq_true' _).mp fun h1 h2 h3 h4 h5 h6 h7=>?_
 refine Cc.def {ns:=nm ["self", "before", "body", "after", "whole", "point", "rest", "plain"],gi:=[59,6]} (nm ["self", "before", "body", "after"]) 400 rfl rfl (by kernel_rfl) (fun O O O O=>rfl) fun d P sb hP ev=>?_
 refine LU.aL I (by kernel_rfl) (by decide) fun l1 b1 I1=>?_
 refine LU.aL I1 (by kernel_rfl) (aj rfl) fun l2 b2 I2=>?_
 refine bG.str "str.partition" F.slot_str_partition F.type_str_partition ?_
 refine LN.vH (by decide) (Nat.le_trans h1 (by decide)) fun z l3 m3=>?_
 refine bh.of m3.is rfl ?_
 refine bG.str "str.replace" F.slot_str_replace F.type_str_replace ?_
 refine LN.vE h6 ?_
 refine bG.str "str.count" F.slot_str_count F.type_str_count ?_
 refine LN.rj ?_
 refine LU.aL (I2.le m3.le) (by kernel_rfl) (aj rfl) fun l4 b4 I4=>?_
 refine .f' h7 ?_
 refine LU.aL I4 (by kernel_rfl) (aj rfl) fun l5 b5 I5=>?_
 refine bG.str "str.count" F.slot_str_count F.type_str_count ?_
 refine LN.rj ?_
 refine LU.aL I5 (by kernel_rfl) (aj rfl) fun l6 b6 I6=>?_
 refine LN.eZ (Nat.le_trans h5 (by decide)) ?_
 refine LU.aL I6 (by kernel_rfl) (aj rfl) fun l7 b7 I7=>?_
 refine LU.aL I7 (by kernel_rfl) (aj rfl) fun l8 b8 I8=>?_
 refine fM h8 ?_
 have sz:bf.length+af.length≤sizeLine:=by rw [PySem.sizeLine_eq];omega
 have keep:∀ b o,b≠dp→l b=some o→l8 b=some o:=fun b o n e=>(b8 b n).trans ((b7 b n).trans ((b6 b n).trans ((b5 b n).trans ((b4 b n).trans (m3.le _ _ ((b2 b n).trans ((b1 b n).trans e)))))))
 refine And.intro sz ?_
 refine aA.mk (fun e=>?_) fun e=>?_
 ·refine LU.aL I8 (by kernel_rfl) (aj rfl) fun l9 b9 I9=>?_
  refine hP none _ _ _ (k l9 (fun b o n e=>(b9 b n).trans (keep b o n e)) ?_) .rfl
  unfold oy
  rw [if_pos (show has (bf++af) (Str.ofString "%")=true from e)]
  exact I9
 ·refine And.intro sz ?_
  refine .f' h9 (hP none _ _ _ (k l8 keep ?_) .rfl)
  unfold oy
  rw [if_neg (by rw [show has (bf++af) (Str.ofString "%")=false from e];decide)]
  exact I8
noncomputable def so:Str:=Str.ofString "#0,."
noncomputable def vg(x:Str):Nat:=scan (fun i=>!dZ so x i) x.length 0
noncomputable def vC(x:Str):Nat:=scan (dZ so x) (x.length - vg x) (vg x)
noncomputable def jR(x:Str):Str:=Txt.slice x none (some (vg x:Int))
noncomputable def pC(x:Str):Str:=Txt.slice x (some (vg x:Int)) (some (vC x:Int))
noncomputable def gk(x:Str):Str:=Txt.slice x (some (vC x:Int)) none
noncomputable def eR(x:Str):Bool:=decide (x.length≤100)&&((gk x).cps.all fun k=>decide (k < 128)&&!has so ⟨#[k]⟩)&&tV (jR x) (pC x) (gk x)
noncomputable def xN(l:Led)(p dp:Addr)(x:Str)(l':Led):Prop:=l.le l'∧l p=none∧l dp=none∧p≠dp∧Inst l' p dp 150 (tP (jR x) (gk x) (Txt.count (hX (pC x)) (Str.ofString "0")) (Txt.count (ia (pC x)) (Str.ofString "0")) (ia (pC x)).length (oy (jR x) (gk x)))
inductive yt(x:Str)(l:Led)(n:Nat)(σ:Sl)(l':Led):Prop
 | mk (b:Nat) (e:σ=.c (.str x) (.c (.int b) .nil)) (el:l'=l) (en:n=x.length - b) (h:scan (fun i=>!dZ so x i) n b=vg x):yt x l n σ l'
inductive yr(x:Str)(b:Nat)(l:Led)(n:Nat)(σ:Sl)(l':Led):Prop
 | mk (e:Nat) (es:σ=.c (.str x) (.c (.int b) (.c (.int e) .nil))) (el:l'=l) (en:n=x.length - e) (h:scan (dZ so x) n e=vC x):yr x b l n σ l'
theorem bb{x:Str}(h:eR x=true)(k:∀ p dp l',xN l p dp x l'→K (.v (.ref p)) l'):Cl d (r+4) (.ref 168) [.str x] K l:=by
 refine t9 h of_decide_eq_true Array.all_eq_true.mp id fun h1 h2 h3=>?_
 refine Cl.def {ns:=nm ["text", "begin", "end", "sign"],gi:=[59,53,2,5]} (nm ["text"]) 400 rfl rfl (by kernel_rfl) (fun O=>rfl) fun d P sb hP ev=>?_
 refine LS.bq (yt x l) x.length ev sb.may sb.ay (by kernel_rfl) (.c (.c .nil)) ⟨0,rfl,rfl,rfl,rfl⟩ ?_
 rintro P1 Q1 n σ l' ⟨b,rfl,rfl,e1,e2⟩ next ret exit
 have tail:vg x=b→Q1 (.c (.str x) (.c (.int b) .nil)) l':=fun hb=>exit _ _ (by
  refine LS.bq (yr x b l') (x.length - b) ev sb.may sb.ay (by kernel_rfl) (.c (.c (.c .nil))) ⟨b,rfl,rfl,rfl,by unfold vC;rw [hb]⟩ ?_
  rintro P2 Q2 n σ l'' ⟨e,rfl,rfl,e3,e4⟩ next ret exit
  have fin:vC x=e→Q2 (.c (.str x) (.c (.int b) (.c (.int e) .nil))) l'':=fun he=>exit _ _ (by
   have q3:Txt.slice x (some (e:Int)) none=gk x:=by unfold gk;rw [he]
   refine LS.uS (α:=Unit) (V:=fun O i c=>∃ k,(gk x).cps[i]?=some k∧c=.str ⟨#[k]⟩) (S:=fun O O O=>True) (It:=fun O i o=>o.cls=.type "str_ascii_iterator"∧∃ t,o.data=.fields #[.str (gk x) t,.int i 0]) (fun O i σ l3=>σ=.c (.str x) (.c (.int b) (.c (.int e) .nil))∧l3=l'') (fun O=>(gk x).cps.size) ev sb.may sb.ay (by kernel_rfl) (fun P' hP'=>?_) (fun O O O O O=>trivial) ?_ ?_
   ·refine bX.str (some (e:Int)) none (by omega) ?_
    rw [q3]
    exact hP' () _ _ _ (.c (.c (.c .nil))) (bQ.str (Array.all_eq_true.mpr fun i hi=>(Bool.and_eq_true _ _▸h2 i hi).1) fun O O=>True) ⟨rfl,rfl⟩
   ·rintro d1 P3 _ i c _ _ s1 hi ⟨q,hq,rfl⟩ ⟨rfl,rfl⟩ next ret
    have e1:q=(gk x).cps[i]:=by rw [Array.getElem?_eq_getElem hi] at hq;exact (Option.some.inj hq).symm
    have hn:=h2 i hi
    rw [Bool.and_eq_true,Bool.not_eq_true',← e1] at hn
    exact .f' hn.2 (next _ _ _ (.c (.c (.c .nil))) ⟨rfl,rfl⟩)
   ·rintro _ _ _ ⟨rfl,rfl⟩
    refine bX.str none (some (b:Int)) (by omega) ?_
    rw [show Txt.slice x none (some (b:Int))=jR x by unfold jR;rw [hb]]
    refine bX.str (some (b:Int)) (some (e:Int)) (by omega) ?_
    rw [show Txt.slice x (some (b:Int)) (some (e:Int))=pC x by unfold pC;rw [hb,he]]
    refine bX.str (some (e:Int)) none (by omega) ?_
    rw [q3]
    refine LN.cls (fI:=147) (by kernel_rfl) fun p dp l1 f1 f2 le1 ot I=>?_
    refine ke h3 I fun l2 kp I2=>⟨rfl,hP _ _ _ _ (k p dp l2 ⟨fun b o e=>kp b o (Led.ne e f2) (le1 _ _ e),f1,f2,I.ne,I2⟩) .rfl⟩)
  refine LN.eZ (by omega) ?_
  refine aA.mk (fun h=>?_) fun h=>fin ?_
  ·have h:=of_decide_eq_true h
   obtain (⟨n,rfl⟩):∃ m,n=m+1:=⟨n - 1,by omega⟩
   refine LN.gH (by omega) (by omega) (by omega) ?_
   refine aA.mk (fun h2=>?_) fun h2=>fin ?_
   ·exact next n _ _ _ (by omega) (.c (.c (.c .nil))) ⟨e+1,rfl,rfl,by omega,by rw [← e4,scan,if_pos (show dZ so x e=true from h2)]⟩
   ·rw [← e4,scan,if_neg (by rw [show dZ so x e=false from h2];decide)]
  ·have h:=of_decide_eq_false h
   obtain rfl:n=0:=by omega
   exact e4.symm)
 refine LN.eZ (by omega) ?_
 refine aA.mk (fun h=>?_) fun h=>tail ?_
 ·have h:=of_decide_eq_true h
  obtain (⟨n,rfl⟩):∃ m,n=m+1:=⟨n - 1,by omega⟩
  refine LN.gH (by omega) (by omega) (by omega) ?_
  refine aA.mk (fun h2=>?_) fun h2=>tail ?_
  ·exact next n _ _ _ (by omega) (.c (.c .nil)) ⟨b+1,rfl,rfl,by omega,by rw [← e2,scan,if_pos (show (!dZ so x b)=true from h2)]⟩
  ·rw [← e2,scan,if_neg (by rw [show (!dZ so x b)=false from h2];decide)]
 ·have h:=of_decide_eq_false h
  obtain rfl:n=0:=by omega
  exact e2.symm
end
end
section
noncomputable def gd(lr:Int):Nat→Str→Option Str
 | 0,_=>none
 | n+1,x=>if (lr < x.length)∧(Txt.slice x (some (-1)) none==Str.ofString "0")=true then gd lr n (Txt.slice x none (some (-1))) else some x
noncomputable def tI(a b fac:Int)(mr:Nat):Int:=v7 (a * fac * 10 ^ mr) b
noncomputable def u0(a b fac:Int)(mr:Nat):Str:=Str.ofString (toString ((tI a b fac mr).fdiv (10 ^ mr)))
noncomputable def yi(a b fac:Int)(mr:Nat):Str:=Str.ofString (toString ((tI a b fac mr).fmod (10 ^ mr)+10 ^ mr:Int))
noncomputable def xE(a b fac:Int)(mr:Nat):Str:=Txt.slice (yi a b fac mr) (some 1) none
noncomputable def wk(a b fac:Int)(mr:Nat):Str:=Txt.mul (Str.ofString "0") (1 - ((u0 a b fac mr).length:Int))++u0 a b fac mr
noncomputable def wo(w x:Str):Str:=if (x==Str.ofString "")=true then w else w++Str.ofString "."++x
noncomputable def rh(a b fac:Int)(mr:Nat):Bool:=decide (0≤a)&&decide (a < 10000)&&decide (0 < b)&&decide (b < 1000)&&decide (0 < fac)&&decide (fac≤100)&&decide (mr≤4)&&decide (0≤tI a b fac mr)&&decide (tI a b fac mr < 10 ^ 15)&&decide ((u0 a b fac mr).length≤50)&&decide ((yi a b fac mr).length≤50)
section
variable {d:Dy}{r:Nat}{l:Led}{K:CV→Led→Prop}
inductive yO(p:Addr)(a b fac lr:Int)(mr:Nat)(x:Str)(l:Led)(n:Nat)(σ:Sl)(l':Led):Prop
 | mk (y:Str) (e:σ=.c (.v (.ref p)) (.c (.int a) (.c (.int b) (.c (.int (10 ^ mr)) (.c (.int (tI a b fac mr)) (.c (.str (u0 a b fac mr)) (.c (.str y) .nil))))))) (el:l'=l) (hy:y.length≤50) (h:gd lr n y=some x):yO p a b fac lr mr x l n σ l'
theorem jH{p dp:Addr}{bf af x:Str}{a b fac lr:Int}{mr:Nat}(I:Inst l p dp 150 (tP bf af 1 lr mr fac))(h:rh a b fac mr=true)(hs:gd lr 50 (xE a b fac mr)=some x)(hx:x.length≤100)(hm:(Txt.mul (Str.ofString "0") (1 - ((u0 a b fac mr).length:Int))).length≤10)(k:K (.str (wo (wk a b fac mr) x)) l):Cl d (r+2) (.ref 189) [.v (.ref p),.int a,.int b] K l:=by
 refine wB h of_decide_eq_true of_decide_eq_true of_decide_eq_true of_decide_eq_true of_decide_eq_true of_decide_eq_true of_decide_eq_true of_decide_eq_true of_decide_eq_true of_decide_eq_true of_decide_eq_true fun h1 h2 h3 h4 h5 h6 h7 h8 h9 h10 h11=>?_
 have s0:(0:Int) < 10 ^ mr:=Int.pow_pos (by decide)
 have s1:(10:Int) ^ mr≤10 ^ 4:=by
  have e:(10:Int) ^ mr=((10 ^ mr:Nat):Int):=by simp
  have:10 ^ mr≤10 ^ 4:=Nat.pow_le_pow_right (by decide) h7
  omega
 have sc:Builtin.Int.intBits ((10:Int) ^ mr)≤64:=intBits_le_64 (by omega) (by omega)
 have np:∀ y,Builtin.divisionGoesByPylong y ((10:Int) ^ mr)=false:=fun y=>PyProof.noPylong_small (by omega)
 have af0:0≤a * fac:=Int.mul_nonneg h1 (by omega)
 have af1:a * fac≤10000 * 100:=Int.mul_le_mul (by omega) h6 (by omega) (by decide)
 have as0:0≤a * fac * 10 ^ mr:=Int.mul_nonneg af0 (by omega)
 have as1:a * fac * 10 ^ mr≤10000 * 100 * 10 ^ 4:=Int.mul_le_mul af1 s1 (by omega) (by decide)
 have nD:=bg h8 s0
 have nM:=bU (z:=tI a b fac mr) s0
 have big:(2:Nat) ^ 100≤2 ^ 1900:=Nat.pow_le_pow_right (by decide) (by decide)
 refine Cl.def {ns:=nm ["picture", "top", "bottom", "scale", "number", "whole", "rest", "told"],gi:=[8,65,59,9]} (nm ["picture", "top", "bottom"]) 400 rfl rfl (by kernel_rfl) (fun O O O=>rfl) fun d P sb hP ev=>?_
 refine LN.attr I (by kernel_rfl) rfl ?_
 refine LN.pow10 (Nat.le_trans h7 (by decide)) ?_
 refine LN.attr I (by kernel_rfl) rfl ?_
 refine And.intro (IntMulOk.of_left (intBits_le_64 (by omega) (by omega))) ?_
 refine And.intro (IntMulOk.of_right sc) ?_
 refine jC as0 (by omega) h3 (by omega) ?_
 refine And.intro ⟨by omega,np _⟩ ?_
 refine LN.j5 (Nat.lt_of_lt_of_le (show ((tI a b fac mr).fdiv (10 ^ mr)).natAbs < 2 ^ 100 by omega) big) ?_
 refine And.intro (by omega) ?_
 refine LN.j5 (Nat.lt_of_lt_of_le (show ((tI a b fac mr).fmod (10 ^ mr)+10 ^ mr).natAbs < 2 ^ 100 by omega) big) ?_
 refine bX.str (some 1) none (Nat.le_trans h11 (by decide)) ?_
 refine LS.bq (yO p a b fac lr mr x l) 50 ev sb.may sb.ay (by kernel_rfl) (.c (.c (.c (.c (.c (.c (.c .nil))))))) ⟨xE a b fac mr,rfl,rfl,Nat.le_trans (Txt.slice_le _ _ _) h11,hs⟩ ?_
 rintro P1 Q1 n σ l' ⟨y,rfl,rfl,hy,he⟩ next ret exit
 induction n with
 | zero=>cases he
 | succ n =>
  unfold gd at he
  have tail:y=x→Q1 (.c (.v (.ref p)) (.c (.int a) (.c (.int b) (.c (.int (10 ^ mr)) (.c (.int (tI a b fac mr)) (.c (.str (u0 a b fac mr)) (.c (.str y) .nil))))))) l':=fun e=>exit _ _ (by
   subst e
   have hv:(wk a b fac mr).length≤60:=by unfold wk;rw [Str.length_append];exact Nat.add_le_add (show _≤10 from hm) h10
   have sz:∀ {u v:Str},u.length≤500→v.length≤500→u.length+v.length≤sizeLine:=fun h1 h2=>by rw [PySem.sizeLine_eq];omega
   refine aA.mk (fun O=>?_) fun O=>?_
   ·refine LN.attr I (by kernel_rfl) rfl (.f' (by decide) ?_)
    refine LN.attr I (by kernel_rfl) rfl ?_
    refine LN.eZ (Nat.le_trans h10 (by decide)) ?_
    refine LN.vN (by decide) (by omega) (by omega) ?_
    refine And.intro (sz (Nat.le_trans hm (by decide)) (Nat.le_trans h10 (by decide))) ?_
    refine LN.attr I (by kernel_rfl) rfl ?_
    refine gM ?_
    unfold wo at k
    refine aA.mk (fun e=>?_) fun e=>?_
    ·rw [if_pos e] at k
     exact hP _ _ _ _ k .rfl
    ·rw [if_neg (by rw [e];decide)] at k
     refine And.intro (sz (Nat.le_trans hv (by decide)) (by decide)) ?_
     refine And.intro (sz (by rw [Str.length_append];exact Nat.add_le_add (Nat.le_trans hv (by decide:60≤400)) (show (Str.ofString ".").length≤100 by decide)) (Nat.le_trans hx (by decide))) ?_
     exact hP _ _ _ _ k .rfl
   ·refine LN.attr I (by kernel_rfl) rfl ?_
    refine LN.eZ (Nat.le_trans h10 (by decide)) ?_
    refine LN.vN (by decide) (by omega) (by omega) ?_
    refine And.intro (sz (Nat.le_trans hm (by decide)) (Nat.le_trans h10 (by decide))) ?_
    refine LN.attr I (by kernel_rfl) rfl ?_
    refine gM ?_
    unfold wo at k
    refine aA.mk (fun e=>?_) fun e=>?_
    ·rw [if_pos e] at k
     exact hP _ _ _ _ k .rfl
    ·rw [if_neg (by rw [e];decide)] at k
     refine And.intro (sz (Nat.le_trans hv (by decide)) (by decide)) ?_
     refine And.intro (sz (by rw [Str.length_append];exact Nat.add_le_add (Nat.le_trans hv (by decide:60≤400)) (show (Str.ofString ".").length≤100 by decide)) (Nat.le_trans hx (by decide))) ?_
     exact hP _ _ _ _ k .rfl)
  refine LN.eZ (Nat.le_trans hy (by decide)) ?_
  refine LN.attr I (by kernel_rfl) rfl ?_
  refine aA.mk (fun e1=>?_) fun e1=>tail ?_
  ·refine bX.str (some (-1)) none (Nat.le_trans hy (by decide)) ?_
   refine aA.mk (fun e2=>?_) fun e2=>tail ?_
   ·rw [if_pos ⟨of_decide_eq_true e1,e2⟩] at he
    refine bX.str none (some (-1)) (Nat.le_trans hy (by decide)) ?_
    exact next n _ _ _ (Nat.lt_succ_self _) (.c (.c (.c (.c (.c (.c (.c .nil))))))) ⟨_,rfl,rfl,Nat.le_trans (Txt.slice_le _ _ _) hy,he⟩
   ·rw [if_neg fun q=>by rw [show (Txt.slice y (some (-1)) none==Str.ofString "0")=false from e2] at q;cases q.2] at he
    exact Option.some.inj he
  ·rw [if_neg fun q=>(of_decide_eq_false e1) q.1] at he
   exact Option.some.inj he
end
end
section
noncomputable def fP(l:Led)(c:CV)(da:PyData):Prop:=∀ (h:Heap) v,(∀ b o,l b=some o→h.get? b=some o)→CV.Is c v→∃ as,Reads h v da as
noncomputable def rC(l:Led)(cs:List CV)(ds:List PyData):Prop:=∀ (h:Heap) vs,(∀ b o,l b=some o→h.get? b=some o)→ar cs vs→∃ as,ReadsAll h vs ds as
section
variable {l:Led}{a:Addr}{cs:List CV}{ds:List PyData}{c:CV}{da:PyData}
theorem fP.int{i:Int}:fP l (.int i) (.int i):=fun h v O is=>by cases is;exact ⟨_,.int _ _⟩
theorem fP.str{x:Str}:fP l (.str x) (.str x):=fun h v O is=>by cases is;exact ⟨_,.str _ _⟩
theorem rC.nil:rC l [] []:=fun h v O is=>by cases is;exact ⟨_,.nil⟩
theorem rC.cons(h1:fP l c da)(h2:rC l cs ds):rC l (c::cs) (da::ds):=fun h vs hl is=>by
 cases is with | cons i is =>
 obtain (⟨as,r⟩):=h1 h _ hl i
 obtain (⟨bs,q⟩):=h2 h _ hl is
 exact ⟨_,.cons r q⟩
theorem fP.list(hm:HL l a cs)(hs:rC l cs ds):fP l (.v (.ref a)) (.list ds):=fun h v hl is=>by
 cases is
 obtain (⟨us,n,e,hu⟩):=HL.at hm
 obtain (⟨as,r⟩):=hs h us hl hu
 exact ⟨_,.list (hl _ _ e) rfl rfl r⟩
theorem fP.tup(hm:HT l a cs)(hs:rC l cs ds):fP l (.v (.ref a)) (.tuple ds):=fun h v hl is=>by
 cases is
 obtain (⟨us,e,hu⟩):=HT.at hm
 obtain (⟨as,r⟩):=hs h us hl hu
 exact ⟨_,.tuple (hl _ _ e) rfl rfl r⟩
theorem rC.strs{xs:List Str}:rC l (xs.map .str) (xs.map .str):=by
 induction xs with
 | nil=>exact .nil
 | cons x r ih=>exact .cons .str ih
theorem rC.nats{xs:List Nat}:rC l (aq xs) (xs.map fun (n:Nat)=>.int (n:Int)):=by
 induction xs with
 | nil=>exact .nil
 | cons x r ih=>exact .cons .int ih
end
section
variable {d:Dy}{r:Nat}{l:Led}{K:CV→Led→Prop}{a b:CV}{da db:PyData}
theorem bx.room{A:Around}{E:Value→Shared→Prop}{g:Heap}{s:Shared}{m:Mp}(n:bx d r A E g s m l):A.units+64 < cLine:=by have:=n.R.pB;rw [cLine_is];omega
theorem LN.w0(ra:fP l a da)(rb:fP l b db)(sa: SeqAt.shaped da=true)(sb: SeqAt.shaped db=true)(h:K (.v (.bool (PyData.eqv da db))) l):LN d r (br .Eq) [a,b] K l :=
 .q2 fun A E g s Q v w m i1 i2 n kk=>by
  obtain (⟨as,r1⟩):=ra s.heap v (fun O O e=>n.a.get e) i1
  obtain (⟨bs,r2⟩):=rb s.heap w (fun O O e=>n.a.get e) i2
  exact eq_dataH r1 r2 sa sb n.room (kk _ _ s.toks (.v _) h)
theorem LN.x5(ra:fP l a da)(rb:fP l b db)(sa: SeqAt.shaped da=true)(sb: SeqAt.shaped db=true)(h:K (.v (.bool (!PyData.eqv da db))) l):LN d r (br .NotEq) [a,b] K l :=
 .q2 fun A E g s Q v w m i1 i2 n kk=>by
  obtain (⟨as,r1⟩):=ra s.heap v (fun O O e=>n.a.get e) i1
  obtain (⟨bs,r2⟩):=rb s.heap w (fun O O e=>n.a.get e) i2
  exact ne_dataH r1 r2 sa sb n.room (kk _ _ s.toks (.v _) h)
end
end
section
noncomputable def bH(x:Str)(a b:Int):Option Str :=
 let fac:=oy (jR x) (gk x)
 let mr:=(ia (pC x)).length
 if (Txt.count (hX (pC x)) (Str.ofString "0")==(1:Int))&&rh a b fac mr&&decide ((Txt.mul (Str.ofString "0") (1 - ((u0 a b fac mr).length:Int))).length≤10) then
  (match gd (Txt.count (ia (pC x)) (Str.ofString "0")) 50 (xE a b fac mr) with
  | some y=>if y.length≤100∧(wo (wk a b fac mr) y).length≤300 then some (wo (wk a b fac mr) y) else none
  | none=>none)
 else none
section
variable {d:Dy}{r:Nat}{l:Led}{K:CV→Led→Prop}
set_option tactic.hygienic true in
theorem dR{p dp:Addr}{x t bf af:Str}{a b:Int}(I:Inst l p dp 150 (tP bf af (Txt.count (hX (pC x)) (Str.ofString "0")) (Txt.count (ia (pC x)) (Str.ofString "0")) (ia (pC x)).length (oy (jR x) (gk x))))(h:bH x a b=some t)(k:t.length≤300→K (.str t) l):Cl d (r+2) (.ref 189) [.v (.ref p),.int a,.int b] K l:=by
 unfold bH at h
 dsimp only at h
 split at h
 ·rename_i e
  simp only [Bool.and_eq_true,decide_eq_true_eq,beq_iff_eq] at e
  obtain (⟨⟨e1,e2⟩,e3⟩):=e
  split at h
  ·rename_i y hy
   split at h
   ·rename_i z
    cases h
    rw [e1] at I
    exact jH I e2 hy z.1 e3 (k z.2)
   ·cases h
  ·cases h
 ·cases h
noncomputable abbrev qY:Fi:={ns:=nm ["number", "text", "pictures", "picture", "top", "bottom", "minus", "other", "told"],gi:=[59,2,7,10]}
theorem dj{u v:Str}(h1:u.length≤500)(h2:v.length≤500):u.length+v.length≤sizeLine:=by rw [PySem.sizeLine_eq];omega
theorem jk{a b:Int}(hb:0 < b):PyData.eqv (.tuple [.int a,.int b]) (.tuple [.int 0,.int 0])=false:=by
 show (a==0&&(b==0&&true))=false
 rw [show (b==0)=false by simpa using (by omega:¬ b=0)]
 simp
theorem lN{x:Str}(h:eR x=true):(jR x).length≤100∧(gk x).length≤100:=by
 have h:=of_decide_eq_true (bA (bA h).1).1
 exact ⟨Nat.le_trans (Txt.slice_le _ _ _) h,Nat.le_trans (Txt.slice_le _ _ _) h⟩
theorem mj{nb:Addr}{x x0 t:Str}{rest:List Str}{a b:Int}(hx:HT l nb [.int a,.int b])(ha:0≤a)(hb:0 < b)(hz:x.length≤100)(hsp:Txt.split x (Str.ofString ";")=x0::rest)(hr:rest.length≤1)(h0:eR x0=true)(hd:bH x0 a b=some t)
  (k:K (.str (Str.ofString ""++jR x0++t++gk x0)) l):Cl d (r+5) (.ref 196) [.v (.ref nb),.str x] K l:=by
 obtain ⟨z1,z3⟩:=lN h0
 refine Cl.def qY (nm ["number", "text"]) 400 rfl rfl (by kernel_rfl) (fun O O=>rfl) fun d P sb hP ev=>?_
 refine LN.au (aj rfl) fun z l1 m1=>?_
 refine LN.w0 (fP.tup (m1.keep hx) (.cons .int (.cons .int .nil))) (fP.tup m1.is (.cons .int (.cons .int .nil))) (by kernel_rfl) (by kernel_rfl) (.f' (jk hb) ?_)
 refine bG.str "str.split" F.slot_str_split F.type_str_split ?_
 refine LN.lK (by decide) (Nat.le_trans hz (by decide)) fun pl l2 m2=>?_
 have hpl:=m2.is
 rw [hsp] at hpl
 refine LN.cL hpl (by simp;omega) ?_
 refine .f' (decide_eq_false (by simp;omega)) ?_
 refine LN.aR hpl (by decide) rfl (by decide) ?_
 refine bb h0 fun p dp l3 pn=>?_
 obtain ⟨cR,f1,f2,npd,I⟩:=pn
 have le:=(m1.le.trans m2.le).trans cR
 refine bh.of (hx.le le) rfl ?_
 refine .f' (decide_eq_false (by omega)) ?_
 refine .f' (beq_eq_false_iff_ne.mpr (by omega)) ?_
 refine dR I hd fun tz=>?_
 refine LN.attr I (by kernel_rfl) rfl ?_
 refine And.intro (dj (by decide) (Nat.le_trans z1 (by decide))) ?_
 refine And.intro (dj (by rw [Str.length_append];exact Nat.add_le_add (show _≤100 by decide) (Nat.le_trans z1 (by decide:100≤400))) (Nat.le_trans tz (by decide))) ?_
 refine LN.attr I (by kernel_rfl) rfl ?_
 refine And.intro (dj ?_ (Nat.le_trans z3 (by decide))) (hP _ _ _ _ k le)
 rw [Str.length_append,Str.length_append]
 exact Nat.add_le_add (Nat.add_le_add (show (Str.ofString "").length≤50 by decide) (Nat.le_trans z1 (by decide:100≤150))) tz
theorem kO{nb:Addr}{x x0 t:Str}{a b:Int}(hx:HT l nb [.int a,.int b])(ha:a < 0)(hb:0 < b)(hz:x.length≤100)(hsp:Txt.split x (Str.ofString ";")=[x0])(h0:eR x0=true)(hd:bH x0 (-a) b=some t)
  (k:K (.str (Str.ofString "-"++jR x0++t++gk x0)) l):Cl d (r+5) (.ref 196) [.v (.ref nb),.str x] K l:=by
 obtain ⟨z1,z3⟩:=lN h0
 refine Cl.def qY (nm ["number", "text"]) 400 rfl rfl (by kernel_rfl) (fun O O=>rfl) fun d P sb hP ev=>?_
 refine LN.au (aj rfl) fun z l1 m1=>?_
 refine LN.w0 (fP.tup (m1.keep hx) (.cons .int (.cons .int .nil))) (fP.tup m1.is (.cons .int (.cons .int .nil))) (by kernel_rfl) (by kernel_rfl) (.f' (jk hb) ?_)
 refine bG.str "str.split" F.slot_str_split F.type_str_split ?_
 refine LN.lK (by decide) (Nat.le_trans hz (by decide)) fun pl l2 m2=>?_
 have hpl:=m2.is
 rw [hsp] at hpl
 refine LN.cL hpl (aj rfl) ?_
 refine .f' rfl ?_
 refine LN.aR hpl (by decide) rfl (by decide) ?_
 refine bb h0 fun p dp l3 pn=>?_
 obtain ⟨cR,f1,f2,npd,I⟩:=pn
 have le:=(m1.le.trans m2.le).trans cR
 refine bh.of (hx.le le) rfl ?_
 refine .t' (decide_eq_true ha) ?_
 refine LN.cL (hpl.le cR) (aj rfl) ?_
 refine .f' rfl ?_
 refine .f' (beq_eq_false_iff_ne.mpr (by omega)) ?_
 refine dR I hd fun tz=>?_
 refine LN.attr I (by kernel_rfl) rfl ?_
 refine And.intro (dj (by decide) (Nat.le_trans z1 (by decide))) ?_
 refine And.intro (dj (by rw [Str.length_append];exact Nat.add_le_add (show _≤100 by decide) (Nat.le_trans z1 (by decide:100≤400))) (Nat.le_trans tz (by decide))) ?_
 refine LN.attr I (by kernel_rfl) rfl ?_
 refine And.intro (dj ?_ (Nat.le_trans z3 (by decide))) (hP _ _ _ _ k le)
 rw [Str.length_append,Str.length_append]
 exact Nat.add_le_add (Nat.add_le_add (show (Str.ofString "-").length≤50 by decide) (Nat.le_trans z1 (by decide:100≤150))) tz
theorem kN{nb:Addr}{x x0 x1 t:Str}{a b:Int}(hx:HT l nb [.int a,.int b])(ha:a < 0)(hb:0 < b)(hz:x.length≤100)(hsp:Txt.split x (Str.ofString ";")=[x0,x1])(h0:eR x0=true)(h1:eR x1=true)(hd:bH x0 (-a) b=some t)
  (k:K (.str (Str.ofString ""++jR x1++t++gk x1)) l):Cl d (r+5) (.ref 196) [.v (.ref nb),.str x] K l:=by
 obtain ⟨z1,z3⟩:=lN h1
 refine Cl.def qY (nm ["number", "text"]) 400 rfl rfl (by kernel_rfl) (fun O O=>rfl) fun d P sb hP ev=>?_
 refine LN.au (aj rfl) fun z l1 m1=>?_
 refine LN.w0 (fP.tup (m1.keep hx) (.cons .int (.cons .int .nil))) (fP.tup m1.is (.cons .int (.cons .int .nil))) (by kernel_rfl) (by kernel_rfl) (.f' (jk hb) ?_)
 refine bG.str "str.split" F.slot_str_split F.type_str_split ?_
 refine LN.lK (by decide) (Nat.le_trans hz (by decide)) fun pl l2 m2=>?_
 have hpl:=m2.is
 rw [hsp] at hpl
 refine LN.cL hpl (aj rfl) ?_
 refine .f' rfl ?_
 refine LN.aR hpl (by decide) rfl (by decide) ?_
 refine bb h0 fun p dp l3 pn=>?_
 obtain ⟨cR,f1,f2,npd,I⟩:=pn
 have le:=(m1.le.trans m2.le).trans cR
 refine bh.of (hx.le le) rfl ?_
 refine .t' (decide_eq_true ha) ?_
 refine LN.cL (hpl.le cR) (aj rfl) ?_
 refine .t' rfl ?_
 refine LN.aR (hpl.le cR) (by decide) rfl (by decide) ?_
 refine bb h1 fun q dq l4 pn=>?_
 obtain ⟨le4,g1,g2,nqd,I2⟩:=pn
 refine LN.attr I2 (by kernel_rfl) rfl ?_
 refine LU.aL (I.le le4) (by kernel_rfl) (aj rfl) fun l5 b5 I5=>?_
 have nd:dq≠dp∧q≠dp:=by
  obtain ⟨_,o,e,_⟩:=I
  exact ⟨(Led.ne e g2).symm,(Led.ne e g1).symm⟩
 have I6:=I2.but b5 nd.2 nd.1
 refine LN.attr I6 (by kernel_rfl) rfl ?_
 refine LU.aL I5 (by kernel_rfl) (aj rfl) fun l6 b6 I6=>?_
 refine .f' (beq_eq_false_iff_ne.mpr (by omega)) ?_
 refine dR I6 hd fun tz=>?_
 refine LN.attr I6 (by kernel_rfl) rfl ?_
 refine And.intro (dj (by decide) (Nat.le_trans z1 (by decide))) ?_
 refine And.intro (dj (by rw [Str.length_append];exact Nat.add_le_add (show _≤100 by decide) (Nat.le_trans z1 (by decide:100≤400))) (Nat.le_trans tz (by decide))) ?_
 refine LN.attr I6 (by kernel_rfl) rfl ?_
 refine And.intro (dj ?_ (Nat.le_trans z3 (by decide))) (hP _ _ _ _ k ?_)
 ·rw [Str.length_append,Str.length_append]
  exact Nat.add_le_add (Nat.add_le_add (show (Str.ofString "").length≤50 by decide) (Nat.le_trans z1 (by decide:100≤150))) tz
 ·exact fun b o e=>have n:b≠dp:=Led.ne e ((m1.le.trans m2.le).none f2);(b6 b n).trans ((b5 b n).trans (le4 _ _ (le _ _ e)))
end
end
section
inductive dI(l:Led):CV→Int→Int→Prop
 | tup {a:Addr} {p q:Int} (h:HT l a [.int p,.int q]):dI l (.v (.ref a)) p q
 | t:dI l (.v (.bool true)) 1 1
 | s {x:Str} (hz:x.length≤100) (h:je (bS x)=true):dI l (.str x) (iF (bS x)) (mX (bS x))
inductive mI(x:Str)(a b:Int):Str→Prop
 | pos {x0 t:Str} {rest:List Str} (ha:0≤a) (hb:0 < b) (hz:x.length≤100) (hsp:Txt.split x (Str.ofString ";")=x0::rest) (hr:rest.length≤1) (h0:eR x0=true) (hd:bH x0 a b=some t):mI x a b (Str.ofString ""++jR x0++t++gk x0)
 | vM {x0 t:Str} (ha:a < 0) (hb:0 < b) (hz:x.length≤100) (hsp:Txt.split x (Str.ofString ";")=[x0]) (h0:eR x0=true) (hd:bH x0 (-a) b=some t):mI x a b (Str.ofString "-"++jR x0++t++gk x0)
 | vL {x0 x1 t:Str} (ha:a < 0) (hb:0 < b) (hz:x.length≤100) (hsp:Txt.split x (Str.ofString ";")=[x0,x1]) (h0:eR x0=true) (h1:eR x1=true) (hd:bH x0 (-a) b=some t):mI x a b (Str.ofString ""++jR x1++t++gk x1)
noncomputable abbrev xT(t:Addr)(nd p s:Int)(v n cl:Addr)(cu:Int)(i:Addr):List (Str × CV):=[(Str.ofString "tree",.v (.ref t)),(Str.ofString "node",.int nd),(Str.ofString "position",.int p),(Str.ofString "size",.int s),(Str.ofString "variables",.v (.ref v)),(Str.ofString "names",.v (.ref n)),(Str.ofString "calls",.v (.ref cl)),(Str.ofString "current",.int cu),(Str.ofString "ids",.v (.ref i))]
inductive Ctx(l:Led)(av:List Addr)(c t:Addr)(nd cu:Int)(cl:Addr):Prop
 | mk (dc:Addr) (p s:Int) (v n i:Addr) (h:Inst l c dc 407 (xT t nd p s v n cl cu i)) (n1:c ∉ av) (n2:dc ∉ av):Ctx l av c t nd cu cl
theorem Ctx.le{l l':Led}{av:List Addr}{c t:Addr}{nd cu:Int}{cl:Addr}(h:Ctx l av c t nd cu cl)(le:l.le l'):Ctx l' av c t nd cu cl:=by
 induction h with | mk dc p s v n i I a b=>exact ⟨dc,p,s,v,n,i,I.le le,a,b⟩
section
variable {d:Dy}{r:Nat}{l:Led}{K:CV→Led→Prop}{av:List Addr}{c t cl:Addr}{nd cu:Int}
theorem Ctx.tree(h:Ctx l av c t nd cu cl)(k:K (.v (.ref t)) l):LN d r (fZ (Str.ofString "tree")) [.v (.ref c)] K l:=by
 obtain (⟨dc,p,s,v,n,i,I,_⟩):=h
 exact LN.attr I (by kernel_rfl) rfl k
theorem Ctx.node(h:Ctx l av c t nd cu cl)(k:K (.int nd) l):LN d r (fZ (Str.ofString "node")) [.v (.ref c)] K l:=by
 obtain (⟨dc,p,s,v,n,i,I,_⟩):=h
 exact LN.attr I (by kernel_rfl) rfl k
theorem Ctx.current(h:Ctx l av c t nd cu cl)(k:K (.int cu) l):LN d r (fZ (Str.ofString "current")) [.v (.ref c)] K l:=by
 obtain (⟨dc,p,s,v,n,i,I,_⟩):=h
 exact LN.attr I (by kernel_rfl) rfl k
theorem jL{v tv:CV}{p q:Int}(h:dI l v p q)(k:∀ z l',l.le l'→HT l' z [.int p,.int q]→K (.v (.ref z)) l'):Cl d (r+4) (.ref 321) [v,tv] K l:=by
 induction h with
 | tup h=>exact iq h (k _ _ .rfl h)
 | t=>exact gY fun z l' m=>k z l' m.le m.is
 | s hz h=>exact ir hz h fun z l' m=>k z l' m.le m.is
theorem uW{nb:Addr}{x y:Str}{a b:Int}(hx:HT l nb [.int a,.int b])(h:mI x a b y)(k:K (.str y) l):Cl d (r+5) (.ref 196) [.v (.ref nb),.str x] K l:=by
 induction h with
 | pos h1 h2 h3 h4 h5 h6 h7=>exact mj hx h1 h2 h3 h4 h5 h6 h7 k
 | vM h1 h2 h3 h4 h6 h7=>exact kO hx h1 h2 h3 h4 h6 h7 k
 | vL h1 h2 h3 h4 h5 h6 h7=>exact kN hx h1 h2 h3 h4 h5 h6 h7 k
theorem uV{a:Addr}{v:CV}{x y:Str}{p q:Int}(hc:Ctx l av c t nd cu cl)(hm:HL l a [v,.str x])(hv:dI l v p q)(h:mI x p q y)(k:K (.str y) l):Cl d (r+6) (.ref 361) [.v (.ref a),.v (.ref c)] K l:=by
 refine Cl.def {ns:=nm ["arguments", "context", "number"],gi:=[30,29,11,28]} (nm ["arguments", "context"]) 99 rfl rfl (by kernel_rfl) (fun O O=>rfl) fun d P sb hP ev=>?_
 refine aU hm (aj rfl) (by show (2:Int)≤2;decide) (by show (2:Int)≤3;decide) ?_
 refine LN.aR hm (by decide) rfl (by decide) ?_
 refine hc.tree ?_
 refine jL hv fun z l1 le hz=>?_
 refine LN.aR (hm.le le) (by decide) rfl (by decide) ?_
 refine (hc.le le).tree ?_
 refine ct ?_
 exact uW hz h (hP _ _ _ _ k le)
theorem mi{a:Addr}{cs:List CV}(hm:HL l a cs)(hz:cs.length≤1000)(h:cs.length < 2∨3 < cs.length)(y:d.X 63 l):Cl d (r+4) (.ref 361) [.v (.ref a),.v (.ref c)] K l:=by
 refine Cl.def {ns:=nm ["arguments", "context", "number"],gi:=[30,29,11,28]} (nm ["arguments", "context"]) 99 rfl rfl (by kernel_rfl) (fun O O=>rfl) fun d P sb hP ev=>?_
 exact bO hm hz (by decide) (by omega) (sb.X _ _ y)
theorem gV{a:Addr}(hc:Ctx l av c t nd cu cl)(hm:HL l a [])(k:∀ b l',Mk l b (ai [.int cu]) l'→K (.v (.ref b)) l'):Cl d (r+2) (.ref 347) [.v (.ref a),.v (.ref c)] K l:=by
 refine Cl.def {ns:=nm ["arguments", "context"],gi:=[30]} (nm ["arguments", "context"]) 99 rfl rfl (by kernel_rfl) (fun O O=>rfl) fun d P sb hP ev=>?_
 refine aU hm (Nat.zero_le _) (by decide) (by decide) ?_
 refine hc.current ?_
 exact LN.ag (aj rfl) fun b l' m=>hP _ _ _ _ (k b l' m) .rfl
theorem gW{a:Addr}{cs:List CV}(hm:HL l a cs)(hz:cs.length≤1000)(h:0 < cs.length)(y:d.X 63 l):Cl d (r+4) (.ref 347) [.v (.ref a),.v (.ref c)] K l:=by
 refine Cl.def {ns:=nm ["arguments", "context"],gi:=[30]} (nm ["arguments", "context"]) 99 rfl rfl (by kernel_rfl) (fun O O=>rfl) fun d P sb hP ev=>?_
 exact bO hm hz (by decide) (by omega) (sb.X _ _ y)
end
end
section
noncomputable def rN(n:Int):Str:=Str.ofString "id"++Str.ofString (toString n)
section
variable {d:Dy}{r:Nat}{l:Led}{K:CV→Led→Prop}{av:List Addr}{c t cl:Addr}{nd cu:Int}
noncomputable abbrev kR:Fi:={ns:=nm ["arguments", "context", "nodes"],gi:=[30,59,64,69,1,65]}
theorem gO{a nl:Addr}{n:Nat}{ns:List Nat}(hm:HL l a [.v (.ref nl)])(hl:HL l nl (aq (n::ns)))(hz:ns.length≤900)(hn:n < 1000)(hs:(Str.ofString (toString (n:Int))).length≤100)(k:K (.str (rN n)) l):Cl d (r+2) (.ref 354) [.v (.ref a),.v (.ref c)] K l:=by
 refine Cl.def kR (nm ["arguments", "context"]) 99 rfl rfl (by kernel_rfl) (fun O O=>rfl) fun d P sb hP ev=>?_
 refine aU hm (aj rfl) (by show (0:Int)≤1;decide) (by show (1:Int)≤1;decide) ?_
 refine LN.cL hm (aj rfl) ?_
 refine .t' rfl ?_
 refine LN.aR hm (by decide) rfl (by decide) ?_
 refine LN.fL (.list hl) (.inr (.inr (.inr rfl))) (.t' (by decide) ?_)
 refine LN.ag (Nat.zero_le _) fun e l1 m1=>?_
 refine LN.d7 (m1.keep hl) m1.is (.t' (decide_eq_true (Nat.succ_ne_zero _)) ?_)
 refine LN.aR (m1.keep hl) (by decide) rfl (by decide) ?_
 refine LN.j5 (Nat.lt_of_lt_of_le (show ((n:Int)).natAbs < 2 ^ 10 by omega) (Nat.pow_le_pow_right (by decide) (by decide))) ?_
 exact And.intro (dj (by decide) (Nat.le_trans hs (by decide))) (hP _ _ _ _ k m1.le)
theorem jE{a nl:Addr}(hm:HL l a [.v (.ref nl)])(hl:HL l nl [])(k:K (.str (Str.ofString "")) l):Cl d (r+2) (.ref 354) [.v (.ref a),.v (.ref c)] K l:=by
 refine Cl.def kR (nm ["arguments", "context"]) 99 rfl rfl (by kernel_rfl) (fun O O=>rfl) fun d P sb hP ev=>?_
 refine aU hm (aj rfl) (by show (0:Int)≤1;decide) (by show (1:Int)≤1;decide) ?_
 refine LN.cL hm (aj rfl) ?_
 refine .t' rfl ?_
 refine LN.aR hm (by decide) rfl (by decide) ?_
 refine LN.fL (.list hl) (.inr (.inr (.inr rfl))) (.t' (by decide) ?_)
 refine LN.ag (Nat.zero_le _) fun e l1 m1=>?_
 refine LN.d7 (m1.keep hl) m1.is (.f' rfl ?_)
 exact hP _ _ _ _ k m1.le
theorem kJ{a:Addr}{n:Nat}(hc:Ctx l av c t n cu cl)(hm:HL l a [])(hn:n < 1000)(hs:(Str.ofString (toString (n:Int))).length≤100)(k:K (.str (rN n)) l):Cl d (r+2) (.ref 354) [.v (.ref a),.v (.ref c)] K l:=by
 refine Cl.def kR (nm ["arguments", "context"]) 99 rfl rfl (by kernel_rfl) (fun O O=>rfl) fun d P sb hP ev=>?_
 refine aU hm (Nat.zero_le _) (by decide) (by decide) ?_
 refine LN.cL hm (Nat.zero_le _) ?_
 refine .f' rfl ?_
 refine hc.node ?_
 refine LN.ag (aj rfl) fun nl l1 m1=>?_
 refine LN.fL (.list m1.is) (.inr (.inr (.inr rfl))) (.t' (by decide) ?_)
 refine LN.ag (Nat.zero_le _) fun e l2 m2=>?_
 refine LN.d7 (m2.keep m1.is) m2.is (.t' rfl ?_)
 refine LN.aR (m2.keep m1.is) (by decide) rfl (by decide) ?_
 refine LN.j5 (Nat.lt_of_lt_of_le (show ((n:Int)).natAbs < 2 ^ 10 by omega) (Nat.pow_le_pow_right (by decide) (by decide))) ?_
 exact And.intro (dj (by decide) (Nat.le_trans hs (by decide))) (hP _ _ _ _ k (m1.le.trans m2.le))
theorem kL{a:Addr}{cs:List CV}(hm:HL l a cs)(hz:cs.length≤1000)(h:1 < cs.length)(y:d.X 63 l):Cl d (r+4) (.ref 354) [.v (.ref a),.v (.ref c)] K l:=by
 refine Cl.def kR (nm ["arguments", "context"]) 99 rfl rfl (by kernel_rfl) (fun O O=>rfl) fun d P sb hP ev=>?_
 exact bO hm hz (by decide) (by omega) (sb.X _ _ y)
theorem md{a:Addr}{v:CV}{T:String}(hm:HL l a [v])(ty:Ty l v T)(hT:(T=="list")=false)(y:d.X 63 l):Cl d (r+4) (.ref 354) [.v (.ref a),.v (.ref c)] K l:=by
 refine Cl.def kR (nm ["arguments", "context"]) 99 rfl rfl (by kernel_rfl) (fun O O=>rfl) fun d P sb hP ev=>?_
 refine aU hm (aj rfl) (by show (0:Int)≤1;decide) (by show (1:Int)≤1;decide) ?_
 refine LN.cL hm (aj rfl) ?_
 refine .t' rfl ?_
 refine LN.aR hm (by decide) rfl (by decide) ?_
 have ex:∀ {Q:CV→Led→Prop} {m:Str},(∀ e oe l',l e=none→lx 63 oe→Chg l e oe l'→Q (.v (.ref e)) l')→LN d (r+3) (fun vs=>call (.ref 63) vs) [.str m] Q l:=fun k=>LN.exc (nE _) k
 induction ty with
 | list=>cases hT
 | str x=>exact LN.fL (.str x) (.inr (.inr (.inr rfl))) (.f' (by decide) (ex fun e oe l' hn is cg=>pw.of (.inl rfl) hn is cg (sb.Y _ _ y)))
 | bool b=>exact LN.fL (.bool b) (.inr (.inr (.inr rfl))) (.f' (by decide) (ex fun e oe l' hn is cg=>pw.of (.inl rfl) hn is cg (sb.Y _ _ y)))
 | tup h=>exact LN.fL (.tup h) (.inr (.inr (.inr rfl))) (.f' (by decide) (ex fun e oe l' hn is cg=>pw.of (.inl rfl) hn is cg (sb.Y _ _ y)))
end
end
section
section
variable {d:Dy}{r:Nat}{l:Led}{K:CV→Led→Prop}{av:List Addr}
theorem eV{src a:Addr}{cs:List CV}(hs:Src l src)(hm:HL l a cs)(h0:0 < cs.length)(hz:cs.length < 1000)(na:a≠src)(k:∀ (i:Nat) c l',cs[i]?=some c→ve src l l'→K c l'):Cl d (r+2) (.ref 644) [.v (.ref src),.v (.ref a)] K l:=by
 refine Cl.def {ns:=nm ["source", "things"],gi:=[41,59]} (nm ["source", "things"]) 99 rfl rfl (by kernel_rfl) (fun O O=>rfl) fun d P sb hP ev=>?_
 refine LN.cL hm (Nat.le_of_lt hz) ?_
 refine dE hs (by omega) (by omega) fun e l' e0 e1 dr=>?_
 have hi:e.toNat < cs.length:=by omega
 have hc:=List.getElem?_eq_getElem hi
 exact LN.aR (hm.but dr.other na) e0 hc (by omega) (hP _ _ _ _ (k _ _ _ hc dr) .rfl)
theorem j9{x dx:Addr}{kd nmS ur lo vl:Str}{par:Option Nat}(I:Inst l x dx 429 [])(k:∀ ch l',(∀ b o,b≠dx→l b=some o→l' b=some o)→l ch=none→HL l' ch []→(∃ c8 c9,Inst l' x dx 429 (uy ⟨kd,vl,par,[]⟩ (.str nmS) (.str ur) (.str lo) c8 c9 ch))→K (.v .none) l') :
  Cc d (r+1) 426 [.v (.ref x),.str kd,.str nmS,.str ur,.str lo,.str vl,qs par] K l:=by
 refine Cc.def {ns:=nm ["self", "kind", "name", "uri", "local", "value", "parent"],gi:=[]} (nm ["self", "kind", "name", "uri", "local", "value", "parent"]) 400 rfl rfl (by kernel_rfl) (fun O O O O O O O=>rfl) fun d P sb hP ev=>?_
 refine LU.aL I (by kernel_rfl) (aj rfl) fun l1 b1 I1=>?_
 refine LU.aL I1 (by kernel_rfl) (aj rfl) fun l2 b2 I2=>?_
 refine LU.aL I2 (by kernel_rfl) (aj rfl) fun l3 b3 I3=>?_
 refine LU.aL I3 (by kernel_rfl) (aj rfl) fun l4 b4 I4=>?_
 refine LU.aL I4 (by kernel_rfl) (aj rfl) fun l5 b5 I5=>?_
 refine LU.aL I5 (by kernel_rfl) (aj rfl) fun l6 b6 I6=>?_
 refine LN.ag (Nat.zero_le _) fun ch l7 m7=>?_
 refine LU.aL (I6.le m7.le) (by kernel_rfl) (aj rfl) fun l8 b8 I8=>?_
 refine LN.ag (Nat.zero_le _) fun a8 l9 m9=>?_
 refine LU.aL (I8.le m9.le) (by kernel_rfl) (aj rfl) fun l10 b10 I10=>?_
 refine LN.ag (Nat.zero_le _) fun a9 l11 m11=>?_
 refine LU.aL (I10.le m11.le) (by kernel_rfl) (aj rfl) fun l12 b12 I12=>?_
 have k6:∀ b o,b≠dx→l b=some o→l6 b=some o:=fun b o n e=>(b6 b n).trans ((b5 b n).trans ((b4 b n).trans ((b3 b n).trans ((b2 b n).trans ((b1 b n).trans e)))))
 have k12:∀ b o,b≠dx→l7 b=some o→l12 b=some o:=fun b o n e=>(b12 b n).trans (m11.le _ _ ((b10 b n).trans (m9.le _ _ ((b8 b n).trans e))))
 have ndx:ch≠dx:=by
  obtain (⟨_,o,e,_⟩):=I6
  exact (Led.ne e m7.fresh).symm
 refine hP none _ _ _ (k ch l12 (fun b o n e=>k12 b o n (m7.le _ _ (k6 b o n e))) ?_ ?_ ⟨_,_,I12⟩) .rfl
 ·cases q:l ch with
  | none=>rfl
  | some o=>have:=k6 ch o ndx q;rw [m7.fresh] at this;cases this
 ·obtain (⟨o,e,q⟩):=m7.is
  exact ⟨o,k12 ch o ndx e,q⟩
end
end
section
theorem HL.cU{l:Led}{a x dx C:Addr}{cs:List CV}{fs}(h:HL l a cs)(I:Inst l x dx C fs):x≠a∧dx≠a:=by
 obtain ⟨us,n,e,_⟩:=HL.at h
 obtain ⟨i1,o,i2,es,m,rfl,_⟩:=I
 refine ⟨fun q=>?_,fun q=>?_⟩
 ·rw [q,e] at i1;cases i1
 ·rw [q,e] at i2;cases congrArg Obj.data (Option.some.inj i2)
noncomputable abbrev aE(l:Led)(a:Addr)(l':Led):Prop:=∀ b o,b≠a→l b=some o→l' b=some o
theorem Hs.kp{l l':Led}{a b:Addr}{P:Obj→Prop}(h:Hs l b P)(k:aE l a l')(n:b≠a):Hs l' b P:=by
 induction h with | mk o e p=>exact ⟨o,k _ _ n e,p⟩
theorem Inst.kp{l l':Led}{a x dx C:Addr}{fs}(h:Inst l x dx C fs)(k:aE l a l')(n1:x≠a)(n2:dx≠a):Inst l' x dx C fs:=⟨k _ _ n1 h.1,h.2.kp k n2⟩
theorem mF.kp{l l':Led}{av:List Addr}{r ch a:Addr}{d:ah}{cs:List CV}(h:mF l av r ch d)(k:aE l a l')(ha:HL l a cs)(n:ch≠a):mF l' av r ch d :=
 ⟨h.i.map fun _ _ I b=>⟨I.kp k (ha.cU I).1 (ha.cU I).2,b⟩,h.kids.kp k n,h.kz,h.off⟩
section
variable {d:Dy}{r:Nat}{l:Led}{K:CV→Led→Prop}{av:List Addr}{t:Addr}{D:List ah}
theorem cO.push{l':Led}{rl x dx ch:Addr}{rs cs:List Addr}{c2 c3 c4 c8 c9:CV}{n:ah}(hT:cO l av t D rl rs cs)(hz:D.length < 899)(hav:∀ a∈av,l a≠none)(k:aE l rl l')(hr:HL l' rl ((rs++[x]).map fun r=>.v (.ref r)))(f1:l x=none)(f2:l dx=none)(f3:l ch=none)(I:Inst l' x dx 429 (uy n c2 c3 c4 c8 c9 ch))(hk:n.kids=[])(hch:HL l' ch []):cO l' av t (D++[n]) rl (rs++[x]) (cs++[ch]):=by
 obtain ⟨⟨dt,I0,o0⟩,hL,ho,n1,n2,z,nd,row⟩:=hT
 have ne:=hL.cU I0
 have nin:∀ {b},l b=none→b ∉ av:=fun e hb=>hav _ hb e
 have hc:∀ (i:Nat) c,cs[i]?=some c→l c≠none:=fun i c hi e=>by
  obtain (⟨dd,hd⟩):=aa (l:=D) (i:=i) (by rw [← n2];exact (List.getElem?_eq_some_iff.mp hi).1)
  obtain (⟨ra,hr⟩):=aa (l:=rs) (i:=i) (by rw [n1,← n2];exact (List.getElem?_eq_some_iff.mp hi).1)
  obtain (⟨o,e2,_⟩):=(row i dd ra c hd hr hi).kids
  rw [e] at e2;cases e2
 refine ⟨⟨dt,I0.kp k ne.1 ne.2,o0⟩,hr,ho,by simp [n1],by simp [n2],by simp;omega,?_,fun i dd ra ca h1 h2 h3=>?_⟩
 ·rw [← List.cons_append]
  refine List.nodup_append.mpr ⟨nd,by simp,fun a ha b hb e=>?_⟩
  rw [List.mem_singleton] at hb
  subst hb;subst e
  rcases List.mem_cons.mp ha with rfl | ha
  ·obtain (⟨o,e,_⟩):=hL;rw [f3] at e;cases e
  ·obtain (⟨i,hi⟩):=List.getElem?_of_mem ha;exact hc i _ hi f3
 ·by_cases hi:i < D.length
  ·rw [List.getElem?_append_left hi] at h1
   rw [List.getElem?_append_left (by rw [n1];exact hi)] at h2
   rw [List.getElem?_append_left (by rw [n2];exact hi)] at h3
   refine (row i dd ra ca h1 h2 h3).kp k hL fun e=>?_
   exact (List.nodup_cons.mp nd).1 (e▸List.mem_of_getElem? h3)
  ·have e:i=D.length:=by
    have:=(List.getElem?_eq_some_iff.mp h1).1
    rw [List.length_append,List.length_singleton] at this
    omega
   subst e
   rw [List.getElem?_append_right (Nat.le_refl _),Nat.sub_self] at h1
   rw [List.getElem?_append_right (by rw [n1];exact Nat.le_refl _),n1,Nat.sub_self] at h2
   rw [List.getElem?_append_right (by rw [n2];exact Nat.le_refl _),n2,Nat.sub_self] at h3
   cases h1;cases h2;cases h3
   exact ⟨⟨dx,c2,c3,c4,c8,c9,I,nin f2⟩,by rw [hk];exact hch,by rw [hk];decide,nin f1,nin f3⟩
theorem gw{rl:Addr}{rs cs:List Addr}{kd nmS ur lo vl:Str}{par:Option Nat}(hT:cO l av t D rl rs cs)(hz:D.length < 899)(hav:∀ a∈av,l a≠none)
  (k:∀ x ch l',cO l' av t (D++[⟨kd,vl,par,[]⟩]) rl (rs++[x]) (cs++[ch])→aE l rl l'→K (.int (D.length:Int)) l'):Cl d (r+3) (.ref 454) [.v (.ref t),.str kd,.str nmS,.str ur,.str lo,.str vl,qs par] K l:=by
 obtain ⟨dt,I,_⟩:=hT.i
 have hL:=hT.rows
 have ne:=HL.cU hL I
 refine Cl.def {ns:=nm ["self", "kind", "name", "uri", "local", "value", "parent"],gi:=[38,59]} (nm ["self", "kind", "name", "uri", "local", "value", "parent"]) 400 rfl rfl (by kernel_rfl) (fun O O O O O O O=>rfl) fun d P sb hP ev=>?_
 refine LN.attr I (by kernel_rfl) rfl ?_
 refine bG.lst "list.append" hL F.slot_list_append F.type_list_append ?_
 refine LN.cls (fI:=426) (by kernel_rfl) fun x dx l1 f1 f2 le1 ot I1=>?_
 refine j9 I1 fun ch l2 k2 f3 hch Ir=>⟨rfl,?_⟩
 obtain ⟨c8,c9,Ir⟩:=Ir
 have k02:l.le l2:=fun b o e=>k2 b o (Led.ne e f2) (le1 _ _ e)
 have hL2:=hL.le k02
 have z:((rs.map fun r=>CV.v (.ref r))).length≤1000:=by rw [List.length_map,hT.n1];omega
 refine LN.append hL2 z fun l3 u3=>?_
 have kp:aE l rl l3:=fun b o n e=>(u3.but b n).trans (k02 _ _ e)
 have nr:=HL.cU hL2 Ir
 have nch:ch≠rl:=by
  obtain ⟨o,e,_⟩:=hL
  exact (Led.ne (le1 _ _ e) f3).symm
 have hr:HL l3 rl ((rs++[x]).map fun r=>.v (.ref r)):=by rw [List.map_append];exact u3.is
 refine LN.attr (I.kp kp ne.1 ne.2) (by kernel_rfl) rfl ?_
 refine LN.cL hr (by rw [List.length_map,List.length_append,hT.n1];simp;omega) ?_
 refine hP _ _ _ _ ?_ .rfl
 rw [show ((((rs++[x]).map fun r=>CV.v (.ref r)).length:Int) - 1)=(D.length:Int) by rw [List.length_map,List.length_append,hT.n1];simp]
 exact k x ch l3 (hT.push hz hav kp hr f1 f2 (le1.none f3) (Ir.but u3.but nr.1 nr.2) rfl (u3.keep hch nch)) kp
end
end
section
section
variable {d:Dy}{r:Nat}{l:Led}{K:CV→Led→Prop}{av:List Addr}{t:Addr}{D:List ah}
theorem cO.yY{l':Led}{rl ch:Addr}{rs cs:List Addr}{p n:Nat}{dp:ah}(hT:cO l av t D rl rs cs)(hd:D[p]?=some dp)(hc:cs[p]?=some ch)(hkz:dp.kids.length < 899)(u:Up l ch (ai (aq (dp.kids++[n]))) l'):cO l' av t (D.set p {dp with kids:=dp.kids++[n]}) rl rs cs:=by
 obtain ⟨⟨dt,I0,o0⟩,hL,ho,n1,n2,z,nd,row⟩:=hT
 have hp:p < D.length:=(List.getElem?_eq_some_iff.mp hd).1
 obtain (⟨rp,hrp⟩):=aa (l:=rs) (i:=p) (by rw [n1];exact hp)
 have R:=row p dp rp ch hd hrp hc
 have ne:=HL.cU R.kids I0
 have kp:aE l ch l':=fun b o h e=>(u.but b h).trans e
 obtain (⟨nd1,nd2⟩):=List.nodup_cons.mp nd
 have nrl:rl≠ch:=fun e=>nd1 (e▸List.mem_of_getElem? hc)
 refine ⟨⟨dt,I0.kp kp ne.1 ne.2,o0⟩,hL.kp kp nrl,ho,by rw [List.length_set];exact n1,by rw [List.length_set];exact n2,by rw [List.length_set];exact z,nd,fun i dd ra ca h1 h2 h3=>?_⟩
 by_cases e:i=p
 ·subst e
  rw [List.getElem?_set_self hp] at h1
  rw [hrp] at h2;rw [hc] at h3
  cases h1;cases h2;cases h3
  obtain (⟨dr,c2,c3,c4,c8,c9,I,b⟩):=R.i
  have nr:=HL.cU R.kids I
  exact ⟨⟨dr,c2,c3,c4,c8,c9,I.kp kp nr.1 nr.2,b⟩,u.is,by rw [List.length_append];exact Nat.succ_lt_succ hkz,R.off⟩
 ·rw [List.getElem?_set_ne (Ne.symm e)] at h1
  refine (row i dd ra ca h1 h2 h3).kp kp R.kids fun q=>e ?_
  subst q
  obtain (⟨hi1,hi2⟩):=((List.getElem?_eq_some_iff.mp h3))
  obtain (⟨hj1,hj2⟩):=((List.getElem?_eq_some_iff.mp hc))
  exact (List.getElem_inj nd2).mp (hi2.trans hj2.symm)
theorem jX(hav:∀ a∈av,l a≠none)(k:∀ t l',Tree l' av t []→l.le l'→l t=none→K (.v (.ref t)) l'):Cl d (r+2) (.ref 618) [] K l:=by
 refine LN.cls (fI:=447) (by kernel_rfl) fun x dx l1 f1 f2 le1 ot I=>?_
 refine Cc.def {ns:=nm ["self"],gi:=[]} (nm ["self"]) 99 rfl rfl (by kernel_rfl) (fun O=>rfl) fun d P sb hP ev=>?_
 refine LN.ag (Nat.zero_le _) fun rl l2 m2=>?_
 refine LU.aL (I.le m2.le) (by kernel_rfl) (by decide) fun l3 b3 I3=>?_
 have nin:∀ {b},l b=none→b ∉ av:=fun e hb=>hav _ hb e
 have ndx:rl≠dx:=by
  obtain (⟨_,o,e,_⟩):=I
  exact (Led.ne e m2.fresh).symm
 refine hP none _ _ _ ⟨rfl,k x l3 ⟨rl,[],[],⟨⟨dx,I3,nin f2⟩,m2.is.but b3 ndx,⟨nin f1,nin (le1.none m2.fresh)⟩,rfl,rfl,by decide,by simp,fun i O O O h=>by cases h⟩⟩ (fun b o e=>(b3 b (Led.ne e f2)).trans (m2.le _ _ (le1 _ _ e))) f1⟩ .rfl
theorem kq(hT:Tree l av t D)(hz:D.length < 899)(hav:∀ a∈av,l a≠none)(k:∀ l',Tree l' av t (D++[⟨Str.ofString "root",Str.ofString "",none,[]⟩])→(∀ a∈av,l' a≠none)→(∀ b o,b∈av→l b=some o→l' b=some o)→K (.int (D.length:Int)) l'):Cl d (r+4) (.ref 468) [.v (.ref t)] K l:=by
 obtain (⟨rl,rs,cs,hT⟩):=hT
 obtain (⟨dt,I,_⟩):=hT.i
 refine Cl.def {ns:=nm ["self"],gi:=[]} (nm ["self"]) 99 rfl rfl (by kernel_rfl) (fun O=>rfl) fun d P sb hP ev=>?_
 refine bG.own 454 I (by kernel_rfl) ?_
 refine gw (par:=none) hT hz hav fun x ch l' T kp=>hP _ _ _ _ (k l' ⟨_,_,_,T⟩ ?_ ?_) .rfl
 ·intro a ha e
  cases q:l a with
  | none=>exact hav a ha q
  | some o=>rw [kp a o (fun e=>hT.off.2 (e▸ha)) q] at e;cases e
 ·exact fun b o hb e=>kp b o (fun q=>hT.off.2 (q▸hb)) e
theorem LN.uB{x:Str}(h:K (.v (.bool (!([Str.ofString "root",Str.ofString "element"].any (·==x))))) l):LN d r (br .NotIn) [.str x,.v (.ref 412)] K l :=
 .q2 fun A E g s Q v w m i1 i2 n kk=>by
  cases i1;cases i2
  refine notin_tuple_strs (ys:=[Str.ofString "root",Str.ofString "element"]) ⟨_,n.X 412 _ rfl,rfl,_,rfl⟩ (.cons _ _ (.cons _ _ .nil)) (kk _ _ s.toks (.v _) h)
noncomputable abbrev aW(D:List ah)(p:Nat)(dp:ah)(nw:ah):List ah:=(D++[nw]).set p {dp with kids:=dp.kids++[D.length]}
theorem eH{p:Nat}{dp:ah}{kd nmS ur lo vl:Str}(hT:Tree l av t D)(hd:D[p]?=some dp)(hk:dp.kind=Str.ofString "root"∨dp.kind=Str.ofString "element")(hz:D.length < 898)(hkz:dp.kids.length < 899)(hav:∀ a∈av,l a≠none)
  (k:∀ l',Tree l' av t (aW D p dp ⟨kd,vl,some p,[]⟩)→(∀ b o,b∈av→l b=some o→l' b=some o)→K (.int (D.length:Int)) l'):Cl d (r+4) (.ref 475) [.v (.ref t),.int (p:Int),.str kd,.str nmS,.str ur,.str lo,.str vl] K l:=by
 obtain ⟨rl,rs,cs,hT⟩:=hT
 obtain (⟨dt,I,_⟩):=hT.i
 have hp:=(List.getElem?_eq_some_iff.mp hd).1
 obtain (⟨ra,hr⟩):=aa (l:=rs) (i:=p) (by rw [hT.n1];exact hp)
 obtain (⟨ca,hc⟩):=aa (l:=cs) (i:=p) (by rw [hT.n2];exact hp)
 obtain (⟨dr,c2,c3,c4,c8,c9,IR,_⟩):=(hT.row p dp ra ca hd hr hc).i
 refine Cl.def {ns:=nm ["self", "parent", "kind", "name", "uri", "local", "value", "node"],gi:=[57,0]} (nm ["self", "parent", "kind", "name", "uri", "local", "value"]) 400 rfl rfl (by kernel_rfl) (fun O O O O O O O=>rfl) fun d P sb hP ev=>?_
 refine LN.isNotNone (aA.yes ?_)
 refine bG.own 461 I (by kernel_rfl) ?_
 refine eT hT hr ?_
 refine LN.attr IR (by kernel_rfl) rfl ?_
 refine LN.uB (.f' (by rcases hk with h | h<;>rw [h]<;>decide) ?_)
 refine bG.own 454 I (by kernel_rfl) ?_
 refine gw (par:=some p) hT (by omega) hav fun x ch l1 T kp=>?_
 refine LN.isNotNone (aA.yes ?_)
 obtain (⟨dt2,I2,_⟩):=T.i
 refine LN.attr I2 (by kernel_rfl) rfl ?_
 have hr2:(rs++[x])[p]?=some ra:=by rw [List.getElem?_append_left (by rw [hT.n1];exact hp)];exact hr
 have hc2:(cs++[ch])[p]?=some ca:=by rw [List.getElem?_append_left (by rw [hT.n2];exact hp)];exact hc
 have hd2:(D++[(⟨kd,vl,some p,[]⟩:ah)])[p]?=some dp:=by rw [List.getElem?_append_left hp];exact hd
 have R2:=T.row p dp ra ca hd2 hr2 hc2
 obtain (⟨dr2,e2,e3,e4,e8,e9,IR2,_⟩):=R2.i
 refine LN.aR T.rows (by omega) (by rw [Int.toNat_natCast,List.getElem?_map,hr2];rfl) (by omega) ?_
 refine LN.attr IR2 (by kernel_rfl) rfl ?_
 refine bG.lst "list.append" R2.kids F.slot_list_append F.type_list_append ?_
 refine LN.append R2.kids (by rw [List.length_map];omega) fun l2 u2=>?_
 have u2:Up l1 ca (ai (aq (dp.kids++[D.length]))) l2:=⟨u2.but,by rw [aT];exact u2.is⟩
 refine hP _ _ _ _ (k l2 ⟨_,_,_,T.yY hd2 hc2 hkz u2⟩ fun b o hb e=>?_) .rfl
 exact (u2.but b fun q=>R2.off.2 (q▸hb)).trans (kp b o (fun q=>hT.off.2 (q▸hb)) e)
theorem gZ{p:Nat}{dp:ah}{nmS ur lo:Str}(hT:Tree l av t D)(hd:D[p]?=some dp)(hk:dp.kind=Str.ofString "root"∨dp.kind=Str.ofString "element")(hz:D.length < 898)(hkz:dp.kids.length < 899)(hav:∀ a∈av,l a≠none)
  (k:∀ l',Tree l' av t (aW D p dp ⟨Str.ofString "element",Str.ofString "",some p,[]⟩)→(∀ b o,b∈av→l b=some o→l' b=some o)→K (.int (D.length:Int)) l'):Cl d (r+5) (.ref 482) [.v (.ref t),.int (p:Int),.str nmS,.str ur,.str lo] K l:=by
 refine Cl.def {ns:=nm ["self", "parent", "name", "uri", "local"],gi:=[]} (nm ["self", "parent", "name", "uri", "local"]) 99 rfl rfl (by kernel_rfl) (fun O O O O O=>rfl) fun d P sb hP ev=>?_
 refine hT.iJ 475 (by kernel_rfl) ?_
 exact eH hT hd hk hz hkz hav fun l' T kp=>hP _ _ _ _ (k l' T kp) .rfl
theorem k9{p:Nat}{dp:ah}{vl:Str}(hT:Tree l av t D)(hd:D[p]?=some dp)(hk:dp.kind=Str.ofString "root"∨dp.kind=Str.ofString "element")(hz:D.length < 898)(hkz:dp.kids.length < 899)(hav:∀ a∈av,l a≠none)
  (k:∀ l',Tree l' av t (aW D p dp ⟨Str.ofString "text",vl,some p,[]⟩)→(∀ b o,b∈av→l b=some o→l' b=some o)→K (.int (D.length:Int)) l'):Cl d (r+5) (.ref 489) [.v (.ref t),.int (p:Int),.str vl] K l:=by
 refine Cl.def {ns:=nm ["self", "parent", "value"],gi:=[]} (nm ["self", "parent", "value"]) 99 rfl rfl (by kernel_rfl) (fun O O O=>rfl) fun d P sb hP ev=>?_
 refine hT.iJ 475 (by kernel_rfl) ?_
 exact eH hT hd hk hz hkz hav fun l' T kp=>hP _ _ _ _ (k l' T kp) .rfl
theorem lO{n:Nat}{out:List Nat}{top:Nat}(hT:Tree l av t D)(hup:iu D (some n) out)(hl:out.getLast?=some top)(k:K (.int (top:Int)) l):Cl d (r+2) (.ref 601) [.v (.ref t),.int (n:Int)] K l:=by
 obtain ⟨rl,rs,cs,hT⟩:=hT
 obtain (⟨dt,I,_⟩):=hT.i
 refine Cl.def {ns:=nm ["self", "node"],gi:=[]} (nm ["self", "node"]) 99 rfl rfl (by kernel_rfl) (fun O O=>rfl) fun d P sb hP ev=>?_
 refine LS.bq (fun m σ l'=>∃ (x:Nat) (rest:List Nat),σ=.c (.v (.ref t)) (.c (.int x) .nil)∧l'=l∧m=rest.length∧iu D (some x) rest∧rest.getLast?=some top) out.length ev sb.may sb.ay (by kernel_rfl) .rfl ⟨n,out,rfl,rfl,rfl,hup,hl⟩ ?_
 rintro P1 Q1 m σ l' ⟨x,rest,rfl,rfl,rfl,hu,hl⟩ next ret exit
 cases hu with
 | @cons _ dx rest hdx hu =>
  have hx:=(List.getElem?_eq_some_iff.mp hdx).1
  obtain ⟨ra,hr⟩:=aa (l:=rs) (i:=x) (by rw [hT.n1];exact hx)
  obtain (⟨ca,hc⟩):=aa (l:=cs) (i:=x) (by rw [hT.n2];exact hx)
  obtain (⟨dr,c2,c3,c4,c8,c9,IR,_⟩):=(hT.row x dx ra ca hdx hr hc).i
  refine bG.own 461 I (by kernel_rfl) ?_
  refine eT hT hr ?_
  refine LN.attr IR (by kernel_rfl) rfl ?_ (by cases dx.par<;>rfl)
  cases hp:dx.par with
  | none =>
   rw [hp] at hu
   cases hu
   rw [List.getLast?_singleton] at hl
   cases hl
   exact LN.dK (aA.no (exit _ _ (hP _ _ _ _ k .rfl)))
  | some y =>
   rw [hp] at hu
   refine LN.isNotNone (aA.yes ?_)
   refine LN.attr I (by kernel_rfl) rfl ?_
   have hz:=hT.z
   refine LN.aR hT.rows (by omega) (by rw [Int.toNat_natCast,List.getElem?_map,hr];rfl) (by omega) ?_
   refine LN.attr IR (by kernel_rfl) rfl ?_ (by cases dx.par<;>rfl)
   rw [hp]
   refine next rest.length _ _ _ (Nat.lt_succ_self _) .rfl ⟨y,rest,rfl,rfl,rfl,hu,?_⟩
   cases hu with
   | cons h1 h2=>rw [List.getLast?_cons_cons] at hl;exact hl
end
end
section
section
variable {d:Dy}{r:Nat}{l:Led}{K:CV→Led→Prop}{av:List Addr}{t cl:Addr}{nd cu:Int}
theorem Cc.oZ{f T:Addr}{D:Stmt}{q mo:String}{t:Tok}{c:Addr}{cs es:List CV}{o:Obj}{items:Array Value}{m:Nat}(fi:Fi)(ps:List Str)(ds:List Value)
  (ho:(K39 d.w.params).lookup f=some (fo D q (.ref T) mo t c)) (hcd:codeIn (K39 d.w.params) (.ref c) (Str.ofString q)=true) (hT:(K39 d.w.params).lookup T=some o) (hs:o.data=.seq items m) (hds:ar es ds) (hok:kV D fi ps=true)
  (hb:g6 cs.length fun vs=>∃ k,bindArgs (fdOf D q (.ref T) mo t c) ⟨vs,[]⟩=seqItems? (.ref T) >>= k∧k (some items)=pure (ps.zip (vs++ds)))
  (h:∀ (d':Dy) (P:Option CV→Sl→Led→Prop),Sub d d' (fdOf D q (.ref T) mo t c) f→(∀ o σ l l',K (o.getD (.v .none)) l→l.le l'→P o σ l') →
   ak (vals ps (cs++es)) fi.cn (fun as l=>Ev d' fi as→go (fi:=fi) (r:=r) ⟨d',as,P,fun O O=>False⟩ 400 (.s (.f D) 0 .nil) (Sl.fC (vals ps (cs++es)) fi.ns) l) l) :
  Cc d (r+1) f cs K l :=
 .qI fi ps 400 ho hcd hok (fun s vs X hv=>by
  obtain (⟨k,h1,h2⟩):=g6.on (P:=fun vs=>∃ k,bindArgs (fdOf D q (.ref T) mo t c) ⟨vs,[]⟩=seqItems? (.ref T) >>= k∧k (some items)=pure (ps.zip (vs++ds))) (by rw [hv.len];exact hb)
  exact ⟨vs++ds,hv.append hds,binds_K X rfl hT hs h1 h2⟩) h
theorem LN.isNone(h:K (.v (.bool true)) l):LN d r (br .Is) [.v .none,.v .none] K l :=
 .q2 fun A E g s Q v w m i1 i2 n kk=>by cases i1;cases i2;exact is_none_none (kk _ _ s.toks (.v _) h)
theorem LN.nj{i:Int}(h:K (.v (.bool false)) l):LN d r (br .Is) [.int i,.v .none] K l :=
 .q2 fun A E g s Q v w m i1 i2 n kk=>by cases i1;cases i2;exact is_int_none (kk _ _ s.toks (.v _) h)
theorem LN.er{a:Addr}(h:K (.v (.bool false)) l):LN d r (br .Is) [.v (.ref a),.v .none] K l :=
 .q2 fun A E g s Q v w m i1 i2 n kk=>by cases i1;cases i2;exact is_ref_none (kk _ _ s.toks (.v _) h)
noncomputable abbrev nF:List Str:=nm ["self", "tree", "node", "position", "size", "variables", "names", "calls", "current", "ids"]
theorem my(hav:∀ a∈av,l a≠none)(k:∀ c l',Ctx l' av c t nd cu cl→l.le l'→l c=none→K (.v (.ref c)) l'):Cl d (r+2) (.ref 407) [.v (.ref t),.int nd,.int 1,.int 1,.v .none,.v .none,.v (.ref cl),.int cu] K l:=by
 refine LN.cls (fI:=383) (by kernel_rfl) fun x dx l1 f1 f2 le1 ot I=>?_
 refine Cc.oZ {ns:=nF,gi:=[]} nF [.none] rfl rfl rfl rfl (.cons (.v _) .nil) (by kernel_rfl) (fun O O O O O O O O O=>⟨_,rfl,rfl⟩) fun d P sb hP ev=>?_
 have nin:∀ {b},l b=none→b ∉ av:=fun e hb=>hav _ hb e
 refine LU.aL I (by kernel_rfl) (aj rfl) fun l2 b2 I2=>?_
 refine LU.aL I2 (by kernel_rfl) (aj rfl) fun l3 b3 I3=>?_
 refine LU.aL I3 (by kernel_rfl) (aj rfl) fun l4 b4 I4=>?_
 refine LU.aL I4 (by kernel_rfl) (aj rfl) fun l5 b5 I5=>?_
 refine LN.isNone (aA.yes ?_)
 refine LE.iR (PySem.strKind Pg d.w) (by kernel_rfl) fun v l6 m6 O=>?_
 refine LU.aL (I5.le m6.le) (by kernel_rfl) (aj rfl) fun l7 b7 I7=>?_
 refine LN.isNone (aA.yes ?_)
 refine LE.iR (PySem.strKind Pg d.w) (by kernel_rfl) fun n l8 m8 O=>?_
 refine LU.aL (I7.le m8.le) (by kernel_rfl) (aj rfl) fun l9 b9 I9=>?_
 refine LN.er (aA.no ?_)
 refine LU.aL I9 (by kernel_rfl) (aj rfl) fun l10 b10 I10=>?_
 refine LN.nj (aA.no ?_)
 refine LU.aL I10 (by kernel_rfl) (aj rfl) fun l11 b11 I11=>?_
 refine LN.isNone (aA.yes ?_)
 refine LE.iR (PySem.strKind Pg d.w) (by kernel_rfl) fun i l12 m12 O=>?_
 refine LU.aL (I11.le m12.le) (by kernel_rfl) (aj rfl) fun l13 b13 I13=>?_
 have le:l.le l13:=fun b o e=>by
  have n0:=Led.ne e f2
  exact (b13 b n0).trans (m12.le _ _ ((b11 b n0).trans ((b10 b n0).trans ((b9 b n0).trans (m8.le _ _ ((b7 b n0).trans (m6.le _ _ ((b5 b n0).trans ((b4 b n0).trans ((b3 b n0).trans ((b2 b n0).trans (le1 _ _ e))))))))))))
 exact hP none _ _ _ ⟨rfl,k x l13 ⟨dx,_,_,v,n,i,I13,nin f1,nin f2⟩ le f1⟩ .rfl
theorem pa{c:Addr}{nd2 p2 s2:Int}(hav:∀ a∈av,l a≠none)(hc:Ctx l av c t nd cu cl)(k:∀ c l',Ctx l' av c t nd2 cu cl→l.le l'→l c=none→K (.v (.ref c)) l'):Cl d (r+3) (.ref 390) [.v (.ref c),.int nd2,.int p2,.int s2] K l:=by
 obtain (⟨dc,p,s,v,n,i,I0,_⟩):=hc
 refine Cl.def {ns:=nm ["self", "node", "position", "size"],gi:=[37]} (nm ["self", "node", "position", "size"]) 400 rfl rfl (by kernel_rfl) (fun O O O O=>rfl) fun d P sb hP ev=>?_
 refine LN.attr I0 (by kernel_rfl) rfl ?_
 refine LN.attr I0 (by kernel_rfl) rfl ?_
 refine LN.attr I0 (by kernel_rfl) rfl ?_
 refine LN.attr I0 (by kernel_rfl) rfl ?_
 refine LN.attr I0 (by kernel_rfl) rfl ?_
 refine LN.attr I0 (by kernel_rfl) rfl ?_
 refine LN.cls (fI:=383) (by kernel_rfl) fun x dx l1 f1 f2 le1 ot I=>?_
 refine Cc.oZ {ns:=nF,gi:=[]} nF [] rfl rfl rfl rfl .nil (by kernel_rfl) (fun O O O O O O O O O O=>⟨_,rfl,rfl⟩) fun d P2 sb hP2 ev=>?_
 have nin:∀ {b},l b=none→b ∉ av:=fun e hb=>hav _ hb e
 refine LU.aL I (by kernel_rfl) (aj rfl) fun l2 b2 I2=>?_
 refine LU.aL I2 (by kernel_rfl) (aj rfl) fun l3 b3 I3=>?_
 refine LU.aL I3 (by kernel_rfl) (aj rfl) fun l4 b4 I4=>?_
 refine LU.aL I4 (by kernel_rfl) (aj rfl) fun l5 b5 I5=>?_
 refine LN.er (aA.no ?_)
 refine LU.aL I5 (by kernel_rfl) (aj rfl) fun l6 b6 I6=>?_
 refine LN.er (aA.no ?_)
 refine LU.aL I6 (by kernel_rfl) (aj rfl) fun l7 b7 I7=>?_
 refine LN.er (aA.no ?_)
 refine LU.aL I7 (by kernel_rfl) (aj rfl) fun l8 b8 I8=>?_
 refine LN.nj (aA.no ?_)
 refine LU.aL I8 (by kernel_rfl) (aj rfl) fun l9 b9 I9=>?_
 refine LN.er (aA.no ?_)
 refine LU.aL I9 (by kernel_rfl) (aj rfl) fun l10 b10 I10=>?_
 have le:l.le l10:=fun b o e=>by
  have n0:=Led.ne e f2
  exact (b10 b n0).trans ((b9 b n0).trans ((b8 b n0).trans ((b7 b n0).trans ((b6 b n0).trans ((b5 b n0).trans ((b4 b n0).trans ((b3 b n0).trans ((b2 b n0).trans (le1 _ _ e)))))))))
 exact hP2 none _ _ _ ⟨rfl,hP _ _ _ _ (k x l10 ⟨dx,_,_,v,n,i,I10,nin f1,nin f2⟩ le f1) .rfl⟩ .rfl
end
end
section
structure ba(l:Led)(ra:Addr)(rw:List (Nat × Str))(tp:List Addr):Prop where
 li:HL l ra (tp.map fun a=>.v (.ref a))
 n:tp.length=rw.length
 it:∀ (i:Nat) a p,tp[i]?=some a→rw[i]?=some p→HT l a [.int (p.1:Int),.str p.2]
theorem ba.le{l l':Led}{ra:Addr}{rw:List (Nat × Str)}{tp:List Addr}(h:ba l ra rw tp)(le:l.le l'):ba l' ra rw tp:=⟨h.li.le le,h.n,fun i a p h1 h2=>(h.it i a p h1 h2).le le⟩
theorem Src.nt{l:Led}{s a:Addr}{cs:List CV}(h:Src l s)(t:HT l a cs):a≠s:=fun e=>by
 obtain (⟨x,y,tx,ty,n,e1,_⟩):=h
 obtain (⟨us,e2,_⟩):=HT.at t
 rw [e,e1] at e2;exact absurd (Value.type.inj (congrArg Obj.cls (Option.some.inj e2))) (by decide)
theorem ba.kp{l l':Led}{ra s:Addr}{rw:List (Nat × Str)}{tp:List Addr}(h:ba l ra rw tp)(k:aE l s l')(hs:Src l s)(n:ra≠s):ba l' ra rw tp:=⟨h.li.kp k n,h.n,fun i a p h1 h2=>(h.it i a p h1 h2).kp k (hs.nt (h.it i a p h1 h2))⟩
theorem bz(tp:List Addr):(tp.map fun a=>CV.v (.ref a)).all pD=true:=by rw [List.all_map];exact List.all_eq_true.mpr fun O O=>rfl
section
variable {d:Dy}{r:Nat}{l:Led}{K:CV→Led→Prop}
inductive yq(ra src:Addr)(l0:Led)(rw:List (Nat × Str))(a:Addr)(as:List Addr)(i:Nat)(ys:List CV)(l':Led):Prop
 | mk (e1:a=ra) (e2:as=[]) (s:Src l' src) (kp:aE l0 src l') (sel:List Nat) (e3:ys=aq sel) (h:sel.Sublist ((rw.map (·.1)).take i)):yq ra src l0 rw a as i ys l'
theorem mQ{src ra:Addr}{rw:List (Nat × Str)}{tp:List Addr}(hs:Src l src)(hr:ba l ra rw tp)(n:ra≠src)(hz:rw.length≤1000)(k:∀ sel b l',sel.Sublist (rw.map (·.1))→Src l' src→aE l src l'→l b=none→HL l' b (aq sel)→K (.v (.ref b)) l'):Cl d (r+2) (.ref 666) [.v (.ref src),.v (.ref ra)] K l:=by
 refine Cl.def {ns:=nm ["rows"],gi:=[],cn:=nm ["source"]} (nm ["source", "rows"]) 99 rfl rfl (by kernel_rfl) (fun O O=>rfl) fun d P sb hP sc l0 nc ev=>?_
 have hr0:=hr.le nc.le
 have hs0:Src l0 src:=by obtain (⟨x,y,tx,ty,n,e,q⟩):=hs;exact ⟨x,y,tx,ty,n,nc.le _ _ e,q⟩
 have nsc:sc≠src:=by obtain (⟨x,y,tx,ty,n,e,q⟩):=hs;exact (Led.ne e nc.fresh).symm
 refine LE.dA (fi2:={ns:=nm ["node", "told"],gi:=[41],fr:=nm ["source"]}) 1 (tp.map fun a=>.v (.ref a)) (yq ra src l0 rw) ev (by kernel_rfl) (by decide) rfl (bz _) (by rw [List.length_map,hr.n];exact hz) (fun P' hP'=>?_) ?_ ?_
 ·exact hP' _ _ hr0.li ⟨rfl,rfl,hs0,fun O O O e=>e,[],rfl,List.nil_sublist _⟩
 ·rintro d2 a as P2 Q2 i c ys o l' hw hc ho hl ⟨rfl,rfl,hs',kp,sel,rfl,sub⟩ hy next skip
  rw [List.getElem?_map,Option.map_eq_some_iff] at hc
  obtain ⟨ta,hta,rfl⟩:=hc
  have hi:i < rw.length:=by rw [← hr.n];exact (List.getElem?_eq_some_iff.mp hta).1
  obtain (⟨p,hp⟩):=aa hi
  have ht:=hr0.it i ta p hta hp
  have e1:(rw.map (·.1)).take (i+1)=(rw.map (·.1)).take i++[p.1]:=by rw [List.take_add_one,List.getElem?_map,hp];rfl
  refine bh.of (ht.kp kp (hs0.nt ht)) rfl ?_
  have cell:ae l' sc (.v (.ref src)):=by obtain (⟨o,v,e,q,is⟩):=nc.has _ rfl;exact ⟨o,v,kp _ _ nsc e,q,is⟩
  refine CK.mk _ cell ?_
  refine dE hs' (by decide) (by decide) fun e l2 e0 e2 dr=>?_
  have kp2:aE l0 src l2:=fun b o n e=>(dr.other b n).trans (kp b o n e)
  have ho2:=(dr.other _ n).trans ho
  refine aA.mk (fun h=>?_) fun h=>?_
  ·exact next _ _ _ ho2 ⟨rfl,rfl,dr.src,kp2,sel++[p.1],by rw [aT];rfl,by rw [e1];exact sub.append (List.Sublist.refl _)⟩
  ·exact skip _ _ ho2 ⟨rfl,rfl,dr.src,kp2,sel,rfl,by rw [e1];exact sub.trans (List.sublist_append_left _ _)⟩
 ·rintro a as D2 ys l' l2 ⟨rfl,rfl,hs',kp,sel,rfl,sub⟩ hy m2
  rw [List.take_of_length_le (by rw [List.length_map,List.length_map,hr.n];exact Nat.le_refl _)] at sub
  obtain (⟨x,y,tx,ty,n1,es,q⟩):=hs'
  have kp2:aE l src l2:=fun b o n e=>m2.le _ _ (kp b o n (nc.le _ _ e))
  refine hP _ _ _ _ (k sel D2 l2 sub ⟨x,y,tx,ty,n1,m2.le _ _ es,q⟩ kp2 ?_ m2.is) .rfl
  cases q:l D2 with
  | none=>rfl
  | some o =>
   have nD:D2≠src:=(Led.ne es m2.fresh).symm
   have:=kp D2 o nD (nc.le _ _ q)
   rw [m2.fresh] at this;cases this
end
end
section
section
variable {d:Dy}{r:Nat}{l:Led}{K:CV→Led→Prop}
theorem LN.max2{a b:Int}(h:K (.int (if b > a then b else a)) l):LN d r (fun vs=>call (.builtin "max") vs) [.int a,.int b] K l:=⟨fun vs m hv=>⟨fun A E g s n=>by
 refine ar.dg hv fun v w i1 i2=>?_
 cases i1;cases i2
 obtain (⟨mo,news,F,N,_,st,_⟩):=n.a.led
 exact max_two_N n.R.hd F N fun h' tk F' N'=>⟨g,m,l,.of (t:=tk),st h' F' N',_,rfl,.int _ _,h⟩⟩⟩
noncomputable def BL(d:Dy)(a:Addr)(ns:List Int):Prop:=∃ its,d.base.IsList a its∧IntsAre its.toList ns
theorem BL.at{a:Addr}{ns:List Int}(h:BL d a ns){A:Around}{E:Value→Shared→Prop}{g:Heap}{s:Shared}{m:Mp}(n:bx d r A E g s m l):∃ vs,s.heap.IsList a (List.toArray vs)∧IntsAre vs ns:=by
 obtain ⟨its,⟨o,e,hc,q,hd⟩,hi⟩:=h
 exact ⟨its.toList,⟨o,n.a.up e,hc,q,by rw [Array.toArray_toList];exact hd⟩,hi⟩
theorem LN.vP{a:Addr}{ns:List Int}(hm:BL d a ns)(hz:ns.length≤1000)(h:K (.int (ns.length:Int)) l):LN d r (fun vs=>call (.builtin "len") vs) [.v (.ref a)] K l :=
 .q1 fun A E g s Q v m is n kk=>by
  cases is
  obtain (⟨vs,hl,hi⟩):=hm.at n
  refine PyProof.Rows.len_list hl (by rw [List.size_toArray,hi.length];omega) ?_
  rw [List.size_toArray,hi.length]
  exact kk _ _ _ (.int _ _) h
theorem LN.vW{o i:Ex}{a:Addr}{ns:List Int}{k:Int}{x:Int}(hm:BL d a ns)(h0:0≤k)(hx:ns[k.toNat]?=some x)(hk:k < 2 ^ 63)(h:K (.int x) l)(hi:isSlice i=false:=by rfl):LN d r (fH o i) [.v (.ref a),.int k] K l :=
 .q2 fun A E g s Q v w m i1 i2 n kk=>by
  cases i1;cases i2
  obtain ⟨vs,hl,his⟩:=hm.at n
  obtain (⟨t,e⟩):=his.get _ _ hx
  exact tail_any hl.typeIs slot_list_getitem.lookup (wpAny_getItem_list hl h0 hk (by simpa using e) (kk _ _ s.toks (.int x t) h)) (gb hi _ _)
theorem sC{sc:Addr}{ns:List Int}{k:Nat}(hm:BL d sc ns)(hz:ns.length≤63)(hk:k < 2)(kk:∀ b l',Mk l b (fun o=>∃ x y tx ty n,o=listOf #[.int x tx,.int y ty] n∧rA x y) l'→K (.v (.ref b)) l'):Cl d (r+1) (.ref 630) [.v (.ref sc),.int (k:Int)] K l:=by
 refine Cl.def {ns:=nm ["script", "k", "cell", "big", "mixed"],gi:=[59,61]} (nm ["script", "k"]) 400 rfl rfl (by kernel_rfl) (fun O O=>rfl) fun d P sb hP ev=>?_
 have hm:BL d sc ns:=by unfold BL;rw [sb.base];exact hm
 refine LN.vP hm (Nat.le_trans hz (by decide)) ?_
 have fin:∀ {b:Addr} {l':Led} {x y:Int},Mk l b (ai [.int x,.int y]) l'→0≤x→0≤y→y < 2147483647→Mk l b (fun o=>∃ x y tx ty n,o=listOf #[.int x tx,.int y ty] n∧rA x y) l':=fun m h1 h2 h3=>⟨m.fresh,m.but,by
  obtain (⟨o,e,vs,n,rfl,hv⟩):=m.is
  obtain (⟨u,v,rfl,i1,i2⟩):=hv.two
  cases (i1);cases (i2)
  exact ⟨_,e,_,_,_,_,n,rfl,⟨h1,h2,h3⟩⟩⟩
 refine aA.mk (fun h=>?_) fun O=>?_
 ·have h:=of_decide_eq_true h
  obtain (⟨x,hx⟩):=aa (l:=ns) (i:=k) (by omega)
  refine LN.vW hm (by omega) (by rw [Int.toNat_natCast];exact hx) (by omega) ?_
  refine LN.max2 ?_
  refine And.intro (by decide) ?_
  refine And.intro (IntMulOk.of_left (by decide)) ?_
  refine And.intro (IntMulOk.of_left (intBits_le_64 (by omega) (by omega))) ?_
  refine And.intro (IntMulOk.of_left (by decide)) ?_
  refine And.intro (IntMulOk.of_right (by decide)) ?_
  refine And.intro (by decide) ?_
  refine LN.pow10 (n:=18) (by decide) ?_
  refine aA.mk (fun h=>?_) fun h=>?_
  ·exact LN.ag (aj rfl) fun b l' m=>hP _ _ _ _ (kk b l' (fin m (Int.le_trans (by decide) (of_decide_eq_true h)) (fmod_lo _) (fmod_hi _))) .rfl
  ·exact LN.ag (aj rfl) fun b l' m=>hP _ _ _ _ (kk b l' (fin m (Int.le_refl _) (fmod_lo _) (fmod_hi _))) .rfl
 ·refine LN.max2 ?_
  refine And.intro (by decide) ?_
  refine And.intro (IntMulOk.of_left (by decide)) ?_
  refine And.intro (IntMulOk.of_left (intBits_le_64 (by omega) (by omega))) ?_
  refine And.intro (IntMulOk.of_left (by decide)) ?_
  refine And.intro (IntMulOk.of_right (by decide)) ?_
  refine And.intro (by decide) ?_
  refine LN.pow10 (n:=18) (by decide) ?_
  refine aA.mk (fun h=>?_) fun h=>?_
  ·exact LN.ag (aj rfl) fun b l' m=>hP _ _ _ _ (kk b l' (fin m (Int.le_trans (by decide) (of_decide_eq_true h)) (fmod_lo _) (fmod_hi _))) .rfl
  ·exact LN.ag (aj rfl) fun b l' m=>hP _ _ _ _ (kk b l' (fin m (Int.le_refl _) (fmod_lo _) (fmod_hi _))) .rfl
end
end
section
noncomputable abbrev fw(w:World)(kvs:List (Str × Value)):Obj→Prop:=pI (PySem.strKind Pg w) kvs
theorem g7{w:World}{x:Str}:bF (.str x) fun v=>(PySem.strKind Pg w).is x v=true:=fun t=>PySem.strKind_is ..
theorem dm{kvs:List (Str × Value)}{k:Str}{v:Value}(h:valueAt kvs k=none):PySem.stored kvs k v=kvs++[(k,v)]:=by
 unfold PySem.stored
 refine if_neg fun q=>?_
 obtain (⟨p,hp,e⟩):=List.any_eq_true.mp q
 unfold valueAt at h
 rw [Option.map_eq_none_iff] at h
 exact absurd e (List.find?_eq_none.mp h p hp)
theorem bR{kvs:List (Str × Value)}{k x:Str}{v:Value}(h:valueAt kvs k=none):valueAt (kvs++[(k,v)]) x=if x=k then some v else valueAt kvs x:=by
 unfold valueAt at *
 rw [List.find?_append] at ⊢
 by_cases e:x=k
 ·subst e
  rw [Option.map_eq_none_iff] at h
  rw [h,if_pos rfl,List.find?_cons_of_pos (by simp)];rfl
 ·rw [if_neg e,List.find?_cons_of_neg (by simpa using fun q=>e q.symm)] at ⊢
  show Option.map _ (Option.or _ none)=_
  rw [Option.or_none]
noncomputable def dO(ns:List Nat)(e:Nat):List Nat:=if e∈ns.drop (ns.length - 1) then ns else ns++[e]
theorem iT{ns:List Nat}{e:Nat}:(dO ns e).length≤ns.length+1:=by
 unfold dO;split
 ·exact Nat.le_succ _
 ·rw [List.length_append];exact Nat.le_refl _
noncomputable def upd(pk:Str→List Nat)(x:Str)(e:Nat):Str→List Nat:=fun y=>if y=x then dO (pk x) e else pk y
structure KN(w:World)(l:Led)(ix dx nd:Addr)(N:List (Str × Value)):Prop where
 i:Inst l ix dx 122 [(Str.ofString "names",.v (.ref nd))]
 d:Hs l nd (fw w N)
 n:dx≠nd∧ix≠nd
 lo:(nd==sysModules)=false
theorem KN.le{w:World}{l l':Led}{ix dx nd:Addr}{N:List (Str × Value)}(h:KN w l ix dx nd N)(le:l.le l'):KN w l' ix dx nd N:=⟨h.i.le le,h.d.le le,h.n,h.lo⟩
theorem KN.kp{w:World}{l l':Led}{ix dx nd x:Addr}{N:List (Str × Value)}(h:KN w l ix dx nd N)(k:aE l x l')(n1:ix≠x)(n2:dx≠x)(n3:nd≠x):KN w l' ix dx nd N:=⟨h.i.kp k n1 n2,h.d.kp k n3,h.n,h.lo⟩
section
variable {d:Dy}{r:Nat}{l:Led}{K:CV→Led→Prop}{ix dx nd dd:Addr}{N:List (Str × Value)}
theorem LN.qx{a:Addr}{ns:List Nat}{e:Nat}(hm:HL l a (aq ns))(h:K (.v (.bool (!decide (e∈ns)))) l):LN d r (br .NotIn) [.int (e:Int),.v (.ref a)] K l:=by
 refine LN.uC (ns:=ns.map fun (n:Nat)=>(n:Int)) (by rw [List.map_map];exact hm) ?_
 rw [show (List.any (ns.map fun (n:Nat)=>(n:Int)) (·==(e:Int)))=decide (e∈ns) from ?_] at ⊢
 ·exact h
 ·rw [Bool.eq_iff_iff,List.any_eq_true,decide_eq_true_iff]
  constructor
  ·rintro ⟨y,hy,q⟩
   obtain (⟨n,hn,rfl⟩):=List.mem_map.mp hy
   exact Int.ofNat.inj (beq_iff_eq.mp q)▸hn
  ·exact fun q=>⟨_,List.mem_map_of_mem q,beq_self_eq_true _⟩
theorem jy(k:∀ ix dx nd l',KN d.w l' ix dx nd []→l.le l'→l nd=none→l ix=none∧l dx=none→K (.v (.ref ix)) l'):Cl d (r+2) (.ref 122) [] K l:=by
 refine LN.cls (fI:=91) (by kernel_rfl) fun x dx l1 f1 f2 le1 ot I=>?_
 refine Cc.def {ns:=nm ["self"],gi:=[]} (nm ["self"]) 99 rfl rfl (by kernel_rfl) (fun O=>rfl) fun d' P sb hP ev=>?_
 refine LE.iR (PySem.strKind Pg d'.w) (by kernel_rfl) fun nd l2 m2 lo=>?_
 have hx:x≠nd:=Led.ne I.1 m2.fresh
 have ndx:dx≠nd:=by
  obtain ⟨_,o,e,_⟩:=I
  exact Led.ne e m2.fresh
 refine LU.aL (I.le m2.le) (by kernel_rfl) (by decide) fun l3 b3 I3=>?_
 have hd:Hs l3 nd (fw d'.w []):=m2.is.but b3 ndx.symm
 rw [show d'.w=d.w from sb.w] at hd
 exact hP none _ _ _ ⟨rfl,k x dx nd l3 ⟨I3,hd,⟨ndx,hx⟩,lo⟩ (fun b o e=>(b3 b (Led.ne e f2)).trans (m2.le _ _ (le1 _ _ e))) (le1.none m2.fresh) ⟨f1,f2⟩⟩ .rfl
theorem gS{x:Str}{v:Value}(h:KN d.w l ix dx nd N)(hv:valueAt N x=some v)(k:K (.v .none) l):Cl d (r+1) (.ref 98) [.v (.ref ix),.str x] K l:=by
 refine Cl.def {ns:=nm ["self", "name"],gi:=[]} (nm ["self", "name"]) 99 rfl rfl (by kernel_rfl) (fun O O=>rfl) fun d' P sb hP ev=>?_
 refine LN.attr h.i (by kernel_rfl) rfl ?_
 have hd:=h.d
 rw [← sb.w] at hd
 refine LN.jI hd h.lo g7 ?_
 rw [hv]
 exact aA.no (hP none _ _ _ k .rfl)
theorem gU{x:Str}(h:KN d.w l ix dx nd N)(hv:valueAt N x=none)(hz:N.length≤100)(k:∀ dd l',KN d.w l' ix dx nd (N++[(x,.ref dd)])→aE l nd l'→l dd=none→Hs l' dd (fw d.w [])→(dd==sysModules)=false→K (.v .none) l'):Cl d (r+1) (.ref 98) [.v (.ref ix),.str x] K l:=by
 refine Cl.def {ns:=nm ["self", "name"],gi:=[]} (nm ["self", "name"]) 99 rfl rfl (by kernel_rfl) (fun O O=>rfl) fun d' P sb hP ev=>?_
 refine LN.attr h.i (by kernel_rfl) rfl ?_
 have hd:=h.d
 rw [← sb.w] at hd
 refine LN.jI hd h.lo g7 ?_
 rw [hv]
 refine aA.yes ?_
 refine LE.iR (PySem.strKind Pg d'.w) (by kernel_rfl) fun dd l2 m2 lo=>?_
 refine LN.attr (h.i.le m2.le) (by kernel_rfl) rfl ?_
 refine LU.wq (hd.le m2.le) (Nat.le_trans hz (by decide)) g7 fun l3 u3=>?_
 have u:=u3.is
 have hd3:=m2.is.but u3.but (hd.ne m2.fresh).symm
 rw [dm hv] at u
 rw [sb.w] at u hd3
 have k3:aE l nd l3:=fun b o n e=>(u3.but b n).trans (m2.le _ _ e)
 exact hP none _ _ _ (k dd l3 ⟨h.i.kp k3 h.n.2 h.n.1,u,h.n,h.lo⟩ k3 m2.fresh hd3 lo) .rfl
noncomputable def Ent(l0 l:Led)(dd:Addr)(kvs:List (Str × Value))(x:Str)(ns:List Nat):Prop:=(valueAt kvs x=none∧ns=[])∨∃ a,valueAt kvs x=some (.ref a)∧HL l a (aq ns)∧l0 a=none∧a≠dd∧∀ y,valueAt kvs y=some (.ref a)→y=x
structure lp(w:World)(l0 l:Led)(dd:Addr)(pk:Str→List Nat)(n:Nat):Prop where
 kp:aE l0 dd l
 lo:(dd==sysModules)=false
 e:∃ kvs,Hs l dd (fw w kvs)∧kvs.length≤n∧∀ x,(pk x).length≤n∧Ent l0 l dd kvs x (pk x)
structure KP(w:World)(l0:Led)(ix dx nd dd:Addr)(N:List (Str × Value))(nm:Str):Prop where
 i:KN w l0 ix dx nd N
 v:valueAt N nm=some (.ref dd)
 n:ix≠dd∧dx≠dd∧nd≠dd
theorem KP.at{w:World}{l0:Led}{nm:Str}(h:KP w l0 ix dx nd dd N nm)(k:aE l0 dd l):KN w l ix dx nd N:=h.i.kp k h.n.1 h.n.2.1 h.n.2.2
theorem va{l0:Led}{kn x:Str}{e n:Nat}{pk:Str→List Nat}(h:KP d.w l0 ix dx nd dd N kn)(f:lp d.w l0 l dd pk n)(hz:n≤900)(k:∀ l',lp d.w l0 l' dd (upd pk x e) (n+1)→K (.v .none) l'):Cl d (r+2) (.ref 105) [.v (.ref ix),.str kn,.str x,.int (e:Int)] K l:=by
 obtain ⟨kp,lo,kvs,hd,hk,hE⟩:=f
 have hn:=h.at kp
 refine Cl.def {ns:=nm ["self", "name", "value", "node", "nodes"],gi:=[]} (nm ["self", "name", "value", "node"]) 99 rfl rfl (by kernel_rfl) (fun O O O O=>rfl) fun d' P sb hP ev=>?_
 refine bG.own 98 hn.i (by kernel_rfl) ?_
 refine gS (N:=N) (by rw [sb.w];exact hn) h.v ?_
 refine LN.attr hn.i (by kernel_rfl) rfl ?_
 refine LN.cp (by rw [sb.w];exact hn.d) g7 h.v ?_
 have hd':Hs l dd (fw d'.w kvs):=by rw [sb.w];exact hd
 refine bG.dict "dict.setdefault" hd' PySem.F.slot_dict_setdefault PySem.F.type_dict_setdefault ?_
 refine LN.ag (cs:=[]) (by decide) fun b l1 m1=>?_
 obtain ⟨hpk,hx⟩:=hE x
 have z:kvs.length≤1000:=by omega
 have k01:aE l0 dd l1:=fun b o n e=>m1.le _ _ (kp b o n e)
 have b0:∀ {c:Addr},l c=none→c≠dd→l0 c=none:=fun {c} q n=>by
  cases z:l0 c with
  | none=>rfl
  | some o=>have:=kp c o n z;rw [q] at this;cases this
 rcases hx with ⟨hv,hp⟩ | ⟨a,hv,ha,ha0,had,hinj⟩
 ·refine LN.oo (c2:=.v .none) (b:=b) (hd'.le m1.le) lo z g7 hv fun l2 u2=>?_
  have nb:b≠dd:=(hd.ne m1.fresh).symm
  have hb2:HL l2 b []:=m1.is.but u2.but nb
  refine bX.last hb2 (by decide) fun D l3 m3=>?_
  refine LN.qx (ns:=[]) m3.is ?_
  refine aA.yes ?_
  refine bG.lst "list.append" (m3.keep hb2) PySem.F.slot_list_append PySem.F.type_list_append ?_
  refine LN.append (m3.keep hb2) (by decide) fun l4 u4=>?_
  have hd4:Hs l4 dd (fw d'.w (kvs++[(x,.ref b)])):=(dm (v:=.ref b) hv)▸(m3.keep u2.is).but u4.but nb.symm
  rw [sb.w] at hd4
  refine hP none _ _ _ (k l4 ⟨fun c o n q=>?_,lo,_,hd4,by rw [List.length_append];exact Nat.succ_le_succ hk,fun y=>?_⟩) .rfl
  ·exact (u4.but c fun q2=>by rw [q2,b0 m1.fresh nb] at q;cases q).trans (m3.le _ _ ((u2.but c n).trans (k01 c o n q)))
  ·unfold upd
   by_cases ey:y=x
   ·subst ey
    rw [if_pos rfl,hp]
    refine ⟨Nat.succ_le_succ (Nat.zero_le _),.inr ⟨b,by rw [bR hv,if_pos rfl],u4.is,b0 m1.fresh nb,nb,fun z hz=>?_⟩⟩
    rw [bR hv] at hz
    split at hz
    ·assumption
    ·obtain ⟨_,h2⟩:=hE z
     rcases h2 with ⟨h2,_⟩ | ⟨c,h2,h3,_⟩
     ·rw [h2] at hz;cases hz
     ·rw [h2] at hz;cases hz;exact absurd rfl (h3.ne m1.fresh)
   ·rw [if_neg ey]
    obtain ⟨h1,h2⟩:=hE y
    refine ⟨Nat.le_succ_of_le h1,?_⟩
    unfold Ent
    rw [bR hv,if_neg ey]
    rcases h2 with h2 | ⟨a,h2,h3,h4,h5,h6⟩
    ·exact .inl h2
    ·have nab:a≠b:=h3.ne m1.fresh
     refine .inr ⟨a,h2,(m3.keep ((m1.keep h3).but u2.but h5)).but u4.but nab,h4,h5,fun z hz=>?_⟩
     rw [bR hv] at hz
     split at hz
     ·exact absurd (Value.ref.inj (Option.some.inj hz)).symm nab
     ·exact h6 z hz
 ·refine LN.om (hd'.le m1.le) lo z g7 hv ?_
  have ha1:=ha.le m1.le
  have hz2:(pk x).length≤1000:=by omega
  have fin:∀ l4,HL l4 a (aq (dO (pk x) e))→(∀ c o,c≠a→l1 c=some o→l4 c=some o)→K (.v .none) l4:=fun l4 q kk=>by
   refine k l4 ⟨fun c o n q=>kk c o (fun e=>by rw [e,ha0] at q;cases q) (k01 c o n q),lo,kvs,?_,Nat.le_succ_of_le hk,fun y=>?_⟩
   ·obtain ⟨o,e1,p⟩:=hd
    exact ⟨o,kk _ _ had.symm (m1.le _ _ e1),p⟩
   ·obtain ⟨h1,h2⟩:=hE y
    unfold upd
    by_cases ey:y=x
    ·subst ey
     rw [if_pos rfl]
     exact ⟨Nat.le_trans iT (Nat.succ_le_succ hpk),.inr ⟨a,hv,q,ha0,had,hinj⟩⟩
    ·rw [if_neg ey]
     refine ⟨Nat.le_succ_of_le h1,?_⟩
     rcases h2 with h2 | ⟨c,h2,⟨o,e3,p3⟩,h4,h5,h6⟩
     ·exact .inl h2
     ·exact .inr ⟨c,h2,⟨o,kk _ _ (fun q=>ey (hinj y (q▸h2))) (m1.le _ _ e3),p3⟩,h4,h5,h6⟩
  refine bX.last ha1 (by rw [List.length_map];exact hz2) fun D l3 m3=>?_
  have hD:=m3.is
  rw [← List.map_drop,List.length_map] at hD
  refine LN.qx hD ?_
  refine aA.mk (fun h=>?_) fun h=>?_
  ·refine bG.lst "list.append" (m3.keep ha1) PySem.F.slot_list_append PySem.F.type_list_append ?_
   refine LN.append (m3.keep ha1) (by rw [List.length_map];exact hz2) fun l4 u4=>?_
   refine hP _ _ _ _ (fin l4 ?_ fun c o n q=>(u4.but c n).trans (m3.le _ _ q)) .rfl
   unfold dO
   rw [if_neg (by simpa using h),aT];exact u4.is
  ·refine hP _ _ _ _ (fin l3 ?_ fun c o n q=>m3.le _ _ q) .rfl
   unfold dO
   rw [if_pos (by simpa using h)];exact m3.keep ha1
end
end
section
structure rS(w:World)(l:Led)(dd:Addr)(pk:Str→List Nat):Prop where
 lo:(dd==sysModules)=false
 z:∀ x,(pk x).length≤900
 e:∃ kvs,Hs l dd (fw w kvs)∧∀ x,(valueAt kvs x=none∧pk x=[])∨∃ a,valueAt kvs x=some (.ref a)∧HL l a (aq (pk x))
theorem rS.le{w:World}{l l':Led}{dd:Addr}{pk:Str→List Nat}(h:rS w l dd pk)(le:l.le l'):rS w l' dd pk:=by
 obtain (⟨lo,z,kvs,h1,h2⟩):=h
 exact ⟨lo,z,kvs,h1.le le,fun x=>(h2 x).imp id fun z=>by obtain (⟨a,e,q⟩):=z;exact ⟨a,e,q.le le⟩⟩
structure jP(w:World)(l0 l:Led)(dd:Addr)(pk:Str→List Nat):Prop where
 lo:(dd==sysModules)=false
 z:∀ x,(pk x).length≤900
 f:l0 dd=none
 e:∃ kvs,Hs l dd (fw w kvs)∧∀ x,(valueAt kvs x=none∧pk x=[])∨∃ a,valueAt kvs x=some (.ref a)∧HL l a (aq (pk x))∧l0 a=none
theorem jP.cZ{w:World}{l0 l l2:Led}{dd:Addr}{pk:Str→List Nat}(h:jP w l0 l dd pk)(k:∀ b o,l0 b=none→l b=some o→l2 b=some o):rS w l2 dd pk:=by
 obtain (⟨lo,z,f,kvs,h1,h2⟩):=h
 exact ⟨lo,z,kvs,h1.of fun o=>k _ o f,fun x=>(h2 x).imp id fun z=>by obtain (⟨a,e,q,n⟩):=z;exact ⟨a,e,q.of fun o=>k _ o n⟩⟩
theorem lp.f{w:World}{l0 l3 l:Led}{dd:Addr}{pk:Str→List Nat}{n:Nat}(h:lp w l3 l dd pk n)(hz:n≤900)(le:l0.le l3)(f:l0 dd=none):jP w l0 l dd pk:=by
 obtain (⟨_,lo,kvs,h1,_,h2⟩):=h
 exact ⟨lo,fun x=>Nat.le_trans (h2 x).1 hz,f,kvs,h1,fun x=>(h2 x).2.imp id fun z=>by obtain (⟨a,e,q,n,_⟩):=z;exact ⟨a,e,q,le.none n⟩⟩
section
variable {d:Dy}{r:Nat}{l:Led}{K:CV→Led→Prop}{ix dx nd dd:Addr}{N:List (Str × Value)}
theorem tC{kn x:Str}{pk:Str→List Nat}(h:KN d.w l ix dx nd N)(hv:valueAt N kn=some (.ref dd))(f:rS d.w l dd pk)(k:∀ b l',Mk l b (ai (aq (pk x))) l'→K (.v (.ref b)) l'):Cl d (r+1) (.ref 112) [.v (.ref ix),.str kn,.str x] K l:=by
 refine Cl.def {ns:=nm ["self", "name", "value"],gi:=[2,69]} (nm ["self", "name", "value"]) 99 rfl rfl (by kernel_rfl) (fun O O O=>rfl) fun d' P sb hP ev=>?_
 rw [← sb.w] at h f
 obtain ⟨lo,z,kvs,h1,h2⟩:=f
 have z:(aq (pk x)).length≤1000:=by rw [List.length_map];exact Nat.le_trans (z x) (by decide)
 refine LN.attr h.i (by kernel_rfl) rfl ?_
 refine LN.jI h.d h.lo g7 ?_
 rw [hv]
 refine aA.no ?_
 refine LN.attr h.i (by kernel_rfl) rfl ?_
 refine LN.cp h.d g7 hv ?_
 refine bG.dict "dict.get" h1 PySem.F.slot_dict_get PySem.F.type_dict_get ?_
 refine LN.ag (cs:=[]) (by decide) fun b l1 m1=>?_
 refine LN.xF (h1.le m1.le) lo g7 ?_
 have fin:∀ {a:Addr},HL l1 a (aq (pk x))→LN d' r (fun vs=>call (.type "list") vs) [.v (.ref a)] (fun c l=>P (some c) (Sl.fC (vals (nm ["self", "name", "value"]) [CV.v (Value.ref ix),CV.str kn,CV.str x]) (nm ["self", "name", "value"])) l) l1:=fun h=>LN.copy h z fun c l2 m2=>by
  obtain ⟨l3,m3,cR⟩:=Mk.out m1.le m2
  exact hP _ _ _ _ (k c l3 m3) cR
 rcases h2 x with ⟨e,p⟩ | ⟨a,e,q⟩
 ·rw [e]
  rw [p] at fin
  exact fin m1.is
 ·rw [e]
  exact fin (q.le m1.le)
theorem ml{kn x:Str}(hz:kn.length≤100)(h:KN d.w l ix dx nd N)(hv:valueAt N kn=none)(y:d.X 75 l):Cl d (r+3) (.ref 112) [.v (.ref ix),.str kn,.str x] K l:=by
 refine Cl.def {ns:=nm ["self", "name", "value"],gi:=[2,69]} (nm ["self", "name", "value"]) 99 rfl rfl (by kernel_rfl) (fun O O O=>rfl) fun d' P sb hP ev=>?_
 rw [← sb.w] at h
 refine LN.attr h.i (by kernel_rfl) rfl ?_
 refine LN.jI h.d h.lo g7 ?_
 rw [hv]
 refine aA.yes ?_
 refine And.intro (show (Str.ofString "there is no key ").length+kn.length≤sizeLine from ?_) ?_
 ·rw [PySem.sizeLine_eq];exact Nat.le_trans (Nat.add_le_add (show _≤100 by decide) hz) (by decide)
 ·exact LN.exc (tF _) fun e oe l' hn is cg=>pw.of (.inr rfl) hn is cg (sb.Y _ _ y)
end
end
section
section
variable {d:Dy}{r:Nat}{l:Led}{K:CV→Led→Prop}{ix dx nd dd ts lam:Addr}{N:List (Str × Value)}{kn:Str}{T:List Str}{pk:Str→List Nat}
noncomputable abbrev wd(ix ts lam fd:Addr)(kn:Str):Sl:=.c (.v (.ref ix)) (.c (.str kn) (.c (.v (.ref ts)) (.c (.v (.ref lam)) (.c (.v (.ref fd)) .nil))))
inductive yM(ix ts lam fd:Addr)(kn:Str)(l:Led)(T:List Str)(pk:Str→List Nat)(a:Addr)(i:Nat)(σ:Sl)(l':Led):Prop
 | mk (e1:a=ts) (e:σ=wd ix ts lam fd kn) (le:l.le l') (h:HL l' fd (aq ((T.take i).flatMap pk))):yM ix ts lam fd kn l T pk a i σ l'
theorem mP(T:List Str):(T.map CV.str).all pD=true:=by rw [List.all_map];exact List.all_eq_true.mpr fun O O=>rfl
theorem iP{α β:Type}{f:α→List β}{T:List α}{i:Nat}{t:α}(h:T[i]?=some t):(T.take (i+1)).flatMap f=(T.take i).flatMap f++f t:=by
 rw [List.take_add_one,h,List.flatMap_append];show _++(f t++[])=_;rw [List.append_nil]
theorem qV{α β:Type}{f:α→List β}{T:List α}{i:Nat}:((T.take i).flatMap f).length≤(T.flatMap f).length:=by
 have:T.flatMap f=(T.take i).flatMap f++(T.drop i).flatMap f:=by rw [← List.flatMap_append,List.take_append_drop]
 rw [this,List.length_append];exact Nat.le_add_right _ _
theorem LF.fn{f:Addr}{o:Obj}{fd:FuncData}{C:Value→Prop}(e:l f=some o)(hd:o.data=.func fd)(k:C (.ref f)):LF d l (.v (.ref f)) C:=.mk _ rfl (fun h O hl=>⟨.frame,.inl rfl,by
 obtain (⟨a,b,c,g⟩):=o
 cases hd
 exact (Looks.ld (part:=none) (hl _ _ e)).andThen .now⟩) k
theorem qT(h:KN d.w l ix dx nd N)(hv:T≠[]→valueAt N kn=some (.ref dd)∧rS d.w l dd pk)(ht:HL l ts (T.map .str))(hz:(T.flatMap pk).length≤900){lo:Obj}{fdl:FuncData}(hl:l lam=some lo)(hld:lo.data=.func fdl)
  (k:∀ (d':Dy) K' b l',d'.w=d.w→d'.base=d.base→l.le l'→HL l' b (aq (T.flatMap pk))→(∀ c l,K c l→K' c l)→Cl d' (r+1) (.ref lam) [.v (.ref b)] K' l'):Cl d (r+2) (.ref 133) [.v (.ref ix),.str kn,.v (.ref ts),.v (.ref lam)] K l:=by
 refine Cl.def {ns:=nm ["index", "name", "texts", "in_order", "found", "text"],gi:=[]} (nm ["index", "name", "texts", "in_order"]) 99 rfl rfl (by kernel_rfl) (fun O O O O=>rfl) fun d' P sb hP ev=>?_
 refine LN.ag (cs:=[]) (by decide) fun fd l0 m0=>?_
 have nts:ts≠fd:=ht.ne m0.fresh
 refine LS.forL (T.map .str) (yM ix ts lam fd kn l T pk) ev sb.may sb.ay (by kernel_rfl) (mP T) (fun P' hP'=>hP' _ _ _ (.c (.c (.c (.c (.c .nil))))) (ht.le m0.le) ⟨rfl,rfl,m0.le,m0.is⟩) ?_ ?_
 ·rintro d1 P1 a i c o σ l' s hi ho hl ⟨rfl,rfl,le,hf⟩ next _
  rw [List.getElem?_map,Option.map_eq_some_iff] at hi
  obtain (⟨t,hi,rfl⟩):=hi
  have hw:d1.w=d.w:=s.w.trans sb.w
  obtain ⟨hv,f⟩:=hv fun e=>by subst e;cases hi
  refine bG.lst "list.extend" hf F.slot_list_extend F.type_list_extend ?_
  refine bG.own 112 (h.i.le le) (by kernel_rfl) ?_
  refine tC (by rw [hw];exact h.le le) hv (by rw [hw];exact f.le le) fun b l2 m2=>?_
  have fl:(aq ((T.take i).flatMap pk)).length+(aq (pk t)).length≤1000:=by
   rw [List.length_map,List.length_map]
   have:=qV (f:=pk) (T:=T) (i:=i+1)
   rw [iP hi,List.length_append] at this
   omega
  refine LN.extend (m2.keep hf) m2.is (hf.ne m2.fresh).symm fl fun l3 u3=>?_
  exact next _ _ _ (.c (.c (.c (.c (.c .nil))))) ((u3.but _ nts).trans (m2.le _ _ ho)) ⟨rfl,rfl,fun b o e=>(u3.but b (Led.ne e m0.fresh)).trans (m2.le _ _ (le _ _ e)),by rw [iP hi,aT];exact u3.is⟩
 ·rintro a σ l' _ ⟨rfl,rfl,le,hf⟩
  rw [List.take_of_length_le (by rw [List.length_map];exact Nat.le_refl _)] at hf
  refine LF.fn (le _ _ hl) hld ?_
  refine k d' _ fd l' sb.w sb.base le hf ?_
  exact fun c l k=>hP _ _ _ _ k .rfl
theorem kM{t:Str}(hz:kn.length≤100)(h:KN d.w l ix dx nd N)(hv:valueAt N kn=none)(ht:HL l ts ((t::T).map .str))(y:∀ l',l.le l'→d.X 75 l'):Cl d (r+4) (.ref 133) [.v (.ref ix),.str kn,.v (.ref ts),.v (.ref lam)] K l:=by
 refine Cl.def {ns:=nm ["index", "name", "texts", "in_order", "found", "text"],gi:=[]} (nm ["index", "name", "texts", "in_order"]) 99 rfl rfl (by kernel_rfl) (fun O O O O=>rfl) fun d' P sb hP ev=>?_
 refine LN.ag (cs:=[]) (by decide) fun fd l0 m0=>?_
 refine LS.forL ((t::T).map .str) (fun a i σ l'=>σ=wd ix ts lam fd kn∧l'=l0∧i=0) ev sb.may sb.ay (by kernel_rfl) (mP _) (fun P' hP'=>hP' _ _ _ (.c (.c (.c (.c (.c .nil))))) (ht.le m0.le) ⟨rfl,rfl,rfl⟩) ?_ ?_
 ·rintro d1 P1 a i c o σ l' s hi ho hl ⟨rfl,rfl,rfl⟩ next _
  cases hi
  refine bG.lst "list.extend" m0.is F.slot_list_extend F.type_list_extend ?_
  refine bG.own 112 (h.i.le m0.le) (by kernel_rfl) ?_
  exact ml hz (by rw [s.w,sb.w];exact h.le m0.le) hv (s.X _ _ (sb.X _ _ (y _ m0.le)))
 ·rintro a σ l' hl ⟨_,_,e⟩
  cases e
end
end
section
noncomputable def fy(oc:Obj)(P:Addr):Prop:=∀ (h:Heap) c,h.get? c=some oc→c≠P→CodeHd h c P
theorem fy.hd{oc:Obj}{P c:Addr}{h:Heap}(x:fy oc P)(e:h.get? c=some oc)(hn:c≠P):CodeHd h c P:=x h c e hn
theorem fy.of{oc:Obj}{P c:Addr}{h:Heap}(e:h.get? c=some oc)(C:CodeHd h c P):fy oc P∧c≠P:=by
 obtain ⟨o,vs,file,tf,flags,tg,inF,text,tt,e',q⟩:=C
 rw [e] at e'
 injection e' with eo
 subst eo
 exact ⟨fun h' c' e2 n2=>⟨_,vs,file,tf,flags,tg,inF,text,tt,e2,q.1,q.2.1,q.2.2.1,q.2.2.2.1,q.2.2.2.2.1,q.2.2.2.2.2.1,q.2.2.2.2.2.2.1,q.2.2.2.2.2.2.2.1,n2⟩,q.2.2.2.2.2.2.2.2⟩
section
variable {M:Model}{A:Around}{E:Value→Shared→Prop}{s:Shared}{name qual:Str}{params:Arguments}{body:List Stmt}{scope:Scope}{env:Env}{c P:Addr}{ps:Array Value}{pos:Pos}{firstLine:Nat}{mg:Str→Option Value}
 {clos:List (Str × Addr)} {Q:Value→Shared→Prop}
theorem oG(hcl:closureFor scope env=pure clos)(hge0:env.globals=mainGlobals)(hg:s.heap.Ns mainGlobals mg)(hcode:env.code=.ref c)(C:CodeHd s.heap c P)(hP:s.heap.get? P=some (tabObj ps))(ht:TriplesOk ps.toList)
  (hnf:codeAmong pos ps.toList=none) (hgP:mainGlobals≠P) (hb:s.heap.BuiltinsAt mg P)
  (h:∀ c' ctv doc h' tk P',Heap.ExtBut P s.heap h'→s.heap.objs.size≤c'→c' < h'.objs.size→h'.CodeRec (.ref c') qual→h'.get? P=some (tabObj (ps++#[rawInt pos.line,rawInt pos.col,.ref c']))→s.heap.objs.size≤P'→CodeHd h' c' P'→h'.get? P'=some (tabObj #[]) →
   Q (.ref h'.objs.size) {s with heap:=h'.push (fnMade name qual params body scope clos doc ((mg "__name__").getD .none) c' ctv),toks:=tk}) :
  wpAny M A (makeTail name qual params (.stmts body) scope env .none .none none pos firstLine) Q E s:=by
 obtain ⟨bm,ob,hbm,hne0,_,hneP,hbo,hcls,hdict,hdata⟩:=hb
 unfold makeTail
 rw [hcl,hge0]
 refine wpAny_bind (wpAny_pure ?_)
 induction clos with
 | nil =>
  simp only [List.isEmpty_nil,if_true]
  refine wpAny_bind (wpAny_pure ?_)
  refine wpAny_bind (wpAny_functionCodeX hcode (C.code hP ht) (C.tab hP) hnf fun c' h' tk hx hge hlt _ hrec htb ⟨P',hP1,hP2,hP3⟩=>?_)
  have hg':=hg.extBut hx hgP
  refine wpAny_bind (wpAny_builtinsFor hg' hbm hne0 (hx _ _ hneP hbo) hcls hdict hdata ?_)
  refine wpAny_bind (wpAny_nsGet hg' ?_)
  cases hdoc:docOf body with
  | none=>exact wpAny_bind (wpAny_pure (wpAny_newObj_type (h c' .none .none h' tk P' hx hge hlt hrec htb.2 hP1 (CodeHd.of hP2 hP3) hP3.2) (by size_fits)))
  | some t=>exact wpAny_bind (wpAny_mkText (wpAny_newObj_type (h c' .none _ h' _ P' hx hge hlt hrec htb.2 hP1 (CodeHd.of hP2 hP3) hP3.2) (by size_fits)))
 | cons q r =>
  simp only [List.isEmpty_cons,Bool.false_eq_true,if_false]
  refine wpAny_bind (wpAny_newTextTuple ?_)
  refine wpAny_bind (wpAny_functionCodeX hcode ((C.keeps fun b o e=>Heap.get?_push_of_some _ e).code (Heap.get?_push_of_some _ hP) ht) ((C.keeps fun b o e=>Heap.get?_push_of_some _ e).tab (Heap.get?_push_of_some _ hP)) hnf fun c' h' tk hx hge hlt _ hrec htb ⟨P',hP1,hP2,hP3⟩=>?_)
  have hg':=(hg.push _).extBut hx hgP
  have hx':Heap.ExtBut P s.heap h':=fun b o hb' e=>hx b o hb' (Heap.get?_push_of_some _ e)
  have hge':s.heap.objs.size≤c':=Nat.le_trans (by rw [Heap.size_push];omega) hge
  have hge2:s.heap.objs.size≤P':=Nat.le_trans (by rw [Heap.size_push];omega) hP1
  refine wpAny_bind (wpAny_builtinsFor hg' hbm hne0 (hx' _ _ hneP hbo) hcls hdict hdata ?_)
  refine wpAny_bind (wpAny_nsGet hg' ?_)
  cases hdoc:docOf body with
  | none=>exact wpAny_bind (wpAny_pure (wpAny_newObj_type (h c' _ .none h' tk P' hx' hge' hlt hrec htb.2 hge2 (CodeHd.of hP2 hP3) hP3.2) (by size_fits)))
  | some t=>exact wpAny_bind (wpAny_mkText (wpAny_newObj_type (h c' _ _ h' _ P' hx' hge' hlt hrec htb.2 hge2 (CodeHd.of hP2 hP3) hP3.2) (by size_fits)))
end
inductive bM(l:Led)(c P:Addr)(qual:Str):Prop
 | mk (oc:Obj) (vs:Array Value) (t:Tok) (e:l c=some oc) (hd:oc.data=.fields vs) (hq:vs[1]?=some (.str qual t)) (q:fy oc P) (n:c≠P):bM l c P qual
theorem bM.le{l l':Led}{c P:Addr}{qual:Str}(h:bM l c P qual)(le:l.le l'):bM l' c P qual:=by
 induction h with | mk oc vs t e hd hq q n=>exact ⟨oc,vs,t,le _ _ e,hd,hq,q,n⟩
inductive aK(Y:Led→Addr→Prop)(l:Led)(P:Addr)(pos:Pos)(qual:Str):Prop
 | mk (x:Array Value) (e:l P=some (tabObj x)) (h:x=#[]∨∃ c P',x=#[rawInt pos.line,rawInt pos.col,.ref c]∧bM l c P' qual∧Y l P'):aK Y l P pos qual
theorem aK.le{Y Y':Led→Addr→Prop}{l l':Led}{P:Addr}{pos:Pos}{qual:Str}(h:aK Y l P pos qual)(le:l.le l')(hY:∀ P',Y l P'→Y' l' P'):aK Y' l' P pos qual:=by
 induction h with | mk x e q=>exact ⟨x,le _ _ e,q.imp id fun z=>by obtain (⟨c,P',a,b,y⟩):=z;exact ⟨c,P',a,b.le le,hY _ y⟩⟩
structure rH(Y:Led→Addr→Prop)(l:Led)(P:Addr)(pos:Pos)(qual:Str)(fd:Value→Addr→Value→FuncData)(f:Addr)(l':Led):Prop where
 keep:l.ky P l'
 fresh:l f=none
 tab:aK Y l' P pos qual
 fn:∃ c P' doc ctv,l' f=some {cls:=.type "function",data:=.func (fd doc c ctv)}∧bM l' c P' qual∧Y l' P'
set_option backward.match.sparseCases false in
noncomputable def vY:Stmt→Bool
 | .FunctionDef n ps _ [] none [] _ none n2 _=>n==n2&&ps.defaults.isEmpty&&ps.kw_defaults.isEmpty
 | _=>false
theorem sQ{P:Stmt→Prop}(h:∀ n ps b sc n2 p,(n==n2&&ps.defaults.isEmpty&&ps.kw_defaults.isEmpty)=true→P (.FunctionDef n ps b [] none [] sc none n2 p)):∀ D,vY D=true→P D:=by
 intro D
 cases D with
 | FunctionDef n ps b ds rt tp sc x n2 p=>cases ds<;>cases rt<;>cases tp<;>cases x<;>first | exact h _ _ _ _ _ _ | exact ff
 | _=>exact ff
noncomputable def kW:Stmt→Pos
 | .FunctionDef _ _ _ _ _ _ _ _ _ p=>p
 | _=>⟨0,0,0,0⟩
section
variable {d:Dy}{r:Nat}{fi:Fi}{cs:List Addr}{σ:Sl}{l:Led}
set_option tactic.hygienic true in
theorem qB{A:Around}{E:Value→Shared→Prop}{g:Heap}{s:Shared}{m:Mp}{c P:Addr}{pos:Pos}{name qual:Str}{params:Arguments}{body:List Stmt}{scope:Scope}{clos:List (Str × Addr)}{fl:Nat}{Q:Value→Shared→Prop}{Y:Led→Addr→Prop}(n:bx d r A E g s m l)
  (hcl:closureFor scope d.env=Pure.pure clos) (hc:d.env.code=.ref c) (hC:CodeHd s.heap c P) (ht:aK Y l P pos qual) (hY0:∀ l' P',l P'=none→l' P'=some (tabObj #[])→Y l' P') (hY:∀ l' P',l.le l'→Y l P'→Y l' P')
  (h:∀ f l' s',rH Y l P pos qual (fun doc c' ctv=>fnX name qual params body scope clos .none .none doc ((d.mg "__name__").getD .none) none (.ref c') ctv) f l'→Step d g s g s'→At d g s'.heap m l'→Q (.ref f) s') :
  wpAny (model Pg d.w) A (makeFunction name qual params (.stmts body) scope d.env [] [] [] pos fl) Q E s:=by
 have T:=n.T
 obtain ⟨x,hP,hx⟩:=ht
 have hm:=n.a.N _ _ hP
 obtain ⟨bm,ob,b1,b2,b3,b4,b5,b6⟩:=T.bmain
 have hgP:mainGlobals≠P:=fun q=>by
  obtain ⟨o,es,ep,e,hd,_⟩:=T.g
  rw [q,hm.1] at e;cases e;cases hd
 have hbP:bm≠P:=fun q=>by rw [q,hm.1] at b3;cases b3;cases b4
 have hbG:bm≠mainGlobals:=fun q=>by
  obtain ⟨o,es,ep,e,hd,_⟩:=T.g
  rw [q,e] at b3;cases b3;rw [hd] at b6;cases b6
 have l0:(Led.set (fun b=>if b=P then none else l b) P (tabObj x))=l:=funext fun b=>by
  unfold Led.set
  split
  ·rename_i e;rw [e,hP]
  ·rename_i e;exact if_neg e
 have hn:(fun b=>if b=P then none else l b) P=none:=if_pos rfl
 rcases hx with rfl | ⟨c',P',rfl,hc',hy⟩
 ·rw [makeFunction_eq]
  simp only [List.zip_nil_right,List.filterMap_nil,List.isEmpty_nil,if_true,pure_bind]
  refine oG (mg:=d.mg) hcl n.G.hg T.g hc hC hm.1 trivial rfl hgP ⟨bm,ob,b1,b2,hbG,hbP,b3,b4,b5,b6⟩ fun c' ctv doc h' tk P' hx hge hlt hrec htb hgeP hCd hPt=>?_
  obtain ⟨c₂,oc,vs,t,e2,hoc,hd,hv⟩:=hrec
  cases e2
  obtain ⟨hCO,ncP'⟩:=fy.of hoc hCd
  have ltP:P' < h'.objs.size:=Heap.lt_size hPt
  have tc:=n.a.low hge
  have tp:=n.a.low hgeP
  have tf:=n.a.low (Nat.le_trans hge (Nat.le_of_lt hlt))
  have a1:=n.a
  rw [← l0] at a1
  have nP:∀ {z:Addr},l z=none→z≠P:=fun q=>(Led.ne hP q).symm
  have no:∀ {z:Addr} {o:Obj},l z=none→(Led.set (fun b=>if b=P then none else l b) P o) z=none:=fun q=>(if_neg (nP q)).trans ((if_neg (nP q)).trans q)
  have nfc:h'.objs.size≠c':=Nat.ne_of_gt hlt
  have nfp:h'.objs.size≠P':=Nat.ne_of_gt ltP
  refine h _ _ _ ⟨fun b o hb e=>?_,tf.l,⟨_,(if_neg (nP tf.l).symm).trans ((if_neg (nP tp.l).symm).trans ((if_neg (nP tc.l).symm).trans Led.hit)),.inr ⟨c',P',by simp,?_,?_⟩⟩,⟨c',P',doc,ctv,Led.hit,?_,?_⟩⟩ (.of (t:=tk)) ((((((a1.anew hn hx htb).take (no tc.l) tc.ap ⟨hoc,tc.L,tc.g⟩).take ((if_neg ncP'.symm).trans (no tp.l)) tp.ap ⟨hPt,tp.L,tp.g⟩).moved (bs:=[]) (h':=h'.push (fnMade name qual params body scope clos doc ((d.mg "__name__").getD .none) c' ctv)) (fun c o O e=>Heap.get?_push_of_some _ e) fun O hb=>nomatch hb)).take ((if_neg nfp).trans ((if_neg nfc).trans (no tf.l))) tf.ap ⟨Heap.get?_push_size _ rfl,tf.L,tf.g⟩)
  ·exact (if_neg (Led.ne e tf.l)).trans ((if_neg (Led.ne e tp.l)).trans ((if_neg (Led.ne e tc.l)).trans ((if_neg hb).trans ((if_neg hb).trans e))))
  ·exact ⟨oc,vs,t,(if_neg nfc.symm).trans ((if_neg ncP').trans Led.hit),hd,hv,hCO,ncP'⟩
  ·exact hY0 _ _ tp.l ((if_neg nfp.symm).trans Led.hit)
  ·exact ⟨oc,vs,t,(if_neg nfc.symm).trans ((if_neg ncP').trans Led.hit),hd,hv,hCO,ncP'⟩
  ·exact hY0 _ _ tp.l ((if_neg nfp.symm).trans Led.hit)
 ·have hamong:codeAmong pos (#[rawInt pos.line,rawInt pos.col,Value.ref c']:Array Value).toList=some (.ref c'):=by simp [codeAmong,rawInt]
  refine makeFunction_hit (mg:=d.mg) hcl n.G.hg T.g hc hC hm.1 (by simp [TriplesOk,rawInt]) hamong ⟨bm,ob,b1,b2,hbG,hbP,b3,b4,b5,b6⟩ fun ctv doc h' tk hk hsz=>?_
  have tf:=n.a.low hsz
  have le:l.le (l.set h'.objs.size _):=.new (o:=fnMade name qual params body scope clos doc ((d.mg "__name__").getD .none) c' ctv) tf.l
  exact h _ _ _ ⟨fun b o O e=>le _ _ e,tf.l,aK.le ⟨_,hP,.inr ⟨c',P',rfl,hc',hy⟩⟩ le fun O=>hY _ _ le,⟨c',P',doc,ctv,Led.hit,hc'.le le,hY _ _ le hy⟩⟩ (.of (t:=tk)) (((n.a.moved (bs:=[]) (h':=h'.push (fnMade name qual params body scope clos doc ((d.mg "__name__").getD .none) c' ctv)) (fun c o O e=>Heap.get?_push_of_some _ (hk _ _ e)) fun O hb=>nomatch hb)).take tf.l tf.ap ⟨Heap.get?_push_size _ rfl,tf.L,tf.g⟩)
theorem LS.wg{D:Stmt}{K:Option CV→Sl→Led→Prop}{clos:List (Str × Addr)}{c P:Addr}{k:Nat}{Y:Led→Addr→Prop}(ev:Ev d fi cs)(hst:vY D=true)(h3:annTrees (ri D) none d.env=[])(hx:slot fi.ns (aD D)=some k)(hcl:fm fi cs (freeOf (cE D))=some clos)(hc:d.env.code=.ref c)
  (hC:∀ h,(∀ b o,d.base.get? b=some o→h.get? b=some o)→CodeHd h c P) (ht:aK Y l P (kW D) (qualnameIn d.env (aD D) (aD D))) (hY0:∀ l' P',l P'=none→l' P'=some (tabObj #[])→Y l' P') (hY:∀ l' P',l.le l'→Y l P'→Y l' P')
  (kk:∀ f l',rH Y l P (kW D) (qualnameIn d.env (aD D) (aD D)) (fun doc c' ctv=>fnX (aD D) (qualnameIn d.env (aD D) (aD D)) (ri D) (iS D) (cE D) clos .none .none doc ((d.mg "__name__").getD .none) none (.ref c') ctv) f l'→K none (σ.set k (.v (.ref f))) l'):LS d r fi (exec D d.env) K σ l:=by
 revert D
 refine @sQ _ fun nn ps b sc n2 p hst=>?_
 intro h3 hx hcl ht kk
 rw [Bool.and_eq_true,Bool.and_eq_true,beq_iff_eq,List.isEmpty_iff,List.isEmpty_iff] at hst
 obtain (⟨⟨rfl,h1⟩,h2⟩):=hst
 refine ⟨fun m hm=>⟨fun A E g s n=>nestDef_K h1 h2 h3 (qB n (bt ev hcl) hc (hC _ fun O O e=>n.a.up e) ht hY0 hY fun f l' s' fn st a=>?_)⟩⟩
 have n':=n.next st a
 exact wpAny_storeName_local (ev.loc _ k hx).1 (n'.a.ns n'.G) (fun h' hn hs=>⟨g,_,l',st.trans (.of (t:=_)),n'.a.store n'.G hn hs,.next _ (hm.set hx (.v _)) (kk f l' fn)⟩) (by rw [n.G.hk];rfl)
end
end
section
section
variable {M:Model}{A:Around}{E:Value→Shared→Prop}{s:Shared}
theorem lT{scope:Scope}{globals:Addr}{cl:List (Str × Addr)}{a x:Str}{v1 v2:Value}{qual:Str}{func:Option Addr}{code:Value}{builtins:Addr}{Q:Env→Shared→Prop}
  (hk:scope.kind=.function) (ha:scope.names.lookup a=some .local) (hx:scope.names.lookup x=some .cell)
  (hcf:∀ n,cellsFrom n scope.names cl=(x,n)::cl) (hpc:∀ h,pushCells h scope.names=h.push {cls:=.type "cell",data:=.cell none})
  (hQ:∀ (h':Heap) (tk:Nat) (oc:Obj),(∀ b o,s.heap.get? b=some o→h'.get? b=some o)→h'.Ns s.heap.objs.size (fun y=>if y=a then some v1 else none)→h'.get? (s.heap.objs.size+1)=some oc→oc.data=.cell (some v2) →
   Q (newEnv scope s.heap.objs.size globals ((x,s.heap.objs.size+1)::cl) qual func code none builtins) {s with heap:=h',toks:=tk}) :
  wpAny M A (newFunctionEnv scope globals cl [(a,v1),(x,v2)] qual func code none builtins) Q E s:=by
 simp only [newFunctionEnv,Option.isSome_none,Bool.false_eq_true,if_false]
 refine wpAny_bind (wpAny_alloc ?_)
 refine wpAny_bind (wpAny_layCells _ (fun name kind cells=>by cases hkc:kind==NameKind.cell<;>simp [hkc]) _ _ _ _ ?_)
 rw [show ({s with heap:=s.heap.push {cls:=.type "frame",data:=.dict #[]}}:Shared).heap.objs.size=s.heap.objs.size+1 from Heap.size_push ..,hcf,hpc]
 generalize hL:s.heap.objs.size=L at *
 have up1:∀ b o,s.heap.get? b=some o→((s.heap.push {cls:=.type "frame",data:=.dict #[]}).push {cls:=.type "cell",data:=.cell none}).get? b=some o:=fun b o e=>Heap.get?_push_of_some _ (Heap.get?_push_of_some _ e)
 have ns0:((s.heap.push {cls:=.type "frame",data:=.dict #[]}).push {cls:=.type "cell",data:=.cell none}).Ns L fun O=>none:=hL▸(Heap.Ns.new s.heap (.type "frame")).push _
 have gc:((s.heap.push {cls:=.type "frame",data:=.dict #[]}).push {cls:=.type "cell",data:=.cell none}).get? (L+1)=some {cls:=.type "cell",data:=.cell none}:=by
  have:((s.heap.push {cls:=.type "frame",data:=.dict #[]}).push {cls:=.type "cell",data:=.cell none}).get? (s.heap.push {cls:=.type "frame",data:=.dict #[]}).objs.size=some {cls:=.type "cell",data:=.cell none}:=Heap.get?_push_size _ rfl
  rwa [Heap.size_push,hL] at this
 generalize (s.heap.push {cls:=.type "frame",data:=.dict #[]}).push {cls:=.type "cell",data:=.cell none}=H at *
 have ltL:∀ b o,s.heap.get? b=some o→@LT.lt Nat _ b L:=fun b o e=>hL▸Heap.lt_size e
 refine wpAny_bind ?_
 rw [List.forIn_cons]
 refine wpAny_bind (wpAny_bind (wpAny_storeName_local (env:=newEnv scope L globals ((x,L+1)::cl) qual func code none builtins) ha ns0 (fun h3 hn3 hs3=>?_) (by show (scope.kind==.class||(scope.kind==.module&&_))=false;rw [hk];rfl)))
 refine wpAny_pure ?_
 dsimp only
 rw [List.forIn_cons]
 have gc3:h3.get? (L+1)=some {cls:=.type "cell",data:=.cell none}:=(hs3.2 _ (Nat.succ_ne_self L)).trans gc
 refine wpAny_bind (wpAny_bind (wpAny_storeName_cell (env:=newEnv scope L globals ((x,L+1)::cl) qual func code none builtins) hk hx (by simp [newEnv]) ⟨_,gc3,rfl⟩ (fun h4 hc4 hs4=>?_)))
 refine wpAny_pure ?_
 dsimp only
 rw [List.forIn_nil]
 obtain ⟨oc,hoc,hd⟩:=hc4
 refine wpAny_pure (wpAny_pure (hQ h4 _ oc (fun b o e=>?_) (hn3.sameBut hs4 (Nat.ne_of_lt (Nat.lt_succ_self L))) hoc hd))
 have l:=ltL b o e
 rw [hs4.2 b (Nat.ne_of_lt (Nat.lt_succ_of_lt l)),hs3.2 b (Nat.ne_of_lt l)]
 exact up1 b o e
end
theorem Makes.one{fd:FuncData}{f:Addr}{a x:Str}{v1 v2:Value}(hk:fd.scope.kind=.function)(ha:fd.scope.names.lookup a=some .local)(hx:fd.scope.names.lookup x=some .cell)
  (hcf:∀ n,cellsFrom n fd.scope.names fd.closure=(x,n)::fd.closure) (hpc:∀ h,pushCells h fd.scope.names=h.push {cls:=.type "cell",data:=.cell none}):Makes fd f [(a,v1),(x,v2)]:=by
 intro M A E s Q h
 refine lT hk ha hx hcf hpc fun h' tk oc k1 hns hoc hd=>?_
 have hxl:¬ fd.scope.names.lookup x=some .local:=by rw [hx];decide
 have hx1:bindL (fun x=>fd.scope.names.lookup x) [(a,v1),(x,v2)] (fun O=>none)=fun y=>if y=a then some v1 else none:=by
  unfold bindL;rw [if_pos ha];unfold bindL;rw [if_neg hxl];rfl
 have hx2:bindC (fun x=>fd.scope.names.lookup x) [(a,v1),(x,v2)] (fun O=>none)=fun y=>if y=x then some v2 else none:=by
  unfold bindC;rw [if_pos ha];unfold bindC;rw [if_neg hxl];rfl
 have:=h h' tk [(x,s.heap.objs.size+1)] (hcf _) k1 (hx1▸hns) (fun n c hm=>?_) (List.pairwise_singleton _ _) fun p hp=>?_
 ·unfold oX at this
  rw [hcf] at this
  exact this
 ·obtain (⟨rfl,rfl⟩):n=x∧c=s.heap.objs.size+1:=by simpa using hm
  rw [hx2];show h'.IsCell _ (if n=n then some v2 else none);rw [if_pos rfl]
  exact ⟨oc,hoc,hd⟩
 ·rw [List.mem_singleton] at hp
  subst hp;exact Nat.lt_succ_self _
end
section
noncomputable abbrev bW:Stmt:=cC (.f (st 45)) 0
noncomputable abbrev dy:Pos:={line:=255,col:=4,endLine:=259,endCol:=106}
noncomputable abbrev bB:Str:=Str.ofString "key_call.<locals>.call"
noncomputable abbrev qZ(ci:Addr)(doc pm ctv:Value)(c':Addr):FuncData:=fnX (aD bW) bB (ri bW) (iS bW) (cE bW) [(Str.ofString "index_of",ci)] .none .none doc pm none (.ref c') ctv
inductive bK(l:Led)(f P io:Addr):Prop
 | mk (ci:Addr) (doc pm ctv:Value) (c':Addr) (e:l f=some {cls:=.type "function",data:=.func (qZ ci doc pm ctv c')}) (hc:bM l c' P bB) (hi:ae l ci (.v (.ref io))):bK l f P io
section
variable {d:Dy}{r:Nat}{l:Led}{K:CV→Led→Prop}{io:Addr}{Y:Led→Addr→Prop}
theorem kE(hC:CodeHd d.base 339 335)(ht:aK Y l 335 dy bB)(hY0:∀ l' P',l P'=none→l' P'=some (tabObj #[])→Y l' P')(hY:∀ l l' P',Led.le l l'→Y l P'→Y l' P')
  (k:∀ f P' l',l.ky 335 l'→aK Y l' 335 dy bB→l f=none→bK l' f P' io→Y l' P'→K (.v (.ref f)) l'):Cl d (r+2) (.ref 340) [.v (.ref io)] K l:=by
 refine Cl.def {ns:=nm ["call"],gi:=[],cn:=nm ["index_of"]} (nm ["index_of"]) 99 rfl rfl (by kernel_rfl) (fun O=>rfl) fun d P sb hP cell l1 nc ev=>?_
 have e1:kW bW=dy:=by kernel_rfl
 have e2:qualnameIn d.env (aD bW) (aD bW)=bB:=by rw [sb.env];kernel_rfl
 obtain ⟨x,ex,_⟩:=id ht
 have n335:cell≠335:=(Led.ne ex nc.fresh).symm
 refine LS.wg (c:=339) (P:=335) (Y:=Y) (k:=0) ev (by kernel_rfl) rfl rfl rfl (by rw [sb.env];rfl) (fun h hb=>hC.keeps fun b o e=>hb b o (sb.base▸e)) ?_ (fun l' P' q=>hY0 l' P' (nc.le.none q)) (hY _) fun f l2 fn=>?_
 ·exact (show aK Y l1 335 (kW bW) (qualnameIn d.env (aD bW) (aD bW)) by rw [e1,e2];exact ht.le nc.le fun P'=>hY _ _ _ nc.le)
 ·have tab:aK Y l2 335 (kW bW) (qualnameIn d.env (aD bW) (aD bW)):=fn.tab
  rw [e1,e2] at tab
  obtain ⟨c',P',doc,ctv,h1,h2,h3⟩:=fn.fn
  have h2:bM l2 c' P' (qualnameIn d.env (aD bW) (aD bW)):=h2
  rw [e2] at h2
  obtain ⟨o,v,q1,q2,q3⟩:=nc.has _ rfl
  refine hP _ _ _ _ (k f P' l2 (fun b o hb e=>fn.keep _ _ hb (nc.le _ _ e)) tab (nc.le.none fn.fresh) ⟨cell,doc,(d.mg (Str.ofString "__name__")).getD .none,ctv,c',h1.trans ?_,h2,o,v,fn.keep _ _ n335 q1,q2,q3⟩ h3) .rfl
  show some (Obj.mk _ _ (.func (fnX _ (qualnameIn d.env (aD bW) (aD bW)) _ _ _ _ _ _ _ _ _ _ _)) _)=_
  rw [e2]
end
end
section
inductive dQ(l:Led)(D:List ah):CV→List Str→Prop
 | str (x:Str):dQ l D (.str x) [x]
 | t:dQ l D (.v (.bool true)) [Str.ofString "true"]
 | num {a:Addr} {p q:Int} {x:Str} (h:HT l a [.int p,.int q]) (n:vc p q x):dQ l D (.v (.ref a)) [x]
 | set {a:Addr} {ns:List Nat} (tx:Nat→Str) (h:HL l a (aq ns)) (hz:ns.length≤1000) (hx:∀ n∈ns,nO D n (tx n)):dQ l D (.v (.ref a)) (ns.map tx)
theorem dQ.le{l l':Led}{D:List ah}{v:CV}{T:List Str}(h:dQ l D v T)(le:l.le l'):dQ l' D v T:=by
 induction h with
 | str x=>exact .str x
 | t=>exact .t
 | num h n=>exact .num (h.le le) n
 | set tx h hz hx=>exact .set tx (h.le le) hz hx
noncomputable def Led.cR(l:Led)(x y z:Addr)(l':Led):Prop:=∀ b o,b≠x→b≠y→b≠z→l b=some o→l' b=some o
noncomputable def bk(l:Led)(z:Addr):Prop:=∀ o vs q t,l z=some o→o.data=.fields vs→vs[1]?=some (.str q t)→False
theorem cy.kp{l l':Led}{c z:Addr}{q:Str}(h:cy l c q)(k:l.ky z l')(n:bk l z):cy l' c q:=by
 obtain (⟨o,vs,t,e,hd,hv⟩):=h
 exact ⟨o,vs,t,k _ _ (fun q=>n o vs _ t (q▸e) hd hv) e,hd,hv⟩
theorem bM.kp{l l':Led}{c P z:Addr}{q:Str}(h:bM l c P q)(k:l.ky z l')(n:bk l z):bM l' c P q:=by
 induction h with | mk o vs t e hd hv hc np=>exact ⟨o,vs,t,k _ _ (fun q=>n o vs _ t (q▸e) hd hv) e,hd,hv,hc,np⟩
theorem Tab.kp{l l':Led}{P z:Addr}{pos:Pos}{q:Str}(h:Tab l P pos q)(k:l.ky z l')(n:bk l z)(nz:P≠z):Tab l' P pos q:=by
 obtain (⟨x,e,h⟩):=h
 exact ⟨x,k _ _ nz e,h.imp id fun z=>by obtain (⟨c,a,b⟩):=z;exact ⟨c,a,cy.kp b k n⟩⟩
theorem bk.lst{l:Led}{a:Addr}{cs:List CV}(h:HL l a cs):bk l a:=fun o vs q t e hd O=>by
 obtain (⟨us,n,e2,_⟩):=HL.at h
 rw [e] at e2;cases e2;cases hd
theorem bk.tab{l:Led}{P:Addr}{pos:Pos}{qual:Str}(h:Tab l P pos qual):bk l P:=fun o vs q t e hd hv=>by
 obtain (⟨x,e2,h⟩):=h
 rw [e] at e2;cases e2;cases hd
 rcases h with rfl | ⟨c,rfl,_⟩<;>cases hv
noncomputable abbrev aZ:Pos:={line:=259,col:=62,endLine:=259,endCol:=105}
noncomputable abbrev aN:Str:=Str.ofString "key_call.<locals>.call.<locals>.<lambda>"
section
variable {d:Dy}{r:Nat}{l:Led}{K:CV→Led→Prop}{av:List Addr}{t:Addr}{D:List ah}
theorem qa{v:CV}{T:List Str}(h:dQ l D v T)(hT:Tree l av t D)(hval:∀ d∈D,d.val.length≤10)(k:∀ b l',Mk l b (ai (T.map .str)) l'→K (.v (.ref b)) l'):Cl d (r+5) (.ref 333) [v,.v (.ref t)] K l:=by
 induction h with
 | str x=>exact iZ k
 | t=>exact g9 k
 | num h n=>exact ja h n k
 | set tx h hz hx=>exact hU hT hval h hz hx k
theorem nJ{f P io c a cl ix dx oF dd al:Addr}{nd cu:Int}{asked:List CV}{name:Str}{v:CV}{T:List Str}{N:List (Str × Value)}{pk:Str→List Nat}{es:List Nat}{io_o:Obj}{iofd:FuncData}
  (hf:bK l f P io) (hio:l io=some io_o) (hiod:io_o.data=.func iofd)
  (run:∀ (d':Dy) (r':Nat) (K':CV→Led→Prop) (l':Led),d'.w=d.w→d'.base=d.base→l.le l'→(∀ l'',Up l' al (ai (asked++[.int nd])) l''→K' (.v (.ref ix)) l'')→Cl d' (r'+1) (.ref io) [.v (.ref c)] K' l')
  (hc:Ctx l av c t nd cu cl) (hm:HL l a [.str name,v]) (hw:dQ l D v T) (hT:Tree l av t D) (hval:∀ d∈D,d.val.length≤10) (hkz:∀ de∈D,de.kids.length≤900) (hD:Doc D es) (hal:HL l al asked)
  (hS:∀ l',(∀ b o,b≠al→b≠P→l b=some o→l' b=some o)→Tree l' av t D∧Ctx l' av c t nd cu cl∧KN d.w l' ix dx oF N∧(T≠[]→valueAt N name=some (.ref dd)→rS d.w l' dd pk))
  (hpk:∀ n∈T.flatMap pk,n∈es) (hz:(T.flatMap pk).length≤900)
  (hC:CodeHd d.base 294 292) (ht2:Tab l 292 aS aG) (htk:Tab l P aZ aN) (n1:al≠P) (n2:al≠292) (n3:P≠292)
  (res:((T≠[]→valueAt N name=some (.ref dd))∧∀ b l',l.cR al P 292 l'→HL l' al (asked++[.int nd])→Tab l' P aZ aN→Tab l' 292 aS aG→l b=none→HL l' b (aq (picked es (T.flatMap pk)))→K (.v (.ref b)) l') ∨
   (T≠[]∧name.length≤100∧valueAt N name=none∧∀ l',l.cR al P 292 l'→HL l' al (asked++[.int nd])→Tab l' P aZ aN→Tab l' 292 aS aG→d.X 75 l')):Cl d (r+9) (.ref f) [.v (.ref a),.v (.ref c)] K l:=by
 obtain ⟨ci,doc,pm,ctv,c',ef,hcd,hci⟩:=hf
 refine (Cc.into (fd:=qZ ci doc pm ctv c') (D:=bW) (as:=[.v (.ref a),.v (.ref c)]) {ns:=nm ["arguments", "name", "texts"],gi:=[30,28,31,4],cn:=nm ["context"],fr:=nm ["index_of"]} (nm ["arguments", "context"]) 99 rfl (fun h X hl=>?_) (by kernel_rfl) (fun s vs O O hv=>?_) fun d' P' sb hP cc l1 nc ev=>?_).cl
 ·obtain ⟨oc,vs,tq,ec,hoc,hq,_⟩:=hcd
  exact ⟨_,hl _ _ ef,rfl,c',oc,vs,tq,rfl,hl _ _ ec,hoc,hq⟩
 ·obtain ⟨u,w,rfl,_,_⟩:=hv.two
  exact ⟨_,hv,.of_eq rfl,Makes.one rfl rfl rfl (fun n=>rfl) fun h=>rfl⟩
 refine aU (hm.le nc.le) (aj rfl) (by show (2:Int)≤2;decide) (by show (2:Int)≤2;decide) ?_
 refine LN.aR (hm.le nc.le) (by decide) rfl (by decide) ?_
 have cell1:=nc.has _ rfl
 refine CK.mk _ cell1 ?_
 refine (hc.le nc.le).tree ?_
 refine ct ?_
 refine LN.aR (hm.le nc.le) (by decide) rfl (by decide) ?_
 refine CK.mk _ cell1 ?_
 refine (hc.le nc.le).tree ?_
 refine qa (hw.le nc.le) (hT.le nc.le) hval fun ts l2 m2=>?_
 have le2:=nc.le.trans m2.le
 refine CK.mk _ (hci.le le2) ?_
 refine CK.mk _ (cell1.le m2.le) ?_
 refine LF.fn (le2 _ _ hio) hiod ?_
 refine run d' _ _ l2 sb.w sb.base le2 fun l3 u3=>?_
 have k3:l.ky al l3:=fun b o n e=>(u3.but b n).trans (le2 _ _ e)
 have nal:=bk.lst hal
 have eq1:jt ((Pe.v (.f bW) 3).c 4).at=aZ:=by kernel_rfl
 have eq2:d'.env.qual++Str.ofString "<lambda>"=aN:=by rw [sb.env];kernel_rfl
 have u3':l2.ky al l3:=fun b o n e=>(u3.but b n).trans e
 have nal2:bk l2 al:=bk.lst (hal.le le2)
 have tk3:Tab l3 P aZ aN:=(htk.le le2).kp u3' nal2 n1.symm
 have t23:Tab l3 292 aS aG:=(ht2.le le2).kp u3' nal2 n2.symm
 obtain ⟨xP,eP,_⟩:=id tk3
 obtain ⟨xP0,eP0,_⟩:=id htk
 have ncc:cc≠P:=(Led.ne eP0 nc.fresh).symm
 have ncl:cc≠al:=(hal.ne nc.fresh).symm
 have nts:ts≠P:=(Led.ne (nc.le _ _ eP0) m2.fresh).symm
 have ntl:ts≠al:=((hal.le nc.le).ne m2.fresh).symm
 refine LE.lam (c:=c') (P:=P) (clos:=[(Str.ofString "context",cc)]) ev (by kernel_rfl) rfl rfl (by rw [sb.env];rfl) (fun h O hl=>?_) ?_ fun lam l4 fn=>?_
 ·obtain ⟨oc,vs,tq,ec,hoc,hq,hco,np⟩:=((hcd.le le2).kp u3' nal2)
  exact hco.hd (hl _ _ ec) np
 ·exact (show Tab l3 P (jt ((Pe.v (.f bW) 3).c 4).at) (d'.env.qual++Str.ofString "<lambda>") by rw [eq1,eq2];exact tk3)
 have tab4:Tab l4 P (jt ((Pe.v (.f bW) 3).c 4).at) (d'.env.qual++Str.ofString "<lambda>"):=fn.tab
 rw [eq1,eq2] at tab4
 have k4:∀ b o,b≠al→b≠P→l b=some o→l4 b=some o:=fun b o h1 h2 e=>fn.keep _ _ h2 (k3 b o h1 e)
 obtain ⟨hT4,hc4,hN4,hF4⟩:=hS l4 k4
 rw [← sb.w] at hN4 hF4
 have cell4:ae l4 cc (.v (.ref c)):=cell1.of fun o e=>fn.keep _ _ ncc ((u3.but _ ncl).trans (m2.le _ _ e))
 have hts:HL l4 ts (T.map .str):=m2.is.of fun o e=>fn.keep _ _ nts ((u3.but _ ntl).trans e)
 have hal4:HL l4 al (asked++[.int nd]):=u3.is.of fun o e=>fn.keep _ _ n1 e
 have t24:Tab l4 292 aS aG:=t23.kp fn.keep (bk.tab tk3) n3.symm
 obtain ⟨c2,ctv2,e4,hc2⟩:=fn.fn
 rcases res with ⟨hv,k⟩ | ⟨hT0,hz1,hv,y⟩
 rotate_left
 ·induction T with
  | nil=>exact absurd rfl hT0
  | cons t0 T=>exact kM hz1 hN4 hv hts fun l5 le5=>sb.X _ _ (y l5 (fun b o h1 h2 h3 e=>le5 _ _ (k4 b o h1 h2 e)) (hal4.le le5) (tab4.le le5) (t24.le le5))
 refine qT hN4 (fun q=>⟨hv q,hF4 q (hv q)⟩) hts hz e4 rfl fun d2 K2 b l5 w2 b2 le5 hb kk=>?_
 obtain ⟨oc2,vs2,tq2,ec2,hoc2,hq2⟩:=hc2
 refine (Cc.lam {ns:=nm ["nodes"],gi:=[25],fr:=nm ["context"]} (nm ["nodes"]) (.x _) rfl (fun h X hl=>⟨_,hl _ _ (le5 _ _ e4),rfl,c2,oc2,vs2,tq2,rfl,hl _ _ (le5 _ _ ec2),hoc2,hq2⟩) (by kernel_rfl) (fun s vs O O hv=>⟨vs,hv,?_⟩) fun d3 P3 s3 hP3 ev3=>?_).cl
 ·refine ar.eX hv fun v O=>?_
  exact ⟨.of_eq rfl,Makes.rq rfl (by kernel_rfl) (by kernel_rfl)⟩
 refine CK.mk _ (cell4.le le5) ?_
 refine (hc4.le le5).tree ?_
 refine kH (hT4.le le5) hkz hD hb hpk (Nat.le_trans hz (by decide)) ?_ (t24.le le5) fun a2 l6 lb tb fr hr=>hP3 _ _ _ _ (kk _ _ (hP _ _ _ _ (k a2 l6 (fun b o h1 h2 h3 e=>lb b o h3 (le5 _ _ (k4 b o h1 h2 e))) ?_ ?_ tb ?_ hr) .rfl)) .rfl
 ·rw [s3.base,b2,sb.base];exact hC
 ·obtain ⟨o,e,p⟩:=hal4
  exact ⟨o,lb _ _ n2 (le5 _ _ e),p⟩
 ·exact (tab4.le le5).kp lb (bk.tab (t24.le le5)) n3
 ·cases q:l a2 with
  | none=>rfl
  | some o =>
   by_cases h1:a2=al
   ·exact absurd h1 ((hal4.le le5).ne fr).symm
   ·by_cases h2:a2=P
    ·obtain ⟨x,e,_⟩:=tab4
     exact absurd h2 (Led.ne (le5 _ _ e) fr).symm
    ·have:=le5 _ _ (k4 a2 o h1 h2 q)
     rw [fr] at this;cases this
theorem kX{f P io c a:Addr}{cs:List CV}(hf:bK l f P io)(hm:HL l a cs)(hz:cs.length≤1000)(h:cs.length < 2∨2 < cs.length)(y:∀ l',l.le l'→d.X 63 l'):Cl d (r+4) (.ref f) [.v (.ref a),.v (.ref c)] K l:=by
 obtain (⟨ci,doc,pm,ctv,c',ef,hcd,hci⟩):=hf
 obtain (⟨oc,vs,tq,ec,hoc,hq,_⟩):=hcd
 refine (Cc.into (fd:=qZ ci doc pm ctv c') (D:=bW) (as:=[.v (.ref a),.v (.ref c)]) {ns:=nm ["arguments", "name", "texts"],gi:=[30,28,31,4],cn:=nm ["context"],fr:=nm ["index_of"]} (nm ["arguments", "context"]) 99 rfl (fun h X hl=>⟨_,hl _ _ ef,rfl,c',oc,vs,tq,rfl,hl _ _ ec,hoc,hq⟩) (by kernel_rfl) (fun s vs O O hv=>?_) fun d' P' sb hP cc l1 nc ev=>?_).cl
 ·obtain (⟨u,w,rfl,_,_⟩):=hv.two
  exact ⟨_,hv,.of_eq rfl,Makes.one rfl rfl rfl (fun n=>rfl) fun h=>rfl⟩
 exact bO (hm.le nc.le) hz (by decide) (by omega) (sb.X _ _ (y _ nc.le))
end
end
section
section
variable {d:Dy}{r:Nat}{l:Led}{fi:Fi}{σ:Sl}
noncomputable abbrev wN:=Str × Nat × Pos × Ex
noncomputable abbrev t5(q:wN):Option Ex:=some (.Constant (.str q.1) q.2.1 q.2.2.1)
noncomputable def xD(d:Dy)(r:Nat)(fi:Fi)(σ:Sl):List wN→(List (Str × Value)→Led→Prop)→Led→Prop
 | [],K,l=>K [] l
 | q::rest,K,l=>LE d r fi (eval q.2.2.2 d.env) (fun c l'=>bF c fun w=>xD d r fi σ rest (fun kvs l''=>K ((q.1,w)::kvs) l'') l') σ l
theorem uZ{pos:Pos}{m:Mp}(hm:bL fi.ns σ m)(kvs:List wN):∀ {K:List (Str × Value)→Led→Prop} {l:Led},xD d r fi σ kvs K l→∀ A E g s,bx d r A E g s m l →
  wpAny (model Pg d.w) A (evalPairs (pairTrees (kvs.map t5) (kvs.map (·.2.2.2)) d.env pos)) (fun vs s₁=>aO d g (fun vs m' l'=>m'=m∧∃ kv,Carries (PySem.strKind Pg d.w) vs kv∧K kv l') s vs s₁) E s:=by
 induction kvs with
 | nil=>exact fun hk A E g s n=>pairTrees_nil_walk (n.ok ⟨rfl,[],trivial,hk⟩)
 | cons q rest ih =>
  refine fun hk A E g s n=>pairTrees_cons_walk (wpAny_Constant_str ?_)
  have n:=n.next (.of (t:=s.toks+1)) n.a
  refine wpAny_mono ((hk.run m hm).run A E g _ n) (fun w s₁ pv=>?_) fun O O x=>x
  induction pv with | mk g' m' l' e at_ k=>cases k with | mk c em is k =>
  subst em
  refine wpAny_mono (ih (k.on is) A E g' s₁ (n.next e at_)) (fun vs s₂ p=>?_) fun O O x=>x
  induction p with | mk g2 m2 l2 e2 a2 k =>
  exact k.2.elim fun kv k'=>⟨g2,m2,l2,(Step.of (t:=s.toks+1)).trans (e.trans e2),a2,k.1,(q.1,w)::kv,⟨PySem.strKind_is ..,rfl,k'.1⟩,k'.2⟩
theorem LE.wh{p:Pe}{K:CV→Led→Prop}{pos:Pos}(q:wN)(kvs:List wN)(hS:p.at=.Dict ((q::kvs).map t5) ((q::kvs).map (·.2.2.2)) pos)(hz:kvs.length≤14)
  (h:∀ D l1,Mk l D (fw d.w []) l1→(D==sysModules)=false→xD d r fi σ (q::kvs) (fun kv l'=>Hs l' D (fw d.w [])∧∀ l'',Up l' D (fw d.w (merged [] kv)) l''→K (.v (.ref D)) l'') l1):LE d r fi (eval p.at d.env) K σ l:=by
 rw [hS]
 refine ⟨fun m hm=>⟨fun A E g s n=>?_⟩⟩
 refine wpAny_Dict_walk (knd:=PySem.strKind Pg d.w) (by rw [List.all_map];exact List.all_eq_true.mpr fun O O=>rfl) (by rw [List.length_map,List.length_map]) (List.cons_ne_nil _ _) (by rw [List.length_map];exact Nat.succ_le_succ hz) ?_
 obtain ⟨o,ho,hd⟩:=Heap.dictOf_iff.mp (Heap.DictOf.new (knd:=PySem.strKind Pg d.w) s.heap)
 rw [Heap.get?_push_size _ rfl] at ho
 injection ho with ho
 have pu:=n.a.push {cls:=.type "dict",data:=.dict #[]}
 refine wpAny_mono (uZ hm _ (h _ _ (.set (P:=fw d.w []) pu.1 (ho▸hd)) (beq_eq_false_iff_ne.mpr (Nat.ne_of_gt (modules_low n.T.nolimit)))) A E g _ (n.next (.of (t:=s.toks)) pu.2)) (fun vs s₁ pv=>?_) fun O O x=>x
 induction pv with | mk g' m' l' e a k =>
 obtain ⟨em,kv,hc,⟨o,eo,hdo⟩,k⟩:=k
 refine ⟨kv,hc,Heap.dictOf_iff.mpr ⟨o,a.get eo,hdo⟩,fun h' hd' sb=>?_⟩
 obtain ⟨o',eo',hdo'⟩:=Heap.dictOf_iff.mp hd'
 exact ⟨g',_,_,(Step.of (t:=s.toks)).trans (e.trans .of),a.cell eo sb eo',_,em,.v _,k _ (.set hdo')⟩
end
end
section
set_option backward.match.sparseCases false in
noncomputable def dV:Ex→Nat→Ex
 | .Dict _ vs _,i=>vs.getD i eY
 | _,_=>eY
noncomputable abbrev dT(f:Addr):List (Str × Value):=[(Str.ofString "key",.ref f),(Str.ofString "current",.ref 347),(Str.ofString "generate-id",.ref 354),(Str.ofString "format-number",.ref 361)]
inductive mG(l:Led)(z:Addr):Prop
 | mk (o:Obj) (e:l z=some o) (f:∀ vs,o.data≠.fields vs) (g:∀ fd,o.data≠.func fd) (c:∀ v,o.data≠.cell v):mG l z
theorem mG.dict{l:Led}{w:World}{a:Addr}{kvs:List (Str × Value)}(h:Hs l a (fw w kvs)):mG l a:=by
 obtain (⟨o,e,es,ep,_,hd,_⟩):=h
 exact ⟨o,e,fun O q=>(nomatch hd.symm.trans q),fun O q=>(nomatch hd.symm.trans q),fun O q=>(nomatch hd.symm.trans q)⟩
theorem mG.code{l:Led}{z:Addr}(h:mG l z):bk l z:=fun o vs q t e hd O=>by
 obtain (⟨o2,e2,h1,_⟩):=h
 rw [e] at e2;cases e2;exact h1 _ hd
theorem mG.tab{l:Led}{z P:Addr}{x:Array Value}(h:mG l z)(e:l P=some (tabObj x)):P≠z:=fun q=>by
 obtain (⟨o2,e2,h1,_⟩):=h
 rw [← q,e] at e2;cases e2;exact h1 _ rfl
theorem mG.fn{l:Led}{z P:Addr}{o:Obj}{fd:FuncData}(h:mG l z)(e:l P=some o)(hd:o.data=.func fd):P≠z:=fun q=>by
 obtain (⟨o2,e2,_,h1,_⟩):=h
 rw [← q,e] at e2;cases e2;exact h1 _ hd
theorem aK.kf{Y:Led→Addr→Prop}{l l':Led}{P z:Addr}{pos:Pos}{q:Str}(h:aK Y l P pos q)(k:l.ky z l')(n:mG l z)(hY:∀ P',Y l P'→Y l' P'):aK Y l' P pos q:=by
 obtain (⟨x,e,h⟩):=h
 exact ⟨x,k _ _ (n.tab e) e,h.imp id fun z=>by obtain (⟨c,P',a,b,y⟩):=z;exact ⟨c,P',a,bM.kp b k n.code,hY _ y⟩⟩
theorem Tab.kf{l l':Led}{P z:Addr}{pos:Pos}{q:Str}(h:Tab l P pos q)(k:l.ky z l')(n:mG l z):Tab l' P pos q:=by
 obtain (⟨x,e,_⟩):=id h
 exact h.kp k n.code (n.tab e)
theorem ae.kf{l l':Led}{a z:Addr}{c:CV}(h:ae l a c)(k:l.ky z l')(n:mG l z):ae l' a c:=by
 obtain (⟨o,v,e,hd,is⟩):=h
 refine ⟨o,v,k _ _ (fun q=>?_) e,hd,is⟩
 obtain (⟨o2,e2,_,_,h1⟩):=n
 rw [← q,e] at e2;cases e2;exact h1 _ hd
theorem bK.kf{l l':Led}{f P io z:Addr}(h:bK l f P io)(k:l.ky z l')(n:mG l z):bK l' f P io:=by
 obtain (⟨ci,doc,pm,ctv,c',e,hc,hi⟩):=h
 exact ⟨ci,doc,pm,ctv,c',k _ _ (n.fn e rfl) e,hc.kp k n.code,hi.kf k n⟩
section
variable {d:Dy}{r:Nat}{l:Led}{K:CV→Led→Prop}{io:Addr}{Y:Led→Addr→Prop}
theorem gf(hC:CodeHd d.base 339 335)(ht:aK Y l 335 dy bB)(hY0:∀ l' P',l P'=none→l' P'=some (tabObj #[])→Y l' P')(hY:∀ l l' P',Led.le l l'→Y l P'→Y l' P')(hYk:∀ l l' z P',Led.ky l z l'→mG l z→Y l P'→Y l' P')
  (k:∀ D f P' l',l.ky 335 l'→aK Y l' 335 dy bB→l D=none→Hs l' D (fw d.w (dT f))→bK l' f P' io→Y l' P'→(D==sysModules)=false→K (.v (.ref D)) l'):Cl d (r+3) (.ref 368) [.v (.ref io)] K l:=by
 refine Cl.def {ns:=nm ["index_of"],gi:=[32,33,34,35]} (nm ["index_of"]) 99 rfl rfl (by kernel_rfl) (fun O=>rfl) fun d' P sb hP ev=>?_
 refine LE.wh (p:=.v (.f (st 49)) 0) (Str.ofString "key",_,_,_) [(Str.ofString "current",_,_,_),(Str.ofString "generate-id",_,_,_),(Str.ofString "format-number",_,_,_)] rfl (by decide) fun D l1 m1 lo=>?_
 have le1:=m1.le
 obtain (⟨x,ex,_⟩):=id ht
 have nD:D≠335:=(Led.ne ex m1.fresh).symm
 refine LE.go (p:=.x _) ev fun P' hP'=>?_
 refine kE (Y:=Y) (by rw [sb.base];exact hC) (ht.le le1 fun P'=>hY _ _ _ le1) (fun l' P' q=>hY0 l' P' (le1.none q)) hY fun f P2 l2 lb tab fr kf y=>hP' _ _ ?_
 refine LE.go (p:=.x _) ev fun P3 hP3=>hP3 _ _ ?_
 refine LE.go (p:=.x _) ev fun P4 hP4=>hP4 _ _ ?_
 refine LE.go (p:=.x _) ev fun P5 hP5=>hP5 _ _ ?_
 obtain (⟨o,e,p⟩):=m1.is
 have hd2:Hs l2 D (fw d'.w []):=⟨o,lb _ _ nD e,p⟩
 refine ⟨hd2,fun l3 u3=>?_⟩
 have kb:l2.ky D l3:=fun b o n e=>(u3.but b n).trans e
 have pl:=mG.dict hd2
 refine hP _ _ _ _ (k D f P2 l3 (fun b o hb e=>kb _ _ (Led.ne e m1.fresh) (lb _ _ hb (le1 _ _ e))) (tab.kf kb pl fun P'=>hYk _ _ _ _ kb pl) m1.fresh ?_ (kf.kf kb pl) (hYk _ _ _ _ kb pl y) lo) .rfl
 have:=u3.is
 rw [show merged [] _=dT f from rfl] at this
 rw [← sb.w];exact this
end
end
section
section
variable {A₀:Around}{base g G B h₅:Heap}{env:Env}{outer:List Env}{L:Addr}{m:Mp}
theorem s8(K:Below A₀ base outer g)(F:Fr g L G m)(hf:env.frame=some L)(hBG:∀ b o,G.get? b=some o→b ∉ jF (env::outer)→B.get? b=some o)(hBh:B.StaysIn h₅)(hsm:G.UpToSlots h₅) :
  ∃ g',KtsTurn (jF outer) g g'∧Fr g' L h₅ m∧Below A₀ base outer g':=by
 obtain (⟨T,S⟩):=kts_turn_at (h:=h₅) (fs:=jF outer) (g:=g)
  (fun b hb=>by
   obtain (⟨_,o,ho,_⟩):=K.frames.mem hb
   exact ⟨o,ho⟩)
  (fun b o e nm=>hBh b o (hBG b o (F.keep b o e) (fun hm=>by
   rcases dH hf hm with rfl | z
   ·rw [kts_self F] at e
    cases e
   ·exact nm z)))
  (fun b o e hm=>by
   obtain (⟨_,o',ho',hd⟩):=K.frames.mem hm
   rw [e] at ho'
   cases ho'
   exact hsm b o (F.keep b o e) hd)
 refine ⟨_,T,⟨hsm.ns F.ns,S,by rw [T.size];exact F.above⟩,⟨K.stack,fun b o e=>T.other b o (K.stays b o e) (fun hm=>by
  rw [(K.frames.mem hm).1] at e
  cases e),K.frames.of_keeps fun b o e O=>?_⟩⟩
 obtain (⟨sl,hs⟩):=T.up e
 exact ⟨_,hs,rfl⟩
end
noncomputable def mH(w:World)(C C':Addr)(b:Bool):Prop:=∀ {A:Around} {E:Value→Shared→Prop} {s:Shared} {e:Addr} {oe:Obj} {Q:Bool→Shared→Prop},(K39 w.params).In s.heap→s.heap.get? e=some oe→oe.cls=.ref C→Q b s→wpAny (model Pg w) A (excMatches (.ref e) (.ref C')) Q E s
section
variable {M:Model}{A:Around}{E:Value→Shared→Prop}
variable {nm q:Str}{C N:Addr}{bs bm:List Value}{hdct:Bool}{sn:List Str}{sub:List Value}{ab:Bool}{col:Option Bool}{dd:Option Addr}{k0 k1 k2 k3 k5:Option Value}{newId:String}
variable {nm' q':Str}{C' N':Addr}{bs' bm':List Value}{hdct':Bool}{sn':List Str}{sub':List Value}{ab':Bool}{col':Option Bool}{dd':Option Addr}{k0' k1' k2' k3' k5':Option Value}{newId':String}
theorem dv{s:Shared}{e:Addr}{oe:Obj}{b:Bool}{Q:Bool→Shared→Prop}
  (hC:s.heap.get? C=some (excClassObj nm q C N bs bm hdct sn sub ab col dd k0 k1 k2 k3 k5 newId)) (hC':s.heap.get? C'=some (excClassObj nm' q' C' N' bs' bm' hdct' sn' sub' ab' col' dd' k0' k1' k2' k3' k5' newId')) (he:s.heap.get? e=some oe) (hcls:oe.cls=.ref C)
  (hbase:bm'.contains (.type "BaseException")=true) (hb:(Value.ref C::bm).contains (.ref C')=b) (hq:Q b s):wpAny M A (excMatches (.ref e) (.ref C')) Q E s:=by
 have hcB:(Value.ref C'::bm').contains (.type "BaseException")=true:=by rw [List.contains_cons,hbase,Bool.or_true]
 have f:=tc_notTuple
 obtain (⟨h,g,d,t,os⟩):=s
 unfold excMatches
 repeat (first | (with_reducible refine wpAny_loadPart_at he ?_;rw [hcls]) | with_reducible refine wpAny_loadPart_at hC' ?_ | (with_reducible refine wpAny_isSubtype_exc hC' ?_;rw [hcB]) | (with_reducible refine wpAny_isSubtype_exc hC ?_;rw [hb]) | wp_step)
 cases b<;>(repeat wp_step)<;>exact hq
end
theorem jn(w:World):mH w 63 63 true:=fun X he hc hq=>dv (newId:="Exception.__new__") (newId':="Exception.__new__") (X _ _ rfl) (X _ _ rfl) he hc (by decide) (by decide) hq
theorem jm(w:World):mH w 75 63 false:=fun X he hc hq=>dv (newId:="Exception.__new__") (newId':="Exception.__new__") (X _ _ rfl) (X _ _ rfl) he hc (by decide) (by decide) hq
theorem jl(w:World):mH w 75 75 true:=fun X he hc hq=>dv (newId:="Exception.__new__") (newId':="Exception.__new__") (X _ _ rfl) (X _ _ rfl) he hc (by decide) (by decide) hq
section
variable {prog:Program}{w:World}{A A₀:Around}{E:Value→Shared→Prop}{s':Shared}{base g G:Heap}{env:Env}{outer:List Env}{L e:Addr}{m:Mp}{cls:Value}{l:Led}
theorem sM{P:Shared→Prop}(hA:A.frames=some (env::outer))(R:cx base G (env::outer) e cls l s'.heap)(hf:env.frame=some L)(hsm:G.UpToSlots s'.heap)
  (k:∀ h',cx base G (env::outer) e cls l h'→G.UpToSlots h'→P {s' with heap:=h'}) :
  wpAny (model prog w) A (noteFrame (.ref e) env) (fun O s₂=>wpAny (model prog w) A (setFlight (.ref e) none) (fun O s₃=>P s₃) E s₂) E s':=by
 obtain ⟨B,a0,hB,hBG,hl,hfl⟩:=R
 refine wpAny_looks_onW hA hf hfl fun h₄ hheld₄ hsm₄=>?_
 refine wpAny_landsW hheld₄ fun h₅ hheld hsm₅=>?_
 exact k h₅ ⟨B,a0,hB,hBG,hl,hheld⟩ (hsm.trans (hsm₄.trans hsm₅))
theorem oU{t:PySem.Expr}{C':Addr}{body:List Stmt}{pos:Pos}{rest:List ExceptHandler}{Q:Flow→Shared→Prop}
  (ht:∀ (Q':Value→Shared→Prop) (E':Value→Shared→Prop),Q' (.ref C') s'→wpAny (model prog w) (A.mark (some (.ref e))) (eval t env) Q' E' s')
  (hm:∀ (Q':Bool→Shared→Prop) (E':Value→Shared→Prop),Q' false s'→wpAny (model prog w) (A.mark (some (.ref e))) (excMatches (.ref e) (.ref C')) Q' E' s')
  (h:wpAny (model prog w) A (handleBy (.ref e) env rest) Q E s'):wpAny (model prog w) A (handleBy (.ref e) env (.ExceptHandler (some t) none body pos::rest)) Q E s' :=
 wpAny_handleBy_cons (codeAny_handlers_test (ht _ _ (hm _ _ h))) (by intro q;cases q)
theorem gL{t:PySem.Expr}{C':Addr}{b₀:Stmt}{suite:List Stmt}{pos:Pos}{rest:List ExceptHandler}{Q:Flow→Shared→Prop}(R:cx base G (env::outer) e cls l s'.heap)(F:Fr g L G m)(K:Below A₀ base outer g)(hf:env.frame=some L)(hsm:G.UpToSlots s'.heap)
  (ht:∀ (Q':Value→Shared→Prop) (E':Value→Shared→Prop),Q' (.ref C') s'→wpAny (model prog w) (A.mark (some (.ref e))) (eval t env) Q' E' s')
  (hm:∀ (Q':Bool→Shared→Prop) (E':Value→Shared→Prop),Q' true s'→wpAny (model prog w) (A.mark (some (.ref e))) (excMatches (.ref e) (.ref C')) Q' E' s')
  (k:∀ h' g',KtsTurn (jF outer) g g'→Fr g' L h' m→Nw g' L h' l→Below A₀ base outer g'→wpAny (model prog w) (A.mark (some (.ref e))) (execs (b₀::suite) env) Q E {s' with heap:=h'})
  (hE:PassesOwnAt (model prog w) (A.mark (some (.ref e))) A env E) :
  wpAny (model prog w) A (handleBy (.ref e) env (.ExceptHandler (some t) none (b₀::suite) pos::rest)) Q E s':=by
 obtain ⟨B,a0,hB,hBG,hl,hfl⟩:=R
 have hL:B.get? L=none:=by
  obtain ⟨_,⟨L',_,hf',hn',_⟩,_⟩:=hfl.2.2.1
  rw [hf] at hf'
  obtain rfl:L=L':=Option.some.inj hf'
  exact hn'
 refine wpAny_handleBy_cons (codeAny_handlers_test (ht _ _ (hm _ _ ?_))) (by intro q;cases q)
 refine codeAny_handlers_suite ?_
 refine lands_againW hfl fun h₆ hfl₆ hsm₆=>?_
 obtain ⟨g₆,T₆,F₆,K₆⟩:=s8 K F hf hBG hfl₆.1 (hsm.trans hsm₆)
 exact wpAny_passesOwnAt hE (k h₆ g₆ T₆ F₆ (fun a o q=>⟨hfl₆.1 _ _ (hl a o q).1,(fun z=>by have:=(hl a o q).1;rw [z,hL] at this;cases this),T₆.none_ _ (kts_none F.keep (hl a o q).2.1)⟩) K₆)
end
section
variable {d:Dy}{r:Nat}{fi:Fi}{cs:List Addr}{σ:Sl}{l:Led}
structure xJ(d d1:Dy):Prop where
 w:d1.w=d.w
 base:d1.base=d.base
 env:d1.env=d.env
theorem oq{A:Around}{E:Value→Shared→Prop}{s:Shared}{M:Model}{env:Env}{x:Str}{k:Nat}{pos pos':Pos}{Q:Flow→Shared→Prop}(h:Q (.ret (.str x s.toks)) {s with toks:=s.toks+1}):wpAny M A (execs [.Return (some (.Constant (.str x) k pos)) pos'] env) Q E s :=
 wpAny_execs_cons (wpAny_Return_some (wpAny_Constant_str h))
theorem LS.xf{S:Stmt}{e:Ex}{x1 x2:Str}{p0 p1 p2 p3 p4 p5 p6 p7 p8 p9:Pos}{k1 k2:Nat}{K:Option CV→Sl→Led→Prop}(ev:Ev d fi cs)(hm:d.may)(hfe:d.ay=d.env)(hst:¬ d.az)(hc:d.cmp=none)(hz:d.fz=[])(hS:S=.Try [.Return (some e) p0] [.ExceptHandler (some (.Name (Str.ofString "PathFault") p1)) none [.Return (some (.Constant (.str x1) k1 p2)) p3] p4,.ExceptHandler (some (.Name (Str.ofString "SheetFault") p5)) none [.Return (some (.Constant (.str x2) k2 p6)) p7] p8] [] [] p9)
  (hg1:nsIn (K39 d.w.params) mainGlobals (Str.ofString "PathFault")=some (some (.ref 63))) (hg2:nsIn (K39 d.w.params) mainGlobals (Str.ofString "SheetFault")=some (some (.ref 75)))
  (hk1:d.env.kindOf (Str.ofString "PathFault")=some .globalImplicit) (hk2:d.env.kindOf (Str.ofString "SheetFault")=some .globalImplicit)
  (h:∀ d1:Dy,xJ d d1→Ev d1 fi cs→(∀ l',K (some (.str x1)) .nil l'→d1.X 63 l')→(∀ l',K (some (.str x2)) .nil l'→d1.X 75 l')→LE d1 r fi (eval e d1.env) (fun c l'=>K (some c) σ l') σ l):LS d r fi (exec S d.env) K σ l:=by
 subst hS
 refine ⟨fun m hm0=>⟨fun A E g s n=>wpAny_Try_except ?_⟩⟩
 let d1:Dy:={d with may:=False,X:=fun c l'=>(c=63∧K (some (.str x1)) .nil l')∨(c=75∧K (some (.str x2)) .nil l'),Y:=fun O O=>False}
 have he:=h d1 ⟨rfl,rfl,rfl⟩ ⟨ev.loc,ev.xy,ev.own,ev.w7⟩ (fun O k=>.inl ⟨rfl,k⟩) fun O k=>.inr ⟨rfl,k⟩
 have nameB:∀ {s1:Shared} {A1:Around} {x:Str} {v:Value} {p:Pos} {Q:Value→Shared→Prop} {E1:Value→Shared→Prop},(∀ b o,d.base.get? b=some o→s1.heap.get? b=some o)→nsIn (K39 d.w.params) mainGlobals x=some (some v)→d.env.kindOf x=some .globalImplicit→(x==("__debug__":Str))=false→Q v s1→wpAny (model Pg d.w) A1 (eval (.Name x p) d.env) Q E1 s1:=fun hk e hkd hd q=>by
  have hge:d.env.globals=mainGlobals:=n.G.hg
  exact Name_function_global n.G.hk hkd (loadGlobal_global (by rw [hge];exact n.G.TB.g.keeps hk) (mg_of n.G.XB n.G.TB.g e) q) hd
 refine wpAny_execs_cons (wpAny_Return_some (wpAny_mono ((he.run m hm0).run A _ g s ⟨⟨n.G.XB,n.G.TB,n.G.fk,n.G.ff,n.G.hk,n.G.hl,n.G.hg,n.G.hb⟩,⟨n.R.hd,n.R.fr,n.R.dep,n.R.pB⟩,⟨n.a.B,n.a.N,n.a.W,n.a.Z⟩,⟨fun q=>q.elim,fun a s' th=>?_⟩⟩) (fun v s₁ pv=>?_) fun O O x=>x))
 ·induction th with
  | own g' m1 c l1 oe a0 e hn hcl hd at_ y=>exact y.elim
  | on g' G mo c l1 st B F R u y =>
   have R:cx d.base G (d.ay::d.outer) a (.ref c) l1 s'.heap:=R
   have hf:d.ay.frame=some d.L:=n.G.ff
   rw [hfe] at R hf
   refine sM (hfe▸n.R.fr) R hf u fun h7 R7 U7=>?_
   have R7':=R7
   obtain ⟨Bh,a0,hB,_,_,hfl⟩:=R7'
   have hkb:∀ b o,d.base.get? b=some o→h7.get? b=some o:=fun b o q=>hfl.1 _ _ (hB _ _ q)
   have XH:(K39 d.w.params).In h7:=n.G.XB.keeps hkb
   obtain ⟨oe,he,hce⟩:=hfl.there
   have hE:PassesOwnAt (model Pg d.w) (A.mark (some (.ref a))) A d.env E:=hfe▸n.x.p hm _ (SameStack.mark A _)
   have fin:∀ {x:Str} {p:Pos} {q:Pos} {k:Nat} {h8 g8:Heap},K (some (.str x)) .nil l1→KtsTurn (jF d.outer) g' g8→Fr g8 d.L h8 mo→Nw g8 d.L h8 l1→Below d.A₀ d.base d.outer g8→wpAny (model Pg d.w) (A.mark (some (.ref a))) (execs [.Return (some (.Constant (.str x) k p)) q] d.env) (aO d g (PS fi.ns K) s) E {s' with heap:=h8}:=fun kk T8 F8 N8 B8=>by
    refine oq ⟨_,mo,l1,⟨st.T.trans T8,⟨st.e.g,st.e.d,st.e.o⟩,fun q=>absurd q hst⟩,⟨B8,N8,?_,fun p hp=>by rw [hz] at hp;cases hp⟩,.ret .nil _ bL.nil (.str _ _) kk⟩
    unfold Own;rw [hc];exact F8
   rcases y with ⟨rfl,kk⟩ | ⟨rfl,kk⟩
   ·exact gL (C':=63) (s':=⟨h7,_,_,_,_⟩) R7 F B hf U7 (fun Q' E' q=>nameB hkb hg1 hk1 (by decide) q) (fun Q' E' q=>jn _ XH he hce q) (fun h8 g8 K8 F8 N8 B8=>fin kk K8 F8 N8 B8) hE
   ·refine oU (C':=63) (s':=⟨h7,_,_,_,_⟩) (fun Q' E' q=>nameB hkb hg1 hk1 (by decide) q) (fun Q' E' q=>jm _ XH he hce q) ?_
    exact gL (C':=75) (s':=⟨h7,_,_,_,_⟩) R7 F B hf U7 (fun Q' E' q=>nameB hkb hg2 hk2 (by decide) q) (fun Q' E' q=>jl _ XH he hce q) (fun h8 g8 K8 F8 N8 B8=>fin kk K8 F8 N8 B8) hE
 ·induction pv with | mk g' m' l' st at_ k=>cases k with | mk c em is k =>
  subst em
  exact ⟨g',_,l',⟨st.T,⟨st.e.g,st.e.d,st.e.o⟩,st.st⟩,⟨at_.B,at_.N,at_.W,at_.Z⟩,.ret σ c hm0 is k⟩
end
end
section
set_option backward.match.sparseCases false in
noncomputable def xe:Stmt→Ex
 | .Try [.Return (some e) _] _ _ _ _=>e
 | _=>eY
theorem CW.fn{d:Dy}{l:Led}{f:Addr}{o:Obj}{fd:FuncData}(e:l f=some o)(hd:o.data=.func fd):CW d l (.ref f):=fun h O hl=>⟨.frame,.inl rfl,by
 obtain (⟨a,b,c,g⟩):=o
 cases hd
 exact (Looks.ld (part:=none) (hl _ _ e)).andThen .now⟩
theorem CW.own{d:Dy}{l:Led}{f:Addr}(h:keepIn (K39 d.w.params) (.ref f)=true):CW d l (.ref f):=fun O X O=>keeps_K h _ X
section
variable {d:Dy}{r:Nat}{l:Led}{K:CV→Led→Prop}
theorem bw{f a c:Addr}(hst:¬ d.az)(cw:∀ d1:Dy,d1.w=d.w→CW d1 l (.ref f))
  (h:∀ (d1:Dy) (K':CV→Led→Prop),d1.w=d.w→d1.base=d.base→(∀ c l',K c l'→K' c l')→(∀ l',K (.str (Str.ofString "path")) l'→d1.X 63 l')→(∀ l',K (.str (Str.ofString "sheet")) l'→d1.X 75 l')→Cl d1 r (.ref f) [.v (.ref a),.v (.ref c)] K' l) :
  Cl d (r+1) (.ref 690) [.v (.ref f),.v (.ref a),.v (.ref c)] K l:=by
 refine Cl.def {ns:=nm ["call", "some", "context"],gi:=[1,2]} (nm ["call", "some", "context"]) 99 rfl rfl (by kernel_rfl) (fun O O O=>rfl) fun d' P sb hP ev=>?_
 refine LS.xf (e:=xe (cC (.f (st 68)) 0)) (x1:=Str.ofString "path") (x2:=Str.ofString "sheet") ev sb.may sb.ay (by rw [sb.az];exact hst) sb.cmp sb.fz rfl (by kernel_rfl) (by kernel_rfl) (by rw [sb.env];rfl) (by rw [sb.env];rfl) fun d1 s1 ev1 x1 x2=>?_
 refine LE.go (p:=.x _) ev1 fun P' hP'=>?_
 refine LF.mk (.ref f) rfl (cw d1 (s1.w.trans sb.w)) ?_
 exact h d1 _ (s1.w.trans sb.w) (s1.base.trans sb.base) (fun c l' k=>hP' _ _ (hP _ _ _ _ k .rfl)) (fun l' k=>x1 l' (hP _ _ _ _ k .rfl)) (fun l' k=>x2 l' (hP _ _ _ _ k .rfl))
end
end
section
noncomputable abbrev rM:Str:=Str.ofString "element"
noncomputable abbrev vi:Str:=Str.ofString "text"
noncomputable abbrev eS:Str:=Str.ofString ""
theorem aV(D:List ah)(p:Nat)(d n:ah):(aW D p d n).length=D.length+1:=by rw [List.length_set,List.length_append];rfl
theorem dW{D:List ah}{p:Nat}{d n:ah}(h:p < D.length):(aW D p d n)[D.length]?=some n:=by
 rw [List.getElem?_set_ne (Nat.ne_of_lt h),List.getElem?_append_right (Nat.le_refl _),Nat.sub_self];rfl
theorem dU{D:List ah}{p:Nat}{d n:ah}(h:p < D.length):(aW D p d n)[p]?=some {d with kids:=d.kids++[D.length]} :=
 List.getElem?_set_self (by rw [List.length_append];exact Nat.lt_succ_of_lt h)
theorem cY{D:List ah}{p x:Nat}{d n:ah}(h:x < D.length)(hx:x≠p):(aW D p d n)[x]?=D[x]?:=by
 rw [List.getElem?_set_ne (Ne.symm hx),List.getElem?_append_left h] at ⊢
theorem g5{D:List ah}{p:Nat}{d n:ah}(hd:D[p]?=some d)(h:∀ x∈D,x.val.length≤10)(hn:n.val.length≤10):∀ x∈aW D p d n,x.val.length≤10:=by
 intro x hx
 rcases List.mem_or_eq_of_mem_set hx with hx | rfl
 ·rcases List.mem_append.mp hx with hx | hx
  ·exact h x hx
  ·rw [List.mem_singleton.mp hx];exact hn
 ·exact h d (List.mem_of_getElem? hd)
noncomputable abbrev dz(p:Nat):ah:=⟨rM,eS,some p,[]⟩
noncomputable abbrev iA(p:Nat)(t:Str):ah:=⟨vi,t,some p,[]⟩
structure Built(D:List ah)(es:List Nat)(ts:List Str):Prop where
 hl:ts.length=es.length
 sz:D.length≤1+2 * es.length
 ps:0 < D.length
 root:D[0]?=some ⟨Str.ofString "root",eS,none,es.take 1⟩
 el:∀ i e t,es[i]?=some e→ts[i]?=some t→∃ tn,D[e]?=some ⟨rM,eS,(0::es)[i]?,tn++(es[i+1]?).toList⟩∧((tn=[]∧t=eS)∨∃ x:Nat,tn=[x]∧t≠eS∧D[x]?=some (iA e t))
 pos:∀ e∈es,0 < e∧e < D.length
 nodup:es.Nodup
 val:∀ d∈D,d.val.length≤10
theorem Built.start:Built [⟨Str.ofString "root",eS,none,[]⟩] [] [] :=
 ⟨rfl,by decide,by decide,rfl,by intro i e t h;simp at h,by simp,List.nodup_nil,by decide⟩
noncomputable abbrev lastOf(es:List Nat):Nat:=(0::es).getLast (List.cons_ne_nil _ _)
theorem iL(es:List Nat)(e:Nat):lastOf (es++[e])=e:=by
 rw [lastOf,List.getLast_cons (by simp)];simp
theorem gE{es:List Nat}:(0::es)[es.length]?=some (lastOf es):=by
 rw [lastOf,← List.getLast?_eq_some_getLast,List.getLast?_eq_getElem?];rfl
theorem Built.row{D:List ah}{es:List Nat}{ts:List Str}(h:Built D es ts):∃ d,D[lastOf es]?=some d∧(d.kind=Str.ofString "root"∨d.kind=rM)∧d.kids.length≤1:=by
 rcases List.eq_nil_or_concat es with rfl | ⟨l,e,rfl⟩
 ·exact ⟨_,h.root,.inl rfl,by simp⟩
 ·rw [List.concat_eq_append,iL] at *
  have hz:l.length < ts.length:=by rw [h.hl];simp
  obtain (⟨tn,h1,h2⟩):=h.el l.length e ts[l.length] (by simp) (List.getElem?_eq_getElem hz)
  refine ⟨_,h1,.inr rfl,?_⟩
  rcases h2 with ⟨rfl,_⟩ | ⟨x,rfl,_⟩<;>simp
theorem Built.step{D:List ah}{es:List Nat}{ts:List Str}(h:Built D es ts){d:ah}(hd:D[lastOf es]?=some d){t:Str}(ht:t.length≤10) :
  (t=eS→Built (aW D (lastOf es) d (dz (lastOf es))) (es++[D.length]) (ts++[t])) ∧
  (t≠eS→Built (aW (aW D (lastOf es) d (dz (lastOf es))) D.length (dz (lastOf es)) (iA D.length t)) (es++[D.length]) (ts++[t])):=by
 have hlt:lastOf es < D.length:=(List.getElem?_eq_some_iff.mp hd).1
 have hpos:=h.pos
 have hDe:D.length ∉ es:=fun q=>Nat.lt_irrefl _ (hpos _ q).2
 have hnd:(es++[D.length]).Nodup:=List.nodup_append.mpr ⟨h.nodup,by simp,by intro a ha b hb;rw [List.mem_singleton.mp hb];intro q;exact hDe (q▸ha)⟩
 have v1:=g5 hd h.val (n:=dz (lastOf es)) (show eS.length≤10 by decide)
 have r1:(aW D (lastOf es) d (dz (lastOf es)))[0]?=some ⟨Str.ofString "root",eS,none,(es++[D.length]).take 1⟩:=by
  induction es with
  | nil =>
   have:d=⟨Str.ofString "root",eS,none,[]⟩:=by have:=h.root;rw [show lastOf []=0 from rfl] at hd;rw [hd] at this;exact Option.some.inj this
   subst this
   exact dU hlt
  | cons a r =>
   rw [cY h.ps,h.root]
   ·rfl
   ·have hm:lastOf (a::r)∈a::r:=by rw [show lastOf (a::r)=(a::r).getLast (List.cons_ne_nil _ _) from List.getLast_cons _];exact List.getLast_mem _
    exact fun q=>Nat.lt_irrefl 0 (q▸(hpos _ hm).1)
 have e1:∀ i e t,es[i]?=some e→ts[i]?=some t→∃ tn,(aW D (lastOf es) d (dz (lastOf es)))[e]?=some ⟨rM,eS,(0::(es++[D.length]))[i]?,tn++((es++[D.length])[i+1]?).toList⟩∧((tn=[]∧t=eS)∨∃ x:Nat,tn=[x]∧t≠eS∧(aW D (lastOf es) d (dz (lastOf es)))[x]?=some (iA e t)):=by
  intro i e t hi hti
  obtain (⟨tn,q1,q2⟩):=h.el i e t hi hti
  have hil:=(List.getElem?_eq_some_iff.mp hi).1
  have hp:(0::(es++[D.length]))[i]?=(0::es)[i]?:=by
   rw [← List.cons_append,List.getElem?_append_left (by simp;omega)] at ⊢
  have hx:∀ x:Nat,D[x]?=some (iA e t)→(aW D (lastOf es) d (dz (lastOf es)))[x]?=some (iA e t):=by
   intro x hx
   rw [cY (List.getElem?_eq_some_iff.mp hx).1 (fun q=>?_),hx] at ⊢
   subst q
   rw [hd] at hx
   obtain (⟨d',w1,w2,_⟩):=h.row
   rw [hd] at w1
   cases w1
   rw [Option.some.inj hx] at w2
   rcases w2 with w2 | w2
   ·exact absurd (show vi=Str.ofString "root" from w2) (by decide)
   ·exact absurd (show vi=rM from w2) (by decide)
  refine ⟨tn,?_,q2.imp id fun z=>by obtain (⟨x,w1,w2,w3⟩):=z;exact ⟨x,w1,w2,hx x w3⟩⟩
  by_cases hl:i+1 < es.length
  ·rw [cY (hpos e (List.mem_of_getElem? hi)).2,q1,hp,List.getElem?_append_left hl] at ⊢
   intro q
   have:=gE (es:=es)
   have h2:es[es.length - 1]?=some (lastOf es):=by
    induction es with
    | nil=>simp at hil
    | cons a r=>simpa using this
   have:=((List.getElem?_inj hil h.nodup).mp (hi.trans ((congrArg some q).trans h2.symm)))
   omega
  ·have hie:i=es.length - 1:=by omega
   have h2:lastOf es=e:=by
    have:=gE (es:=es)
    induction es with
    | nil=>simp at hil
    | cons a r =>
     rw [List.length_cons] at hie this
     subst hie
     have h3:(a::r)[r.length]?=some (lastOf (a::r)):=by simpa using this
     rw [Nat.add_sub_cancel,h3] at hi
     exact Option.some.inj hi
   have hde:d=⟨rM,eS,(0::es)[i]?,tn++(es[i+1]?).toList⟩:=by rw [h2,q1] at hd;exact (Option.some.inj hd).symm
   have hnn:es[i+1]?=none:=List.getElem?_eq_none (by omega)
   have hyy:(es++[D.length])[i+1]?=some D.length:=by rw [show i+1=es.length by omega];simp
   rw [← h2,dU hlt,hde,hp,hnn,hyy]
   simp
 have new1:=dW (d:=d) (n:=dz (lastOf es)) hlt
 have hpn:(0::(es++[D.length]))[es.length]?=some (lastOf es):=by
  rw [← List.cons_append,List.getElem?_append_left (by simp)];exact gE
 have split:∀ {i:Nat} {e:Nat} {t':Str},(es++[D.length])[i]?=some e→(ts++[t])[i]?=some t'→(es[i]?=some e∧ts[i]?=some t')∨(i=es.length∧e=D.length∧t'=t):=by
  intro i e t' hi hti
  have hil:=(List.getElem?_eq_some_iff.mp hi).1
  rw [List.length_append,List.length_singleton] at hil
  by_cases hl:i < es.length
  ·rw [List.getElem?_append_left hl] at hi
   rw [List.getElem?_append_left (by rw [h.hl];exact hl)] at hti
   exact .inl ⟨hi,hti⟩
  ·have:i=es.length:=by omega
   subst this
   refine .inr ⟨rfl,by simpa using hi.symm,?_⟩
   rw [← h.hl] at hti
   simpa using hti.symm
 have none1:(es++[D.length])[es.length+1]?=none:=List.getElem?_eq_none (by simp)
 constructor
 ·rintro rfl
  refine ⟨by simp [h.hl],by rw [aV,List.length_append,List.length_singleton];have:=h.sz;omega,by rw [aV];omega,r1,?_,?_,hnd,v1⟩
  ·intro i e t' hi hti
   rcases split hi hti with ⟨hi,hti⟩ | ⟨rfl,rfl,rfl⟩
   ·exact e1 i e t' hi hti
   ·exact ⟨[],by rw [new1,hpn,none1];rfl,.inl ⟨rfl,rfl⟩⟩
  ·intro e he
   rw [aV]
   rcases List.mem_append.mp he with he | he
   ·exact ⟨(hpos e he).1,Nat.lt_succ_of_lt (hpos e he).2⟩
   ·rw [List.mem_singleton.mp he];exact ⟨h.ps,Nat.lt_succ_self _⟩
 ·intro hne
  generalize hD1:aW D (lastOf es) d (dz (lastOf es))=D1 at *
  have hl1:D1.length=D.length+1:=by rw [← hD1,aV]
  have old:∀ x,x < D1.length→x≠D.length→(aW D1 D.length (dz (lastOf es)) (iA D.length t))[x]?=D1[x]?:=fun x a b=>cY a b
  refine ⟨by simp [h.hl],by rw [aV,hl1,List.length_append,List.length_singleton];have:=h.sz;omega,by rw [aV];omega,?_,?_,?_,hnd,?_⟩
  ·rw [old 0 (by omega) (by have:=h.ps;omega)];exact r1
  ·intro i e t' hi hti
   rcases split hi hti with ⟨hi,hti⟩ | ⟨rfl,rfl,rfl⟩
   ·obtain (⟨tn,q1,q2⟩):=e1 i e t' hi hti
    refine ⟨tn,by rw [old e (List.getElem?_eq_some_iff.mp q1).1 (Nat.ne_of_lt (hpos e (List.mem_of_getElem? hi)).2)];exact q1,q2.imp id fun ⟨x,w1,w2,w3⟩=>⟨x,w1,w2,?_⟩⟩
    rw [old x (List.getElem?_eq_some_iff.mp w3).1 (fun q=>?_)] at ⊢
    ·exact w3
    ·subst q
     rw [new1] at w3
     have:=congrArg ah.kind (Option.some.inj w3)
     exact absurd (show rM=vi from this) (by decide)
   ·refine ⟨[D1.length],?_,.inr ⟨D1.length,rfl,hne,dW (by omega)⟩⟩
    rw [dU (by omega),hpn,none1]
    rfl
  ·intro e he
   rw [aV,hl1]
   rcases List.mem_append.mp he with he | he
   ·exact ⟨(hpos e he).1,by have:=(hpos e he).2;omega⟩
   ·rw [List.mem_singleton.mp he];exact ⟨h.ps,by omega⟩
  ·exact g5 new1 v1 ht
theorem jW{D:List ah}{x:Nat}{d:ah}{r:List Nat}(h:D[x]?=some d):txt D (x::r)=(if d.kind=vi then [d.val] else [])++txt D r:=by
 unfold txt
 rw [List.filterMap_cons,h]
 by_cases hk:d.kind=vi<;>simp [hk]
noncomputable abbrev cD(ts:List Str):List Str:=ts.filter fun t=>decide (t≠eS)
theorem Built.flat{D:List ah}{es:List Nat}{ts:List Str}(h:Built D es ts):∀ (n i e:Nat),es.length=i+n→es[i]?=some e→∃ d out,D[e]?=some d∧d.kind=rM∧Flat D d.kids out∧txt D out=cD (ts.drop i)∧out.length≤2 * n:=by
 intro n
 induction n with
 | zero=>intro i e hl hi;have:=(List.getElem?_eq_some_iff.mp hi).1;omega
 | succ n ih =>
  intro i e hl hi
  have hil:i < ts.length:=by rw [h.hl];omega
  have hdr:ts.drop i=ts[i]::ts.drop (i+1):=List.drop_eq_getElem_cons hil
  obtain ⟨tn,q1,q2⟩:=h.el i e _ hi (List.getElem?_eq_getElem hil)
  generalize ts[i]=t at *
  have rest:∃ out,Flat D (es[i+1]?).toList out∧txt D out=cD (ts.drop (i+1))∧out.length≤2 * n+1:=by
   cases hn:es[i+1]? with
   | none =>
    have:ts.drop (i+1)=[]:=List.drop_eq_nil_of_le (by rw [h.hl];exact List.getElem?_eq_none_iff.mp hn)
    exact ⟨[],.nil,by rw [this];rfl,by simp⟩
   | some e2 =>
    obtain ⟨d2,out2,w1,w2,w3,w4,w5⟩:=ih (i+1) e2 (by omega) hn
    refine ⟨e2::out2,.cons w1 (by rw [List.append_nil];exact w3),?_,by simp;omega⟩
    rw [jW w1,if_neg (by rw [w2];decide),w4];rfl
  obtain ⟨out,r1,r2,r3⟩:=rest
  rcases q2 with ⟨rfl,rfl⟩ | ⟨x,rfl,hne,hx⟩
  ·refine ⟨_,out,q1,rfl,r1,?_,by omega⟩
   rw [hdr,r2];simp [cD]
  ·refine ⟨_,x::out,q1,rfl,.cons hx r1,?_,by simp;omega⟩
   rw [jW hx,if_pos rfl,r2,hdr]
   simp [cD,hne]
theorem Built.down{D:List ah}{es:List Nat}{ts:List Str}(h:Built D es ts){i e:Nat}(hi:es[i]?=some e):∃ d out,D[e]?=some d∧d.kind=rM∧Flat D d.kids out∧txt D out=cD (ts.drop i)∧out.length≤2 * es.length:=by
 have hl:=(List.getElem?_eq_some_iff.mp hi).1
 obtain ⟨d,out,a,b,c,d',e'⟩:=h.flat (es.length - i) i e (by omega) hi
 exact ⟨d,out,a,b,c,d',by omega⟩
theorem Built.elem{D:List ah}{es:List Nat}{ts:List Str}(h:Built D es ts){i e:Nat}(hi:es[i]?=some e):∃ d,D[e]?=some d∧d.kind=rM∧d.par=(0::es)[i]?∧∀ e2,es[i+1]?=some e2→e2∈d.kids:=by
 have hil:i < ts.length:=by rw [h.hl];exact (List.getElem?_eq_some_iff.mp hi).1
 obtain (⟨tn,q1,_⟩):=h.el i e _ hi (List.getElem?_eq_getElem hil)
 refine ⟨_,q1,rfl,rfl,fun e2 h2=>?_⟩
 show e2∈tn++(es[i+1]?).toList
 rw [h2];simp
theorem Built.lines{D:List ah}{es:List Nat}{ts:List Str}(h:Built D es ts):∀ (n i:Nat),es.length=i+n→bV D ((0::es).drop i):=by
 intro n
 induction n with
 | zero =>
  intro i hi
  rw [show i=es.length by omega,List.drop_eq_getElem_cons (by simp)]
  rw [List.drop_eq_nil_of_le (by simp)]
  trivial
 | succ n ih =>
  intro i hi
  have ih:=ih (i+1) (by omega)
  rw [List.drop_eq_getElem_cons (by simp;omega)]
  rw [List.drop_eq_getElem_cons (by simp;omega)] at ih ⊢
  have hs:(0::es)[i+1]?=es[i]?:=List.getElem?_cons_succ
  have hil:i < es.length:=by omega
  have g1:(0::es)[i+1]'(by simp;omega)=es[i]:=by simp
  rw [g1] at ih ⊢
  obtain ⟨d,k1,k2,k3,k4⟩:=h.elem (List.getElem?_eq_getElem hil)
  refine ⟨?_,⟨d,k1,k2⟩,ih⟩
  induction i with
  | zero =>
   refine ⟨_,h.root,?_⟩
   rw [show es.take 1=[es[0]] by rw [List.take_one,List.head?_eq_getElem?,List.getElem?_eq_getElem hil];rfl] at ⊢
   simp
  | succ j =>
   have g0:(0::es)[j+1]'(by simp;omega)=es[j]'(by omega):=by simp
   rw [g0]
   obtain ⟨d2,l1,l2,l3,l4⟩:=h.elem (i:=j) (List.getElem?_eq_getElem (by omega))
   exact ⟨d2,l1,l4 _ (List.getElem?_eq_getElem hil)⟩
theorem Built.ups{D:List ah}{es:List Nat}{ts:List Str}(h:Built D es ts):∀ (i:Nat) (e:Nat),es[i]?=some e→iu D (some e) (0::es.take (i+1)).reverse:=by
 intro i
 induction i with
 | zero =>
  intro e hi
  obtain ⟨d,k1,k2,k3,k4⟩:=h.elem hi
  have:es.take 1=[e]:=by rw [List.take_one,List.head?_eq_getElem?,hi];rfl
  rw [this]
  refine .cons k1 ?_
  rw [k3]
  exact .cons h.root .nil
 | succ i ih =>
  intro e hi
  obtain ⟨d,k1,k2,k3,k4⟩:=h.elem hi
  have hil:=(List.getElem?_eq_some_iff.mp hi).1
  have:es.take (i+1+1)=es.take (i+1)++[e]:=by rw [List.take_add_one,hi];rfl
  rw [this,← List.cons_append,List.reverse_append]
  refine .cons k1 ?_
  have g:(0::es)[i+1]?=some (es[i]'(by omega)):=by rw [List.getElem?_cons_succ];exact List.getElem?_eq_getElem (by omega)
  rw [k3,g]
  exact ih _ (List.getElem?_eq_getElem (by omega))
theorem Built.doc{D:List ah}{es:List Nat}{ts:List Str}(h:Built D es ts)(h5:es.length≤5):Doc D es :=
 ⟨h5,h.nodup,h.lines es.length 0 (by omega),h.ups⟩
noncomputable def toldOf:List Str→Str
 | []=>eS
 | [t]=>t
 | t::r=>t++toldOf r
theorem str_nil_append(x:Str):eS++x=x:=by
 have:eS=(⟨#[]⟩:Str):=by decide
 rw [this];show (⟨#[]++x.cps⟩:Str)=x;rw [Array.empty_append]
theorem str_append_nil(x:Str):x++eS=x:=by
 have:eS=(⟨#[]⟩:Str):=by decide
 rw [this];show (⟨x.cps++#[]⟩:Str)=x;rw [Array.append_empty]
theorem eO(x y z:Str):x++y++z=x++(y++z):=by
 show (⟨x.cps++y.cps++z.cps⟩:Str)=⟨x.cps++(y.cps++z.cps)⟩
 rw [Array.append_assoc]
theorem cK(t:Str)(r:List Str):toldOf (t::r)=t++toldOf r:=by
 induction r with
 | nil=>show t=t++eS;rw [str_append_nil]
 | cons a r=>rfl
theorem nX(ts:List Str)(t:Str):toldOf (ts++[t])=toldOf ts++t:=by
 induction ts with
 | nil=>show t=eS++t;rw [str_nil_append]
 | cons a r ih=>rw [List.cons_append,cK,cK,ih,eO]
theorem oM(l:List Str):Txt.join eS l=toldOf l:=by
 show Txt.join eS l=_
 rw [show Txt.join eS l=Str.join eS l from StrLaws.glued_eq_join _ _]
 induction l with
 | nil=>decide
 | cons x r ih =>
  induction r with
  | nil=>rfl
  | cons y r=>show x++eS++Str.join eS (y::r)=_;rw [str_append_nil,ih];rfl
theorem jY(ts:List Str):toldOf (cD ts)=toldOf ts:=by
 induction ts with
 | nil=>rfl
 | cons t r ih =>
  rw [cK,← ih]
  by_cases h:t=eS
  ·subst h;rw [str_nil_append];simp [cD]
  ·rw [show cD (t::r)=t::cD r by simp [cD,h],cK]
theorem pZ{ts:List Str}(h:∀ t∈ts,t.length≤10):(toldOf ts).length≤10 * ts.length:=by
 induction ts with
 | nil=>decide
 | cons t r ih =>
  rw [cK]
  have h1:=h t (.head _)
  have h2:=ih fun x hx=>h x (.tail _ hx)
  show (t.cps++(toldOf r).cps).size≤_
  rw [Array.size_append,List.length_cons]
  show t.length+(toldOf r).length≤_
  omega
end
section
noncomputable abbrev vD(n:Int)(t u v:Tok):Obj:={cls:=.type "range",dict:=none,data:=.fields #[.int 0 t,.int n u,.int 1 v],slots:=#[]}
noncomputable def lu(n:Int)(o:Obj):Prop:=∃ t u v,o=vD n t u v
noncomputable abbrev sy(n i:Nat)(o:Obj):Prop:=o={cls:=.type "range_iterator",dict:=none,data:=.fields #[rawInt (0+(i:Int)),rawInt ((n:Int) - (i:Int)),rawInt 1],slots:=#[]}
section
variable {d:Dy}{r:Nat}{l:Led}
set_option tactic.hygienic true in
theorem LN.jf{n:Int}{K:CV→Led→Prop}(k:∀ a l',Mk l a (lu n) l'→K (.v (.ref a)) l'):LN d r (fun vs=>call (.type "range") vs) [.int n] K l :=
 .makes (fun A E g s m mo Q vs news hv N F Ns O kk=>by
  refine ar.eX hv fun v i1=>?_
  cases i1;rename_i t
  refine call_range_1 ?_
  refine kk _ _ _ (vD n s.toks t (s.toks+1)) (F.push _) (fun p hp=>?_) (du Ns) ⟨_,_,_,rfl⟩
  rcases List.mem_cons.mp hp with rfl | hp
  ·exact ⟨Heap.get?_push_size _ rfl,Nat.ne_of_gt F.ns.lt,Heap.get?_none_of_le (Nat.le_trans F.above (Nat.le_of_lt F.ns.lt))⟩
  ·exact ⟨Heap.get?_push_of_some _ (Ns p hp).1,(Ns p hp).2⟩) k
theorem mW{a:Addr}{n:Nat}(h:Hs l a (lu (n:Int)))(hn:n≤1000)(S:Nat→Led→Prop):bQ d l (.v (.ref a)) n (fun i c=>c=.int (i:Int)) S (sy n):=by
 obtain ⟨o,e,t,u,v,rfl⟩:=h
 have:=bQ.range (d:=d) (n:=n) e (small_one (by decide) (by decide) (by omega) (by omega)) (by rw [rangeSize_nat];omega) S
 simp only [Int.zero_add] at this
 unfold sy
 simp only [Int.zero_add]
 exact this
variable {fi:Fi}{cs:List Addr}{b:Bk}{i:Nat}{σ:Sl}
theorem LS.qU(fu:Nat){K:Option CV→Sl→Led→Prop}(J:Nat→Nat→Sl→Led→Prop)(ev:Ev d fi cs)(hm:d.may)(hfe:d.ay=d.env)(hst:fE (cC b i)=true)
  (h:∀ P',(∀ a n σ' l',n≤1000→Sl.Le σ' σ→Hs l' a (lu ((n:Nat):Int))→J n 0 σ' l'→P' (some (.v (.ref a))) σ l')→go (fi:=fi) (r:=r) ⟨d,cs,P',fun O O=>False⟩ 99 (.e (.v b i) .ret) σ l)
  (turn:∀ (d1:Dy) (P1:Option CV→Sl→Led→Prop) (n k:Nat) σ l,SubL d d1→k < n→J n k σ l→(∀ σ' σ l',Sl.Le σ' σ→J n (k+1) σ' l'→P1 none σ l')→(∀ c σ l,K (some c) σ l→P1 (some c) σ l) →
   eu fi cs (.int (k:Int)) (go (fi:=fi) (r:=r) ⟨d1,cs,P1,fun O O=>False⟩ fu (.s (.t b i) 0 .nil)) σ l (Pe.g b i).at)
  (fin:∀ n σ l,J n n σ l→K none σ l):LS d r fi (exec (cC b i) d.env) K σ l :=
 LS.uT fu (α:=Nat) (V:=fun O i c=>c=.int (i:Int)) (S:=fun O O O=>True) (It:=fun n=>sy n) J (fun n=>n) ev hm hfe hst (fun P' hP'=>h P' fun a n σ' l' hn le hl j=>hP' n _ σ' l' le (mW hl hn _) j) (fun O O O O O=>trivial) (fun d1 P1 n k c σ l s hk hv j next ret=>by subst hv;exact turn d1 P1 n k σ l s hk j next ret) fun n σ l j=>fin n σ l j
theorem LS.forR{K:Option CV→Sl→Led→Prop}(J:Nat→Nat→Sl→Led→Prop)(ev:Ev d fi cs)(hm:d.may)(hfe:d.ay=d.env)(hst:fE (cC b i)=true)
  (h:∀ P',(∀ a n σ' l',n≤1000→Sl.Le σ' σ→Hs l' a (lu ((n:Nat):Int))→J n 0 σ' l'→P' (some (.v (.ref a))) σ l')→go (fi:=fi) (r:=r) ⟨d,cs,P',fun O O=>False⟩ 99 (.e (.v b i) .ret) σ l)
  (turn:∀ (d1:Dy) (P1:Option CV→Sl→Led→Prop) (n k:Nat) σ l,SubL d d1→k < n→J n k σ l→(∀ σ' σ l',Sl.Le σ' σ→J n (k+1) σ' l'→P1 none σ l')→(∀ c σ l,K (some c) σ l→P1 (some c) σ l) →
   eu fi cs (.int (k:Int)) (go (fi:=fi) (r:=r) ⟨d1,cs,P1,fun O O=>False⟩ 99 (.s (.t b i) 0 .nil)) σ l (Pe.g b i).at)
  (fin:∀ n σ l,J n n σ l→K none σ l):LS d r fi (exec (cC b i) d.env) K σ l :=
 LS.qU 99 J ev hm hfe hst h turn fin
variable {fi2:Fi}{p:Pe}{K:CV→Led→Prop}
theorem LE.wu{cl:List (Str × Addr)}(k n:Nat)(J:List Addr→Nat→List CV→Led→Prop)(hn:n≤1000)(ev:Ev d fi cs)(hok:jJ fi2 k p.at=true)(hk:k < 2)(hcl:fm fi cs fi2.fr=some cl)
  (h:∀ P',(∀ a l',Hs l' a (lu (n:Int))→ak (fun O=>none) fi2.cn (fun as l=>J as 0 [] l) l'→P' (some (.v (.ref a))) σ l')→Mine.go (fi:=fi) (r:=r) ⟨d,cs,P',fun O O=>False⟩ 99 (.e (p.c 0) .ret) σ l)
  (turn:∀ (d2:Dy) as P2 Q2 (i:Nat) ys l,pj d d2 fi2 (as++cl.map (·.2))→i < n→J as i ys l→ys.length≤i→(∀ c σ l',J as (i+1) (ys++[c]) l'→P2 (some c) σ l')→(∀ σ l',J as (i+1) ys l'→Q2 σ l') →
   eu fi2 (as++cl.map (·.2)) (.int (i:Int)) (Mine.go (fi:=fi2) (r:=r) ⟨d2,as++cl.map (·.2),P2,Q2⟩ 99 (pX p k)) .nil l (p.c 2).at)
  (fin:∀ as D ys l l',J as n ys l→ys.length≤n→Mk l D (ai ys) l'→K (.v (.ref D)) l'):LE d r fi (eval p.at d.env) K σ l:=by
 refine LE.d8 (α:=Unit) (V:=fun O i c=>c=.int (i:Int)) (S:=fun O O O=>True) (It:=fun O=>sy n) k n (fun O as i ys l=>∃ cs,ar cs ys∧J as i cs l) ev hok hk (Nat.le_trans hn (aj rfl)) hcl (fun P' hP'=>h P' fun a l' hl j=>?_) (fun O O O O O O=>trivial) (fun O O O O O O=>trivial) (fun d2 O as P2 Q2 i c ys l hw hi hv j hy next skip=>?_) fun O as D ys l l' j hy nw=>?_
 ·exact hP' () _ l' (mW hl hn _) (j.mono fun as l j=>⟨[],.nil,j⟩)
 ·subst hv
  obtain (⟨cs',hcs,j⟩):=j
  exact turn d2 as P2 Q2 i cs' l hw hi j (hcs.len▸hy) (fun c σ l' j'=>next c σ l' (.mk fun v is=>⟨_,hcs.append (.cons is .nil),j'⟩)) fun σ l' j'=>skip σ l' ⟨cs',hcs,j'⟩
 ·obtain (⟨cs',hcs,j⟩):=j
  exact fin as D cs' l l' j (hcs.len▸hy) ⟨nw.fresh,nw.other,_,nw.hit,_,_,rfl,hcs⟩
end
end
section
section
variable {prog:Program}{w:World}{A:Around}{E:Value→Shared→Prop}{R:Result→Shared→Prop}{s:Shared}
variable {elt t0 i0 t1 i1:Ex}{ifs1:List Ex}{scope:Scope}{pos:Pos}{it acc:Value}{env:Env}
noncomputable abbrev jO(elt t0 i0 t1 i1:Ex)(ifs1:List Ex)(scope:Scope)(pos:Pos):Ex:=.ListComp elt [⟨t0,i0,[],0⟩,⟨t1,i1,ifs1,0⟩] scope pos
theorem pT:compTurn (jO elt t0 i0 t1 i1 ifs1 scope pos) 1 it acc env=(do
   standAt i1.pos
   match ← pyNext it with
   | none=>pure (.done .next)
   | some v =>
    letOwnedTupleGo t1 it v
    assign t1 env v
    let mut ok:=true
    for c in ifs1 do
     if ok then ok ← isTrue c env (eval c env)
    if ok then
     (do let _ ← call (.builtin "list.append") [acc,← eval elt env])
    again (.compLoop (jO elt t0 i0 t1 i1 ifs1 scope pos) 1 it acc env)):=by rfl
theorem pU:compTurn (jO elt t0 i0 t1 i1 ifs1 scope pos) 0 it acc env=(do
   standAt i0.pos
   match ← pyNext it with
   | none=>pure (.done .next)
   | some v =>
    letOwnedTupleGo t0 it v
    assign t0 env v
    let x ← eval i1 env
    standAt i1.pos
    let x ← foldedSetIterable i1 env x
    let tW ← holding [x] (pyIter x)
    let _ ← runOwn (.compStart (jO elt t0 i0 t1 i1 ifs1 scope pos) 1 tW acc env) env
    again (.compLoop (jO elt t0 i0 t1 i1 ifs1 scope pos) 0 it acc env)):=by rfl
theorem oH(I:Nat→Shared→Prop)
  (turn:∀ n s,I n s→∀ E':Value→Shared→Prop,wpAny (model prog w) A (pyNext it) (fun r s₁=>match r with
   | none=>R (.ok .next) s₁
   | some v=>wpAny (model prog w) A (letOwnedTupleGo t1 it v) (fun O s₁'=>wpAny (model prog w) A (assign t1 env v) (fun O s₂ =>
     wpAny (model prog w) A (bP ifs1 env) (fun ok s₃ =>
      if ok=true then wpAny (model prog w) A (eval elt env) (fun x s₄ =>
       wpAny (model prog w) A (call (.builtin "list.append") [acc,x]) (fun O s₅=>∃ m,m < n∧I m s₅) E' s₄) E' s₃
      else ∃ m,m < n∧I m s₃) E' s₂) E' s₁') E' s₁) E' s)
  (n:Nat) (h:I n s) :
  codeAny (model prog w) A (.compLoop (jO elt t0 i0 t1 i1 ifs1 scope pos) 1 it acc env) R s:=by
 refine codeAny_loop rfl I (fun n s hI=>?_) n h
 show wpAny _ A ((compTurn (jO elt t0 i0 t1 i1 ifs1 scope pos) 1 it acc env).onRaise (fun x=>do noteFrame x env;theTreesLotGoes x)) _ _ s
 refine wpAny_noted ?_
 rw [pT]
 refine wpAny_bind (wpAny_standAt (wpAny_bind (wpAny_mono (turn n s hI _) (fun r s₁ h₁=>?_) fun O O h'=>h')))
 induction r with
 | none=>exact wpAny_pure h₁
 | some v =>
  refine wpAny_bind (wpAny_mono h₁ (fun O s₁' h₁'=>?_) fun O O h'=>h')
  refine wpAny_bind (wpAny_mono h₁' (fun O s₂ h₂=>?_) fun O O h'=>h')
  refine wpAny_bind (wpAny_mono h₂ (fun ok s₃ h₃=>?_) fun O O h'=>h')
  induction ok with
  | true =>
   simp only [if_true] at h₃ ⊢
   exact wpAny_bind (wpAny_bind (wpAny_mono h₃ (fun x s₄ h₄=>wpAny_bind (wpAny_mono h₄ (fun O s₅ h₅=>wpAny_pure (wpAny_pure ⟨rfl,h₅⟩)) fun O O h'=>h')) fun O O h'=>h'))
  | false =>
   simp only [Bool.false_eq_true,if_false] at h₃ ⊢
   exact wpAny_pure ⟨rfl,h₃⟩
theorem lJ
  (h0:codeAny (model prog w) A (.compLoop (jO elt t0 i0 t1 i1 ifs1 scope pos) 1 it acc env) R s)
  (h:wpAny (model prog w) A (pyIter it) (fun it' s'=>codeAny (model prog w) A (.compLoop (jO elt t0 i0 t1 i1 ifs1 scope pos) 1 it' acc env) R s')
   (notedBy (model prog w) A env fun x s'=>R (.error x) s') s) :
  codeAny (model prog w) A (.compStart (jO elt t0 i0 t1 i1 ifs1 scope pos) 1 it acc env) R s:=by
 refine codeAny_of_tree ?_
 show wpAny _ _ ((compStart (jO elt t0 i0 t1 i1 ifs1 scope pos) 1 it acc env).onRaise (fun x=>do noteFrame x env;standAt theWindowsPlace)) _ _ s
 refine wpAny_notedAt ?_
 unfold compStart
 show wpAny _ _ (ask >>= _) _ _ s
 refine wpAny_bind (wpAny_askSetting (wpAny_ite ?_))
 split
 ·first
   | exact wpAny_bind (wpAny_pure (wpAny_pure (And.intro rfl h0)))
   | exact wpAny_pure (And.intro rfl h0)
 ·first
   | exact wpAny_bind (wpAny_rule (wpAny_bind (wpAny_standAt (wpAny_bind (wpAny_mono h (fun it' s' h'=>wpAny_pure (And.intro rfl h')) fun O O x=>x)))))
   | (refine wpAny_bind (wpAny_rule ?_);show wpAny _ _ (standAt i1.pos >>= _) _ _ s;exact wpAny_bind (wpAny_standAt (wpAny_bind (wpAny_mono h (fun it' s' h'=>wpAny_pure (And.intro rfl h')) fun O O x=>x))))
theorem oJ(I:Nat→Shared→Prop)(hs:∀ x,foldedSetIterable i1 env x=pure x)
  (turn:∀ n s,I n s→∀ E':Value→Shared→Prop,wpAny (model prog w) A (pyNext it) (fun r s₁=>match r with
   | none=>R (.ok .next) s₁
   | some v=>wpAny (model prog w) A (letOwnedTupleGo t0 it v) (fun O s₁'=>wpAny (model prog w) A (assign t0 env v) (fun O s₂ =>
     wpAny (model prog w) A (eval i1 env) (fun x s₃=>wpAny (model prog w) A (pyIter x) (fun tW s₄ =>
      codeAny (model prog w) (A.mark none) (.compStart (jO elt t0 i0 t1 i1 ifs1 scope pos) 1 tW acc env) (fun r s'=>match r with
       | .ok _=>∃ m,m < n∧I m s'
       | .error _=>False) s₄) E' s₃) E' s₂) E' s₁') E' s₁) E' s)
  (n:Nat) (h:I n s) :
  codeAny (model prog w) A (.compLoop (jO elt t0 i0 t1 i1 ifs1 scope pos) 0 it acc env) R s:=by
 refine codeAny_loop rfl I (fun n s hI=>?_) n h
 show wpAny _ A ((compTurn (jO elt t0 i0 t1 i1 ifs1 scope pos) 0 it acc env).onRaise (fun x=>do noteFrame x env;theTreesLotGoes x)) _ _ s
 refine wpAny_noted ?_
 rw [pU]
 refine wpAny_bind (wpAny_standAt (wpAny_bind (wpAny_mono (turn n s hI _) (fun r s₁ h₁=>?_) fun O O h'=>h')))
 induction r with
 | none=>exact wpAny_pure h₁
 | some v =>
  refine wpAny_bind (wpAny_mono h₁ (fun O s₁' h₁'=>?_) fun O O h'=>h')
  refine wpAny_bind (wpAny_mono h₁' (fun O s₂ h₂=>?_) fun O O h'=>h')
  refine wpAny_bind (wpAny_mono h₂ (fun x s₃ h₃=>?_) fun O O h'=>h')
  refine wpAny_bind (wpAny_standAt ?_)
  refine wpAny_bind (wpAny_of_eq (hs x) ?_)
  refine wpAny_bind (wpAny_holding (wpAny_mono h₃ (fun tW s₄ h₄=>?_) fun O O h'=>h'))
  refine wpAny_bind (wpAny_runOwn (codeAny_mono h₄ fun r s' hr=>?_))
  rcases r with e | f
  ·exact hr.elim
  ·exact wpAny_pure ⟨rfl,hr⟩
end
theorem Led.four{l:Led}{I1 C D I:Addr}{o1 oC oD oI:Obj}(h1:I1≠C)(h2:I1≠D)(h3:I1≠I):(((l.set I1 o1).set C oC).set D oD).set I oI=(((l.set C oC).set D oD).set I oI).set I1 o1:=by
 rw [Led.comm h1,Led.comm h2,Led.comm h3]
theorem bQ.own{d:Dy}{l:Led}{ax:Addr}{vs:List Value}{k:Nat}(hh:∀ {h:Heap},(K39 d.w.params).In h→h.get? ax=some (listOf vs.toArray k)):bQ d l (.v (.ref ax)) vs.length (fun i c=>∃ v,vs[i]?=some v∧c=CV.of v) (fun O O=>True) (fun i o=>o.cls=.type "list_iterator"∧o.data=.fields #[.ref ax,.int i 0]) where
 iter v m A E g s Q hv G a k:=by
  cases hv
  exact wpAny_pyIter_list ⟨_,hh (G.XB.keeps fun O O e=>a.up e),rfl,_,rfl⟩ (have p:=a.push _;k _ _ _ s.toks p.2 p.1 ⟨rfl,rfl⟩ fun O O e=>Heap.lt_size (a.get e))
 nx I i o l m A E g s Q hs hi hI hle hA G a k0 k1:=by
  have gI:s.heap.IsListIter I ax i:=⟨o,a.get (b:=I) Led.hit,hi.1,hi.2⟩
  have hl:s.heap.IsList ax vs.toArray:=⟨_,hh (G.XB.keeps fun O O e=>a.up e),rfl,_,rfl⟩
  cases q:vs[i]? with
  | some v=>exact wpAny_pyNext_list_item gI hl (by simpa using q) fun h' it' sb=>it'.elim fun o' p=>k0 v _ o' h' s.toks (a.anew hI sb.extBut p.1) (List.getElem?_eq_some_iff.mp q).1 (CV.dM v) ⟨v,q,rfl⟩ p.2
  | none=>exact wpAny_pyNext_list_end hA gI hl (by simpa using q) fun h' x=>k1 h' s.toks (a.over hI x) (Nat.le_antisymm hle (List.getElem?_eq_none_iff.mp q))
 self I i o l m A E g s Q hi a k:=wpAny_pyIter_listiter ⟨o,a.get (b:=I) Led.hit,hi.1,hi.2⟩ (k s.toks)
 go target I i o v l m A E g s Q hi a k:=gq hi.1 hi.2 (by decide) target a k
theorem xc{d:Dy}{elt t0 i0 t1 i1:Ex}{ifs1:List Ex}{scope:Scope}{pos:Pos}(hs:∀ env x,foldedSetIterable i1 env x=Pure.pure x):ly d (jO elt t0 i0 t1 i1 ifs1 scope pos) i0 scope (lst []) fun A env it acc v P E' s₁ =>
  wpAny (model Pg d.w) A (letOwnedTupleGo t0 it v) (fun O s₁'=>wpAny (model Pg d.w) A (assign t0 env v) (fun O s₂=>wpAny (model Pg d.w) A (eval i1 env) (fun x s₃=>wpAny (model Pg d.w) A (pyIter x) (fun tW s₄ =>
   codeAny (model Pg d.w) A (.compStart (jO elt t0 i0 t1 i1 ifs1 scope pos) 1 tW acc env) (fun r s'=>match r with | .ok _=>P s' | .error _=>False) s₄) E' s₃) E' s₂) E' s₁') E' s₁ :=
 ⟨⟨_,newList [],fun env=>eval_ListComp _ _ _ _,⟨_,_,rfl,rfl⟩,fun A Q E s h=>wpAny_newObj_type h (by size_fits)⟩,fun h0 h=>codeAny_compStart_list h0 h,fun {A} {R} {s} {it} {D} {env} I turn k h=>oJ I (hs _) (by rw [Around.mark_none A];exact turn) k h⟩
end
section
structure C2(d:Dy)(m:Mp)(It:Obj→Prop)(It1:Obj→Prop)(J:Mp→Led→Prop)(ys:List Value)(I1 I C D:Addr)(g h:Heap)(l:Led)(o1 oI oC:Obj)(m2:Mp):Prop where
 it:It oI
 tW:It1 o1
 ns:NsObj oC m2
 j:J m2 l
 i1:l I1=none
 i:l I=none
 c:l C=none
 n:l D=none
 a:At d g h m ((((l.set C oC).set D (lst ys)).set I oI).set I1 o1)
inductive yU(d:Dy)(m:Mp)(n1 lim:Nat)(It:Obj→Prop)(It1:Nat→Obj→Prop)(J:Nat→List Value→Mp→Led→Prop)(I1 I C D:Addr)(g:Heap)(s:Shared)(k:Nat)(s':Shared):Prop
 | mk (j:Nat) (ys:List Value) (g':Heap) (l:Led) (o1 oI oC:Obj) (m2:Mp) (ek:k=n1 - j+1) (hj:j≤n1) (hy:ys.length≤lim+j) (e:Step d g s g' s') (c:C2 d m It (It1 j) (J j ys) ys I1 I C D g' s'.heap l o1 oI oC m2)
section
variable {d:Dy}{r:Nat}
theorem oP{m:Mp}{elt t0 i0 t1 i1:Ex}{ifs1:List Ex}{scope:Scope}{pos:Pos}{cl own:List (Str × Addr)}{n1:Nat}{V1:Nat→CV→Prop}{It:Obj→Prop}{It1:Nat→Obj→Prop}{A:Around}{R:Result→Shared→Prop}{I1 I C D ax:Addr}{lim:Nat}(J:Nat→List Value→Mp→Led→Prop)
  (G:Good d) (R0:jN d r A) (hk:scope.kind=.function) (src:∀ l,bQ d l (.v (.ref ax)) n1 V1 (fun O O=>True) It1) (h1:I≠C) (h2:I≠D) (h3:C≠D) (k1:I1≠C) (k2:I1≠D) (k3:I1≠I) (hlim:lim+n1≤sizeLine)
  (turn:∀ d3 j ys c v m2 l,iv d d3 scope (own.map (·.1)) (own.map (·.2)) cl→j < n1→CV.Is c v→V1 j c→J j ys m2 l →
   Ok d3 r (assign t1 d3.env v) (fun O m2 l=>Ok d3 r (bP ifs1 d3.env) (fun ok m2 l=>if ok then Ok d3 r (eval elt d3.env) (fun y m2 l=>J (j+1) (ys++[y]) m2 l) m2 l else J (j+1) ys m2 l) m2 l) m2 l)
  {g:Heap} {s:Shared} {ys:List Value} {l:Led} {o1 oI oC:Obj} {m2:Mp} (c0:C2 d m It (It1 0) (J 0 ys) ys I1 I C D g s.heap l o1 oI oC m2) (hy:ys.length≤lim)
  (fin:∀ g' s' ys l oI oC m2,Step d g s g' s'→pJ d m It (J n1 ys m2) (fun o=>o=lst ys) I C D g' s'.heap l oI oC m2 (lst ys)→ys.length≤lim+n1→R (.ok .next) s') :
  codeAny (model Pg d.w) A (.compLoop (jO elt t0 i0 t1 i1 ifs1 scope pos) 1 (.ref I1) (.ref D) (bu d scope (own++cl) C)) R s:=by
 refine oH (yU d m n1 lim It It1 J I1 I C D g s) (fun k s₃ p E'=>?_) (n1+1) (.mk 0 ys g l o1 oI oC m2 rfl (Nat.zero_le _) hy .rfl c0)
 induction p with | mk j ys g₃ l₃ o1 oI oC m2 ek hj hy e₃ c₃ =>
 refine (src l₃).nx I1 j o1 _ m A _ g₃ s₃ _ trivial c₃.tW (Led.at2 (Led.at2 (Led.at2 c₃.i1 k1) k2) k3) hj R0.hd G c₃.a (fun v c o1' h₄ tk₄ b₄ hlt hcv hV hIt'=>(src l₃).go t1 I1 (j+1) o1' v _ m A E' g₃ _ _ hIt' b₄ ?_) fun h₄ tk₄ b₄ ej=>fin g₃ _ ys l₃ oI oC m2 (e₃.trans .of) ⟨c₃.it,c₃.ns,ej▸c₃.j,rfl,c₃.i,c₃.c,c₃.n,b₄⟩ (ej▸hy)
 rw [← Led.four k1 k2 k3] at b₄
 refine b₄.fF (Led.at2 c₃.i k3.symm) (Led.at2 c₃.c k1.symm) (Led.at2 c₃.n k2.symm) h1 h2 h3 c₃.ns fun mo zs into back=>?_
 have a₄:=into (bu d scope (own++cl) C)
 have N:=(bx.vh (scope:=scope) (cells:=own++cl) (C:=C) (mo:=mo) (zs:=zs) (s:={s₃ with heap:=h₄,toks:=tk₄}) (E':=E') G R0 hk a₄).rO c₃.i1
 have t:=turn ((d.fF (bu d scope (own++cl) C) C mo zs).bN I1 o1') j ys c v m2 l₃ ⟨rfl,rfl,⟨own,rfl,rfl,rfl⟩,rfl,rfl,rfl,rfl,rfl⟩ hlt hcv hV c₃.j
 have nxt:∀ {g' s' l' ys'} {oC':Obj} {m':Mp},ys'.length≤lim+(j+1)→Step d g s g' s'→C2 d m It (It1 (j+1)) (J (j+1) ys') ys' I1 I C D g' s'.heap l' o1' oI oC' m'→∃ k',k' < k∧yU d m n1 lim It It1 J I1 I C D g s k' s':=fun hy e c=>⟨_,ek▸Nat.succ_lt_succ (Nat.sub_succ_lt_self _ _ hlt),.mk (j+1) _ _ _ _ _ _ _ rfl hlt hy e c⟩
 refine Ok.wp (d:=(d.fF (bu d scope (own++cl) C) C mo zs).bN I1 o1') t N fun O s₇ g₇ m₇ l₇ e₇ N t=>Ok.wp (d:=(d.fF (bu d scope (own++cl) C) C mo zs).bN I1 o1') t N fun ok s₈ g₈ m₈ l₈ e₈ N t=>?_
 have e₈:=e₇.trans e₈
 have st:∀ {g' s'},Step ((d.fF (bu d scope (own++cl) C) C mo zs).bN I1 o1') g₃ {s₃ with heap:=h₄,toks:=tk₄} g' s'→Step d g s g' s':=fun e=>e₃.trans ((Step.of (s:=s₃)).trans ⟨e.T,e.e,e.st⟩)
 have out:∀ {g' h' m' l'} {P:Prop},At ((d.fF (bu d scope (own++cl) C) C mo zs).bN I1 o1') g' h' m' l'→(∀ oC',NsObj oC' m'→l' I1=none→l' I=none→l' C=none→l' D=none→At d g' h' m ((((l'.set C oC').set D (lst ys)).set I oI).set I1 o1')→P)→P:=fun a kk =>
  have q:=a.vu (a₄.apart (b:=I1) Led.hit).z
  back q.2 fun oC' w1 w2 w3 w4 w5=>kk oC' w1 q.1 ((if_neg k3.symm).symm.trans w2) ((if_neg k1.symm).symm.trans w3) ((if_neg k2.symm).symm.trans w4) (Led.four k1 k2 k3▸w5)
 induction ok with
 | false=>exact out N.a fun oC' w1 w2 w3 w4 w5 w6=>nxt (Nat.le_succ_of_le hy) (st e₈) ⟨c₃.it,hIt',w1,t,w2,w3,w4,w5,w6⟩
 | true =>
  refine Ok.wp (d:=(d.fF (bu d scope (own++cl) C) C mo zs).bN I1 o1') t N fun y s₉ g₉ m₉ l₉ e₉ N hJ₉=>out N.a fun oC' w1 w2 w3 w4 w5 w6=>?_
  rw [← Led.four k1 k2 k3,← Led.comm h2] at w6
  refine append_at (hsz:=by show ys.toArray.size≤sizeLine;rw [List.size_toArray];exact Nat.le_trans hy (Nat.le_trans (Nat.add_le_add_left (Nat.le_of_lt hlt) _) hlim)) (w6.get (b:=D) Led.hit) fun h₉ hs hD₉=>?_
  have a₉:=w6.anew (Led.at2 (Led.at2 (Led.at2 w5 k2.symm) h3.symm) h2.symm) hs.extBut (hD₉.trans (congrArg some (lst_snoc ys y)))
  rw [Led.comm h2,Led.four k1 k2 k3] at a₉
  exact nxt (by rw [List.length_append];exact Nat.succ_le_succ hy) ((st (e₈.trans e₉)).trans (.of (t:=s₉.toks))) ⟨c₃.it,hIt',w1,hJ₉,w2,w3,w4,w5,a₉⟩
end
end
section
theorem Ok.two{d:Dy}{r:Nat}{m:Mp}{l:Led}{elt t0 i0 t1 i1:Ex}{ifs1:List Ex}{scope:Scope}{pos:Pos}{cl:List (Str × Addr)}{n n1:Nat}{ax:Addr}{α:Type}{V:α→Nat→CV→Prop}{S:α→Nat→Led→Prop}{It:α→Nat→Obj→Prop}{V1:Nat→CV→Prop}{It1:Nat→Obj→Prop}{K:Value→Mp→Led→Prop}{J0:α→List Addr→Led→Prop}(J:α→List Addr→Nat→List Value→Led→Prop)
  (hset:aM i0=true) (hset1:aM i1=true) (hclos:closureFor scope d.env=Pure.pure cl) (hk:scope.kind=.function) (hnames:∀ y∈scope.names,y.2=.local→scope.names.lookup y.1=some .local) (hz:n * n1≤sizeLine)
  (h:Ok d r (eval i0 d.env) (PV (lj d ((cellsFrom 0 scope.names []).map (·.1)) (fun O=>n) V S It J0) m) m l) (hJ:∀ x cs l,J0 x cs l→J x cs 0 [] l)
  (src1:∀ (d':Dy) l,d'.w=d.w→bQ d' l (.v (.ref ax)) n1 V1 (fun O O=>True) It1)
  (hS:∀ x cs i ys l,J x cs i ys l→S x i l) (hSm:∀ x i l l',S x i l→l.le l'→S x i l')
  (turn:∀ d2 x cs i c v ys m2 l,iv d d2 scope ((cellsFrom 0 scope.names []).map (·.1)) cs cl→i < n→CV.Is c v→V x i c→J x cs i ys l →
   Ok d2 r (assign t0 d2.env v) (fun O m2 l=>Ok d2 r (eval i1 d2.env) (fun xv m2 l=>xv=.ref ax∧∃ J1:Nat→List Value→Mp→Led→Prop,J1 0 ys m2 l∧(∀ ys m2 l,J1 n1 ys m2 l→J x cs (i+1) ys l) ∧
    ∀ d3 j ys c v m2 l,iv d d3 scope ((cellsFrom 0 scope.names []).map (·.1)) cs cl→j < n1→CV.Is c v→V1 j c→J1 j ys m2 l →
     Ok d3 r (assign t1 d3.env v) (fun O m2 l=>Ok d3 r (bP ifs1 d3.env) (fun ok m2 l=>if ok then Ok d3 r (eval elt d3.env) (fun y m2 l=>J1 (j+1) (ys++[y]) m2 l) m2 l else J1 (j+1) ys m2 l) m2 l) m2 l) m2 l) m2 l)
  (fin:∀ x cs D ys l l',J x cs n ys l→rE l D (lst ys) l'→K (.ref D) m l'):Ok d r (eval (jO elt t0 i0 t1 i1 ifs1 scope pos) d.env) K m l:=by
 refine Ok.t7 (OB:=fun ys o=>o=lst ys) (fun x cs i ys l=>ys.length≤i * n1∧J x cs i ys l) (xc (fun env x=>eF hset1 env x)) hset hclos hk hnames rfl rfl h (fun x cs l j=>⟨Nat.zero_le _,hJ x cs l j⟩) (fun x cs i ys l j=>hS _ _ _ _ _ j.2) hSm (fun x own A E' i ys v c I C D g₅ s₅ l₃ oI oC m2 oD hon G R go hlt hcv hV c₃ h1 h2 h3 P hP=>?_) fun x cs D oD ys l j e hl O=>fin x cs D ys l _ j.2 (e▸.set hl)
 refine go t0 _ (c₃.turn (cells:=own++cl) (E':=E') G R hk h1 h2 h3 fun mo zs N back=>?_)
 have t:=turn _ x (own.map (·.2)) i c v ys m2 l₃ (.vh (mo:=mo) (zs:=zs) (C:=C) hon) hlt hcv hV c₃.j.2
 refine Ok.wp (d:=d.fF (bu d scope (own++cl) C) C mo zs) t N fun O s₇ g₇ m₇ l₇ e₇ N t=>Ok.wp (d:=d.fF (bu d scope (own++cl) C) C mo zs) t N fun xv s₈ g₈ m₈ l₈ e₈ N t=>?_
 refine t.2.elim fun J1 inn=>(src1 (d.fF (bu d scope (own++cl) C) C mo zs) l₈ rfl).iter _ m₈ A E' g₈ s₈ _ (t.1▸.v _) N.G N.a fun I1 o1 h₉ tk₉ a₉ hI1 hIt1 O=>back (s':={s₈ with heap:=h₉,toks:=tk₉}) ((e₇.trans e₈).trans .of) a₉ fun oC' st c'=>?_
 have ne:∀ {z:Addr},(l₈.set I1 o1) z=none→I1≠z:=fun h q=>nomatch (q▸h).symm.trans Led.hit
 have un:∀ {z:Addr},(l₈.set I1 o1) z=none→l₈ z=none:=fun h=>(if_neg (ne h).symm).symm.trans h
 have w5:=c'.a
 rw [c'.ob,Led.four (ne c'.c) (ne c'.n) (ne c'.i)] at w5
 have loop:∀ t',codeAny (model Pg d.w) A (.compLoop (jO elt t0 i0 t1 i1 ifs1 scope pos) 1 (.ref I1) (.ref D) (bu d scope (own++cl) C)) (fun r s'=>match r with | .ok _=>P s' | .error _=>False) {s₈ with heap:=h₉,toks:=t'}:=fun t' =>
  oP (It:=It x (i+1)) (It1:=It1) (lim:=i * n1) J1 G R hk (fun l=>src1 d l rfl) h1 h2 h3 (ne c'.c) (ne c'.n) (ne c'.i) (Nat.le_trans (by rw [← Nat.succ_mul];exact Nat.mul_le_mul_right _ hlt) hz) (fun d3 j ys c v m2 l s=>inn.2.2 d3 j ys c v m2 l (hon▸s)) (ys:=ys) ⟨c'.it,hIt1,c'.ns,inn.1,hI1,un c'.i,un c'.c,un c'.n,w5⟩ c₃.j.1
   fun g' s' ys l oI oC m2 e c' hy=>hP g' s' l oI oC m2 _ ys ((st.trans (.of (s:={s₈ with heap:=h₉,toks:=tk₉}) (t:=t'))).trans e) ⟨c'.it,c'.ns,⟨by rw [Nat.succ_mul];exact hy,inn.2.1 _ _ _ c'.j⟩,c'.ob,c'.i,c'.c,c'.n,c'.a⟩
 exact lJ (loop tk₉) ((src1 d l₈ rfl).self I1 0 o1 _ m A _ g₈ _ _ hIt1 w5 loop)
end
section
set_option backward.match.sparseCases false in
noncomputable def g2:Ex→Nat→Ex
 | .ListComp elt [⟨t0,i0,[],0⟩,⟨t1,i1,[c],0⟩] _ _,k=>[i0,t0,i1,t1,c,elt].getD k eY
 | _,_=>eY
section
variable {fi fi2:Fi}{r:Nat}{d:Dy}{cs:List Addr}{σ:Sl}{l:Led}{K:CV→Led→Prop}
noncomputable def vd(fi2:Fi)(r:Nat)(d2 d:Dy)(cells:List Addr)(e:Ex)(ax:Addr)(vs:List Value)(S:Led→Prop)(J0 J9:List CV→Led→Prop)(ys:List CV)(σ:Sl)(l:Led):Prop :=
 ∃ J1:Nat→List CV→Led→Prop,S l∧(∀ P3,P3 (some (.v (.ref ax))) σ l→go (fi:=fi2) (r:=r) ⟨d2,cells,P3,fun O O=>False⟩ 99 (.e (.x (g2 e 2)) .ret) σ l)∧J1 0 ys l∧(∀ ys l,S l→J1 vs.length ys l→J9 ys l) ∧
  ∀ (d3:Dy) (j:Nat) ys v l,pj d d3 fi2 cells→vs[j]?=some v→S l→J1 j ys l→∀ P4 Q4,(∀ c σ2 l',Sl.Le σ σ2→S l'→J1 (j+1) (ys++[c]) l'→P4 (some c) σ2 l')→(∀ σ2 l',Sl.Le σ σ2→S l'→J1 (j+1) ys l'→Q4 σ2 l') →
   eu fi2 cells (CV.of v) (go (fi:=fi2) (r:=r) ⟨d3,cells,P4,Q4⟩ 99 (.t (.x (g2 e 4)) (.te (.x (g2 e 5)) .ret) .out)) σ l (g2 e 3)
theorem LE.tJ{e:Ex}{cl:List (Str × Addr)}{ax:Addr}{vs:List Value}{k:Nat}{elt t0 i0 t1 i1 c0:Ex}{scope:Scope}{pos:Pos}(xs:List CV)(J:Addr→List Addr→Nat→List CV→Led→Prop)(ev:Ev d fi cs)(hS:e=.ListComp elt [⟨t0,i0,[],0⟩,⟨t1,i1,[c0],0⟩] scope pos)(hok:(aM i0&&aM i1&&j7 scope fi2)=true)(hcl:fm fi cs fi2.fr=some cl)(hh:xs.all pD=true)(hz:xs.length * vs.length≤1000)(hx:xs.length≤1000)
  (hax:∀ {h:Heap},(K39 d.w.params).In h→h.get? ax=some (listOf vs.toArray k))
  (h:∀ P',(∀ a l',HL l' a xs→ak (fun O=>none) fi2.cn (fun as l=>J a as 0 [] l) l'→P' (some (.v (.ref a))) σ l')→Mine.go (fi:=fi) (r:=r) ⟨d,cs,P',fun O O=>False⟩ 99 (.e (.x (g2 e 0)) .ret) σ l)
  (turn:∀ (d2:Dy) a as i c ys o l,pj d d2 fi2 (as++cl.map (·.2))→xs[i]?=some c→l a=some o→ai xs o→J a as i ys l →
   eu fi2 (as++cl.map (·.2)) c (vd fi2 r d2 d (as++cl.map (·.2)) e ax vs (fun l=>l a=some o) (J a as i) (J a as (i+1)) ys) .nil l (g2 e 1))
  (fin:∀ a as D ys l l',J a as xs.length ys l→Mk l D (ai ys) l'→K (.v (.ref D)) l'):LE d r fi (eval e d.env) K σ l:=by
 subst hS
 rw [Bool.and_eq_true,Bool.and_eq_true] at hok
 have sc:=dG hok.2
 have hc1:=(cN ev hcl).1
 have he:=LE.go (r:=r) (σ:=σ) (l:=l) (p:=.x i0) (K:=SrcL d fi2.cn xs fun a cs l=>J a cs 0 [] l) ev fun P' hP=>h P' fun a l' hl j=>hP _ l' (.fC hl j)
 rw [← sc.c] at he
 refine ⟨fun m hm=>Ok.two (n1:=vs.length) (fun x as i ys l=>LL l xs x∧∃ cs,ar cs ys∧J x.1 as i cs l) hok.1.1 hok.1.2 (bt ev (sc.f▸hcl)) sc.k sc.n (Nat.le_trans hz (aj rfl)) (he.run m hm) (fun x cs l j=>⟨j.1,[],.nil,j.2⟩) (fun d' l hw=>bQ.own (fun X=>hax (hw▸X))) (fun x as i ys l j=>j.1.1) (fun x i l l' e le=>le _ _ e) (fun d2 x as i c v ys m2 l sub hlt hcv hV hJ=>?_) fun x as D ys l l' hJ nw=>hJ.2.elim fun cs' j=>⟨_,.refl _,.v _,fin x.1 as D cs' l l' j.2 ⟨nw.fresh,nw.other,_,nw.hit,_,_,rfl,j.1⟩⟩⟩
 refine hJ.1.at hh hV fun hc=>hJ.2.elim fun cs' jj=>?_
 rw [sc.c] at sub
 have ev2:=sub.ev sc.b hc1
 refine (cX ev2 (turn d2 x.1 as i c cs' _ l ⟨sub.w,sub.base,sub.az,ev2⟩ hc hJ.1.1 ⟨_,_,rfl,hJ.1.2⟩ jj.2) hcv bL.nil).mono fun O m2 l q=>q.elim fun σ' q=>q.2.elim fun J1 w=>?_
 refine ((LE.go (r:=r) (σ:=σ') (l:=l) (p:=.x i1) (K:=fun c l'=>c=.v (.ref ax)∧l'=l) ev2 fun P3 hP=>w.2.1 P3 (hP _ _ ⟨rfl,rfl⟩)).run m2 q.1).mono fun xv m3 l3 pv=>?_
 induction pv with | mk c em is kk =>
 obtain ⟨rfl,rfl⟩:=kk
 cases is
 refine ⟨rfl,fun j ys m l=>bL fi2.ns σ' m∧∃ cs,l x.1=some (listOf x.2.1.toArray x.2.2)∧ar cs ys∧J1 j cs l,⟨em▸q.1,cs',w.1,jj.1,w.2.2.1⟩,fun ys m l h=>h.2.elim fun cs h=>⟨⟨h.1,hJ.1.2⟩,cs,h.2.1,w.2.2.2.1 cs l h.1 h.2.2⟩,fun d3 j ys c v m2 l sub3 hj hcv hv1 hm3=>hv1.elim fun v' hv'=>hm3.2.elim fun cs hh3=>?_⟩
 rw [sc.c] at sub3
 have ev3:=sub3.ev sc.b hc1
 let P4:Option CV→Sl→Led→Prop:=fun o σ2 l=>match o with | some c=>Sl.Le σ' σ2∧l x.1=some (listOf x.2.1.toArray x.2.2)∧J1 (j+1) (cs++[c]) l | none=>False
 let Q4:Sl→Led→Prop:=fun σ2 l=>Sl.Le σ' σ2∧l x.1=some (listOf x.2.1.toArray x.2.2)∧J1 (j+1) cs l
 have t:=w.2.2.2.2 d3 j cs v' l ⟨sub3.w,sub3.base,sub3.az,ev3⟩ hv'.1 hh3.1 hh3.2.2 P4 Q4 (fun c σ2 l' le e j=>⟨le,e,j⟩) fun σ2 l' le e j=>⟨le,e,j⟩
 refine (cX ev3 t (hv'.2▸hcv) hm3.1).mono fun O m4 l4 q=>q.elim fun σ4 q=>?_
 have g:pH ⟨d3,as++cl.map (·.2),P4,Q4⟩ c0 (fun l=>LE d3 r fi2 (eval elt d3.env) (fun c l=>P4 (some c) σ4 l) σ4 l) (fun l=>Q4 σ4 l) σ4 l4:=cf (x:=⟨d3,as++cl.map (·.2),P4,Q4⟩) ev3 99 _ _ _ q.2
 refine Ok.tests (Ok.mono (t:=PySem.isTrue c0 d3.env (eval c0 d3.env)) (g m4 q.1) fun b m l p=>?_)
 induction p with
 | t h=>exact (h.run _ q.1).mono fun v m l pv=>by cases pv with | mk c em is kk=>exact ⟨em▸q.1.le kk.1,cs++[c],kk.2.1,hh3.2.1.append (.cons is .nil),kk.2.2⟩
 | f h=>exact ⟨q.1.le h.1,cs,h.2.1,hh3.2.1,h.2.2⟩
end
end
section
theorem dD{α:Type}{P:α→Prop}:∀ x∈([]:List α),P x:=fun _ h=>nomatch h
theorem aC{α:Type}{P:α→Prop}{a:α}{l:List α}(h:P a)(k:∀ x∈l,P x):∀ x∈a::l,P x:=List.forall_mem_cons.mpr ⟨h,k⟩
theorem fN{α:Type}{P:α→Prop}{l r:List α}(h:∀ x∈l,P x)(k:∀ x∈r,P x):∀ x∈l++r,P x:=fun x q=>(List.mem_append.mp q).elim (h x) (k x)
theorem mS{α β:Type}{P:α→β→Prop}{xs:List α}{ys:List β}{x:α}{y:β}{i:Nat}(hl:xs.length=i)(hy:ys[i]?=some y)(h:∀ (j:Nat) a b,xs[j]?=some a→ys[j]?=some b→P a b)(k:P x y):∀ (j:Nat) a b,(xs++[x])[j]?=some a→ys[j]?=some b→P a b:=fun j a b h1 h2=>by
 rcases Nat.lt_or_ge j xs.length with q | q
 ·exact h j a b (by rw [← List.getElem?_append_left q];exact h1) h2
 ·have e:j=xs.length:=Nat.le_antisymm (Nat.le_of_lt_succ (by have:=(List.getElem?_eq_some_iff.mp h1).1;rwa [List.length_append] at this)) q
  subst e
  rw [List.getElem?_append_right q,Nat.sub_self] at h1
  rw [hl,hy] at h2
  rw [← Option.some.inj h1,← Option.some.inj h2];exact k
theorem mR{α β:Type}{P:α→β→Prop}{xs:List α}{ys:List β}{x:α}{y:β}(hl:xs.length=ys.length)(h:∀ (j:Nat) a b,xs[j]?=some a→ys[j]?=some b→P a b)(k:P x y):∀ (j:Nat) a b,(xs++[x])[j]?=some a→(ys++[y])[j]?=some b→P a b :=
 mS hl (by rw [List.getElem?_append_right (Nat.le_refl _),Nat.sub_self];rfl) (fun j a b h1 h2=>h j a b h1 (by rw [← List.getElem?_append_left (hl▸(List.getElem?_eq_some_iff.mp h1).1)];exact h2)) k
noncomputable def bc:List Str:=[Str.ofString "a",Str.ofString "1",Str.ofString "2.5",Str.ofString "true",Str.ofString "",Str.ofString "b"]
theorem cb:∀ v∈bc,v.length≤10:=by decide
noncomputable def rws:List Nat→List Str→List (Nat × Str)
 | e::es,ts=>(e,toldOf ts)::rws es ts.tail
 | [],_=>[]
theorem ao:∀ {es:List Nat} {ts:List Str},(rws es ts).length=es.length
 | [],_=>rfl
 | _::_,_=>congrArg (·+1) ao
theorem j8{e:Nat}{t:Str}:∀ {es:List Nat} {ts:List Str},ts.length=es.length→rws (es++[e]) (ts++[t])=(rws es ts).map (fun p=>(p.1,p.2++t))++[(e,t)]
 | [],[],_=>rfl
 | _::es,[],h=>nomatch h
 | [],_::_,h=>nomatch h
 | x::es,y::ts,h=>by
  show (x,toldOf ((y::ts)++[t]))::rws (es++[e]) (ts++[t])=_
  rw [nX,j8 (Nat.succ.inj h)];rfl
theorem qi{es:List Nat}{ts:List Str}(h:∀ t∈ts,t∈bc):∀ p∈rws es ts,p.2.length≤10 * ts.length:=by
 induction es generalizing ts with
 | nil=>intro p hp;cases hp
 | cons e es ih =>
  intro p hp
  rcases List.mem_cons.mp hp with rfl | hp
  ·exact pZ fun t ht=>cb t (h t ht)
  ·refine Nat.le_trans (ih (fun t ht=>h t (List.mem_of_mem_tail ht)) p hp) (Nat.mul_le_mul_left _ ?_)
   rw [List.length_tail];exact Nat.sub_le _ _
theorem Tree.av{l:Led}{av av':List Addr}{t:Addr}{D:List ah}(h:Tree l av t D)(hs:∀ a∈av',a∈av∨l a=none):Tree l av' t D:=by
 have go:∀ {x:Addr} {o:Obj},l x=some o→x ∉ av→x ∉ av':=fun e n m=>(hs _ m).elim n fun q=>by rw [q] at e;cases e
 have goH:∀ {x:Addr} {P:Obj→Prop},Hs l x P→x ∉ av→x ∉ av':=fun h=>by cases h with | mk o e p=>exact go e
 obtain (⟨rl,rs,cs,h⟩):=h
 refine ⟨rl,rs,cs,h.i.map fun _ _ i b=>⟨i,goH i.2 b⟩,h.rows,⟨by cases h.i with | mk dt i b=>exact go i.1 h.off.1,goH h.rows h.off.2⟩,h.n1,h.n2,h.z,h.nd,fun i d r c h1 h2 h3=>?_⟩
 have R:=h.row i d r c h1 h2 h3
 exact ⟨R.i.map fun _ _ i b=>⟨i,goH i.2 b⟩,R.kids,R.kz,⟨by cases R.i with | mk dr c2 c3 c4 c8 c9 i b=>exact go i.1 R.off.1,goH R.kids R.off.2⟩⟩
theorem Tree.cZ{l l':Led}{av:List Addr}{t:Addr}{D:List ah}(h:Tree l av t D)(k:∀ b o,b ∉ av→l b=some o→l' b=some o):Tree l' av t D:=by
 have goH:∀ {x:Addr} {P:Obj→Prop},Hs l x P→x ∉ av→Hs l' x P:=fun h n=>h.of fun o=>k _ o n
 obtain (⟨rl,rs,cs,h⟩):=h
 refine ⟨rl,rs,cs,h.i.map fun _ _ i b=>⟨⟨k _ _ h.off.1 i.1,goH i.2 b⟩,b⟩,goH h.rows h.off.2,h.off,h.n1,h.n2,h.z,h.nd,fun i d r c h1 h2 h3=>?_⟩
 have R:=h.row i d r c h1 h2 h3
 exact ⟨R.i.map fun _ _ i b=>⟨⟨k _ _ R.off.1 i.1,goH i.2 b⟩,b⟩,goH R.kids R.off.2,R.kz,R.off⟩
theorem mM{w:World}{h:Heap}(X:(K39 w.params).In h):∃ vs n,h.get? 623=some (listOf (List.toArray vs) n)∧ar (bc.map .str) vs:=⟨_,_,X 623 _ rfl,.cons (.str _ _) (.cons (.str _ _) (.cons (.str _ _) (.cons (.str _ _) (.cons (.str _ _) (.cons (.str _ _) .nil)))))⟩
section
variable {d:Dy}{r:Nat}{l:Led}{K:CV→Led→Prop}{av:List Addr}
theorem LN.xp(h:K (.int 6) l):LN d r (fun vs=>call (.builtin "len") vs) [.v (.ref 623)] K l :=
 .q1 fun A E g s Q v m is n kk=>by
  cases is
  obtain (⟨vs,k,hl,hi⟩):=mM n.X
  refine PyProof.Rows.len_list ⟨_,hl,rfl,_,rfl⟩ (by rw [List.size_toArray,hi.len];decide) ?_
  rw [List.size_toArray,hi.len]
  exact kk _ _ _ (.int _ _) h
theorem LN.vV{o i:Ex}{k:Int}{c:Str}(h0:0≤k)(hx:bc[k.toNat]?=some c)(hk:k < 2 ^ 63)(h:K (.str c) l)(hi:isSlice i=false:=by rfl):LN d r (fH o i) [.v (.ref 623),.int k] K l :=
 .q2 fun A E g s Q v w m i1 i2 n kk=>by
  cases i1;cases i2
  obtain ⟨vs,q,hl,his⟩:=mM n.X
  obtain ⟨v,e,is⟩:=his.get (i:=k.toNat) (c:=.str c) (by rw [List.getElem?_map,hx];rfl)
  exact tail_any (Heap.IsList.typeIs ⟨_,hl,rfl,_,rfl⟩) slot_list_getitem.lookup (wpAny_getItem_list ⟨_,hl,rfl,_,rfl⟩ h0 hk (by simpa using e) (kk _ _ s.toks is h)) (gb hi _ _)
theorem km{src:Addr}(hs:Src l src)(k:∀ v l',v∈bc→ve src l l'→K (.str v) l'):Cl d (r+2) (.ref 644) [.v (.ref src),.v (.ref 623)] K l:=by
 refine Cl.def {ns:=nm ["source", "things"],gi:=[41,59]} (nm ["source", "things"]) 99 rfl rfl (by kernel_rfl) (fun O O=>rfl) fun d P sb hP ev=>?_
 refine LN.xp ?_
 refine dE hs (by decide) (by decide) fun e l' e0 e1 dr=>?_
 have hi:e.toNat < bc.length:=by show e.toNat < 6;omega
 exact LN.vV e0 (List.getElem?_eq_getElem hi) (by omega) (hP _ _ _ _ (k _ _ (List.getElem_mem hi) dr) .rfl)
theorem Src.of{l l':Led}{s:Addr}(h:Src l s)(k:∀ o,l s=some o→l' s=some o):Src l' s:=by obtain (⟨x,y,tx,ty,n,e,q⟩):=h;exact ⟨x,y,tx,ty,n,k _ e,q⟩
theorem Src.held{l:Led}{s:Addr}(h:Src l s):l s≠none:=by obtain (⟨x,y,tx,ty,n,e,q⟩):=h;rw [e];exact fun q=>nomatch q
theorem Hs.held{l:Led}{a:Addr}{P:Obj→Prop}(h:Hs l a P):l a≠none:=by obtain (⟨o,e,_⟩):=h;rw [e];exact fun q=>nomatch q
theorem bl.of{l l':Led}{a:Addr}(h:bl l a)(k:∀ o,l a=some o→l' a=some o):bl l' a:=by obtain (⟨o,v,e,q⟩):=h;exact ⟨o,v,k _ e,q⟩
theorem bl.held{l:Led}{a:Addr}(h:bl l a):l a≠none:=by obtain (⟨o,v,e,q⟩):=h;rw [e];exact fun q=>nomatch q
structure wM(l l':Led)(av:List Addr)(src t tc:Addr)(D:List ah)(es:List Nat)(ts:List Str)(ra:Addr)(tp av':List Addr):Prop where
 b:Built D es ts
 v:∀ x∈ts,x∈bc
 s:Src l' src
 c:bl l' tc
 T:Tree l' av' t D
 R:ba l' ra (rws es ts) tp
 sub:∀ a∈src::tc::ra::(tp++av),a∈av'
 held:∀ a∈av',l' a≠none
 kp:∀ b o,b∈av→b≠src→l b=some o→l' b=some o
 ne:tc≠src∧ra≠src
 off:∀ a∈ra::tp,a≠src∧a≠tc
theorem ba.of{l l':Led}{ra:Addr}{rw:List (Nat × Str)}{tp:List Addr}(h:ba l ra rw tp)(k:∀ a∈ra::tp,∀ o,l a=some o→l' a=some o):ba l' ra rw tp:=⟨h.li.of (k _ (.head _)),h.n,fun i a p h1 h2=>(h.it i a p h1 h2).of (k _ (.tail _ (List.mem_of_getElem? h1)))⟩
theorem wM.draw{l l' l'':Led}{av:List Addr}{src t tc:Addr}{D:List ah}{es:List Nat}{ts:List Str}{ra:Addr}{tp av':List Addr}(G:wM l l' av src t tc D es ts ra tp av')(k:aE l' src l'')(s:Src l'' src):wM l l'' av src t tc D es ts ra tp av' :=
 by
 refine ⟨G.b,G.v,s,G.c.of fun o=>k _ o G.ne.1,G.T.cZ fun b o hb=>k b o fun e=>hb (e▸G.sub _ (.head _)),G.R.kp k G.s G.ne.2,G.sub,fun a ha q=>?_,fun b o hb n e=>k _ _ n (G.kp b o hb n e),G.ne,G.off⟩
 by_cases e:a=src
 ·exact s.held (e▸q)
 ·refine aJ (l' a) (fun z=>?_) (fun o z=>?_)
  ·exact G.held a ha z
  ·have:=k _ _ e z;rw [q] at this;cases this
inductive yJ(l:Led)(av:List Addr)(src t tc:Addr)(n k:Nat)(σ:Sl)(l':Led):Prop
 | mk (h0:0 < n) (h5:n≤5) (D:List ah) (es:List Nat) (ts:List Str) (ra:Addr) (tp av':List Addr) (ek:es.length=k) (e:σ=.c (.v (.ref src)) (.c (.v (.ref t)) (.c (.v (.ref ra)) (.c (.int ((lastOf es:Nat):Int)) .nil)))) (G:wM l l' av src t tc D es ts ra tp av'):yJ l av src t tc n k σ l'
inductive yK(ra:Addr)(l6:Led)(es:List Nat)(ts:List Str)(v:Str)(a:Addr)(as:List Addr)(i:Nat)(ys:List CV)(l':Led):Prop
 | mk (e1:a=ra) (e2:as=[]) (le:l6.le l') (tq:List Addr) (e3:ys=tq.map fun a=>.v (.ref a)) (hq:tq.length=i) (hf:∀ x∈tq,l6 x=none) (h:∀ (j:Nat) x p,tq[j]?=some x→(rws es ts)[j]?=some p→HT l' x [.int (p.1:Int),.str (p.2++v)]):yK ra l6 es ts v a as i ys l'
inductive mK(a0:Addr)(l0:Led)(f:Nat→List CV)(a:Addr)(as:List Addr)(i:Nat)(ys:List CV)(l':Led):Prop
 | mk (e1:a=a0) (e2:as=[]) (le:l0.le l') (e3:ys=f i):mK a0 l0 f a as i ys l'
theorem qM{src t:Addr}(hs:Src l src)(hT:Tree l av t [])(hsrc:src∈av)(hav:∀ a∈av,l a≠none)
  (k:∀ ra D es ts tp l',0 < es.length→es.length≤5→Built D es ts→(∀ t∈ts,t∈bc)→Src l' src→Tree l' av t D→ba l' ra (rws es ts) tp→ra≠src→(∀ b o,b∈av→b≠src→l b=some o→l' b=some o)→K (.v (.ref ra)) l'):Cl d (r+6) (.ref 649) [.v (.ref src),.v (.ref t)] K l:=by
 refine Cl.def {ns:=nm ["source", "tree", "rows", "here", "turn"],gi:=[71,41,42,58],cn:=nm ["text"]} (nm ["source", "tree"]) 400 rfl rfl (by kernel_rfl) (fun O O=>rfl) fun d P sb hP tc l0 nc ev=>?_
 refine LN.ag (cs:=[]) (Nat.zero_le _) fun r0 l1 m1=>?_
 have le1:=nc.le.trans m1.le
 have fr0:l r0=none:=nc.le.none m1.fresh
 have T1:Tree l1 (r0::tc::av) t []:=(hT.av (av':=r0::tc::av) (aC (.inr fr0) (aC (.inr nc.fresh) fun a ha=>.inl ha))).le le1
 have hc1:bl l1 tc:=nc.is.of fun o=>m1.le _ o
 have held:∀ {a:Addr},l a≠none→l1 a≠none:=fun {a} h q=>h (le1.none q)
 have hav1:∀ a∈r0::tc::av,l1 a≠none:=aC m1.is.held (aC hc1.held fun a ha=>held (hav a ha))
 refine T1.iJ 468 (by kernel_rfl) ?_
 refine kq T1 (by decide) hav1 fun l2 T2 hav2 kp2=>?_
 have ntc:tc≠src:=fun q=>hs.held (q▸nc.fresh)
 have nr0:r0≠src:=fun q=>hs.held (q▸fr0)
 have G0:wM l l2 av src t tc _ [] [] r0 [] (r0::tc::av):=⟨Built.start,fun O h=>(nomatch h),hs.of fun o e=>kp2 _ _ (.tail _ (.tail _ hsrc)) (le1 _ _ e),hc1.of fun o e=>kp2 _ _ (.tail _ (.head _)) e,T2,⟨m1.is.of fun o e=>kp2 _ _ (.head _) e,rfl,fun i a p h=>(nomatch h)⟩,aC (.tail _ (.tail _ hsrc)) (aC (.tail _ (.head _)) (aC (.head _) fun a ha=>.tail _ (.tail _ ha))),hav2,fun b o hb O e=>kp2 _ _ (.tail _ (.tail _ hb)) (le1 _ _ e),⟨ntc,nr0⟩,aC ⟨nr0,fun q=>nc.is.held (q▸m1.fresh)⟩ dD⟩
 refine LS.forR (yJ l av src t tc) ev sb.may sb.ay (by kernel_rfl) (fun P' hP'=>?_) ?_ ?_
 ·refine dE G0.s (by decide) (by decide) fun e l3 e0 e1 dr=>?_
  obtain (⟨m,rfl⟩):∃ m:Nat,e=(m:Int):=⟨e.toNat,by omega⟩
  refine LN.jf fun a l4 m4=>?_
  have hr:=m4.is
  rw [show (1+(m:Int))=((1+m:Nat):Int) by omega] at hr
  exact hP' a (1+m) _ l4 (by omega) (.c (.c (.c (.c .nil)))) hr ⟨by omega,by omega,_,[],[],r0,[],_,rfl,rfl,((G0.draw (fun b o n q=>(dr.other b n).trans q) dr.src).draw (fun b o O=>m4.le b o) (dr.src.of fun o=>m4.le _ o))⟩
 ·rintro d1 P1 n k σ l3 s hk ⟨hn0,hn5,D,es,ts,ra,tp,av',rfl,rfl,G⟩ next _
  obtain ⟨dd,hd,hkd,hkl⟩:=G.b.row
  have hz:D.length≤11:=by have:=G.b.sz;omega
  refine G.T.iJ 482 (by kernel_rfl) ?_
  refine gZ G.T hd hkd (by omega) (by omega) G.held fun l4 T4 kp4=>?_
  have hs4:Src l4 src:=G.s.of fun o=>kp4 _ o (G.sub _ (.head _))
  have hc4:bl l4 tc:=G.c.of fun o=>kp4 _ o (G.sub _ (.tail _ (.head _)))
  refine km hs4 fun v l5 hv dr=>?_
  have hc5:bl l5 tc:=hc4.of fun o q=>(dr.other _ G.ne.1).trans q
  refine And.intro hc5 fun o w is hw=>?_
  have k5:∀ b o',b≠src→b≠tc→l4 b=some o'→(l5.set tc o) b=some o':=fun b o' n1 n2 q=>(if_neg n2).trans ((dr.other b n1).trans q)
  have cell6:ae (l5.set tc o) tc (.str v):=⟨o,w,Led.hit,hw,is⟩
  have T6:Tree (l5.set tc o) av' t _:=T4.cZ fun b o' hb q=>k5 b o' (fun e=>hb (e▸G.sub _ (.head _))) (fun e=>hb (e▸G.sub _ (.tail _ (.head _)))) q
  have hel:(l5.set tc o) tc≠none:=fun q=>by rw [Led.hit] at q;cases q
  have tpav:∀ a∈ra::tp,a∈av':=aC (G.sub _ (.tail _ (.tail _ (.head _)))) fun a ha=>G.sub a (.tail _ (.tail _ (.tail _ (List.mem_append_left _ ha))))
  have hR6:ba (l5.set tc o) ra (rws es ts) tp:=G.R.of fun a ha o' e=>k5 a o' (G.off a ha).1 (G.off a ha).2 (kp4 _ _ (tpav a ha) e)
  have hlt:ts.length=es.length:=G.b.hl
  have held6:∀ z∈av',(l5.set tc o) z≠none:=fun z hz q=>by
   by_cases n2:z=tc
   ·exact hel (n2▸q)
   by_cases n1:z=src
   ·rw [n1] at q
    exact dr.src.held ((if_neg G.ne.1.symm).symm.trans q)
   cases q4:l4 z with
   | some o'=>rw [k5 _ _ n1 n2 q4] at q;cases q
   | none =>
    cases q3:l3 z with
    | some o'=>rw [kp4 _ _ hz q3] at q4;cases q4
    | none=>exact G.held z hz q3
  have rest:∀ (f:Nat) D' l6,Tree l6 av' t D'→Built D' (es++[D.length]) (ts++[v])→(∀ b o',b∈av'→(l5.set tc o) b=some o'→l6 b=some o')→go (fi:={ns:=nm ["source", "tree", "rows", "here", "turn"],gi:=[71,41,42,58],cn:=nm ["text"]}) (r:=r+5) ⟨d1,[tc],P1,fun O O=>False⟩ (f+40) (.s (.t (.f (st 61)) 1) 3 .nil) (.c (.v (.ref src)) (.c (.v (.ref t)) (.c (.v (.ref ra)) (.c (.int ((D.length:Nat):Int)) (.c (.int ((es.length:Nat):Int)) .nil))))) l6:=by
   intro f D' l6 T6 B6 k6
   have cell:∀ {l7:Led},l6.le l7→ae l7 tc (.str v):=fun le=>⟨o,w,le _ _ (k6 _ _ (G.sub _ (.tail _ (.head _))) Led.hit),hw,is⟩
   have hR:ba l6 ra (rws es ts) tp:=hR6.of fun a ha o' e=>k6 _ _ (tpav a ha) e
   refine LE.dA (fi2:={ns:=nm ["node", "told"],gi:=[],fr:=nm ["text"]}) 0 (tp.map fun a=>.v (.ref a)) (yK ra l6 es ts v) (ev.sub s) (by kernel_rfl) (by decide) rfl (bz _) (by rw [List.length_map,hR.n,ao];omega) (fun P' hP'=>?_) ?_ ?_
   ·exact hP' _ _ hR.li ⟨rfl,rfl,.rfl,[],rfl,rfl,fun O h=>(nomatch h),fun j x p h=>(nomatch h)⟩
   ·rintro d2 a as P2 Q2 i c ys o2 l7 hw hc ho hl ⟨rfl,rfl,le,tq,rfl,hq,hf,hh⟩ hy nx _
    rw [List.getElem?_map,Option.map_eq_some_iff] at hc
    obtain ⟨ta,hta,rfl⟩:=hc
    obtain ⟨p,hp⟩:=aa (l:=rws es ts) (i:=i) (by rw [← hR.n];exact (List.getElem?_eq_some_iff.mp hta).1)
    refine bh.of ((hR.it i ta p hta hp).le le) rfl ?_
    refine CK.mk _ (cell le) ?_
    refine And.intro ?_ ?_
    ·show p.2.length+v.length≤sizeLine
     have:=qi G.v p (List.mem_of_getElem? hp)
     have:=cb v hv
     rw [PySem.sizeLine_eq];omega
    refine LN.au (aj rfl) fun x l8 m8=>?_
    refine nx _ _ l8 (m8.le _ _ ho) ⟨rfl,rfl,le.trans m8.le,tq++[x],by rw [List.map_append];rfl,by rw [List.length_append,hq];rfl,fN hf (aC (le.none m8.fresh) dD),mS (P:=fun x (p:Nat × Str)=>HT l8 x [.int (p.1:Int),.str (p.2++v)]) hq hp (fun j z q hj hr=>(hh j z q hj hr).le m8.le) m8.is⟩
   ·rintro a as D2 ys l7 l8 ⟨rfl,rfl,le,tq,rfl,hq,hf,hh⟩ hy m8
    rw [List.length_map,hR.n] at hq
    refine CK.mk _ (cell (le.trans m8.le)) ?_
    refine LN.au (aj rfl) fun x l9 m9=>?_
    refine LN.ag (aj rfl) fun y l10 m10=>?_
    refine LN.vb (m10.keep (m9.keep m8.is)) m10.is (by rw [List.length_map,hq,ao];show es.length+1≤1000;omega) fun ra' l11 m11=>?_
    have le8:l6.le l8:=le.trans m8.le
    have le9:l6.le l9:=le8.trans m9.le
    have le11:l6.le l11:=(le9.trans m10.le).trans m11.le
    have fx:l6 x=none:=le8.none m9.fresh
    have fr:l6 ra'=none:=(le9.trans m10.le).none m11.fresh
    have k11:∀ b o',b∈av'→b≠src→b≠tc→l4 b=some o'→l11 b=some o':=fun b o' hb n1 n2 e=>le11 _ _ (k6 _ _ hb (k5 _ _ n1 n2 e))
    have hs6:Src l6 src:=dr.src.of fun o' e=>k6 _ _ (G.sub _ (.head _)) ((if_neg G.ne.1.symm).trans e)
    have hc6:l6 tc≠none:=fun e=>by rw [k6 _ _ (G.sub _ (.tail _ (.head _))) Led.hit] at e;cases e
    have hl11:∀ {z:Addr},l6 z≠none→l11 z≠none:=fun h e=>h (le11.none e)
    have h6:∀ z∈av',l6 z≠none:=fun z hz e=>by
     cases q:(l5.set tc o) z with
     | some o'=>rw [k6 _ _ hz q] at e;cases e
     | none=>exact held6 z hz q
    refine next _ _ _ (.c (.c (.c (.c .nil)))) ⟨hn0,hn5,D',es++[D.length],ts++[v],ra',tq++[x],ra'::x::(tq++av'),by rw [List.length_append];rfl,by rw [iL],B6,fN G.v (aC hv dD),hs6.of fun o'=>le11 _ o',?_,(T6.av (av':=ra'::x::(tq++av')) (aC (.inr fr) (aC (.inr fx) (fN (fun z hz=>.inr (hf z hz)) fun z hz=>.inl hz)))).le le11,⟨?_,?_,?_⟩,aC (.tail _ (.tail _ (List.mem_append_right _ (G.sub _ (.head _))))) (aC (.tail _ (.tail _ (List.mem_append_right _ (G.sub _ (.tail _ (.head _)))))) (aC (.head _) (fN (fN (fun z hz=>.tail _ (.tail _ (List.mem_append_left _ hz))) (aC (.tail _ (.head _)) dD)) fun z hz=>.tail _ (.tail _ (List.mem_append_right _ (G.sub _ (.tail _ (.tail _ (.tail _ (List.mem_append_right _ hz)))))))))),aC m11.is.held (aC (m9.is.le (m10.le.trans m11.le)).held (fN (fun z hz=>?_) fun z hz=>hl11 (h6 z hz))),fun b o' hb n e=>k11 b o' (G.sub _ (.tail _ (.tail _ (.tail _ (List.mem_append_right _ hb))))) n (Led.ne e nc.fresh) (kp4 _ _ (G.sub _ (.tail _ (.tail _ (.tail _ (List.mem_append_right _ hb))))) (G.kp _ _ hb n e)),⟨G.ne.1,fun q=>hs6.held (q▸fr)⟩,aC ⟨fun q=>hs6.held (q▸fr),fun q=>hc6 (q▸fr)⟩ (fN (fun z hz=>⟨fun q=>hs6.held (q▸hf z hz),fun q=>hc6 (q▸hf z hz)⟩) (aC ⟨fun q=>hs6.held (q▸fx),fun q=>hc6 (q▸fx)⟩ dD))⟩
    ·exact ⟨o,some w,le11 _ _ (k6 _ _ (G.sub _ (.tail _ (.head _))) Led.hit),hw⟩
    ·rw [List.map_append];exact m11.is
    ·rw [List.length_append,hq,ao,ao,List.length_append];rfl
    ·rw [j8 hlt]
     refine mR (P:=fun x (p:Nat × Str)=>HT l11 x [.int (p.1:Int),.str p.2]) (by rw [List.length_map,hq]) (fun j z q hj hr=>?_) (m9.is.le (m10.le.trans m11.le))
     rw [List.getElem?_map,Option.map_eq_some_iff] at hr
     obtain (⟨q,hr,rfl⟩):=hr
     exact ((hh j z q hj hr).le m8.le).le ((m9.le.trans m10.le).trans m11.le)
    ·obtain (⟨j,hj⟩):=List.getElem?_of_mem hz
     obtain (⟨p,hp⟩):=aa (l:=rws es ts) (i:=j) (by rw [← hq];exact (List.getElem?_eq_some_iff.mp hj).1)
     exact (((hh j z p hj hp).le m8.le).le ((m9.le.trans m10.le).trans m11.le)).held
  refine CK.mk _ cell6 ?_
  refine aA.mk (fun h=>?_) fun h=>?_
  ·refine T6.iJ 489 (by kernel_rfl) ?_
   refine CK.mk _ cell6 ?_
   refine k9 T6 (dW ((List.getElem?_eq_some_iff.mp hd).1)) (.inr rfl) (by rw [aV];omega) (by show (0:Nat) < 899;decide) held6 fun l6 T7 kp7=>?_
   have q:=rest 11 _ _ T7 ((G.b.step hd (cb v hv)).2 (by simpa using h)) kp7
   conv at q=>whnf
   conv=>whnf
   exact q
  ·exact rest _ _ _ T6 ((G.b.step hd (cb v hv)).1 (by simpa using h)) fun O O O e=>e
 ·rintro n σ l3 ⟨hn0,hn5,D,es,ts,ra,tp,av',rfl,rfl,G⟩
  exact hP _ _ _ _ (k ra D es ts tp l3 hn0 hn5 G.b G.v G.s (G.T.av fun a ha=>.inl (G.sub a (.tail _ (.tail _ (.tail _ (List.mem_append_right _ ha)))))) G.R G.ne.2 G.kp) .rfl
end
end
section
theorem map_one{N:List (Str × Value)}{x:Str}(h:N.map (·.1)=[x]):∃ v,N=[(x,v)]:=by
 induction N with
 | nil=>exact nomatch h
 | cons p r =>
  rw [List.map_cons] at h
  injection h with h1 h2
  exact ⟨p.2,by rw [List.map_eq_nil_iff.mp h2,← h1]⟩
theorem map_two{N:List (Str × Value)}{x y:Str}(h:N.map (·.1)=[x,y]):∃ v w,N=[(x,v),(y,w)]:=by
 induction N with
 | nil=>exact nomatch h
 | cons p r =>
  rw [List.map_cons] at h
  injection h with h1 h2
  exact (map_one h2).elim fun w e=>⟨p.2,w,by rw [e,← h1]⟩
theorem nu{α:Type}{x y c:α}{i:Nat}(h:[x,y][i]?=some c):(i=0∧c=x)∨(i=1∧c=y):=by
 match i,h with
 | 0,h=>cases h;exact .inl ⟨rfl,rfl⟩
 | 1,h=>cases h;exact .inr ⟨rfl,rfl⟩
theorem eK{x y:Str}{v:Value}(h:x≠y):valueAt [(x,v)] y=none:=by
 unfold valueAt
 rw [List.find?_cons_of_neg (by simpa using h)];rfl
theorem gC{cs:List CV}{w:World}{N:List (Str × Value)}(o:Obj)(h:ai cs o)(k:fw w N o):False:=by
 obtain (⟨us,n,rfl,_⟩):=h
 obtain (⟨_,_,_,e,_⟩):=k
 cases e
theorem pW{cs:List CV}{w:World}{N:List (Str × Value)}(o:Obj)(h:bJ cs o)(k:fw w N o):False:=by
 obtain (⟨us,rfl,_⟩):=h
 obtain (⟨_,_,⟨hc,_⟩,e,_⟩):=k
 first | cases e | cases hc
theorem Src.nl{l:Led}{s a:Addr}{cs:List CV}(h:Src l s)(k:HL l a cs)(hc:∀ c,cs.head?=some c→∀ i t,¬ CV.Is c (.int i t)):a≠s:=fun q=>by
 obtain (⟨x,y,tx,ty,n,e,_⟩):=h
 obtain (⟨us,n2,e2,hu⟩):=HL.at k
 rw [q,e] at e2
 have:=((by simpa [W.listOf] using (congrArg Obj.data (Option.some.inj e2)).symm:us=[.int x tx,.int y ty]∧_)).1
 subst this
 cases hu with | cons h1 _=>exact hc _ rfl _ _ h1
theorem ou{tq:List Addr}:∀ c,(tq.map fun a=>CV.v (.ref a)).head?=some c→∀ i t,¬ CV.Is c (.int i t):=by
 intro c h i t k
 induction tq with
 | nil=>cases h
 | cons a r=>cases h;cases (k)
theorem Src.off{l:Led}{s b:Addr}{o:Obj}(h:Src l s)(e:l b=some o)(k:(∃ cs,ai cs o∧∀ c,cs.head?=some c→∀ i t,¬ CV.Is c (.int i t))∨(∃ cs,bJ cs o)):b≠s:=by
 rcases k with ⟨cs,h1,h2⟩ | ⟨cs,h1⟩
 ·exact h.nl ⟨o,e,h1⟩ h2
 ·exact h.nt ⟨o,e,h1⟩
theorem rg{l:Led}{w:World}{N:List (Str × Value)}{f b:Addr}{o:Obj}(h:Hs l f (fw w N))(e:l b=some o)(k:(∃ cs,ai cs o∧∀ c,cs.head?=some c→∀ i t,¬ CV.Is c (.int i t))∨(∃ cs,bJ cs o)):b≠f:=by
 rcases k with ⟨cs,h1,_⟩ | ⟨cs,h1⟩
 ·exact Hs.apart (P:=ai cs) ⟨o,e,h1⟩ h gC
 ·exact Hs.apart (P:=bJ cs) ⟨o,e,h1⟩ h pW
theorem aE.none{l l':Led}{s a:Addr}(k:aE l s l')(h:l' s≠none)(q:l' a=none):l a=none:=by
 cases z:l a with
 | none=>rfl
 | some o =>
  by_cases e:a=s
  ·exact absurd (e▸q) h
  ·have:=k a o e z;rw [q] at this;cases this
theorem pO(w:World):∃ vs k,(∀ {h:Heap},(K39 w.params).In h→h.get? 623=some (listOf (List.toArray vs) k))∧ar (bc.map .str) vs:=⟨_,_,fun X=>X 623 _ rfl,.cons (.str _ _) (.cons (.str _ _) (.cons (.str _ _) (.cons (.str _ _) (.cons (.str _ _) (.cons (.str _ _) .nil)))))⟩
structure rR(l:Led)(ns:List Nat)(tq:List Addr)(ps:List (Str × Nat)):Prop where
 n:tq.length=ps.length
 it:∀ (i:Nat) x p,tq[i]?=some x→ps[i]?=some p→HT l x [.str p.1,.int (p.2:Int)]
 nd:∀ p∈ps,p.2∈ns
theorem rR.snoc{l l':Led}{ns:List Nat}{tq:List Addr}{ps:List (Str × Nat)}{x:Addr}{p:Str × Nat}(h:rR l ns tq ps)(k:∀ a∈tq,∀ o,l a=some o→l' a=some o)(hx:HT l' x [.str p.1,.int (p.2:Int)])(hp:p.2∈ns):rR l' ns (tq++[x]) (ps++[p]):=by
 exact ⟨by rw [List.length_append,List.length_append,h.n];rfl,mR (P:=fun x (p:Str × Nat)=>HT l' x [.str p.1,.int (p.2:Int)]) h.n (fun i y q h1 h2=>(h.it i y q h1 h2).of (k y (List.mem_of_getElem? h1))) hx,fN h.nd (aC hp dD)⟩
theorem rR.of{l l':Led}{ns:List Nat}{tq:List Addr}{ps:List (Str × Nat)}(h:rR l ns tq ps)(k:∀ a∈tq,∀ o,l a=some o→l' a=some o):rR l' ns tq ps:=⟨h.n,fun i x p h1 h2=>(h.it i x p h1 h2).of (k x (List.mem_of_getElem? h1)),h.nd⟩
inductive ll(l:Led)(ns:List Nat)(a:Addr)(ps:List (Str × Nat)):Prop
 | mk (tq:List Addr) (h:HL l a (tq.map fun a=>.v (.ref a))) (p:rR l ns tq ps) (z:ps.length≤30):ll l ns a ps
inductive tO(l0 l:Led)(ns:List Nat)(a:Addr)(ps:List (Str × Nat)):Prop
 | mk (tq:List Addr) (h:HL l a (tq.map fun a=>.v (.ref a))) (p:rR l ns tq ps) (z:ps.length≤30) (n:l0 a=none) (m:∀ y∈tq,l0 y=none):tO l0 l ns a ps
theorem tO.cZ{l0 l l2:Led}{ns:List Nat}{a:Addr}{ps:List (Str × Nat)}(h:tO l0 l ns a ps)(k:∀ b o,l0 b=none→l b=some o→l2 b=some o):ll l2 ns a ps :=
 by cases h with | mk tq h1 h2 h3 h4 h5=>exact ⟨tq,h1.of fun o=>k _ o h4,h2.of fun y hy o=>k _ o (h5 y hy),h3⟩
theorem tO.of{l0 l l':Led}{ns:List Nat}{a:Addr}{ps:List (Str × Nat)}(h:tO l0 l ns a ps)(k:∀ b o,(∃ cs,ai cs o∧∀ c,cs.head?=some c→∀ i t,¬ CV.Is c (.int i t))∨(∃ cs,bJ cs o)→l b=some o→l' b=some o):tO l0 l' ns a ps:=by
 obtain (⟨tq,h1,⟨h2,h3,h4⟩,h5,h6,h7⟩):=h
 refine ⟨tq,?_,⟨h2,fun i x p e1 e2=>?_,h4⟩,h5,h6,h7⟩
 ·obtain (⟨o,e,p⟩):=h1
  exact ⟨o,k _ _ (.inl ⟨_,p,ou⟩) e,p⟩
 ·obtain (⟨o,e,q⟩):=h3 i x p e1 e2
  exact ⟨o,k _ _ (.inr ⟨_,q⟩) e,q⟩
inductive yw(w:World)(l l1:Led)(src fd:Addr)(ns:List Nat)(i:Nat)(l':Led):Prop
 | mk (s:Src l' src) (kp:∀ b o,b≠src→b≠fd→l1 b=some o→l' b=some o) (N:List (Str × Value)) (hN:N.map (·.1)=(nm ["k", "m"]).take i) (hd:Hs l' fd (fw w N)) (hp:∀ q∈N,∃ a ps,q.2=.ref a∧tO l l' ns a ps):yw w l l1 src fd ns i l'
inductive xO(l2:Led)(src:Addr)(ns:List Nat)(n:Nat)(ys:List CV)(l':Led):Prop
 | mk (s:Src l' src) (kp:aE l2 src l') (tq:List Addr) (ps:List (Str × Nat)) (e:ys=tq.map fun a=>.v (.ref a)) (hz:ps.length≤n) (hp:rR l' ns tq ps) (hf:∀ y∈tq,l2 y=none):xO l2 src ns n ys l'
section
variable {d:Dy}{r:Nat}{l:Led}{K:CV→Led→Prop}
theorem qt{src ra:Addr}{rw:List (Nat × Str)}{tp:List Addr}(hs:Src l src)(hr:ba l ra rw tp)(n:ra≠src)(hz:rw.length≤5)
  (k:∀ fd a1 a2 p1 p2 l',Hs l' fd (fw d.w [(Str.ofString "k",.ref a1),(Str.ofString "m",.ref a2)])→tO l l' (rw.map (·.1)) a1 p1→tO l l' (rw.map (·.1)) a2 p2→Src l' src→aE l src l'→(fd==sysModules)=false→l fd=none→K (.v (.ref fd)) l'):Cl d (r+2) (.ref 654) [.v (.ref src),.v (.ref ra)] K l:=by
 refine Cl.def {ns:=nm ["rows", "found", "name"],gi:=[],cn:=nm ["source"]} (nm ["source", "rows"]) 99 rfl rfl (by kernel_rfl) (fun O O=>rfl) fun d' P sb hP sc l0 nc ev=>?_
 refine LE.iR (PySem.strKind Pg d'.w) (by kernel_rfl) fun fd l1 m1 lo=>?_
 refine LS.forL [.str (Str.ofString "k"),.str (Str.ofString "m")] (fun a i σ l'=>σ=.c (.v (.ref ra)) (.c (.v (.ref fd)) .nil)∧yw d'.w l l1 src fd (rw.map (·.1)) i l') ev sb.may sb.ay (by kernel_rfl) rfl (fun P' hP'=>?_) ?_ ?_
 ·refine LN.ag (aj rfl) fun a l2 m2=>?_
  exact hP' _ _ _ (.c (.c .nil)) m2.is ⟨rfl,hs.of fun o e=>m2.le _ _ (m1.le _ _ (nc.le _ _ e)),fun b o O O e=>m2.le _ _ e,[],rfl,m1.is.le m2.le,fun O h=>nomatch h⟩
 ·rintro d1 P1 a i c o σ l2 s hi ho hl ⟨rfl,hs2,kp,N,hN,hd,hp⟩ next _
  obtain (⟨x,rfl,hv,hx⟩):∃ x,c=.str x∧valueAt N x=none∧(nm ["k", "m"]).take (i+1)=(nm ["k", "m"]).take i++[x]:=by
   rcases nu hi with ⟨rfl,rfl⟩ | ⟨rfl,rfl⟩
   ·obtain rfl:=List.map_eq_nil_iff.mp hN
    exact ⟨_,rfl,rfl,rfl⟩
   ·obtain ⟨v,rfl⟩:=map_one (x:=Str.ofString "k") hN
    exact ⟨_,rfl,eK (by decide),rfl⟩
  obtain ⟨vs,kk,hvs,hcv⟩:=pO d1.w
  have hv6:vs.length=6:=hcv.len
  have k02:∀ b o,b≠src→l b=some o→l2 b=some o:=fun b o n e=>kp b o n (Led.ne (nc.le _ _ e) m1.fresh) (m1.le _ _ (nc.le _ _ e))
  have hr2:ba l2 ra rw tp:=hr.kp k02 hs n
  have nsc:sc≠src:=fun q=>hs.held (q▸nc.fresh)
  have cell:ae l2 sc (.v (.ref src)):=by
   obtain ⟨o,v,e,q,is⟩:=nc.has _ rfl
   exact ⟨o,v,kp _ _ nsc (fun q=>by rw [q] at e;rw [m1.fresh] at e;cases e) (m1.le _ _ e),q,is⟩
  have nfd:fd≠src:=fun q=>hs.held (nc.le.none (q▸m1.fresh))
  refine LE.tJ (fi2:={ns:=nm ["node", "told", "value"],gi:=[58,41],fr:=nm ["source"]}) (ax:=623) (vs:=vs) (k:=kk) (tp.map fun a=>.v (.ref a)) (fun a as i ys l'=>a=ra∧as=[]∧xO l2 src (rw.map (·.1)) (i * 6) ys l') (ev.sub s) rfl (by kernel_rfl) rfl (bz _) (by rw [List.length_map,hr.n,hv6];omega) (by rw [List.length_map,hr.n];omega) hvs (fun P' hP'=>?_) ?_ ?_
  ·exact hP' _ _ hr2.li ⟨rfl,rfl,hs2,fun O O O e=>e,[],[],rfl,Nat.zero_le _,⟨rfl,fun i x p h=>(nomatch h),fun O h=>(nomatch h)⟩,fun O h=>(nomatch h)⟩
  ·rintro d2 a as i c ys o l3 hw hc ho hl ⟨rfl,rfl,hs3,kp3,tq,ps,rfl,hz3,hp3,hf3⟩
   rw [List.getElem?_map,Option.map_eq_some_iff] at hc
   obtain ⟨ta,hta,rfl⟩:=hc
   obtain ⟨p,hpp⟩:=aa (l:=rw) (i:=i) (by rw [← hr.n];exact (List.getElem?_eq_some_iff.mp hta).1)
   have pm:p.1∈rw.map (·.1):=List.mem_map_of_mem (List.mem_of_getElem? hpp)
   refine bh.of ((hr2.it i ta p hta hpp).kp kp3 (hs2.nt (hr2.it i ta p hta hpp))) rfl ?_
   refine ⟨fun j ys l'=>xO l2 src (rw.map (·.1)) (i * 6+j) ys l',ho,fun P3 h=>h,⟨hs3,kp3,tq,ps,rfl,hz3,hp3,hf3⟩,?_,?_⟩
   ·rintro ys l4 _ ⟨h1,h2,tq,ps,h3,h4,h5,h6⟩
    exact ⟨rfl,rfl,h1,h2,tq,ps,h3,by rw [hv6] at h4;omega,h5,h6⟩
   ·rintro d3 j ys v l4 hw3 hvj hS ⟨h1,h2,tq,ps,rfl,h4,h5,h6⟩ P4 Q4 nx sk
    obtain (⟨xv,hxv,tv,rfl⟩):∃ xv,bc[j]?=some xv∧∃ t,v=.str xv t:=by
     obtain ⟨c,hc⟩:=aa (l:=bc) (i:=j) (by have:=(List.getElem?_eq_some_iff.mp hvj).1;rw [hv6] at this;exact this)
     obtain ⟨v',e,is⟩:=hcv.get (i:=j) (c:=.str c) (by rw [List.getElem?_map,hc];rfl)
     rw [hvj] at e;cases e
     cases is with | str _ t=>exact ⟨c,hc,t,rfl⟩
    have nsc4:ae l4 sc (.v (.ref src)):=by obtain (⟨o,v,e,q,is⟩):=cell;exact ⟨o,v,h2 _ _ nsc e,q,is⟩
    refine CK.mk _ nsc4 ?_
    refine dE h1 (by decide) (by decide) fun e l5 e0 e1 dr=>?_
    have k5:aE l2 src l5:=fun b o n e=>(dr.other b n).trans (h2 b o n e)
    have nq:∀ y∈tq,y≠src:=fun y hy q=>hs2.held (q▸h6 y hy)
    have h5':rR l5 (rw.map (·.1)) tq ps:=h5.of fun y hy o e=>(dr.other y (nq y hy)).trans e
    refine aA.mk (fun h=>?_) fun h=>?_
    ·refine LN.au (aj rfl) fun z l6 m6=>?_
     refine nx _ _ l6 (.c (.c .nil)) (m6.le _ _ ((dr.other _ n).trans hS)) ⟨dr.src.of fun o=>m6.le _ o,fun b o n e=>m6.le _ _ (k5 b o n e),tq++[z],ps++[(xv,p.1)],by rw [List.map_append];rfl,by rw [List.length_append];exact Nat.succ_le_succ h4,h5'.snoc (fun y hy o=>m6.le _ o) m6.is pm,fN h6 (aC (aE.none k5 dr.src.held m6.fresh) dD)⟩
    ·exact sk _ l5 (.c (.c .nil)) ((dr.other _ n).trans hS) ⟨dr.src,k5,tq,ps,rfl,Nat.le_succ_of_le h4,h5',h6⟩
  ·rintro a as D ys l3 l4 ⟨rfl,rfl,hs3,kp3,tq,ps,rfl,hz3,hp3,hf3⟩ m4
   have kp4:∀ b o,b≠src→l2 b=some o→l4 b=some o:=fun b o n e=>m4.le _ _ (kp3 b o n e)
   have hd4:Hs l4 fd (fw d1.w N):=by rw [s.w];exact hd.of fun o e=>kp4 _ _ nfd e
   rw [List.length_map,hr.n] at hz3
   refine LU.wq hd4 (by rw [← List.length_map (f:=(·.1)),hN];exact Nat.le_trans (List.length_take_le' ..) (by decide)) g7 fun l5 u5=>?_
   have k5:∀ b o,b≠fd→l4 b=some o→l5 b=some o:=fun b o n e=>(u5.but b n).trans e
   have D2:D≠fd:=fun q=>by obtain (⟨_,e,_⟩):=hd4;obtain (⟨o,e2,_⟩):=hd.of fun o e=>kp3 _ o nfd e;rw [q] at m4;rw [m4.fresh] at e2;cases e2
   have ntq:∀ y∈tq,y≠fd:=fun y hy q=>hd.held (q▸hf3 y hy)
   have is5:=u5.is
   have fr:∀ {z},(∀ o,l z=some o→False)→l z=none:=fun {z} h=>by
    cases q:l z with
    | none=>rfl
    | some o=>exact (h o q).elim
   rw [dm hv,s.w] at is5
   have k25:∀ b o,(∃ cs,ai cs o∧∀ c,cs.head?=some c→∀ i t,¬ CV.Is c (.int i t))∨(∃ cs,bJ cs o)→l2 b=some o→l5 b=some o:=fun b o q e=>k5 _ _ (rg hd e q) (kp4 _ _ (hs2.off e q) e)
   refine next _ _ _ (.c (.c .nil)) (k25 _ _ (.inl ⟨_,hl,fun c h i t q=>(by cases h;cases q)⟩) ho) ⟨rfl,hs3.of fun o e=>k5 _ _ nfd.symm (m4.le _ _ e),fun b o n1 n2 e=>k5 _ _ n2 (kp4 _ _ n1 (kp b o n1 n2 e)),N++[(x,.ref D)],by rw [List.map_append,hN,hx];rfl,is5,fun q hq=>?_⟩
   ·rcases List.mem_append.mp hq with hq | hq
    ·obtain ⟨a,ps,h1,h2⟩:=hp q hq
     exact ⟨a,ps,h1,h2.of k25⟩
    ·rw [List.mem_singleton.mp hq]
     exact ⟨D,ps,rfl,tq,m4.is.of fun o=>k5 _ o D2,hp3.of fun y hy o e=>k5 _ _ (ntq y hy) (m4.le _ _ e),by omega,fr fun o e=>(have n:D≠src:=fun q=>hs3.held (q▸m4.fresh)
      Led.ne (kp3 _ _ n (k02 _ _ n e)) m4.fresh rfl),fun y hy=>fr fun o e=>(have n:y≠src:=fun q=>hs2.held (q▸hf3 y hy)
      Led.ne (k02 _ _ n e) (hf3 y hy) rfl)⟩
 ·rintro a σ l2 hl ⟨rfl,hs2,kp,N,hN,hd,hp⟩
  have k02:aE l src l2:=fun b o n e=>kp b o n (Led.ne (nc.le _ _ e) m1.fresh) (m1.le _ _ (nc.le _ _ e))
  obtain ⟨v1,v2,rfl⟩:=map_two (x:=Str.ofString "k") (y:=Str.ofString "m") hN
  obtain ⟨a1,p1,h1,h2⟩:=hp _ (.head _)
  obtain ⟨a2,p2,h3,h4⟩:=hp _ (.tail _ (.head _))
  cases h1;cases h3
  rw [sb.w] at hd
  exact hP _ _ _ _ (k fd a1 a2 p1 p2 l2 hd h2 h4 hs2 k02 lo (nc.le.none m1.fresh)) .rfl
end
end
section
set_option tactic.hygienic true in
theorem ph{ns:List Nat}{e x:Nat}:x∈dO ns e↔x∈ns∨x=e:=by
 unfold dO
 split
 ·rename_i h
  constructor
  ·exact .inl
  ·rintro (h2 | rfl)
   ·exact h2
   ·exact List.mem_of_mem_drop h
 ·rw [List.mem_append,List.mem_singleton]
noncomputable def cB:List (Str × Nat)→Str→List Nat:=fun ps=>ps.foldl (fun f p=>fun x=>if x=p.1 then dO (f p.1) p.2 else f x) fun O=>[]
theorem eU(ps:List (Str × Nat))(v:Str)(e:Nat):cB (ps++[(v,e)])=fun x=>if x=v then dO (cB ps v) e else cB ps x:=by
 unfold cB
 rw [List.foldl_append];rfl
theorem ka{P:List (Str × Nat)→Prop}(h0:P [])(h1:∀ ps v e,P ps→P (ps++[(v,e)]))(ps:List (Str × Nat)):P ps:=by
 have:∀ n,∀ ps:List (Str × Nat),ps.length=n→P ps:=by
  intro n
  induction n with
  | zero=>intro ps h;rw [List.length_eq_zero_iff.mp h];exact h0
  | succ n ih =>
   intro ps h
   rcases List.eq_nil_or_concat ps with rfl | ⟨l,⟨v,e⟩,rfl⟩
   ·simp at h
   ·rw [List.concat_eq_append] at h ⊢
    exact h1 l v e (ih l (by simpa using h))
 exact this _ ps rfl
theorem gp{ps:List (Str × Nat)}{x:Str}{e:Nat}:e∈cB ps x↔(x,e)∈ps:=by
 revert x e
 refine ka (P:=fun ps=>∀ {x:Str} {e:Nat},e∈cB ps x↔(x,e)∈ps) ?_ ?_ ps
 ·intro x e
  show e∈([]:List Nat)↔_
  simp
 ·intro ps v e0 ih x e
  rw [eU,List.mem_append,List.mem_singleton]
  by_cases hx:x=v
  ·subst hx
   simp only [if_true,ph,ih,Prod.mk.injEq,true_and]
  ·simp only [hx,if_false,ih,Prod.mk.injEq,false_and,or_false]
theorem qq{ps:List (Str × Nat)}{x:Str}:(cB ps x).length≤ps.length:=by
 revert x
 refine ka (P:=fun ps=>∀ {x:Str},(cB ps x).length≤ps.length) ?_ ?_ ps
 ·intro x;exact Nat.le_refl _
 ·intro ps v e0 ih x
  rw [eU,List.length_append,List.length_singleton]
  by_cases hx:x=v
  ·subst hx
   simp only [if_true]
   exact Nat.le_trans iT (Nat.succ_le_succ ih)
  ·simp only [if_neg hx]
   exact Nat.le_succ_of_le ih
theorem qp(ps:List (Str × Nat))(p:Str × Nat):cB (ps++[p])=upd (cB ps) p.1 p.2:=eU ps p.1 p.2
theorem aY{x:Str}{v:Value}{r:List (Str × Value)}:valueAt ((x,v)::r) x=some v:=by
 unfold valueAt;rw [List.find?_cons_of_pos (by simp)];rfl
theorem cS{x y:Str}{v:Value}{r:List (Str × Value)}(h:x≠y):valueAt ((x,v)::r) y=valueAt r y:=by
 unfold valueAt;rw [List.find?_cons_of_neg (by simpa using h)]
theorem jP.kp{w:World}{l0 l l':Led}{dd z:Addr}{pk:Str→List Nat}{N:List (Str × Value)}(h:jP w l0 l dd pk)(k:aE l z l')(hz:Hs l z (fw w N))(n:dd≠z):jP w l0 l' dd pk:=by
 obtain (⟨lo,hl,f,kvs,h1,h2⟩):=h
 exact ⟨lo,hl,f,kvs,h1.kp k n,fun x=>(h2 x).imp id fun z=>by obtain (⟨a,e,q,nq⟩):=z;exact ⟨a,e,q.kp k (q.apart hz gC),nq⟩⟩
section
variable {d:Dy}{r:Nat}{l:Led}{K:CV→Led→Prop}
structure zi(w:World)(l l':Led)(ix dx nd:Addr)(N:List (Str × Value))(P:Str→List (Str × Nat)):Prop where
 le:l.le l'
 f:l nd=none
 f2:l ix=none∧l dx=none
 k:KN w l' ix dx nd N
 it:∀ q∈N,∃ dd,q.2=.ref dd∧dd≠nd∧jP w l l' dd (cB (P q.1))
inductive yH(fd ix dx nd:Addr)(w:World)(l:Led)(PP:Str→List (Str × Nat))(i:Nat)(σ:Sl)(l':Led):Prop
 | mk (e:σ=.c (.v (.ref fd)) (.c (.v (.ref ix)) .nil)) (N:List (Str × Value)) (hN:N.map (·.1)=(nm ["k", "m"]).take i) (I:zi w l l' ix dx nd N PP):yH fd ix dx nd w l PP i σ l'
inductive yG(a fd ix:Addr)(nmx:Str)(w:World)(l3:Led)(dd:Addr)(ps:List (Str × Nat))(b:Addr)(i:Nat)(σ:Sl)(l':Led):Prop
 | mk (e1:b=a) (e:σ=.c (.v (.ref fd)) (.c (.v (.ref ix)) (.c (.str nmx) .nil))) (f:lp w l3 l' dd (cB (ps.take i)) i):yG a fd ix nmx w l3 dd ps b i σ l'
theorem qK{ns:List Nat}{fd a1 a2:Addr}{p1 p2:List (Str × Nat)}(hd:Hs l fd (fw d.w [(Str.ofString "k",.ref a1),(Str.ofString "m",.ref a2)]))(lo:(fd==sysModules)=false)(h1:ll l ns a1 p1)(h2:ll l ns a2 p2)
  (k:∀ ix dx nd d1 d2 l',l.le l'→KN d.w l' ix dx nd [(Str.ofString "k",.ref d1),(Str.ofString "m",.ref d2)]→jP d.w l l' d1 (cB p1)→jP d.w l l' d2 (cB p2)→l nd=none→l ix=none∧l dx=none→K (.v (.ref ix)) l'):Cl d (r+3) (.ref 661) [.v (.ref fd)] K l:=by
 refine Cl.def {ns:=nm ["pairs", "index", "name", "value", "node"],gi:=[3]} (nm ["pairs"]) 99 rfl rfl (by kernel_rfl) (fun O=>rfl) fun d' P sb hP ev=>?_
 refine jy fun ix dx nd l1 k1 le1 f1 f2=>?_
 obtain (⟨od,eod,hod⟩):=hd
 rw [← sb.w] at hod
 let PP:Str→List (Str × Nat):=fun x=>if x=Str.ofString "k" then p1 else p2
 refine LS.uS (α:=(Nat→Obj→Prop) × Unit) (V:=fun x i c=>∃ k y v,[(Str.ofString "k",Value.ref a1),(Str.ofString "m",Value.ref a2)][i]?=some (k,y)∧(PySem.strKind Pg d'.w).is k v=true∧c=CV.of v) (S:=fun x O l=>l fd=some od) (It:=fun x=>x.1)
  (fun _=>yH fd ix dx nd d'.w l PP) (fun O=>2) ev sb.may sb.ay (by kernel_rfl) (fun P' hP'=>?_) (fun x k σ l' ⟨_,N,_,I⟩=>I.le _ _ eod) ?_ ?_
 ·obtain (⟨It,src⟩):=bQ.dict (d:=d') (l:=l1) (le1 _ _ eod) hod lo (fun O l=>l fd=some od) fun O O h=>h
  exact hP' (It,()) _ _ _ (.c (.c .nil)) src ⟨rfl,[],rfl,le1,f1,f2,k1,fun O h=>(nomatch h)⟩
 ·rintro d1 P1 x i c σ l2 s hi ⟨nmx,y,v,hx,hv,rfl⟩ ⟨rfl,N,hN,I⟩ next _
  obtain (⟨tv,rfl⟩):=Value.isStrOf_shape hv
  have hw:d1.w=d'.w:=s.w
  obtain (⟨a,ps,rfl,hps,hpp,hvn,hva,hnx⟩):∃ a ps,y=.ref a∧ll l ns a ps∧PP nmx=ps∧valueAt N nmx=none∧valueAt [(Str.ofString "k",Value.ref a1),(Str.ofString "m",Value.ref a2)] nmx=some (.ref a)∧(nm ["k", "m"]).take (i+1)=(nm ["k", "m"]).take i++[nmx]:=by
   rcases nu hx with ⟨rfl,e⟩ | ⟨rfl,e⟩
   ·cases e
    obtain rfl:=List.map_eq_nil_iff.mp hN
    exact ⟨a1,p1,rfl,h1,if_pos rfl,rfl,aY,rfl⟩
   ·cases e
    obtain (⟨v,rfl⟩):=map_one (x:=Str.ofString "k") hN
    exact ⟨a2,p2,rfl,h2,if_neg (by decide),eK (by decide),(cS (by decide)).trans aY,rfl⟩
  refine bG.own 98 I.k.i (by kernel_rfl) ?_
  refine gU (by rw [hw];exact I.k) hvn (by rw [← List.length_map (f:=(·.1)),hN];exact Nat.le_trans (List.length_take_le' ..) (by decide)) fun dd l3 k3 kp3 fdd hdd ldd=>?_
  rw [hw] at k3 hdd
  have cR:l.le l3:=fun b o e=>kp3 _ _ (Led.ne e I.f) (I.le _ _ e)
  have fd0:l dd=none:=I.le.none fdd
  have oF:dd≠nd:=fun q=>by obtain (⟨o,e,_⟩):=I.k.d;rw [← q,fdd] at e;cases e
  have hKP:KP d'.w l3 ix dx nd dd (N++[(nmx,.ref dd)]) nmx:=⟨k3,by rw [bR hvn,if_pos rfl],Led.ne I.k.i.1 fdd,(by obtain (⟨_,o,e,_⟩):=I.k.i;exact Led.ne e fdd),oF.symm⟩
  obtain (⟨tq,hL,hPr,hz⟩):=hps
  refine LS.forL (tq.map fun a=>.v (.ref a)) (yG a fd ix nmx d'.w l3 dd ps) (ev.sub s) (s.may sb.may) (by rw [s.ay,s.env];exact sb.ay) (by kernel_rfl) (bz _) (fun P' hP'=>?_) ?_ ?_
  ·refine LN.cp (knd:=PySem.strKind Pg d1.w) ⟨od,cR _ _ eod,by rw [hw];exact hod⟩ g7 hva ?_
   exact hP' _ _ _ (.c (.c (.c .nil))) (hL.le cR) ⟨rfl,rfl,fun O O O e=>e,ldd,[],hdd,Nat.le_refl _,fun x=>⟨Nat.le_refl _,.inl ⟨rfl,rfl⟩⟩⟩
  ·rintro d3 P3 b j c o σ l4 s3 hj ho hl ⟨rfl,rfl,f⟩ nx _
   rw [List.getElem?_map,Option.map_eq_some_iff] at hj
   obtain (⟨ta,hta,rfl⟩):=hj
   obtain (⟨p,hp⟩):=aa (l:=ps) (i:=j) (by rw [← hPr.n];exact (List.getElem?_eq_some_iff.mp hta).1)
   have hj30:j < ps.length:=(List.getElem?_eq_some_iff.mp hp).1
   have ht:=hPr.it j ta p hta hp
   have hw3:d3.w=d'.w:=s3.w.trans hw
   refine bh.of ((ht.le cR).kp f.kp (ht.ne fd0)) rfl ?_
   refine bG.own 105 (hKP.at f.kp).i (by kernel_rfl) ?_
   refine va (by rw [hw3];exact hKP) (by rw [hw3];exact f) (by omega) fun l5 f5=>?_
   rw [hw3,← qp] at f5
   have e:ps.take (j+1)=ps.take j++[p]:=by rw [List.take_add_one,hp];rfl
   refine nx _ _ l5 (.c (.c (.c .nil))) ?_ ⟨rfl,rfl,by rw [e];exact f5⟩
   obtain (⟨oL,eL,pL⟩):=hL
   have:o=oL:=Option.some.inj (ho.symm.trans (f.kp _ _ (Led.ne eL fd0) (cR _ _ eL)))
   subst this
   exact f5.kp _ _ (Led.ne eL fd0) (cR _ _ eL)
  ·rintro b σ l4 hl ⟨rfl,rfl,f⟩
   rw [List.length_map,hPr.n,List.take_of_length_le (Nat.le_refl _)] at f
   refine next _ _ _ (.c (.c .nil)) ⟨rfl,N++[(nmx,.ref dd)],by rw [List.map_append,hN,hnx];rfl,fun b o e=>f.kp _ _ (Led.ne e fd0) (cR _ _ e),I.f,I.f2,hKP.at f.kp,fun q hq=>?_⟩
   rcases List.mem_append.mp hq with hq | hq
   ·obtain ⟨d2,e2,n2,k2⟩:=I.it q hq
    have nd2:d2≠dd:=by obtain (⟨_,_,_,_,h,_⟩):=k2;exact h.ne fdd
    exact ⟨d2,e2,n2,(k2.kp kp3 I.k.d n2).kp f.kp hdd nd2⟩
   ·rw [List.mem_singleton.mp hq]
    exact ⟨dd,rfl,oF,by rw [hpp];exact f.f (by omega) cR fd0⟩
 ·rintro x σ l2 ⟨rfl,N,hN,I⟩
  obtain ⟨v1,v2,rfl⟩:=map_two (x:=Str.ofString "k") (y:=Str.ofString "m") hN
  obtain (⟨d1,h1,_,k1⟩):=I.it _ (.head _)
  obtain ⟨d2,h2,_,k2⟩:=I.it _ (.tail _ (.head _))
  cases h1;cases h2
  have kn:=I.k
  rw [show PP (Str.ofString "k")=p1 from if_pos rfl] at k1
  rw [show PP (Str.ofString "m")=p2 from if_neg (by decide)] at k2
  rw [sb.w] at kn k1 k2
  exact hP _ _ _ _ (k ix dx nd d1 d2 l2 I.le kn k1 k2 I.f I.f2) .rfl
end
end
section
inductive dP(l:Led)(rw:List (Nat × Str)):CV→List Str→Prop
 | str (x:Str) (h:x∈bc):dP l rw (.str x) [x]
 | t:dP l rw (.v (.bool true)) [Str.ofString "true"]
 | num {a:Addr} {p q:Int} {x:Str} (h:HT l a [.int p,.int q]) (n:vc p q x):dP l rw (.v (.ref a)) [x]
 | set {a:Addr} (sel:List Nat) (h:HL l a (aq sel)) (s:sel.Sublist (rw.map (·.1))):dP l rw (.v (.ref a)) ((rw.filter fun p=>decide (p.1∈sel)).map (·.2))
theorem kI{α:Type}{x y z w c:α}{i:Nat}(h:[x,y,z,w][i]?=some c):c=x∨c=y∨c=z∨c=w:=by
 rcases i with _ | _ | _ | _ | i
 ·exact .inl (Option.some.inj h).symm
 ·exact .inr (.inl (Option.some.inj h).symm)
 ·exact .inr (.inr (.inl (Option.some.inj h).symm))
 ·exact .inr (.inr (.inr (Option.some.inj h).symm))
 ·exact nomatch h
section
variable {d:Dy}{r:Nat}{l:Led}{K:CV→Led→Prop}
theorem LN.y8{a:Addr}{ns:List Nat}{e:Nat}(hm:HL l a (aq ns))(h:K (.v (.bool (decide (e∈ns)))) l):LN d r (br .In) [.int (e:Int),.v (.ref a)] K l:=by
 refine LN.zb (ns:=ns.map fun (n:Nat)=>(n:Int)) (by rw [List.map_map];exact hm) ?_
 rw [show (List.any (ns.map fun (n:Nat)=>(n:Int)) (·==(e:Int)))=decide (e∈ns) from ?_] at ⊢
 ·exact h
 ·rw [Bool.eq_iff_iff,List.any_eq_true,decide_eq_true_iff]
  constructor
  ·rintro ⟨y,hy,q⟩
   obtain (⟨n,hn,rfl⟩):=List.mem_map.mp hy
   exact Int.ofNat.inj (beq_iff_eq.mp q)▸hn
  ·exact fun q=>⟨_,List.mem_map_of_mem q,beq_self_eq_true _⟩
theorem nV{src ra:Addr}{rw:List (Nat × Str)}{tp:List Addr}(hs:Src l src)(hr:ba l ra rw tp)(n:ra≠src)(hz:rw.length≤1000)
  (k:∀ z v ta T l',HT l' z [v,.v (.ref ta)]→HL l' ta (T.map .str)→dP l' rw v T→Src l' src→aE l src l'→l ta=none→K (.v (.ref z)) l'):Cl d (r+4) (.ref 671) [.v (.ref src),.v (.ref ra)] K l:=by
 refine Cl.def {ns:=nm ["source", "rows", "way", "text"],gi:=[41,42,58,46],cn:=nm ["some"]} (nm ["source", "rows"]) 400 rfl rfl (by kernel_rfl) (fun O O=>rfl) fun d' P sb hP sc l0 nc ev=>?_
 have hs0:Src l0 src:=hs.of fun o=>nc.le _ o
 refine dE hs0 (by decide) (by decide) fun e l1 e0 e1 dr=>?_
 have k01:aE l src l1:=fun b o n e=>(dr.other b n).trans (nc.le _ _ e)
 refine aA.mk (fun h=>?_) fun O=>?_
 ·refine LN.au (aj rfl) fun t1 m1 n1=>?_
  refine LN.ag (aj rfl) fun s1 m2 n2=>?_
  refine LN.au (aj rfl) fun z1 m3 n3=>?_
  refine LN.au (aj rfl) fun t2 m4 n4=>?_
  refine LN.ag (aj rfl) fun s2 m5 n5=>?_
  refine LN.au (aj rfl) fun z2 m6 n6=>?_
  refine LN.ag (aj rfl) fun s3 m7 n7=>?_
  refine LN.au (aj rfl) fun z3 m8 n8=>?_
  refine LN.au (aj rfl) fun t4 m9 n9=>?_
  refine LN.ag (aj rfl) fun s4 m10 n10=>?_
  refine LN.au (aj rfl) fun z4 m11 n11=>?_
  refine LN.ag (aj rfl) fun L m12 n12=>?_
  have e1:l1.le m1:=n1.le
  have e2:l1.le m2:=e1.trans n2.le
  have e3:l1.le m3:=e2.trans n3.le
  have e4:l1.le m4:=e3.trans n4.le
  have e5:l1.le m5:=e4.trans n5.le
  have e6:l1.le m6:=e5.trans n6.le
  have e7:l1.le m7:=e6.trans n7.le
  have e8:l1.le m8:=e7.trans n8.le
  have e9:l1.le m9:=e8.trans n9.le
  have e10:l1.le m10:=e9.trans n10.le
  have e11:l1.le m11:=e10.trans n11.le
  have e12:l1.le m12:=e11.trans n12.le
  have f11:m11.le m12:=n12.le
  have f10:m10.le m12:=n11.le.trans f11
  have f9:m9.le m12:=n10.le.trans f10
  have f8:m8.le m12:=n9.le.trans f9
  have f7:m7.le m12:=n8.le.trans f8
  have f6:m6.le m12:=n7.le.trans f7
  have f5:m5.le m12:=n6.le.trans f6
  have f4:m4.le m12:=n5.le.trans f5
  have f3:m3.le m12:=n4.le.trans f4
  have f2:m2.le m12:=n3.le.trans f3
  have f1:m1.le m12:=n2.le.trans f2
  have ne:∀ {a:Addr} {m':Led},l1.le m'→m' a=none→a≠src:=fun le f q=>dr.src.held (le.none (q▸f))
  refine eV (dr.src.of fun o=>e12 _ o) n12.is (aj rfl) (aj rfl) (ne e11 n12.fresh) fun i c l2 hi dr2=>?_
  have tr:∀ {a:Addr} {P:Obj→Prop} {m':Led},Hs m' a P→m'.le m12→a≠src→Hs l2 a P:=fun h le n=>(h.le le).but dr2.other n
  have k2:aE l src l2:=fun b o n q=>(dr2.other b n).trans (e12 _ _ (k01 b o n q))
  have hi:[CV.v (.ref z1),.v (.ref z2),.v (.ref z3),.v (.ref z4)][i]?=some c:=hi
  rcases kI hi with rfl | rfl | rfl | rfl
  ·exact hP _ _ _ _ (k z1 (.v (.ref t1)) s1 [Str.ofString "1"] l2 (tr n3.is f3 (ne e2 n3.fresh)) (tr n2.is f2 (ne e1 n2.fresh)) (.num (tr n1.is f1 (ne .rfl n1.fresh)) (.inr ⟨by decide +kernel,by decide +kernel⟩)) dr2.src k2 (aE.none (fun b o n q=>e1 _ _ (k01 b o n q)) (dr.src.of fun o=>e1 _ o).held n2.fresh)) .rfl
  ·exact hP _ _ _ _ (k z2 (.v (.ref t2)) s2 [Str.ofString "2.5"] l2 (tr n6.is f6 (ne e5 n6.fresh)) (tr n5.is f5 (ne e4 n5.fresh)) (.num (tr n4.is f4 (ne e3 n4.fresh)) (.inr ⟨by decide +kernel,by decide +kernel⟩)) dr2.src k2 (aE.none (fun b o n q=>e4 _ _ (k01 b o n q)) (dr.src.of fun o=>e4 _ o).held n5.fresh)) .rfl
  ·exact hP _ _ _ _ (k z3 (.v (.bool true)) s3 [Str.ofString "true"] l2 (tr n8.is f8 (ne e7 n8.fresh)) (tr n7.is f7 (ne e6 n7.fresh)) .t dr2.src k2 (aE.none (fun b o n q=>e6 _ _ (k01 b o n q)) (dr.src.of fun o=>e6 _ o).held n7.fresh)) .rfl
  ·exact hP _ _ _ _ (k z4 (.v (.ref t4)) s4 [Str.ofString "NaN"] l2 (tr n11.is f11 (ne e10 n11.fresh)) (tr n10.is f10 (ne e9 n10.fresh)) (.num (tr n9.is f9 (ne e8 n9.fresh)) (.inl ⟨rfl,rfl,rfl⟩)) dr2.src k2 (aE.none (fun b o n q=>e9 _ _ (k01 b o n q)) (dr.src.of fun o=>e9 _ o).held n10.fresh)) .rfl
 ·refine aA.mk (fun h=>?_) fun O=>?_
  ·refine km dr.src fun v l2 hv dr2=>?_
   refine LN.ag (aj rfl) fun a l3 m3=>?_
   refine LN.au (aj rfl) fun z l4 m4=>?_
   exact hP _ _ _ _ (k z _ a [v] l4 m4.is (m3.is.le m4.le) (.str v hv) (dr2.src.of fun o e=>m4.le _ _ (m3.le _ _ e)) (fun b o n e=>m4.le _ _ (m3.le _ _ ((dr2.other b n).trans (k01 b o n e)))) (aE.none (fun b o n e=>(dr2.other b n).trans (k01 b o n e)) dr2.src.held m3.fresh)) .rfl
  ·have nsc:sc≠src:=fun q=>hs.held (q▸nc.fresh)
   refine mQ dr.src (hr.kp k01 hs n) n hz fun sel b l2 hsel hs2 kp2 fb hb=>?_
   have hc2:bl l2 sc:=nc.is.of fun o e=>kp2 _ _ nsc ((dr.other _ nsc).trans e)
   refine And.intro hc2 fun o w is hw=>?_
   have hsc1:l1 sc≠none:=fun q=>by obtain (⟨o',v',e',_⟩):=nc.is;rw [dr.other _ nsc,e'] at q;cases q
   have nbs:b≠sc:=fun q=>hsc1 (q▸fb)
   have k03:aE l src (l2.set sc o):=fun x o' n e=>(if_neg (Led.ne e nc.fresh)).trans (kp2 _ _ n (k01 x o' n e))
   have hr3:=hr.kp k03 hs n
   have cell:∀ {l':Led},(l2.set sc o).le l'→ae l' sc (.v (.ref b)):=fun le=>⟨o,w,le _ _ Led.hit,hw,is⟩
   have hb3:HL (l2.set sc o) b (aq sel):=hb.of fun o' e=>(if_neg nbs).trans e
   refine CK.mk _ (cell .rfl) ?_
   refine LE.dA (fi2:={ns:=nm ["node", "told"],gi:=[],fr:=nm ["some"]}) 1 (tp.map fun a=>.v (.ref a)) (mK ra (l2.set sc o) fun i=>(((rw.take i).filter fun p=>decide (p.1∈sel)).map (·.2)).map .str) ev (by kernel_rfl) (by decide) rfl (bz _) (by rw [List.length_map,hr.n];exact hz) (fun P' hP'=>?_) ?_ ?_
   ·exact hP' _ _ hr3.li ⟨rfl,rfl,.rfl,rfl⟩
   ·rintro d2 a as P2 Q2 i c ys o2 l3 hw2 hc ho hl ⟨rfl,rfl,le,rfl⟩ hy nx sk
    rw [List.getElem?_map,Option.map_eq_some_iff] at hc
    obtain ⟨ta,hta,rfl⟩:=hc
    obtain ⟨p,hp⟩:=aa (l:=rw) (i:=i) (by rw [← hr.n];exact (List.getElem?_eq_some_iff.mp hta).1)
    have et:rw.take (i+1)=rw.take i++[p]:=by rw [List.take_add_one,hp];rfl
    refine bh.of ((hr3.it i ta p hta hp).le le) rfl ?_
    refine CK.mk _ (cell le) ?_
    refine LN.y8 (hb3.le le) ?_
    refine aA.mk (fun h=>?_) fun h=>?_
    ·exact nx _ _ l3 ho ⟨rfl,rfl,le,by rw [et,List.filter_append,List.map_append,List.map_append,List.filter_cons_of_pos (by exact h)];rfl⟩
    ·exact sk _ l3 ho ⟨rfl,rfl,le,by rw [et,List.filter_append,List.filter_cons_of_neg (by simpa using h),List.filter_nil,List.append_nil]⟩
   ·rintro a as D ys l3 l4 ⟨rfl,rfl,le,rfl⟩ hy m4
    rw [List.take_of_length_le (by rw [List.length_map,hr.n];exact Nat.le_refl _)] at m4
    have le4:=le.trans m4.le
    refine LN.au (aj rfl) fun z l5 m5=>?_
    exact hP _ _ _ _ (k z _ D _ l5 m5.is (m4.is.le m5.le) (.set sel ((hb3.le le4).le m5.le) hsel) (hs2.of fun o' e=>m5.le _ _ (le4 _ _ ((if_neg nsc.symm).trans e))) (fun x o' n e=>m5.le _ _ (le4 _ _ (k03 x o' n e))) (aE.none (fun x o' n e=>le _ _ (k03 x o' n e)) (hs2.of fun o' e=>le _ _ ((if_neg nsc.symm).trans e)).held m4.fresh)) .rfl
end
end
section
noncomputable def rK(top b fac:Int)(mr:Nat):Int:=v7 ((top.natAbs:Int) * fac * 10 ^ mr) b
noncomputable def xX(top b fac:Int)(mr:Nat):Str:=Str.ofString (toString ((rK top b fac mr).fdiv (10 ^ mr)))
noncomputable def xY(top b fac:Int)(mr:Nat):Str:=Str.ofString (toString ((rK top b fac mr).fmod (10 ^ mr)+10 ^ mr:Int))
noncomputable def qw(top b fac:Int)(mr:Nat):Str:=Txt.slice (xY top b fac mr) (some 1) none
noncomputable def oB(p:Str)(least:Int)(mr:Nat):List Int:=least::((List.range mr).filter fun (i:Nat)=>!(Txt.item p (i:Int)==Str.ofString "0")).map fun (i:Nat)=>(i:Int)+1
noncomputable def vJ(top b least fac:Int)(mr:Nat):Bool:=decide (top.natAbs < 10000)&&decide (0 < b)&&decide (b < 1000)&&decide (0 < fac)&&decide (fac≤100)&&decide (mr≤4)&&decide (0≤rK top b fac mr)&&decide (rK top b fac mr < 10 ^ 15)&&decide ((xX top b fac mr).length≤50)&&decide ((xY top b fac mr).length≤50)&&decide (mr≤(qw top b fac mr).length)
noncomputable def xk(top b fac:Int)(mr:Nat)(M:Int):Str:=xX top b fac mr++(if M > 0 then Str.ofString "."++Txt.slice (qw top b fac mr) none (some M) else Str.ofString "")
section
variable {d:Dy}{r:Nat}{l:Led}{K:CV→Led→Prop}
theorem LN.xw{b:Bool}(h:K (.int (if b then 1 else 0)) l):LN d r (fun vs=>call (.type "int") vs) [.v (.bool b)] K l :=
 .q1 fun A E g s Q v m is n k=>by cases is;exact PySem.call_int_bool (k _ _ _ (.int _ _) h)
theorem LN.xm{a:Addr}{ns:List Int}{M:Int}(hm:HL l a (ns.map .int))(h1:M∈ns)(h2:∀ a∈ns,a≤M)(h:K (.int M) l):LN d r (fun vs=>call (.builtin "max") vs) [.v (.ref a)] K l:=⟨fun vs m hv=>⟨fun A E g s n=>by
 refine ar.eX hv fun v i1=>?_
 cases i1
 obtain ⟨us,q,e,hu⟩:=HL.at hm
 obtain (⟨mo,news,F,N,_,st,_⟩):=n.a.led
 refine kso_max F N ⟨_,n.a.get e,rfl,_,rfl⟩ hu.ints (List.length_pos_of_mem h1) n.R.hd fun h' M' t tk F' N' k1 k2=>?_
 have:M'=M:=Int.le_antisymm (h2 _ k1) (k2 _ h1)
 subst this
 exact ⟨g,m,l,.of (t:=tk),st h' F' N',_,rfl,.int _ _,h⟩⟩⟩
theorem gu{top b least fac M:Int}{mr:Nat}(h:vJ top b least fac mr=true)(hM1:M∈oB (qw top b fac mr) least mr)(hM2:∀ a∈oB (qw top b fac mr) least mr,a≤M)(k:K (.str (xk top b fac mr M)) l):Cl d (r+1) (.ref 676) [.int top,.int b,.int least,.int (mr:Int),.int fac] K l:=by
 refine wB h of_decide_eq_true of_decide_eq_true of_decide_eq_true of_decide_eq_true of_decide_eq_true of_decide_eq_true of_decide_eq_true of_decide_eq_true of_decide_eq_true of_decide_eq_true of_decide_eq_true fun h1 h3 h4 h5 h6 h7 h8 h9 h10 h11 h12=>?_
 have s0:(0:Int) < 10 ^ mr:=Int.pow_pos (by decide)
 have s1:(10:Int) ^ mr≤10 ^ 4:=by
  have e:(10:Int) ^ mr=((10 ^ mr:Nat):Int):=by simp
  have:10 ^ mr≤10 ^ 4:=Nat.pow_le_pow_right (by decide) h7
  omega
 have sc:Builtin.Int.intBits ((10:Int) ^ mr)≤64:=intBits_le_64 (by omega) (by omega)
 have np:∀ y,Builtin.divisionGoesByPylong y ((10:Int) ^ mr)=false:=fun y=>PyProof.noPylong_small (by omega)
 have af0:0≤(top.natAbs:Int) * fac:=Int.mul_nonneg (by omega) (by omega)
 have af1:(top.natAbs:Int) * fac≤10000 * 100:=Int.mul_le_mul (by omega) h6 (by omega) (by decide)
 have as0:0≤(top.natAbs:Int) * fac * 10 ^ mr:=Int.mul_nonneg af0 (by omega)
 have as1:(top.natAbs:Int) * fac * 10 ^ mr≤10000 * 100 * 10 ^ 4:=Int.mul_le_mul af1 s1 (by omega) (by decide)
 have nD:=bg h8 s0
 have nM:=bU (z:=rK top b fac mr) s0
 have q:=bg (x:=(top.natAbs:Int) * fac * 10 ^ mr) as0 h3
 have big:(2:Nat) ^ 100≤2 ^ 1900:=Nat.pow_le_pow_right (by decide) (by decide)
 refine Cl.def {ns:=nm ["top", "bottom", "least", "most", "factor", "scale", "size", "whole", "rest", "told", "keep"],gi:=[60,66,65,61,71],cn:=nm ["parts"]} (nm ["top", "bottom", "least", "most", "factor"]) 400 rfl rfl (by kernel_rfl) (fun O O O O O=>rfl) fun d' P sb hP pc l0 nc ev=>?_
 refine LN.pow10 (Nat.le_trans h7 (by decide)) ?_
 refine LN.abs ?_
 refine And.intro (IntMulOk.of_left (intBits_le_64 (by omega) (by omega))) ?_
 refine And.intro (IntMulOk.of_right sc) ?_
 refine And.intro ⟨by omega,PyProof.noPylong_small (by omega)⟩ ?_
 refine And.intro (by omega) ?_
 refine And.intro (IntMulOk.of_left (by decide)) ?_
 generalize hA:(top.natAbs:Int) * fac * 10 ^ mr=A at *
 have hmod:A.fmod b=A - A.fdiv b * b:=by rw [Int.fmod_def,Int.mul_comm]
 refine LE.mono (K:=fun c l'=>∃ c',c=.v (.bool c')∧l'=l0∧A.fdiv b+(if c' then 1 else 0)=rK top b fac mr) ?_ ?_
 ·have hN:rK top b fac mr=if 2 * A.fmod b > b∨(2 * A.fmod b=b∧(A.fdiv b).fmod 2=1) then A.fdiv b+1 else A.fdiv b:=by unfold rK v7;rw [hA,hmod]
  refine LE.xH .Or ev (by kernel_rfl) fun P' hP'=>hP' _ _ (aA.mk (fun h=>?_) fun h=>?_)
  ·exact ⟨_,rfl,rfl,by rw [if_pos h,hN,if_pos (.inl (of_decide_eq_true h))]⟩
  have h:=of_decide_eq_false h
  refine LE.xH .And ev (by kernel_rfl) fun P' hP'=>hP' _ _ (aA.mk (fun h2=>?_) fun h2=>?_)
  ·refine LE.go ev fun P3 hP3=>?_
   refine And.intro (by decide) ?_
   refine hP3 _ _ ⟨_,rfl,rfl,?_⟩
   by_cases h3:(A.fdiv b).fmod 2=1
   ·rw [if_pos (beq_iff_eq.mpr h3),hN,if_pos (.inr ⟨eq_of_beq h2,h3⟩)]
   ·rw [if_neg (fun e=>h3 (eq_of_beq e)),Int.add_zero,hN,if_neg (fun e=>e.elim h fun e=>h3 e.2)] at ⊢
  ·refine ⟨_,rfl,rfl,?_⟩
   rw [if_neg (by rw [h2];decide),Int.add_zero,hN,if_neg (fun e=>e.elim h fun e=>(beq_eq_false_iff_ne.mp h2) e.1)] at ⊢
 rintro c l' ⟨c',rfl,rfl,hc⟩
 refine LN.xw ?_
 conv=>whnf
 rw [hc]
 refine And.intro ⟨by omega,np _⟩ ?_
 refine LN.j5 (Nat.lt_of_lt_of_le (show ((rK top b fac mr).fdiv (10 ^ mr)).natAbs < 2 ^ 100 by omega) big) ?_
 refine And.intro (by omega) ?_
 refine LN.j5 (Nat.lt_of_lt_of_le (show ((rK top b fac mr).fmod (10 ^ mr)+10 ^ mr).natAbs < 2 ^ 100 by omega) big) ?_
 refine bX.str (some 1) none (Nat.le_trans h11 (by decide)) ?_
 refine And.intro nc.is fun o w is hw=>?_
 have hp:(qw top b fac mr).length≤50:=Nat.le_trans (Txt.slice_le _ _ _) h11
 have le1:l.le (l'.set pc o):=fun x o' e=>(if_neg (Led.ne e nc.fresh)).trans (nc.le _ _ e)
 have cell:∀ {l2:Led},(l'.set pc o).le l2→ae l2 pc (.str (qw top b fac mr)):=fun le=>⟨o,w,le _ _ Led.hit,hw,is⟩
 refine LN.ag (aj rfl) fun L l2 m2=>?_
 refine LE.wu (fi2:={ns:=nm ["at"],gi:=[],fr:=nm ["parts"]}) 1 mr (fun as i ys l3=>as=[]∧l2.le l3∧ys=(((List.range i).filter fun (i:Nat)=>!(Txt.item (qw top b fac mr) (i:Int)==Str.ofString "0")).map fun (i:Nat)=>CV.int ((i:Int)+1))) (Nat.le_trans h7 (by decide)) ev (by kernel_rfl) (by decide) rfl (fun P' hP'=>?_) ?_ ?_
 ·refine LN.jf fun a l3 m3=>?_
  exact hP' a l3 m3.is ⟨rfl,m3.le,rfl⟩
 ·rintro d2 as P2 Q2 i ys l3 hw2 hi ⟨rfl,le,rfl⟩ hy nx sk
  refine CK.mk _ (cell (m2.le.trans le)) ?_
  refine LN.gH (Nat.le_trans hp (by decide)) (by omega) (by omega) ?_
  refine aA.mk (fun h=>?_) fun h=>?_
  ·refine nx _ _ l3 ⟨rfl,le,?_⟩
   rw [List.range_succ,List.filter_append,List.filter_cons_of_pos (by simpa using h),List.map_append];rfl
  ·refine sk _ l3 ⟨rfl,le,?_⟩
   rw [List.range_succ,List.filter_append,List.filter_cons_of_neg (by simpa using h),List.filter_nil,List.append_nil]
 ·rintro as D ys l3 l4 ⟨rfl,le,rfl⟩ hy m4
  refine LN.vb (m4.keep (m2.is.le le)) m4.is (by show 1+_≤1000;omega) fun D2 l5 m5=>?_
  have hL:HL l5 D2 ((oB (qw top b fac mr) least mr).map .int):=by
   unfold oB
   rw [List.map_cons,List.map_map];exact m5.is
  refine LN.xm hL hM1 hM2 ?_
  have le5:(l'.set pc o).le l5:=((m2.le.trans le).trans m4.le).trans m5.le
  have sz:∀ {u v:Str},u.length≤500→v.length≤500→u.length+v.length≤sizeLine:=fun h1 h2=>by rw [PySem.sizeLine_eq];omega
  unfold xk at k
  refine aA.mk (fun h=>?_) fun h=>?_
  ·refine CK.mk _ (cell le5) ?_
   rw [if_pos (of_decide_eq_true h)] at k
   refine bX.str none (some M) (Nat.le_trans hp (by decide)) ?_
   have hs:(Txt.slice (qw top b fac mr) none (some M)).length≤50:=Nat.le_trans (Txt.slice_le _ _ _) hp
   refine And.intro (sz (by decide) (Nat.le_trans hs (by decide))) ?_
   refine And.intro (sz (Nat.le_trans h10 (by decide)) (by rw [Str.length_append];exact Nat.add_le_add (show _≤100 by decide) (Nat.le_trans hs (by decide:50≤400)))) ?_
   exact hP _ _ _ _ k (le1.trans le5)
  ·rw [if_neg (of_decide_eq_false h)] at k
   refine And.intro (sz (Nat.le_trans h10 (by decide)) (by decide)) ?_
   exact hP _ _ _ _ k (le1.trans le5)
end
end
section
noncomputable abbrev lR:Str:=Str.ofString "0%"
noncomputable abbrev w8:Str:=Str.ofString "a0b"
noncomputable abbrev qr:Str:=Str.ofString "0;(0)"
noncomputable def ij(x told:Str):Str:=if (x==lR)=true then told++Str.ofString "%" else told
noncomputable def oY(x told:Str):Str:=if (x==w8)=true then Str.ofString "a"++told++Str.ofString "b" else told
noncomputable def q9(x:Str)(top:Int)(told:Str):Str:=if (x==qr)=true∧top < 0 then Str.ofString ""++(Str.ofString "("++told++Str.ofString ")") else (if top < 0 then Str.ofString "-" else Str.ofString "")++told
set_option backward.match.sparseCases false in
noncomputable def uX(x:Str)(a b:Int):Option Str :=
 if 0 < b∧x.length≤100 then (match Txt.split x (Str.ofString ";") with
  | [x0]=>if eR x0 then (if 0≤a then (bH x0 a b).map fun t=>Str.ofString ""++jR x0++t++gk x0 else (bH x0 (-a) b).map fun t=>Str.ofString "-"++jR x0++t++gk x0) else none
  | [x0,x1]=>if eR x0 then (if 0≤a then (bH x0 a b).map fun t=>Str.ofString ""++jR x0++t++gk x0 else if eR x1 then (bH x0 (-a) b).map fun t=>Str.ofString ""++jR x1++t++gk x1 else none) else none
  | _=>none) else none
set_option tactic.hygienic true in
theorem tB{x y:Str}{a b:Int}(h:uX x a b=some y):mI x a b y:=by
 unfold uX at h
 split at h
 ·rename_i h0
  split at h
  ·rename_i x0 hs
   split at h
   ·rename_i h1
    split at h
    ·rename_i h2
     obtain (⟨t,ht,rfl⟩):=Option.map_eq_some_iff.mp h
     exact .pos h2 h0.1 h0.2 hs (by decide) h1 ht
    ·rename_i h2
     obtain (⟨t,ht,rfl⟩):=Option.map_eq_some_iff.mp h
     exact .vM (Int.not_le.mp h2) h0.1 h0.2 hs h1 ht
   ·cases h
  ·rename_i x0 x1 hs
   split at h
   ·rename_i h1
    split at h
    ·rename_i h2
     obtain ⟨t,ht,rfl⟩:=Option.map_eq_some_iff.mp h
     exact .pos h2 h0.1 h0.2 hs (by exact Nat.le_refl 1) h1 ht
    ·rename_i h2
     split at h
     ·rename_i h3
      obtain (⟨t,ht,rfl⟩):=Option.map_eq_some_iff.mp h
      exact .vL (Int.not_le.mp h2) h0.1 h0.2 hs h1 h3 ht
     ·cases h
   ·cases h
  ·cases h
 ·cases h
noncomputable def sE:List (Str × Int × Nat × Int):=[(Str.ofString "0",0,0,1),(Str.ofString "0.0",1,1,1),(Str.ofString "0.0#",1,2,1),(Str.ofString "0.##",0,2,1),(lR,0,0,100),(w8,0,0,1),(qr,0,0,1)]
noncomputable def nums:List (Int × Int):=[(5,2),(-7,2),(1,8),(1,1),(1999,1),(-9,200),(-3,1)]
noncomputable def qA(ks:List Int)(m:Int):Int:=ks.foldl (fun a b=>if a < b then b else a) m
theorem sH:∀ (ks:List Int) (m:Int),qA ks m∈m::ks∧∀ a∈m::ks,a≤qA ks m:=by
 intro ks
 induction ks with
 | nil=>intro m;exact ⟨.head _,fun a h=>by rw [List.mem_singleton.mp h];exact Int.le_refl _⟩
 | cons k ks ih =>
  intro m
  show qA ks (if m < k then k else m)∈_∧∀ a∈_,a≤qA ks (if m < k then k else m)
  obtain (⟨h1,h2⟩):=ih (if m < k then k else m)
  have h0:=h2 _ (.head _)
  refine ⟨?_,fun a ha=>?_⟩
  ·rcases List.mem_cons.mp h1 with h | h
   ·rw [h];split
    ·exact .tail _ (.head _)
    ·exact .head _
   ·exact .tail _ (.tail _ h)
  ·rcases List.mem_cons.mp ha with rfl | ha
   ·exact Int.le_trans (by split<;>omega) h0
   ·rcases List.mem_cons.mp ha with rfl | ha
    ·exact Int.le_trans (by split<;>omega) h0
    ·exact h2 a (.tail _ ha)
noncomputable def vG(v:Int × Int)(p:Str × Int × Nat × Int):Int:=qA (oB (qw v.1 v.2 p.2.2.2 p.2.2.1) p.2.1 p.2.2.1).tail p.2.1
noncomputable def kg(v:Int × Int)(p:Str × Int × Nat × Int):Str:=xk v.1 v.2 p.2.2.2 p.2.2.1 (vG v p)
noncomputable def ig(v:Int × Int)(p:Str × Int × Nat × Int):Str:=q9 p.1 v.1 (oY p.1 (ij p.1 (kg v p)))
noncomputable def xj(v:Int × Int)(p:Str × Int × Nat × Int):Bool:=vJ v.1 v.2 p.2.1 p.2.2.2 p.2.2.1&&(uX p.1 v.1 v.2==some (ig v p))&&decide ((kg v p).length≤100)
theorem sD:∀ v∈nums,∀ p∈sE,xj v p=true:=by decide +kernel
end
section
inductive lg(l:Led)(c:CV):Prop
 | mk (z:Addr) (v:CV) (p:Int × Int) (e:c=.v (.ref z)) (h:HT l z [v,.int p.1,.int p.2]) (n:dI l v p.1 p.2) (m:p∈nums):lg l c
theorem dI.of{l l':Led}{v:CV}{p q:Int}(h:dI l v p q)(k:∀ a cs,HT l a cs→HT l' a cs):dI l' v p q:=by
 induction h with
 | tup h=>exact .tup (k _ _ h)
 | t=>exact .t
 | s h1 h2=>exact .s h1 h2
theorem dI.le{l l':Led}{v:CV}{p q:Int}(h:dI l v p q)(le:l.le l'):dI l' v p q:=h.of fun O O t=>t.le le
theorem vq{l:Led}{x:Str}{p q:Int}(hz:x.length≤100)(h:(je (bS x)&&decide (iF (bS x)=p)&&decide (mX (bS x)=q))=true):dI l (.str x) p q:=by
 simp only [Bool.and_eq_true,decide_eq_true_eq] at h
 obtain (⟨⟨h1,rfl⟩,rfl⟩):=h
 exact .s hz h1
section
variable {d:Dy}{r:Nat}{l:Led}{K:CV→Led→Prop}
theorem lg.le{l l':Led}{c:CV}(h:lg l c)(le:l.le l'):lg l' c:=by
 induction h with | mk z v p e h n m=>exact ⟨z,v,p,e,h.le le,n.le le,m⟩
structure dJ(l0 l:Led)(cs:List CV):Prop where
 le:l0.le l
 all:∀ c∈cs,lg l c
theorem dJ.rL{l0 l l':Led}{cs:List CV}(B:dJ l0 l cs)(e:l.le l'):dJ l0 l' cs:=⟨B.le.trans e,fun c hc=>(B.all c hc).le e⟩
theorem dJ.c{l0:Led}{cs:List CV}{v:CV}{a b:Int}(B:dJ l0 l cs)(hV:dI l v a b)(hp:(a,b)∈nums)(k:∀ z l2,dJ l0 l2 (cs++[.v (.ref z)])→K (.v (.ref z)) l2):LN d r newTuple [v,.int a,.int b] K l :=
 LN.au (aj rfl) fun z l2 m=>k z l2 ⟨B.le.trans m.le,fN (B.rL m.le).all (aC ⟨z,v,(a,b),rfl,m.is,hV.le m.le,hp⟩ dD)⟩
theorem dJ.t{l0:Led}{cs:List CV}{a b:Int}(B:dJ l0 l cs)(hp:(a,b)∈nums)(k:∀ z l2,dJ l0 l2 (cs++[.v (.ref z)])→K (.v (.ref z)) l2):LN d r newTuple [.int a,.int b] (fun c l=>LN d r newTuple [c,.int a,.int b] K l) l :=
 LN.au (aj rfl) fun z l2 m=>(B.rL m.le).c (.tup m.is) hp k
inductive uf(l:Led)(c:CV):Prop
 | mk (z:Addr) (p:Str × Int × Nat × Int) (e:c=.v (.ref z)) (h:HT l z [.str p.1,.int p.2.1,.int (p.2.2.1:Int),.int p.2.2.2]) (m:p∈sE):uf l c
structure fq(l0 l:Led)(cs:List CV):Prop where
 le:l0.le l
 all:∀ c∈cs,uf l c
theorem fq.rL{l0 l l':Led}{cs:List CV}(B:fq l0 l cs)(e:l.le l'):fq l0 l' cs:=⟨B.le.trans e,fun c hc=>by cases B.all c hc with | mk z p e1 h m=>exact ⟨z,p,e1,h.le e,m⟩⟩
theorem fq.c{l0:Led}{cs:List CV}{p:Str × Int × Nat × Int}(B:fq l0 l cs)(hp:p∈sE)(k:∀ z l2,fq l0 l2 (cs++[.v (.ref z)])→K (.v (.ref z)) l2):LN d r newTuple [.str p.1,.int p.2.1,.int (p.2.2.1:Int),.int p.2.2.2] K l :=
 LN.au (aj rfl) fun z l2 m=>k z l2 ⟨B.le.trans m.le,fN (B.rL m.le).all (aC ⟨z,p,rfl,m.is,hp⟩ dD)⟩
theorem lQ{src:Addr}(hs:Src l src)(k:∀ b v x due l' p q,HL l' b [v,.str x,.str due]→dI l' v p q→mI x p q due→Src l' src→aE l src l'→K (.v (.ref b)) l'):Cl d (r+4) (.ref 683) [.v (.ref src)] K l:=by
 refine Cl.def {ns:=nm ["source", "value", "top", "bottom", "picture", "least", "most", "factor", "told", "sign"],gi:=[42,48]} (nm ["source"]) 800 rfl rfl (by kernel_rfl) (fun O=>rfl) fun d' P sb hP ev=>?_
 have rest:∀ {v:CV} {v1:Int × Int} {p:Str × Int × Nat × Int} {l2:Led} (f:Nat),v1∈nums→p∈sE→dI l2 v v1.1 v1.2→Src l2 src→aE l src l2→go (fi:={ns:=nm ["source", "value", "top", "bottom", "picture", "least", "most", "factor", "told", "sign"],gi:=[42,48]}) (r:=r+3) ⟨d',[],P,fun O O=>False⟩ (f+300) (.s (.f (st 67)) 2 .nil) (.c (.v (.ref src)) (.c v (.c (.int v1.1) (.c (.int v1.2) (.c (.str p.1) (.c (.int p.2.1) (.c (.int (p.2.2.1:Int)) (.c (.int p.2.2.2) .nil)))))))) l2:=by
  intro v v1 p l2 f hv hp hV hs2 kp
  refine t9 (sD v1 hv p hp) id eq_of_beq of_decide_eq_true fun h1 h2 h3=>?_
  have hM:=sH (oB (qw v1.1 v1.2 p.2.2.2 p.2.2.1) p.2.1 p.2.2.1).tail p.2.1
  refine gu (M:=vG v1 p) h1 hM.1 hM.2 ?_
  have sz:∀ {u v:Str},u.length≤500→v.length≤500→u.length+v.length≤sizeLine:=fun h1 h2=>by rw [PySem.sizeLine_eq];omega
  have lz:∀ {u v:Str} {n m:Nat},u.length≤n→v.length≤m→(u++v).length≤n+m:=fun h1 h2=>by rw [Str.length_append];exact Nat.add_le_add h1 h2
  have t1:(ij p.1 (kg v1 p)).length≤110:=by
   unfold ij;split
   ·exact lz (m:=10) h3 (by decide)
   ·exact Nat.le_trans h3 (by decide)
  have t2:(oY p.1 (ij p.1 (kg v1 p))).length≤130:=by
   unfold oY;split
   ·exact lz (m:=10) (lz (n:=10) (by decide) t1) (by decide)
   ·exact Nat.le_trans t1 (by decide)
  have fin:∀ (f:Nat) (told sign:Str),told.length≤300→sign.length≤10→sign++told=ig v1 p→go (fi:={ns:=nm ["source", "value", "top", "bottom", "picture", "least", "most", "factor", "told", "sign"],gi:=[42,48]}) (r:=r+3) ⟨d',[],P,fun O O=>False⟩ (f+20) (.s (.f (st 67)) 7 .nil) (.c (.v (.ref src)) (.c v (.c (.int v1.1) (.c (.int v1.2) (.c (.str p.1) (.c (.int p.2.1) (.c (.int (p.2.2.1:Int)) (.c (.int p.2.2.2) (.c (.str told) (.c (.str sign) .nil)))))))))) l2:=by
   intro f told sign z1 z2 e
   refine And.intro (sz (Nat.le_trans z2 (by decide)) (Nat.le_trans z1 (by decide))) ?_
   refine LN.ag (aj rfl) fun b l3 m3=>?_
   have is:=m3.is
   rw [e] at is
   exact hP _ _ _ _ (k b v p.1 (ig v1 p) l3 v1.1 v1.2 is (hV.le m3.le) (tB h2) (hs2.of fun o=>m3.le _ o) fun b o n e=>m3.le _ _ (kp b o n e)) .rfl
  have six:∀ (f:Nat) (told sign:Str),told.length≤200→sign.length≤10→sign=(if v1.1 < 0 then Str.ofString "-" else Str.ofString "")→q9 p.1 v1.1 told=ig v1 p→go (fi:={ns:=nm ["source", "value", "top", "bottom", "picture", "least", "most", "factor", "told", "sign"],gi:=[42,48]}) (r:=r+3) ⟨d',[],P,fun O O=>False⟩ (f+70) (.s (.f (st 67)) 6 .nil) (.c (.v (.ref src)) (.c v (.c (.int v1.1) (.c (.int v1.2) (.c (.str p.1) (.c (.int p.2.1) (.c (.int (p.2.2.1:Int)) (.c (.int p.2.2.2) (.c (.str told) (.c (.str sign) .nil)))))))))) l2:=by
   intro f told sign z1 z2 es e
   have no:¬ ((p.1==qr)=true∧v1.1 < 0)→sign++told=ig v1 p:=fun h=>by rw [← e,es];unfold q9;rw [if_neg h]
   refine aA.mk (fun h=>?_) fun h=>?_
   ·refine aA.mk (fun h2=>?_) fun h2=>?_
    ·refine And.intro (sz (by decide) (Nat.le_trans z1 (by decide))) ?_
     refine And.intro (sz (Nat.le_trans (lz (n:=10) (by decide) z1) (by decide)) (by decide)) ?_
     have q:=fin (f+16) (Str.ofString "("++told++Str.ofString ")") (Str.ofString "") (Nat.le_trans (lz (m:=10) (lz (n:=10) (by decide) z1) (by decide)) (by decide)) (by decide) (by rw [← e];unfold q9;rw [if_pos ⟨h,of_decide_eq_true h2⟩])
     conv at q=>whnf
     conv=>whnf
     exact q
    ·have q:=fin (f+33) told sign (Nat.le_trans z1 (by decide)) z2 (no fun q=>(of_decide_eq_false h2) q.2)
     conv at q=>whnf
     conv=>whnf
     exact q
   ·have q:=fin (f+40) told sign (Nat.le_trans z1 (by decide)) z2 (no fun q=>by rw [show (p.1==qr)=false from h] at q;cases q.1)
    conv at q=>whnf
    conv=>whnf
    exact q
  have five:∀ (f:Nat) (told sign:Str),told.length≤110→sign.length≤10→sign=(if v1.1 < 0 then Str.ofString "-" else Str.ofString "")→q9 p.1 v1.1 (oY p.1 told)=ig v1 p→go (fi:={ns:=nm ["source", "value", "top", "bottom", "picture", "least", "most", "factor", "told", "sign"],gi:=[42,48]}) (r:=r+3) ⟨d',[],P,fun O O=>False⟩ (f+130) (.s (.f (st 67)) 5 .nil) (.c (.v (.ref src)) (.c v (.c (.int v1.1) (.c (.int v1.2) (.c (.str p.1) (.c (.int p.2.1) (.c (.int (p.2.2.1:Int)) (.c (.int p.2.2.2) (.c (.str told) (.c (.str sign) .nil)))))))))) l2:=by
   intro f told sign z1 z2 es e
   refine aA.mk (fun h=>?_) fun h=>?_
   ·refine And.intro (sz (by decide) (Nat.le_trans z1 (by decide))) ?_
    refine And.intro (sz (Nat.le_trans (lz (n:=10) (by decide) z1) (by decide)) (by decide)) ?_
    have q:=six (f+41) (Str.ofString "a"++told++Str.ofString "b") sign (Nat.le_trans (lz (m:=10) (lz (n:=10) (by decide) z1) (by decide)) (by decide)) z2 es (by rw [← e];unfold oY;rw [if_pos h])
    conv at q=>whnf
    conv=>whnf
    exact q
   ·have q:=six (f+52) told sign (Nat.le_trans z1 (by decide)) z2 es (by rw [← e];unfold oY;rw [if_neg (by rw [show (p.1==w8)=false from h];decide)])
    conv at q=>whnf
    conv=>whnf
    exact q
  by_cases ht:v1.1 < 0
  ·refine .t' (decide_eq_true ht) ?_
   refine aA.mk (fun h=>?_) fun h=>?_
   ·refine And.intro (sz (Nat.le_trans h3 (by decide)) (by decide)) ?_
    have q:=five (f+126) (kg v1 p++Str.ofString "%") (Str.ofString "-") (by unfold ij at t1;rw [if_pos h] at t1;exact t1) (by decide) (by rw [if_pos ht]) (by unfold ig ij;rw [if_pos h])
    conv at q=>whnf
    conv=>whnf
    exact q
   ·have h':¬ (p.1==lR)=true:=by rw [show (p.1==lR)=false from h];decide
    have q:=five (f+133) (kg v1 p) (Str.ofString "-") (Nat.le_trans h3 (by decide)) (by decide) (by rw [if_pos ht]) (by unfold ig ij;rw [if_neg h'])
    conv at q=>whnf
    conv=>whnf
    exact q
  ·refine .f' (decide_eq_false ht) ?_
   refine aA.mk (fun h=>?_) fun h=>?_
   ·refine And.intro (sz (Nat.le_trans h3 (by decide)) (by decide)) ?_
    have q:=five (f+126) (kg v1 p++Str.ofString "%") (Str.ofString "") (by unfold ij at t1;rw [if_pos h] at t1;exact t1) (by decide) (by rw [if_neg ht]) (by unfold ig ij;rw [if_pos h])
    conv at q=>whnf
    conv=>whnf
    exact q
   ·have h':¬ (p.1==lR)=true:=by rw [show (p.1==lR)=false from h];decide
    have q:=five (f+133) (kg v1 p) (Str.ofString "") (Nat.le_trans h3 (by decide)) (by decide) (by rw [if_neg ht]) (by unfold ig ij;rw [if_neg h'])
    conv at q=>whnf
    conv=>whnf
    exact q
 refine dJ.t (l0:=l) ⟨.rfl,dD⟩ (a:=5) (b:=2) (by decide) fun z0 a1 B1=>?_
 refine dJ.t B1 (a:=-7) (b:=2) (by decide) fun z1 a2 B2=>?_
 refine dJ.c B2 (a:=1) (b:=8) (vq (by decide +kernel) (by decide +kernel)) (by decide) fun z2 a3 B3=>?_
 refine dJ.c B3 (a:=1) (b:=1) .t (by decide) fun z3 a4 B4=>?_
 refine dJ.t B4 (a:=1999) (b:=1) (by decide) fun z4 a5 B5=>?_
 refine dJ.c B5 (a:=-9) (b:=200) (vq (by decide +kernel) (by decide +kernel)) (by decide) fun z5 a6 B6=>?_
 refine dJ.t B6 (a:=-3) (b:=1) (by decide) fun z6 a7 B7=>?_
 refine LN.ag (aj rfl) fun L a12 n12=>?_
 have B:=B7.rL n12.le
 have e1:=B.le
 have s1:Src a12 src:=hs.of fun o=>e1 _ o
 have nL:L≠src:=fun q=>hs.held (B7.le.none (q▸n12.fresh))
 refine eV s1 n12.is (aj rfl) (aj rfl) nL fun i c l1 hi dr=>?_
 obtain (⟨z,v,v1,rfl,hz,hV,hv⟩):=B.all c (List.mem_of_getElem? hi)
 have tr:∀ {a:Addr} {cs:List CV},HT a12 a cs→HT l1 a cs:=fun h=>h.but dr.other (s1.nt h)
 refine bh.of (tr hz) rfl ?_
 have kp1:aE l src l1:=fun b o n e=>(dr.other b n).trans (e1 _ _ e)
 refine fq.c (l0:=l1) ⟨.rfl,dD⟩ (p:=(Str.ofString "0",0,0,1)) (.head _) fun y0 b1 C1=>?_
 refine fq.c C1 (p:=(Str.ofString "0.0",1,1,1)) (.tail _ (.head _)) fun y1 b2 C2=>?_
 refine fq.c C2 (p:=(Str.ofString "0.0#",1,2,1)) (.tail _ (.tail _ (.head _))) fun y2 b3 C3=>?_
 refine fq.c C3 (p:=(Str.ofString "0.##",0,2,1)) (.tail _ (.tail _ (.tail _ (.head _)))) fun y3 b4 C4=>?_
 refine fq.c C4 (p:=(lR,0,0,100)) (.tail _ (.tail _ (.tail _ (.tail _ (.head _))))) fun y4 b5 C5=>?_
 refine fq.c C5 (p:=(w8,0,0,1)) (.tail _ (.tail _ (.tail _ (.tail _ (.tail _ (.head _)))))) fun y5 b6 C6=>?_
 refine fq.c C6 (p:=(qr,0,0,1)) (.tail _ (.tail _ (.tail _ (.tail _ (.tail _ (.tail _ (.head _))))))) fun y6 b7 C7=>?_
 refine LN.ag (aj rfl) fun M b8 o8=>?_
 have C:=C7.rL o8.le
 have e2:=C.le
 have s2:Src b8 src:=dr.src.of fun o=>e2 _ o
 have nM:M≠src:=fun q=>dr.src.held (C7.le.none (q▸o8.fresh))
 refine eV s2 o8.is (aj rfl) (aj rfl) nM fun i2 c2 l2 hi2 dr2=>?_
 obtain (⟨z2,p,rfl,hz2,hp⟩):=C.all c2 (List.mem_of_getElem? hi2)
 refine bh.of (hz2.but dr2.other (s2.nt hz2)) rfl ?_
 have kp2:aE l src l2:=fun b o n e=>(dr2.other b n).trans (e2 _ _ (kp1 b o n e))
 exact rest _ hv hp (((hV.of fun a cs h=>tr h).le e2).of fun a cs h=>h.but dr2.other (s2.nt h)) dr2.src kp2
end
end
section
noncomputable def iC(es:List Nat)(ts:List Str)(e:Nat):Str:=toldOf (ts.drop (es.idxOf e))
theorem qj:∀ {es:List Nat} {ts:List Str},es.Nodup→rws es ts=es.map fun e=>(e,iC es ts e)
 | [],_,_=>rfl
 | e::es,ts,h=>by
  have h2:=List.nodup_cons.mp h
  show (e,toldOf ts)::rws es ts.tail=_
  rw [qj h2.2,List.map_cons]
  refine congr (congrArg _ ?_) (List.map_congr_left fun x hx=>?_)
  ·unfold iC;rw [List.idxOf_cons_self];rfl
  ·unfold iC
   rw [List.idxOf_cons,show (e==x)=false from beq_eq_false_iff_ne.mpr fun q=>h2.1 (q▸hx),cond_false]
   induction ts with
   | nil=>show (x,toldOf (List.drop _ []))=(x,toldOf (List.drop _ []));rw [List.drop_nil,List.drop_nil]
   | cons _ _=>rfl
theorem bZ{es:List Nat}{ts:List Str}:(rws es ts).map (·.1)=es:=by
 induction es generalizing ts with
 | nil=>rfl
 | cons e es ih=>show e::_=_;rw [ih]
theorem lH{es ns:List Nat}(h:ns.Sublist es)(hn:es.Nodup):es.filter (fun e=>decide (e∈ns))=ns:=by
 induction h with
 | slnil=>rfl
 | @cons l1 l2 a h ih =>
  have h2:=List.nodup_cons.mp hn
  rw [List.filter_cons,if_neg (by simp;exact fun q=>h2.1 (h.subset q))]
  exact ih h2.2
 | @cons_cons l1 l2 a h ih =>
  have h2:=List.nodup_cons.mp hn
  rw [List.filter_cons,if_pos (by simp)]
  congr 1
  rw [← ih h2.2]
  refine List.filter_congr fun x hx=>?_
  have hxa:x≠a:=fun q=>h2.1 (q▸hx)
  rw [ih h2.2]
  simp [hxa]
theorem sr{es sel:List Nat}{ts:List Str}(hn:es.Nodup)(h:sel.Sublist es):((rws es ts).filter fun p=>decide (p.1∈sel)).map (·.2)=sel.map (iC es ts):=by
 rw [qj hn,List.filter_map,List.map_map]
 show (es.filter fun e=>decide (e∈sel)).map _=_
 rw [lH h hn];rfl
theorem Built.node{D:List ah}{es:List Nat}{ts:List Str}(h:Built D es ts)(h5:es.length≤5){e:Nat}(he:e∈es):nO D e (iC es ts e):=by
 have hi:es[es.idxOf e]?=some e:=by rw [List.getElem?_eq_getElem (List.idxOf_lt_length_iff.mpr he),List.getElem_idxOf]
 obtain ⟨d,out,a,b,c,e1,e2⟩:=h.down hi
 exact ⟨d,out,a,b,c,by omega,by rw [e1,oM,jY];rfl⟩
theorem dP.c{l:Led}{D:List ah}{es:List Nat}{ts:List Str}{v:CV}{T:List Str}(h:dP l (rws es ts) v T)(hB:Built D es ts)(h5:es.length≤5):dQ l D v T∧T.length≤5:=by
 induction h with
 | str x h=>exact ⟨.str x,Nat.le_of_ble_eq_true rfl⟩
 | t=>exact ⟨.t,by decide⟩
 | num h n=>exact ⟨.num h n,Nat.le_of_ble_eq_true rfl⟩
 | set sel h s =>
  rw [bZ] at s
  rw [sr hB.nodup s]
  have hl:=s.length_le
  exact ⟨.set (iC es ts) h (by omega) fun n hn=>hB.node h5 (s.subset hn),by rw [List.length_map];omega⟩
theorem Tree.kz{l:Led}{av:List Addr}{t:Addr}{D:List ah}(h:Tree l av t D):∀ de∈D,de.kids.length≤900:=fun de hd=>by
 obtain (⟨rl,rs,cs,h⟩):=h
 obtain (⟨i,hi⟩):=List.getElem?_of_mem hd
 have hl:=(List.getElem?_eq_some_iff.mp hi).1
 obtain (⟨ra,hr⟩):=aa (l:=rs) (i:=i) (by rw [h.n1];exact hl)
 obtain (⟨ca,hc⟩):=aa (l:=cs) (i:=i) (by rw [h.n2];exact hl)
 exact Nat.le_of_lt (h.row i de ra ca hi hr hc).kz
theorem jg{es:List Nat}{T:List Str}{ps:List (Str × Nat)}:picked es (T.flatMap (cB ps))=es.filter fun e=>ps.any fun p=>decide (p.2=e)&&decide (p.1∈T):=by
 unfold picked
 refine List.filter_congr fun e O=>?_
 rw [Bool.eq_iff_iff,decide_eq_true_iff,List.any_eq_true,List.mem_flatMap]
 constructor
 ·rintro ⟨x,hx,h⟩
  exact ⟨(x,e),gp.mp h,by simp [hx]⟩
 ·rintro ⟨⟨x,e'⟩,h,q⟩
  simp only [Bool.and_eq_true,decide_eq_true_eq] at q
  obtain (⟨rfl,hx⟩):=q
  exact ⟨x,hx,gp.mpr h⟩
end
section
structure Th where
 av:List Addr
 src:Addr
 al:Addr
 P:Addr
 t:Addr
 c:Addr
 cd:Addr
 f:Addr
 io:Addr
 ix:Addr
 dx:Addr
 oF:Addr
 d1:Addr
 d2:Addr
 ra:Addr
 fd:Addr
 a1:Addr
 a2:Addr
 nd:Nat
 cu:Nat
 D:List ah
 es:List Nat
 ts:List Str
 tp:List Addr
 p1:List (Str × Nat)
 p2:List (Str × Nat)
structure pq(w:World)(base:Heap)(l:Led)(x:Th):Prop where
 B:Built x.D x.es x.ts
 h0:0 < x.es.length
 h5:x.es.length≤5
 nd:x.nd∈x.es
 T:Tree l x.av x.t x.D
 C:Ctx l x.av x.c x.t x.nd x.cu x.cd
 R:ba l x.ra (rws x.es x.ts) x.tp
 F:Hs l x.fd (fw w [(Str.ofString "k",.ref x.a1),(Str.ofString "m",.ref x.a2)])
 P1:ll l x.es x.a1 x.p1
 P2:ll l x.es x.a2 x.p2
 I:KN w l x.ix x.dx x.oF [(Str.ofString "k",.ref x.d1),(Str.ofString "m",.ref x.d2)]
 K1:rS w l x.d1 (cB x.p1)
 K2:rS w l x.d2 (cB x.p2)
 cd:Hs l x.cd (fw w (dT x.f))
 yj:(x.cd==sysModules)=false
 kf:bK l x.f x.P x.io
 io:∃ o fd,l x.io=some o∧o.data=.func fd
 run:∀ (d':Dy) (r':Nat) (K':CV→Led→Prop) (l':Led) (asked:List CV),d'.w=w→d'.base=base→l.le l'→HL l' x.al asked→asked.length≤900→(∀ l'',Up l' x.al (ai (asked++[.int x.nd])) l''→K' (.v (.ref x.ix)) l'')→Cl d' (r'+1) (.ref x.io) [.v (.ref x.c)] K' l'
 C0:CodeHd base 294 292
 z1:l x.src=none
 z2:l x.al=none
 z3:l x.P=none
 z4:l 292=none
 n1:x.al≠x.src
 n2:x.al≠x.P
 n3:x.al≠292
 n4:x.P≠292
 n5:x.src≠x.P
 n6:x.src≠292
structure iU(l0 l:Led)(x:Th)(asked:List CV):Prop where
 le:l0.le l
 s:Src l x.src
 a:HL l x.al asked
 tk:Tab l x.P aZ aN
 t2:Tab l 292 aS aG
theorem Src.code{l:Led}{s:Addr}(h:Src l s):bk l s:=fun o vs q t e hd O=>by
 obtain (⟨x,y,tx,ty,n,e2,_⟩):=h
 rw [e] at e2;cases e2;cases hd
theorem iU.draw{w:World}{base:Heap}{l0 l l':Led}{x:Th}{asked:List CV}(S:pq w base l0 x)(h:iU l0 l x asked)(k:aE l x.src l')(s:Src l' x.src):iU l0 l' x asked :=
 ⟨fun b o e=>k _ _ (Led.ne e S.z1) (h.le _ _ e),s,h.a.kp k S.n1,h.tk.kp k h.s.code S.n5.symm,h.t2.kp k h.s.code S.n6.symm⟩
theorem iU.more{l0 l l':Led}{x:Th}{asked:List CV}(h:iU l0 l x asked)(le:l.le l'):iU l0 l' x asked:=⟨h.le.trans le,h.s.of fun o=>le _ o,h.a.le le,h.tk.le le,h.t2.le le⟩
section
variable {d:Dy}{r:Nat}{l0 l:Led}{x:Th}{asked:List CV}{K:CV→Led→Prop}
set_option tactic.hygienic true in
theorem LN.jo{o i:Ex}{a:Addr}{cs:List CV}{c:CV}(hm:HL l a (cs++[c]))(hz:cs.length≤1000)(h:K c l)(hi:isSlice i=false:=by rfl):LN d r (fH o i) [.v (.ref a),.int (-1)] K l:=by
 obtain ⟨ob,e,vs,n,rfl,hv⟩:=hm
 obtain ⟨v,hx',is⟩:=hv.get (i:=cs.length) (by rw [List.getElem?_append_right (Nat.le_refl _),Nat.sub_self];rfl)
 refine ⟨fun us m hu=>?_⟩
 refine ar.dg hu fun x u hx1 hx2=>?_
 cases hx1;cases hx2;rename_i u
 have hs:subscripted i false (.ref a) (.int (-1) u)=operate [.ref a,.int (-1) u] (getItem (.ref a) (.int (-1) u)):=by cases i<;>first | rfl | cases hi
 have hl:=hv.len
 rw [List.length_append,List.length_singleton] at hl
 have hz2:(List.toArray vs).size=cs.length+1:=by rw [List.size_toArray];exact hl
 exact .quiet fun A E g s Q nn kk=>tail_any (Heap.IsList.typeIs ⟨_,nn.a.get e,rfl,_,rfl⟩) slot_list_getitem.lookup (wpAny_getItem_list_neg (items:=vs.toArray) ⟨_,nn.a.get e,rfl,_,rfl⟩ (by decide) (by rw [hz2];omega) (by decide) (by rw [hz2,show (-1+((cs.length+1:Nat):Int)).toNat=cs.length by omega];simpa using hx') (kk v s.toks ⟨_,.refl _,is,h⟩)) hs
end
end
section
inductive yF(a0:Addr)(l':Led)(f:Nat→List CV)(a:Addr)(as:List Addr)(i:Nat)(ys:List CV)(l1:Led):Prop
 | mk (e1:a=a0) (cn:Addr) (e2:as=[cn]) (ic:bl l1 cn) (fc:l' cn=none) (le:l'.le l1) (e3:ys=f i):yF a0 l' f a as i ys l1
noncomputable def cP(l l':Led):Prop:=∀ b o,(∀ v,o.data≠.cell v)→l b=some o→l' b=some o
theorem HL.kd{l l':Led}{a:Addr}{cs:List CV}(h:HL l a cs)(k:cP l l'):HL l' a cs:=by
 obtain (⟨us,n,e,hu⟩):=HL.at h
 exact ⟨_,k a (W.listOf us.toArray n) (fun O q=>nomatch q) e,us,n,rfl,hu⟩
theorem HT.kd{l l':Led}{a:Addr}{cs:List CV}(h:HT l a cs)(k:cP l l'):HT l' a cs:=by
 obtain (⟨us,e,hu⟩):=HT.at h
 exact ⟨_,k a (fG us) (fun O q=>nomatch q) e,us,rfl,hu⟩
theorem dP.kd{l l':Led}{rw:List (Nat × Str)}{v:CV}{T:List Str}(h:dP l rw v T)(k:cP l l'):dP l' rw v T:=by
 induction h with
 | str x h=>exact .str x h
 | t=>exact .t
 | num h n=>exact .num (h.kd k) n
 | set sel h s=>exact .set sel (h.kd k) s
theorem Src.kd{l l':Led}{a:Addr}(h:Src l a)(k:cP l l'):Src l' a:=by
 obtain (⟨x,y,tx,ty,n,e,q⟩):=h
 exact ⟨x,y,tx,ty,n,k a (W.listOf #[.int x tx,.int y ty] n) (fun O q=>nomatch q) e,q⟩
theorem Tab.kd{l l':Led}{P:Addr}{pos:Pos}{q:Str}(h:Tab l P pos q)(k:cP l l'):Tab l' P pos q:=by
 obtain (⟨x,e,h⟩):=h
 refine ⟨x,k P (tabObj x) (fun O q=>nomatch q) e,h.imp id fun ⟨c,a,o,vs,t,b,hd,hv⟩=>⟨c,a,o,vs,t,k _ _ (fun v q=>?_) b,hd,hv⟩⟩
 rw [hd] at q;cases q
theorem cP.set{l:Led}{c:Addr}{o:Obj}(h:bl l c):cP l (l.set c o):=fun b o' n e=>by
 refine (if_neg fun q=>?_).trans e
 obtain (⟨o2,v,e2,hd⟩):=h
 rw [q,e2] at e;cases e;exact n v hd
theorem iU.kd{l0 l l':Led}{x:Th}{asked:List CV}(h:iU l0 l x asked)(k:cP l l')(le:l0.le l'):iU l0 l' x asked:=⟨le,h.s.kd k,h.a.kd k,h.tk.kd k,h.t2.kd k⟩
theorem bK.le{l l':Led}{f P io:Addr}(h:bK l f P io)(le:l.le l'):bK l' f P io:=by
 obtain (⟨ci,doc,pm,ctv,c',e,hc,hi⟩):=h
 exact ⟨ci,doc,pm,ctv,c',le _ _ e,hc.le le,hi.le le⟩
theorem kA(ns:List Nat):PyData.canLayAll0 (ns.map fun (n:Nat)=>.int (n:Int))=true∧PyData.depthAll (ns.map fun (n:Nat)=>.int (n:Int))=0:=by
 induction ns with
 | nil=>exact ⟨rfl,rfl⟩
 | cons n ns ih =>
  rw [List.map_cons]
  unfold PyData.canLayAll0 PyData.depthAll
  exact ⟨by rw [ih.1];rfl,by rw [ih.2];rfl⟩
noncomputable abbrev sF(ns:List Nat):PyData:=.list (ns.map fun (n:Nat)=>.int (n:Int))
theorem bD(ns:List Nat):SeqAt.shaped (sF ns)=true:=by
 unfold SeqAt.shaped sF PyData.canLay0 PyData.depth
 rw [(kA ns).1,(kA ns).2];rfl
theorem kU(ns:List Nat):PyData.eqv (sF ns) (sF ns)=true:=SeqAt.eqv_refl _ (SeqAt.canLay_of_shaped (bD ns))
theorem LN.yh{d:Dy}{r:Nat}{l:Led}{K:CV→Led→Prop}{a b:Addr}{ns:List Nat}(ha:HL l a (aq ns))(hb:HL l b (aq ns))(h:K (.v (.bool true)) l):LN d r (br .Eq) [.v (.ref a),.v (.ref b)] K l :=
 LN.w0 (fP.list ha .nats) (fP.list hb .nats) (bD ns) (bD ns) (by rw [kU];exact h)
theorem jG{f:Str→List Nat}{m:Nat}(h:∀ x,(f x).length≤m):∀ T:List Str,(T.flatMap f).length≤T.length * m
 | []=>Nat.zero_le _
 | x::T=>by
  rw [List.flatMap_cons,List.length_append,List.length_cons,Nat.succ_mul,Nat.add_comm]
  exact Nat.add_le_add (jG h T) (h x)
section
variable {d:Dy}{r:Nat}{l0 l:Led}{x:Th}{asked:List CV}{K:CV→Led→Prop}
theorem jv(hst:¬ d.az)(S:pq d.w d.base l0 x)(Dn:iU l0 l x asked)(hz:asked.length≤800)(k:∀ l',iU l0 l' x (asked++[.int (x.nd:Int)])→K (.v (.bool true)) l') :
  Cl d (r+12) (.ref 695) [.v (.ref x.src),.v (.ref x.cd),.v (.ref x.ra),.v (.ref x.fd),.v (.ref x.al),.v (.ref x.c)] K l:=by
 refine Cl.def {ns:=nm ["source", "calls", "rows", "asked", "context", "many", "wanted", "told"],gi:=[42,59,47,50],cn:=nm ["texts", "name", "pairs"]} (nm ["source", "calls", "rows", "pairs", "asked", "context"]) 400 rfl rfl (by kernel_rfl) (fun O O O O O O=>rfl) fun d' P sb hP c1 l1 n1 c2 l2 n2 c3 l3 n3 ev=>?_
 have hst':¬ d'.az:=by rw [sb.az];exact hst
 rw [← sb.w,← sb.base] at S
 have D3:=((Dn.more n1.le).more n2.le).more n3.le
 refine LN.ag (aj rfl) fun L l4 m4=>?_
 have D4:=D3.more m4.le
 have nL:L≠x.src:=fun q=>D3.s.held (q▸m4.fresh)
 refine eV D4.s m4.is (aj rfl) (aj rfl) nL fun i c l5 hi dr=>?_
 have D5:=D4.draw S (fun b o n e=>(dr.other b n).trans e) dr.src
 obtain (⟨nmv,rfl,hn100,hkey⟩):∃ nmv:Str,c=.str nmv∧nmv.length≤100∧((nmv=Str.ofString "none"∧valueAt [(Str.ofString "k",Value.ref x.d1),(Str.ofString "m",Value.ref x.d2)] nmv=none) ∨
   (nmv≠Str.ofString "none"∧∃ dd ap ps,valueAt [(Str.ofString "k",Value.ref x.d1),(Str.ofString "m",Value.ref x.d2)] nmv=some (.ref dd)∧rS d'.w l0 dd (cB ps)∧ll l0 x.es ap ps∧valueAt [(Str.ofString "k",Value.ref x.a1),(Str.ofString "m",Value.ref x.a2)] nmv=some (.ref ap))):=by
  have hi:[CV.str (Str.ofString "k"),.str (Str.ofString "m"),.str (Str.ofString "k"),.str (Str.ofString "none")][i]?=some c:=hi
  rcases kI hi with rfl | rfl | rfl | rfl
  ·exact ⟨_,rfl,by decide,.inr ⟨by decide,_,_,_,aY,S.K1,S.P1,aY⟩⟩
  ·exact ⟨_,rfl,by decide,.inr ⟨by decide,_,_,_,(cS (by decide)).trans aY,S.K2,S.P2,(cS (by decide)).trans aY⟩⟩
  ·exact ⟨_,rfl,by decide,.inr ⟨by decide,_,_,_,aY,S.K1,S.P1,aY⟩⟩
  ·exact ⟨_,rfl,by decide,.inl ⟨rfl,(cS (by decide)).trans (eK (by decide))⟩⟩
 refine LN.cL D5.a (Nat.le_trans hz (by decide)) ?_
 have fs:∀ {z:Addr},l z=none→z≠x.src∧z≠x.al∧z≠x.P∧z≠292∧l0 z=none:=fun {z} f=>⟨fun q=>Dn.s.held (q▸f),fun q=>Dn.a.held (q▸f),(fun q=>by obtain (⟨_,e,_⟩):=Dn.tk;rw [← q,f] at e;cases e),(fun q=>by obtain (⟨_,e,_⟩):=Dn.t2;rw [← q,f] at e;cases e),Dn.le.none f⟩
 have g1:=fs n1.fresh
 have g2:=fs (n1.le.none n2.fresh)
 have g3:=fs ((n1.le.trans n2.le).none n3.fresh)
 have k35:aE l3 x.src l5:=fun b o n e=>(dr.other b n).trans (m4.le _ _ e)
 have i2:bl l5 c2:=(n2.is.of fun o=>n3.le _ o).of fun o=>k35 _ o g2.1
 refine And.intro i2 fun o2 w2 is2 hd2=>?_
 have kd6:cP l5 (l5.set c2 o2):=.set i2
 have ls:∀ {l':Led} {z:Addr} {o:Obj},l0.le l'→l0 z=none→l0.le (l'.set z o):=fun le f b o e=>(if_neg (Led.ne e f)).trans (le _ _ e)
 have D6:=D5.kd kd6 (ls D5.le g2.2.2.2.2)
 have nra:x.ra≠x.src:=S.R.li.ne S.z1
 have hes:=S.h5
 refine nV D6.s (S.R.le D6.le) nra (by rw [ao];omega) fun z v ta T l7 hzt hta hw7 hs7 kp7 fta=>?_
 have D7:=D6.draw S kp7 hs7
 refine bh.of hzt rfl ?_
 have i1:bl l7 c1:=by
  refine (((((n1.is.of fun o=>n2.le _ o).of fun o=>n3.le _ o).of fun o=>k35 _ o g1.1).of fun o e=>(if_neg fun q=>?_).trans e)).of fun o=>kp7 _ o g1.1
  exact n1.is.held (q▸n2.fresh)
 refine And.intro i1 fun o1 w1 is1 hd1=>?_
 have kd8:cP l7 (l7.set c1 o1):=.set i1
 have D8:=D7.kd kd8 (ls D7.le g1.2.2.2.2)
 have nc12:c2≠c1:=fun q=>n1.is.held (q▸n2.fresh)
 have nc13:c3≠c1:=fun q=>(n1.is.of fun o=>n2.le _ o).held (q▸n3.fresh)
 have nc23:c3≠c2:=fun q=>n2.is.held (q▸n3.fresh)
 have cell1:ae (l7.set c1 o1) c1 (.v (.ref ta)):=⟨o1,w1,Led.hit,hd1,is1⟩
 have cell2:ae (l7.set c1 o1) c2 (.str nmv):=⟨o2,w2,(if_neg nc12).trans (kp7 _ _ g2.1 Led.hit),hd2,is2⟩
 have cell3:ae (l7.set c1 o1) c3 (.v (.ref x.fd)):=by
  obtain (⟨o,v,e,q,is⟩):=n3.has _ rfl
  exact ⟨o,v,(if_neg nc13).trans (kp7 _ _ g3.1 ((if_neg nc23).trans (k35 _ _ g3.1 e))),q,is⟩
 have hta8:=hta.kd kd8
 refine LN.cp (S.cd.le D8.le) g7 aY ?_
 refine CK.mk _ cell2 ?_
 refine LN.ag (aj rfl) fun A l9 m9=>?_
 have D9:=D8.more m9.le
 have hw9:=((hw7.kd kd8).kd fun b o O=>m9.le b o).c S.B S.h5
 have gta:ta≠x.al∧ta≠x.P∧ta≠292:=by
  refine ⟨fun q=>D6.a.held (q▸fta),fun q=>?_,fun q=>?_⟩
  ·obtain (⟨_,e,_⟩):=D6.tk;rw [← q,fta] at e;cases e
  ·obtain (⟨_,e,_⟩):=D6.t2;rw [← q,fta] at e;cases e
 obtain (⟨ci,doc,pm,ctv,c',efn,_⟩):=S.kf.le D9.le
 refine bw hst' (fun d1 O=>CW.fn efn rfl) fun d1 K' hw hb kk x1 x2=>?_
 have ends:∀ {l':Led},l9.cR x.al x.P 292 l'→HL l' x.al (asked++[.int (x.nd:Int)])→Tab l' x.P aZ aN→Tab l' 292 aS aG→iU l0 l' x (asked++[.int (x.nd:Int)]):=fun k3 ha tk t2=>⟨fun b o e=>k3 b o (Led.ne e S.z2) (Led.ne e S.z3) (Led.ne e S.z4) (D9.le _ _ e),D9.s.of fun o=>k3 _ o S.n1.symm S.n5 S.n6,ha,tk,t2⟩
 have cl3:∀ {l':Led} {c:Addr} {v:CV},l9.cR x.al x.P 292 l'→l c=none→ae (l7.set c1 o1) c v→ae l' c v:=fun k3 f z=>by obtain (⟨o,v,e,q,is⟩):=z;exact ⟨o,v,k3 _ _ (fs f).2.1 (fs f).2.2.1 (fs f).2.2.2.1 (m9.le _ _ e),q,is⟩
 obtain ⟨ioo,iof,eio,hio⟩:=S.io
 have run:∀ (d2:Dy) (r':Nat) (K':CV→Led→Prop) (l':Led),d2.w=d1.w→d2.base=d1.base→l9.le l'→(∀ l'',Up l' x.al (ai (asked++[.int (x.nd:Int)])) l''→K' (.v (.ref x.ix)) l'')→Cl d2 (r'+1) (.ref x.io) [.v (.ref x.c)] K' l' :=
  fun d2 r' K' l' e1 e2 le kk=>S.run d2 r' K' l' asked (e1.trans hw) (e2.trans hb) (D9.le.trans le) (D9.a.le le) (Nat.le_trans hz (by decide)) kk
 have le0:∀ {l':Led},(∀ b o,b≠x.al→b≠x.P→l9 b=some o→l' b=some o)→l0.le l':=fun k b o e=>k b o (Led.ne e S.z2) (Led.ne e S.z3) (D9.le _ _ e)
 have hC0:CodeHd d1.base 294 292:=by rw [hb];exact S.C0
 have many:∀ {l':Led} {T F:Prop},F→aA ((((asked++[CV.int (x.nd:Int)]).length:Nat):Int) != (asked.length:Int)+1) T F:=fun h=>.f' (by rw [List.length_append];simp) h
 rcases hkey with ⟨hn,hv⟩ | ⟨hn,dd,ap,ps,hv,hK,hP1,hva⟩
 ·have hnone:(nmv==Str.ofString "none")=true:=beq_iff_eq.mpr hn
  have go1:∀ {b:Bool},(b=true↔T≠[])→b=decide ((T.map CV.str).length≠0):=fun h=>by
   rw [Bool.eq_iff_iff,h,decide_eq_true_iff,List.length_map,Ne,Ne,List.length_eq_zero_iff]
  have hta10:∀ {l':Led},l9.cR x.al x.P 292 l'→HL l' ta (T.map .str):=fun k3=>(hta8.le m9.le).of fun o=>k3 _ o gta.1 gta.2.1 gta.2.2
  refine nJ (r:=r+1) (dd:=0) (pk:=fun O=>[]) (S.kf.le D9.le) (D9.le _ _ eio) hio run (S.C.le D9.le) m9.is hw9.1 (S.T.le D9.le) S.B.val S.T.kz (S.B.doc S.h5) D9.a (fun l' k4=>⟨S.T.le (le0 k4),S.C.le (le0 k4),by rw [hw];exact S.I.le (le0 k4),fun O q=>by rw [hv] at q;cases q⟩) (fun n hn=>by
   obtain (⟨_,_,h⟩):=List.mem_flatMap.mp hn;cases h) (Nat.le_trans (jG (m:=0) (fun O=>Nat.le_refl _) T) (Nat.zero_le _)) hC0 D9.t2 D9.tk S.n2 S.n3 S.n4 ?_
  by_cases hT:T=[]
  ·refine .inl ⟨fun q=>absurd hT q,fun b l' k3 ha tk t2 fr hb=>kk _ _ ?_⟩
   have D10:=ends k3 ha tk t2
   refine LN.cL D10.a (by rw [List.length_append];show asked.length+1≤1000;omega) ?_
   refine many (l':=l') ?_
   refine LN.jo D10.a (Nat.le_trans hz (by decide)) ?_
   refine (S.C.le D10.le).node ?_
   refine .f' (by simp) ?_
   refine CK.mk _ (cl3 k3 (n1.le.none n2.fresh) cell2) ?_
   refine .t' hnone ?_
   refine CK.mk _ (cl3 k3 n1.fresh cell1) ?_
   refine LN.ag (cs:=[]) (Nat.zero_le _) fun e0 l5 m5=>?_
   refine LN.d7 ((hta10 k3).le m5.le) m5.is ?_
   refine .f' (by rw [hT];rfl) ?_
   refine LN.ag (cs:=[]) (Nat.zero_le _) fun e1 l6 m6=>?_
   have hb0:HL l' b (aq []):=by
    have:picked x.es (T.flatMap fun O=>[])=[]:=by rw [hT];exact List.filter_eq_nil_iff.mpr fun a O h=>by simp at h
    rw [this] at hb;exact hb
   refine LN.yh ((hb0.le m5.le).le m6.le) m6.is ?_
   exact hP _ _ _ _ (k l6 ((D10.more m5.le).more m6.le)) .rfl
  ·refine .inr ⟨hT,hn100,hv,fun l' k3 ha tk t2=>x2 l' ?_⟩
   have D10:=ends k3 ha tk t2
   refine LN.cL D10.a (by rw [List.length_append];show asked.length+1≤1000;omega) ?_
   refine many (l':=l') ?_
   refine LN.jo D10.a (Nat.le_trans hz (by decide)) ?_
   refine (S.C.le D10.le).node ?_
   refine .f' (by simp) ?_
   refine CK.mk _ (cl3 k3 (n1.le.none n2.fresh) cell2) ?_
   refine .t' hnone ?_
   refine CK.mk _ (cl3 k3 n1.fresh cell1) ?_
   refine LN.ag (cs:=[]) (Nat.zero_le _) fun e0 l5 m5=>?_
   refine LN.d7 ((hta10 k3).le m5.le) m5.is ?_
   refine .t' (by rw [List.length_map];exact decide_eq_true fun q=>hT (List.length_eq_zero_iff.mp q)) ?_
   exact hP _ _ _ _ (k l5 (D10.more m5.le)) .rfl
 ·obtain (⟨tq,hL,hPr,hps⟩):=id hP1
  have hp30:∀ y,(cB ps y).length≤30:=fun y=>Nat.le_trans qq hps
  have hz9:(T.flatMap (cB ps)).length≤900:=Nat.le_trans (jG hp30 T) (Nat.le_trans (Nat.mul_le_mul_right 30 hw9.2) (by decide))
  refine nJ (r:=r+1) (dd:=dd) (pk:=cB ps) (S.kf.le D9.le) (D9.le _ _ eio) hio run (S.C.le D9.le) m9.is hw9.1 (S.T.le D9.le) S.B.val S.T.kz (S.B.doc S.h5) D9.a (fun l' k4=>⟨S.T.le (le0 k4),S.C.le (le0 k4),by rw [hw];exact S.I.le (le0 k4),fun O O=>by rw [hw];exact hK.le (le0 k4)⟩) (fun n hn=>?_) hz9 hC0 D9.t2 D9.tk S.n2 S.n3 S.n4 (.inl ⟨fun O=>hv,fun b l' k3 ha tk t2 fr hb=>kk _ _ ?_⟩)
  ·obtain (⟨y,hy,h⟩):=List.mem_flatMap.mp hn
   exact hPr.nd _ (gp.mp h)
  have D10:=ends k3 ha tk t2
  refine LN.cL D10.a (by rw [List.length_append];show asked.length+1≤1000;omega) ?_
  refine many (l':=l') ?_
  refine LN.jo D10.a (Nat.le_trans hz (by decide)) ?_
  refine (S.C.le D10.le).node ?_
  refine .f' (by simp) ?_
  refine CK.mk _ (cl3 k3 (n1.le.none n2.fresh) cell2) ?_
  refine .f' (beq_eq_false_iff_ne.mpr hn) ?_
  have hR10:=S.R.le D10.le
  have hta10:HL l' ta (T.map .str):=(hta8.le m9.le).of fun o=>k3 _ o gta.1 gta.2.1 gta.2.2
  refine LE.dA (fi2:={ns:=nm ["own"],gi:=[],cn:=nm ["node"],fr:=nm ["texts", "pairs", "name"]}) 1 (x.tp.map fun a=>.v (.ref a)) (yF x.ra l' fun i=>aq ((x.es.take i).filter fun e=>ps.any fun p=>decide (p.2=e)&&decide (p.1∈T))) ev (by kernel_rfl) (by decide) rfl (bz _) (by rw [List.length_map,hR10.n,ao];omega) (fun P' hP'=>?_) ?_ ?_
  ·exact hP' _ _ hR10.li fun cn l'' nn=>⟨rfl,cn,rfl,nn.is,nn.fresh,nn.le,rfl⟩
  ·rintro d2 a as P2 Q2 i c ys o l1 hw2 hc ho hl ⟨rfl,cn,rfl,icn,fcn,lcn,rfl⟩ hy nx sk
   rw [List.getElem?_map,Option.map_eq_some_iff] at hc
   obtain (⟨tx,htx,rfl⟩):=hc
   obtain (⟨p,hp⟩):=aa (l:=rws x.es x.ts) (i:=i) (by rw [← hR10.n];exact (List.getElem?_eq_some_iff.mp htx).1)
   have hpe:x.es[i]?=some p.1:=by
    have:=congrArg (fun z=>z[i]?) (bZ (es:=x.es) (ts:=x.ts))
    rw [← this,List.getElem?_map,hp];rfl
   refine bh.of ((S.R.it i tx p htx hp).le (D10.le.trans lcn)) rfl ?_
   refine And.intro icn fun on wn isn hdn=>?_
   have le2:l'.le (l1.set cn on):=fun b o e=>(if_neg (Led.ne e fcn)).trans (lcn _ _ e)
   have cellN:ae (l1.set cn on) cn (.int (p.1:Int)):=⟨on,wn,Led.hit,hdn,isn⟩
   have et:(x.es.take (i+1)).filter (fun e=>ps.any fun p=>decide (p.2=e)&&decide (p.1∈T))=(x.es.take i).filter (fun e=>ps.any fun p=>decide (p.2=e)&&decide (p.1∈T))++[p.1].filter (fun e=>ps.any fun p=>decide (p.2=e)&&decide (p.1∈T)):=by rw [List.take_add_one,hpe,← List.filter_append];rfl
   refine LE.dA (fi2:={ns:=nm ["value", "at"],gi:=[],fr:=nm ["texts", "node"]}) 1 (tq.map fun a=>.v (.ref a)) (mK ap (l1.set cn on) fun j=>((ps.take j).filter fun q=>decide (q.2=p.1)&&decide (q.1∈T)).map fun O=>CV.int 1) hw2.ev (by kernel_rfl) (by decide) rfl (bz _) (by rw [List.length_map,hPr.n];omega) (fun P3 hP3=>?_) ?_ ?_
   ·refine CK.mk _ ((cl3 k3 ((n1.le.trans n2.le).none n3.fresh) cell3).le le2) ?_
    refine CK.mk _ ((cl3 k3 (n1.le.none n2.fresh) cell2).le le2) ?_
    refine LN.cp (by rw [hw2.w];exact S.F.le (D10.le.trans le2)) g7 hva ?_
    exact hP3 _ _ (hL.le (D10.le.trans le2)) ⟨rfl,rfl,.rfl,rfl⟩
   ·rintro d3 a as P4 Q4 j c ys o3 l3 hw3 hc ho3 hl3 ⟨rfl,rfl,le,rfl⟩ hy3 nx3 sk3
    rw [List.getElem?_map,Option.map_eq_some_iff] at hc
    obtain (⟨ty,hty,rfl⟩):=hc
    obtain (⟨q,hq⟩):=aa (l:=ps) (i:=j) (by rw [← hPr.n];exact (List.getElem?_eq_some_iff.mp hty).1)
    have e3:ps.take (j+1)=ps.take j++[q]:=by rw [List.take_add_one,hq];rfl
    have no:(decide (q.2=p.1)&&decide (q.1∈T))=false→((ps.take j).filter fun q=>decide (q.2=p.1)&&decide (q.1∈T)).map (fun O=>CV.int 1)=((ps.take (j+1)).filter fun q=>decide (q.2=p.1)&&decide (q.1∈T)).map fun O=>CV.int 1:=fun h=>by rw [e3,List.filter_append,List.filter_cons_of_neg (by rw [h];decide),List.filter_nil,List.append_nil]
    refine bh.of ((hPr.it j ty q hty hq).le ((D10.le.trans le2).trans le)) rfl ?_
    refine CK.mk _ (cellN.le le) ?_
    refine aA.mk (fun h=>?_) fun h=>?_
    ·have h:q.2=p.1:=Int.ofNat.inj (eq_of_beq h)
     refine CK.mk _ (((cl3 k3 n1.fresh cell1).le le2).le le) ?_
     refine LN.yZ ((hta10.le le2).le le) ?_
     refine aA.mk (fun h2=>?_) fun h2=>?_
     ·have h2:q.1∈T:=by
       obtain ⟨z,hz,e⟩:=List.any_eq_true.mp h2
       exact eq_of_beq e▸hz
      exact nx3 _ _ l3 ho3 ⟨rfl,rfl,le,by rw [e3,List.filter_append,List.map_append,List.filter_cons_of_pos (by simp [h,h2])];rfl⟩
     ·refine sk3 _ l3 ho3 ⟨rfl,rfl,le,no ?_⟩
      have:¬ q.1∈T:=fun hm=>by
       have z:(T.any fun x=>x==q.1)=true:=List.any_eq_true.mpr ⟨q.1,hm,beq_self_eq_true _⟩
       rw [show (T.any fun x=>x==q.1)=false from h2] at z;cases z
      simp [this]
    ·refine sk3 _ l3 ho3 ⟨rfl,rfl,le,no ?_⟩
     have:¬ q.2=p.1:=fun e=>by rw [e] at h;exact absurd h (by simp)
     simp [this]
   ·rintro a as Dz ys l3 l4 ⟨rfl,rfl,le,rfl⟩ hy3 m4
    rw [List.take_of_length_le (by rw [List.length_map,hPr.n];exact Nat.le_refl _)] at m4
    refine LN.ag (cs:=[]) (Nat.zero_le _) fun e0 l5 m5=>?_
    have le5:(l1.set cn on).le l5:=(le.trans m4.le).trans m5.le
    have ho5:l5 x.ra=some o:=le5 _ _ ((if_neg fun q=>by have:=lcn.none (a:=cn);rw [q] at ho;exact absurd fcn (hR10.li.held ∘ fun z=>by rw [q];exact z)).trans ho)
    have ic5:bl l5 cn:=⟨on,some wn,le5 _ _ Led.hit,hdn⟩
    refine LN.d7 (m5.keep m4.is) m5.is ?_
    have hany:(ps.filter fun q=>decide (q.2=p.1)&&decide (q.1∈T)).length≠0↔(ps.any fun q=>decide (q.2=p.1)&&decide (q.1∈T))=true:=by
     rw [List.any_eq_true,Ne,List.length_eq_zero_iff,List.filter_eq_nil_iff]
     constructor
     ·intro h
      apply Classical.byContradiction
      intro h2
      exact h fun z hz hq=>h2 ⟨z,hz,hq⟩
     ·rintro ⟨z,hz,hq⟩ h
      exact h z hz hq
    refine aA.mk (fun h=>?_) fun h=>?_
    ·have h:=hany.mp (by simpa using of_decide_eq_true h)
     refine CK.mk _ (cellN.le le5) ?_
     exact nx _ _ l5 ho5 ⟨rfl,cn,rfl,ic5,fcn,le2.trans le5,by rw [et,List.filter_cons,if_pos h,aT];rfl⟩
    ·have h:¬ (ps.any fun q=>decide (q.2=p.1)&&decide (q.1∈T))=true:=fun q=>of_decide_eq_false h (by simpa using hany.mpr q)
     exact sk _ l5 ho5 ⟨rfl,cn,rfl,ic5,fcn,le2.trans le5,by rw [et,List.filter_cons,if_neg h,List.filter_nil,List.append_nil]⟩
  ·rintro a as Dz ys l1 l2 ⟨rfl,cn,rfl,icn,fcn,lcn,rfl⟩ hy m2
   rw [List.take_of_length_le (by rw [List.length_map,hR10.n,ao];exact Nat.le_refl _)] at m2
   rw [jg] at hb
   refine LN.yh (hb.le (lcn.trans m2.le)) m2.is ?_
   exact hP _ _ _ _ (k l2 (D10.more (lcn.trans m2.le))) .rfl
end
end
section
theorem gG:typeLookup (.type "list") "keys"=pure none:=am_miss_of_fast (by kernel_rfl)
theorem cj:entryFor table "dict.update.loop"=some Builtin.«dict.update.loop»:=entryFor_of_tree (by kernel_rfl)
theorem aP:plainId "dict.update.loop"=true:=by decide +kernel
theorem lV:∀ (l kvs:List (Str × Value)),(merged kvs l).length≤kvs.length+l.length:=by
 intro l
 induction l with
 | nil=>intro kvs;exact Nat.le_refl _
 | cons x r ih =>
  intro kvs
  have h1:=ih (_root_.PySem.stored kvs x.1 x.2)
  have h2:=PySem.stored_length_le kvs x.1 x.2
  show (merged (_root_.PySem.stored kvs x.1 x.2) r).length≤_
  simp only [List.length_cons]
  omega
section
variable {prog:Program}{w:World}{A:Around}{E:Value→Shared→Prop}{s:Shared}
theorem dS{a:Addr}{o:Obj}{xs:Array Value}{k:Nat}{name:Str}{Q:Option Value→Shared→Prop}
  (hx:s.heap.get? a=some o) (hc:o.cls=.type "list") (hdat:o.data=.seq xs k) (hd:o.dict=none) (hmiss:typeLookup (.type "list") name=pure none) (hname:(["__module__", "__name__", "__qualname__", "__doc__", "__annotations__"]:List Str).contains name=false) (hA:A.handled=none)
  (h:∀ h' tk,(∀ b o,s.heap.get? b=some o→h'.get? b=some o)→Q none {s with heap:=h',toks:=tk}) (hsz:name.length+100≤sizeLine:=by size_fits) :
  wpAny (model prog w) A (getAttr? (.ref a) name) Q E s:=by
 obtain ⟨c,dct,dat,sl⟩:=o
 simp only at hc hdat hd
 subst hc hdat hd
 obtain ⟨hp,g,d,tk,os⟩:=s
 have hT:∀ tk',(⟨hp,g,d,tk',os⟩:Shared).TypeIs (.ref a) "list":=fun O=>⟨_,hx,rfl⟩
 have f1:=sub_AttributeError
 have f3:=F.slot_list_getattribute.lookup
 have f4:=F.slot_list_getattribute.bind (.ref a)
 have f5:=am_list_getattr_none
 unfold getAttr? getAttrBy? getAttrBy
 repeat (any_goals (first | assumption | exact hT _ | ((with_reducible show wpAny _ _ (call (Value.builtin "list.__getattribute__") _ _) _ _ _);refine call_meets F.slot_list_getattribute (hT _) am_entry_list_getattribute (F.args_list_getattribute_2 _ _) (meets_getattribute_miss_list a xs k sl name _ hmiss hname hsz) ⟨hx,hA,fun h' tk' e hx'=>?_⟩) | wp_step))
 obtain ⟨t',u',he⟩:=hx'.there
 show wpAny _ _ (getattributeRaised _ _ _ _ _ _ _) _ _ _
 unfold getattributeRaised
 repeat (any_goals (first | assumption | wp_step))
 exact h _ _ hx'.keeps
theorem jV{knd:KeyKind prog w Str}{R:Result→Shared→Prop}{its:Array Value}{ax I d:Addr}{kv:List (Str × Value)}(hsz:its.size=kv.length)(hz:kv.length < 1000)(hh:A.in1.handled=none)(hax:ax≠I)(hxd:ax≠d)(hId:I≠d) :
  ∀ (n i:Nat) (s:Shared),kv.length - i=n→i≤kv.length→s.heap.IsListIter I ax i→s.heap.IsList ax its →
   (∀ (j:Nat) (k:Str) (v:Value),kv[j]?=some (k,v)→∃ (t:Addr) (o:Obj) (key:Value) (m:Nat),its[j]?=some (.ref t)∧t≠I∧t≠d∧s.heap.get? t=some o∧o.cls=.type "tuple"∧o.data=.seq #[key,v] m∧knd.is k key=true) →
   s.heap.DictOf knd d (merged [] (kv.take i)) →
   (∀ h' tk,h'.DictOf knd d (merged [] kv)→(∀ b o,b≠I→b≠d→s.heap.get? b=some o→h'.get? b=some o)→R (.ok (.ret .none)) {s with heap:=h',toks:=tk}) →
   codeAny (model prog w) A (.builtin "dict.update.loop" ⟨[.ref d,.ref I,rawInt i,.none],[]⟩) R s:=by
 intro n
 induction n with
 | zero =>
  intro i s hk hi hit hl ht hd hR
  obtain rfl:i=kv.length:=by omega
  refine codeAny_builtin cj ?_
  rw [Around.under_plainId aP _]
  show wpAny _ A.in1 (pyNext (.ref I) >>= _) _ _ s
  refine wpAny_bind (wpAny_pyNext_list_end hh hit hl (Array.getElem?_eq_none (by omega)) fun h₂ ex₂=>?_)
  show wpAny _ A.in1 (Builtin.Dict.addKeywords d [] >>= _) _ _ _
  refine wpAny_bind (wpAny_pure ?_)
  rw [List.take_length] at hd
  obtain ⟨od,esd,epd,hod,r⟩:=hd
  exact wpAny_pure (hR h₂ s.toks ⟨od,esd,epd,ex₂ _ _ (Ne.symm hId) hod,r⟩ fun b o h1 O e=>ex₂ b o h1 e)
 | succ n ih =>
  intro i s hk hi hit hl ht hd hR
  have hlt:i < kv.length:=by omega
  obtain (⟨k,v,hkv⟩):∃ k v,kv[i]=(k,v):=⟨_,_,rfl⟩
  have hkv2:kv[i]?=some (k,v):=by rw [List.getElem?_eq_getElem hlt,hkv]
  obtain ⟨t,o,key,m,e1,e2,e3,e4,e5,e6,e7⟩:=ht i k v hkv2
  refine codeAny_builtin cj ?_
  rw [Around.under_plainId aP _]
  show wpAny _ A.in1 (pyNext (.ref I) >>= _) _ _ s
  refine wpAny_bind (wpAny_pyNext_list_item hit hl e1 fun h₂ it₂ sb₂=>?_)
  show wpAny _ A.in1 (holding [Value.ref t] _ >>= _) _ _ _
  refine wpAny_bind (wpAny_holding (wpAny_bind ?_))
  have up:∀ b o,b≠I→s.heap.get? b=some o→h₂.get? b=some o:=fun b o hb e=>(sb₂.2 b hb).trans e
  have gt:=up t o e2 e4
  refine wpAny_tryCatch ?_
  unfold Builtin.Dict.pairItems
  refine wpAny_bind (wpAny_typeOf (s:={s with heap:=h₂}) (⟨o,gt,e5⟩:({s with heap:=h₂}:Shared).TypeIs (.ref t) "tuple") ?_)
  rw [if_pos (by decide)]
  refine wpAny_bind (wpAny_seqItems gt e6 ?_)
  refine wpAny_pure ?_
  show wpAny _ A.in1 (holding [key,v] (dictSet d key v)) _ _ _
  refine wpAny_holding ?_
  unfold dictSet
  refine wpAny_holding ?_
  refine wpAny_bind (knd.pyHash (k:=k) e7 ?_)
  have hd2:h₂.DictOf knd d (merged [] (kv.take i)):=by
   obtain ⟨od,esd,epd,hod,r⟩:=hd
   exact ⟨od,esd,epd,up _ _ (Ne.symm hId) hod,r⟩
  have hml:(merged [] (kv.take i)).length≤sizeLine:=by
   have:=lV (kv.take i) ([]:List (Str × Value))
   rw [List.length_take,List.length_nil] at this
   rw [PySem.sizeLine_eq];omega
  refine wpAny_dictSetHashed_pairs (s:={s with heap:=h₂,toks:=_}) e7 hd2 (fun h₃ hd3 sb₃=>?_) hml
  rw [← merged_take_succ [] kv i _ hkv2] at hd3
  have up3:∀ b o,b≠I→b≠d→s.heap.get? b=some o→h₃.get? b=some o:=fun b o h1 h2 e=>(sb₃.2 b h2).trans (up b o h1 e)
  refine wpAny_pure ⟨plainId_quiet aP _,?_⟩
  refine ih (i+1) _ (by omega) hlt ?_ ?_ ?_ hd3 ?_
  ·obtain ⟨oI,g1,g2,g3⟩:=it₂
   exact ⟨oI,(sb₃.2 I hId).trans g1,g2,g3⟩
  ·obtain ⟨ol,g1,g2⟩:=hl
   exact ⟨ol,up3 _ _ hax hxd g1,g2⟩
  ·intro j k' v' hj
   obtain ⟨t',o',key',m',a1,a2,a3,a4,a5,a6,a7⟩:=ht j k' v' hj
   exact ⟨t',o',key',m',a1,a2,a3,up3 _ _ a2 a3 a4,a5,a6,a7⟩
  ·intro h' tk hdf keep
   exact hR h' tk hdf fun b o h1 h2 e=>keep b o h1 h2 (up3 b o h1 h2 e)
theorem mw{knd:KeyKind prog w Str}{h₀:Heap}{L l:Addr}{m:Str→Option Value}{news:List (Addr × Obj)}{its:Array Value}{n:Nat}{kv:List (Str × Value)}{Q:Value→Shared→Prop}(hh:A.handled=none)(F:Fr h₀ L s.heap m)(N:News h₀ L s.heap news)(hbig:h₀.NoLimit)(gl:s.heap.get? l=some (listOf its n))(hsz:its.size=kv.length)(hz:kv.length < 1000)
  (ht:∀ (j:Nat) (k:Str) (v:Value),kv[j]?=some (k,v)→∃ (t:Addr) (o:Obj) (key:Value) (m:Nat),its[j]?=some (.ref t)∧s.heap.get? t=some o∧o.cls=.type "tuple"∧o.data=.seq #[key,v] m∧knd.is k key=true)
  (h:∀ h' tk d o,Fr h₀ L h' m→News h₀ L h' ((d,o)::news)→(∀ p∈news,p.1≠d)→(d==sysModules)=false→o.IsDictOf knd (merged [] kv)→Q (.ref d) {s with heap:=h',toks:=tk}) :
  wpAny (model prog w) A (call (.type "dict") [.ref l]) Q E s:=by
 have newsLt:∀ p∈news,@LT.lt Nat _ p.1 s.heap.objs.size:=fun p hp=>Heap.lt_size (N p hp).1
 refine callType_codes (Q₁:=fun obj s₁=>obj=.ref s.heap.objs.size∧s₁={s with heap:=s.heap.push {cls:=.type "dict",data:=.dict #[]}}) PySem.F.kt_called_dict (PySem.F.kt_typeCall_dict_1 _) PySem.F.entry_dict_init (kt_code_dict_new _ ⟨rfl,rfl⟩) ?_
 rintro obj s₁ ⟨rfl,rfl⟩
 have hnew:(s.heap.push {cls:=.type "dict",data:=.dict #[]}).DictOf knd s.heap.objs.size []:=Heap.DictOf.new s.heap
 refine ⟨hnew.typeIs,PySem.F.args_dict_init_2 _ _,?_⟩
 have up1:∀ b o,s.heap.get? b=some o→(s.heap.push {cls:=.type "dict",data:=.dict #[]}).get? b=some o:=fun b o e=>Heap.get?_push_of_some _ e
 unfold Builtin.«dict.__init__»
 refine wpAny_bind ?_
 unfold Builtin.Dict.selfAndRest
 refine wpAny_bind (wpAny_notOrdered_dict hnew.typeIs ?_)
 show wpAny _ _ (pure (s.heap.objs.size,[Value.ref l])) _ _ _
 refine wpAny_pure ?_
 show wpAny _ _ (Builtin.Dict.updateFrom "dict.__init__" s.heap.objs.size (.ref l) [] .none) _ _ _
 unfold Builtin.Dict.updateFrom
 refine wpAny_bind (wpAny_typeOf (s:={s with heap:=s.heap.push {cls:=.type "dict",data:=.dict #[]}}) (⟨_,up1 _ _ gl,rfl⟩:({s with heap:=s.heap.push {cls:=.type "dict",data:=.dict #[]}}:Shared).TypeIs (.ref l) "list") ?_)
 rw [if_pos (by decide)]
 refine wpAny_bind (dS (s:={s with heap:=s.heap.push {cls:=.type "dict",data:=.dict #[]}}) (up1 _ _ gl) rfl rfl rfl gG (by decide) ?_ (fun h2 tk2 up2=>?_))
 ·exact hh
 simp only [Option.isNone_none,if_true]
 refine wpAny_bind (wpAny_rule ?_)
 obtain ⟨od0,es0,ep0,hod0,r0⟩:=id hnew
 have gd2:=up2 _ _ hod0
 have ltd:@LT.lt Nat _ s.heap.objs.size h2.objs.size:=Heap.lt_size gd2
 have ltl:@LT.lt Nat _ l s.heap.objs.size:=Heap.lt_size gl
 have LLt:@LT.lt Nat _ L s.heap.objs.size:=F.ns.lt
 refine wpAny_bind (wpAny_pyIter_list (l:=l) (items:=its) ⟨_,(up2 _ _ (up1 _ _ gl)),rfl,n,rfl⟩ ?_)
 refine wpAny_pure ⟨plainId_quiet aP _,?_⟩
 have up3:∀ b o,s.heap.get? b=some o→(h2.push {cls:=.type "list_iterator",data:=.fields #[.ref l,.int 0 0]}).get? b=some o:=fun b o e=>Heap.get?_push_of_some _ (up2 _ _ (up1 _ _ e))
 refine jV (A:=A.in1) (knd:=knd) (its:=its) (ax:=l) (I:=h2.objs.size) (d:=s.heap.objs.size) (kv:=kv) hsz hz hh (Nat.ne_of_lt (Nat.lt_trans ltl ltd)) (Nat.ne_of_lt ltl) (Nat.ne_of_gt ltd) kv.length 0 _ (by omega) (Nat.zero_le _) ?_ ?_ ?_ ?_ ?_
 ·exact ⟨_,Heap.get?_push_size _ rfl,rfl,rfl⟩
 ·exact ⟨_,up3 _ _ gl,rfl,n,rfl⟩
 ·intro j k v hj
  obtain ⟨t,o,key,m',e1,e2,e3,e4,e5⟩:=ht j k v hj
  have:@LT.lt Nat _ t s.heap.objs.size:=Heap.lt_size e2
  exact ⟨t,o,key,m',e1,Nat.ne_of_lt (Nat.lt_trans this ltd),Nat.ne_of_lt this,up3 _ _ e2,e3,e4,e5⟩
 ·exact ⟨od0,es0,ep0,Heap.get?_push_of_some _ gd2,r0⟩
 ·intro h' tk hdf keep
  obtain ⟨of,esf,epf,hof,rf⟩:=hdf
  have keep2:∀ b o,s.heap.get? b=some o→h'.get? b=some o:=fun b o e=>keep b o (Nat.ne_of_lt (Nat.lt_trans (Heap.lt_size e) ltd)) (Nat.ne_of_lt (Heap.lt_size e)) (up3 b o e)
  refine ⟨rfl,h h' tk s.heap.objs.size of (F.keeps keep2) (fun p hp=>?_) (fun p hp=>Nat.ne_of_lt (newsLt p hp)) (F.notModules (modules_low hbig)) ⟨esf,epf,rf⟩⟩
  rcases List.mem_cons.mp hp with rfl | hp
  ·exact ⟨hof,Nat.ne_of_gt LLt,Heap.get?_none_of_le (Nat.le_of_lt (Nat.lt_of_le_of_lt F.above LLt))⟩
  ·exact ⟨keep2 _ _ (N p hp).1,(N p hp).2⟩
theorem lI:∀ {vs:List Value} {ss:List Str},vs.length=ss.length→(∀ (j:Nat) (v:Value),vs[j]?=some v→∃ x t,ss[j]?=some x∧v=.str x t)→StrsAre vs ss:=by
 intro vs
 induction vs with
 | nil=>intro ss hl _;induction ss with
  | nil=>exact .nil
  | cons _ _=>simp at hl
 | cons v r ih =>
  intro ss hl h
  induction ss with
  | nil=>simp at hl
  | cons x q =>
   obtain (⟨y,t,e,rfl⟩):=h 0 v rfl
   cases e
   exact .cons _ _ (ih (by simpa using hl) fun j v hv=>h (j+1) v hv)
theorem eQ{h₀:Heap}{L d:Addr}{m:Str→Option Value}{news:List (Addr × Obj)}{oD:Obj}{kvs:List (Str × Value)}{Q:Value→Shared→Prop}(hh:A.handled=none)(F:Fr h₀ L s.heap m)(N:News h₀ L s.heap news)(hm:s.heap.get? d=some oD)(hD:oD.IsDictOf (PySem.strKind prog w) kvs)(lo:(d==sysModules)=false)(h64:kvs.length < 64)
  (h:∀ h' tk D vs' ss' e,Fr h₀ L h' m→News h₀ L h' ((D,listOf (List.toArray vs') e)::news)→(∀ p∈news,p.1≠D)→StrsAre vs' ss'→ss'.Perm (kvs.map (·.1))→sortedS ss'=true→Q (.ref D) {s with heap:=h',toks:=tk}) :
  wpAny (model prog w) A (call (.builtin "sorted") [.ref d]) Q E s:=by
 obtain ⟨ep,hat⟩:=(Heap.dictOf_iff.mpr ⟨oD,hm,hD⟩:s.heap.DictOf (PySem.strKind prog w) d kvs).dictAt
 refine kdu_sorted (kdl_dict (knd:=PySem.strKind prog w) (kvs:=kvs) (ep:=ep) lo) hh F N hat (by rw [sizeLine_eq];omega) fun B h' tk vs F' N' l1 hl hv=>?_
 have hS:StrsAre vs (kvs.map (·.1)):=lI (by rw [List.length_map];exact hl) fun j v hj=>by
  obtain ⟨k,x,e,hk⟩:=hv j v hj
  obtain ⟨t,rfl⟩:=Value.isStrOf_shape hk
  exact ⟨k,t,by rw [List.getElem?_map,e];rfl,rfl⟩
 have hB:=N' _ (.head _)
 have hBl:B < h'.objs.size:=Heap.lt_size hB.1
 refine wpAny_call_entry slot_list_sort ⟨_,hB.1,rfl⟩ entry_list_sort (list_sort_treeK (κ:=strKind) strKind_oneLt hB.1 hS.keysOf (fun v₁ v₂ rest e=>keyKind_strs (by rw [← e];exact hS)) (by omega) fun st' hp hs=>⟨_,rfl,?_⟩) (args_list_sort _)
 obtain ⟨ss',h1,h2,h3⟩:=sorted_out_str hS hp hs
 obtain ⟨e,he⟩:=sortedHeap_at (vs:=vs) (out:=(arrOf st').map (·.2)) hB.1
 have keep:∀ b o,b≠B→h'.get? b=some o→(sortedHeap h' B vs ((arrOf st').map (·.2))).get? b=some o:=fun b o hb ho=>(sortedHeap_old hb (Heap.lt_size ho)).trans ho
 refine h _ tk B ((arrOf st').map (·.2)).toList ss' e ?_ ?_ (fun p hp=>Nat.ne_of_lt (l1 p hp)) h1 h2 h3
 ·exact mh F' (fun b o hb ho=>keep b o hb ho) (Ne.symm hB.2.1) hB.2.2
 ·intro p hp
  rcases List.mem_cons.mp hp with rfl | hp
  ·refine ⟨?_,hB.2⟩
   rw [Array.toArray_toList]
   exact he
  ·exact ⟨keep _ _ (Nat.ne_of_lt (l1 p hp)) (N' p (.tail _ hp)).1,(N' p (.tail _ hp)).2⟩
end
section
variable {d:Dy}{r:Nat}{l:Led}{K:CV→Led→Prop}
theorem LN.tS{a:Addr}{kvs:List (Str × Value)}(hm:Hs l a (fw d.w kvs))(lo:(a==sysModules)=false)(h64:kvs.length < 64)
  (k:∀ ss D l',ss.Perm (kvs.map (·.1))→sortedS ss=true→Mk l D (ai (ss.map .str)) l'→K (.v (.ref D)) l'):LN d r (fun vs=>call (.builtin "sorted") vs) [.v (.ref a)] K l:=by
 obtain (⟨oD,e,hD⟩):=hm
 refine .makes (P:=fun o=>∃ ss:List Str,ss.Perm (kvs.map (·.1))∧sortedS ss=true∧ai (ss.map .str) o) (fun A E g s m mo Q us news hu nn F N get kk=>?_) fun D l' mk=>?_
 ·refine ar.eX hu fun x hx1=>?_
  cases hx1
  exact eQ nn.R.hd F N (get _ _ e) hD lo h64 fun h' tk D vs ss c F' N' off hs hp ho=>kk h' tk D _ F' N' off ⟨ss,hp,ho,vs,c,rfl,j4 hs⟩
 ·obtain (⟨f,b,o,eo,ss,hp,ho,hl⟩):=mk
  exact k ss D l' hp ho ⟨f,b,o,eo,hl⟩
set_option tactic.hygienic true in
theorem LN.wi{a:Addr}{tp:List Addr}{xs:List Str}(hm:HL l a (tp.map fun t=>.v (.ref t)))(hz:xs.length < 1000)(hn:tp.length=xs.length)(ht:∀ (i:Nat) t x,tp[i]?=some t→xs[i]?=some x→HT l t [.str x,.int 1])(hd:xs.Nodup)
  (k:∀ kv D l',kv.map (·.1)=xs→Mk l D (fw d.w kv) l'→(D==sysModules)=false→K (.v (.ref D)) l'):LN d r (fun vs=>call (.type "dict") vs) [.v (.ref a)] K l:=by
 obtain ⟨us,c,el,hu⟩:=HL.at hm
 let f:Addr→Value:=fun t=>match l t with
  | some o=>(match o.data with | .seq q _=>q.getD 1 .none | _=>.none)
  | none=>.none
 have hkv:(List.zipWith (fun t x=>(x,f t)) tp xs).map (·.1)=xs:=by
  rw [List.map_zipWith]
  apply List.ext_getElem
  ·simp [hn]
  ·intro i h1 h2;simp
 have hkl:(List.zipWith (fun t x=>(x,f t)) tp xs).length=xs.length:=by have:=congrArg List.length hkv;rwa [List.length_map] at this
 refine ⟨fun vs m hv=>⟨fun A E g s n=>?_⟩⟩
 refine ar.eX hv fun x hx1=>?_
 cases hx1
 obtain ⟨mo,news,F,N,_,_,nw,_⟩:=n.a.led
 refine mw (knd:=PySem.strKind Pg d.w) (kv:=List.zipWith (fun t x=>(x,f t)) tp xs) n.R.hd F N (Top.nolimit (n.G.TB.keeps fun O O e=>n.a.B.stays _ _ e)) (n.a.get el) (by rw [List.size_toArray,hkl,hu.len,List.length_map,hn]) (by rw [hkl];exact hz) (fun j y v hj=>?_) fun h' tk D o F' N' ne lo p=>?_
 ·rw [List.getElem?_zipWith] at hj
  split at hj
  ·rename_i t x h1 h2
   cases hj
   obtain ⟨ws,e,hw⟩:=HT.at (ht j t x h1 h2)
   obtain ⟨v1,v2,rfl,i1,i2⟩:=hw.two
   cases (i1);cases (i2)
   obtain ⟨u,hu1,hu2⟩:=hu.get (i:=j) (c:=.v (.ref t)) (by rw [List.getElem?_map,h1];rfl)
   cases (hu2)
   exact ⟨t,_,_,_,by rw [List.getElem?_toArray];exact hu1,n.a.get e,rfl,by show (fG _).data=_;rw [show f t=_ from (by show (match l t with | some o=>_ | none=>_)=_;rw [e])];rfl,strKind_is _ _ _ _⟩
  ·cases hj
 ·obtain ⟨f',a'⟩:=nw h' D o F' N' ne
  rw [merged_nil_of_nodup _ (by rw [hkv];exact hd)] at p
  exact ⟨g,m,_,.of,a',_,.refl _,.v _,k _ D _ hkv (.set f' p) lo⟩
end
end
section
theorem sV:∀ n:Fin 20,(Str.ofString (toString ((n.val:Nat):Int))).length≤100:=by decide +kernel
theorem sW:∀ a b:Fin 20,rN ((a.val:Nat):Int)=rN ((b.val:Nat):Int)→a=b:=by decide +kernel
theorem uJ:∀ n:Fin 20,(rN ((n.val:Nat):Int)==Str.ofString "")=false:=by decide +kernel
noncomputable abbrev oR(es:List Nat):List Str:=es.map fun (e:Nat)=>rN (e:Int)
inductive yz(a0:Addr)(l5:Led)(es:List Nat)(a:Addr)(as:List Addr)(j:Nat)(ys:List CV)(l':Led):Prop
 | mk (e1:a=a0) (e2:as=[]) (le:l5.le l') (tp:List Addr) (e3:ys=tp.map fun t=>CV.v (.ref t)) (hz:tp.length=j) (h:∀ (i:Nat) t y,tp[i]?=some t→(oR es)[i]?=some y→HT l' t [.str y,.int 1]):yz a0 l5 es a as j ys l'
theorem oQ:∀ {es:List Nat},es.Nodup→(∀ e∈es,e < 20)→(oR es).Nodup:=by
 intro es
 induction es with
 | nil=>intro _ _;exact List.nodup_nil
 | cons a r ih =>
  intro hn hb
  have h2:=List.nodup_cons.mp hn
  refine List.nodup_cons.mpr ⟨fun hm=>?_,ih h2.2 fun e he=>hb e (.tail _ he)⟩
  obtain (⟨e,he,e1⟩):=List.mem_map.mp hm
  have:=sW ⟨e,hb e (.tail _ he)⟩ ⟨a,hb a (.head _)⟩ e1
  have e2:e=a:=congrArg Fin.val this
  exact h2.1 (e2▸he)
theorem Built.small{D:List ah}{es:List Nat}{ts:List Str}(B:Built D es ts)(h5:es.length≤5):∀ e∈es,e < 20:=fun e he=>by
 have:=(B.pos e he).2
 have:=B.sz
 omega
theorem mO(ns:List Str):(ns.map CV.str).all pD=true:=by rw [List.all_map];exact List.all_eq_true.mpr fun O O=>rfl
section
variable {d:Dy}{r:Nat}{l0 l:Led}{x:Th}{asked:List CV}{K:CV→Led→Prop}
theorem gz(hst:¬ d.az)(S:pq d.w d.base l0 x)(Dn:iU l0 l x asked)(k:∀ l',iU l0 l' x asked→K (.v (.bool true)) l') :
  Cl d (r+12) (.ref 700) [.v (.ref x.src),.v (.ref x.cd),.v (.ref x.ra),.v (.ref x.c)] K l:=by
 have sm:=S.B.small S.h5
 have h1000:∀ e∈x.es,e < 1000:=fun e he=>Nat.lt_trans (sm e he) (by decide)
 have hlen:∀ e∈x.es,(Str.ofString (toString ((e:Nat):Int))).length≤100:=fun e he=>sV ⟨e,sm e he⟩
 have zes:=S.h5
 refine Cl.def {ns:=nm ["source", "rows", "names", "some", "due", "own"],gi:=[59,63,70,46,50],cn:=nm ["context", "calls"]} (nm ["source", "calls", "rows", "context"]) 400 rfl rfl (by kernel_rfl) (fun O O O O=>rfl) fun d' P sb hP c1 l1 n1 c2 l2 n2 ev=>?_
 have hst':¬ d'.az:=by rw [sb.az];exact hst
 rw [← sb.w,← sb.base] at S
 have D2:=(Dn.more n1.le).more n2.le
 have fs:∀ {z:Addr},l z=none→z≠x.src:=fun {z} f q=>Dn.s.held (q▸f)
 have cellK:ae l2 c2 (.v (.ref x.cd)):=n2.has _ rfl
 have cellC:ae l2 c1 (.v (.ref x.c)):=(n1.has _ rfl).le n2.le
 have hgi:valueAt (dT x.f) (Str.ofString "generate-id")=some (.ref 354):=by rfl
 refine LS.qh (fi2:={ns:=nm ["node", "told"],gi:=[50],fr:=nm ["context", "calls"]}) 0 2 (x.tp.map fun a=>.v (.ref a)) (mK x.ra l2 fun j=>(oR (x.es.take j)).map .str) ev rfl (by kernel_rfl) (by decide) rfl (by rw [sb.env];with_unfolding_all rfl) rfl (bz _) (by rw [List.length_map,S.R.n,ao];omega) (fun P' hP'=>?_) ?_ ?_
 ·exact hP' _ _ (S.R.le D2.le).li ⟨rfl,rfl,.rfl,rfl⟩
 ·rintro d2 a as P2 Q2 i c ys o l' hw hc ho hl ⟨rfl,rfl,le,rfl⟩ hy next skip
  rw [List.getElem?_map,Option.map_eq_some_iff] at hc
  obtain (⟨tx,htx,rfl⟩):=hc
  obtain (⟨p,hp⟩):=aa (l:=rws x.es x.ts) (i:=i) (by rw [← S.R.n];exact (List.getElem?_eq_some_iff.mp htx).1)
  have hpe:x.es[i]?=some p.1:=by
   have:=congrArg (fun z=>z[i]?) (bZ (es:=x.es) (ts:=x.ts))
   rw [← this,List.getElem?_map,hp];rfl
  have hm:=List.mem_of_getElem? hpe
  refine bh.of ((S.R.it i tx p htx hp).le (D2.le.trans le)) rfl ?_
  refine CK.mk _ (cellK.le le) ?_
  refine LN.cp (by rw [hw.w];exact S.cd.le (D2.le.trans le)) g7 hgi ?_
  refine LN.ag (aj rfl) fun A1 l3 m3=>?_
  refine LN.ag (aj rfl) fun A2 l4 m4=>?_
  refine CK.mk _ ((cellC.le le).le (m3.le.trans m4.le)) ?_
  refine bw (by rw [hw.az];exact hst') (fun d1 O=>CW.own (by kernel_rfl)) fun d1 K' O O kk O O=>?_
  refine gO (ns:=[]) m4.is (m4.keep m3.is) (Nat.zero_le _) (h1000 _ hm) (hlen _ hm) (kk _ _ ?_)
  exact next _ _ _ ((m3.le.trans m4.le) _ _ ho) ⟨rfl,rfl,le.trans (m3.le.trans m4.le),by rw [List.take_add_one,hpe,oR,oR,List.map_append,List.map_append];rfl⟩
 ·rintro a as Dz ys l1 l3 ⟨rfl,rfl,le,rfl⟩ hy m3
  rw [List.take_of_length_le (by rw [List.length_map,S.R.n,ao];exact Nat.le_refl _)] at m3
  have zL:(oR x.es).length=x.es.length:=List.length_map ..
  have neS:∀ y∈oR x.es,(y==Str.ofString "")=false:=fun y hy=>by
   obtain (⟨e,he,rfl⟩):=List.mem_map.mp hy
   exact uJ ⟨e,sm e he⟩
  refine LE.dA (fi2:={ns:=nm ["name"],gi:=[64,65]}) 1 ((oR x.es).map .str) (mK Dz l3 fun _=>[]) ev (by kernel_rfl) (by decide) rfl (mO _) (by rw [List.length_map,zL];omega) (fun P' hP'=>?_) ?_ ?_
  ·exact hP' _ _ m3.is ⟨rfl,rfl,.rfl,rfl⟩
  ·rintro d2 a as P2 Q2 i c ys o l' hw hc ho hl ⟨rfl,rfl,le4,rfl⟩ sX next skip
   rw [List.getElem?_map,Option.map_eq_some_iff] at hc
   obtain (⟨y,hy3,rfl⟩):=hc
   refine LN.fL (.str y) (.inl rfl) (.t' (by decide) ?_)
   refine aA.f' (neS y (List.mem_of_getElem? hy3)) ?_
   exact skip _ l' ho ⟨rfl,rfl,le4,rfl⟩
  rintro a as D4 ys l4' l4 ⟨ea,rfl,le4,rfl⟩ sX m4
  replace ea:=ea.symm;subst ea
  refine LN.ag (cs:=[]) (Nat.zero_le _) fun e5 l5 m5=>?_
  refine LN.d7 (m5.keep m4.is) m5.is (.f' rfl ?_)
  have nm5:HL l5 Dz ((oR x.es).map .str):=((m3.is.le le4).le m4.le).le m5.le
  refine LE.dA (fi2:={ns:=nm ["name"],gi:=[]}) 0 ((oR x.es).map .str) (yz Dz l5 x.es) ev (by kernel_rfl) (by decide) rfl (mO _) (by rw [List.length_map,zL];omega) (fun P' hP'=>?_) ?_ ?_
  ·exact hP' _ _ nm5 ⟨rfl,rfl,.rfl,[],rfl,rfl,fun i t y h=>by simp at h⟩
  ·rintro d2 a as P2 Q2 i c ys o l' hw hc ho hl ⟨rfl,rfl,le6,tp,rfl,hz6,ht⟩ sX next skip
   rw [List.getElem?_map,Option.map_eq_some_iff] at hc
   obtain (⟨y,hy3,rfl⟩):=hc
   refine LN.au (aj rfl) fun t l6 m6=>?_
   refine next _ _ l6 (m6.le _ _ ho) ⟨rfl,rfl,le6.trans m6.le,tp++[t],by rw [List.map_append];rfl,by rw [List.length_append,hz6];rfl,fun i t' y' h1 h2=>?_⟩
   rcases Nat.lt_or_ge i tp.length with hlt | hge
   ·rw [List.getElem?_append_left hlt] at h1
    exact m6.keep (ht i t' y' h1 h2)
   ·have hie:i=tp.length:=by have:=(List.getElem?_eq_some_iff.mp h1).1;simp at this;omega
    subst hie
    rw [List.getElem?_append_right (Nat.le_refl _),Nat.sub_self] at h1
    cases h1
    rw [hz6,hy3] at h2
    cases h2
    exact m6.is
  rintro a as D6 ys l6' l6 ⟨ea,rfl,le6,tp,rfl,hz6,ht⟩ hy3 m6
  replace ea:=ea.symm;subst ea
  refine LN.wi (xs:=oR x.es) m6.is (by rw [zL];omega) (by rw [hz6,List.length_map]) (fun i t y h1 h2=>m6.keep (ht i t y h1 h2)) (oQ S.B.nodup sm) fun kv D7 l7 hkv m7 lo7=>?_
  have zkv:kv.length=x.es.length:=by have:=congrArg List.length hkv;rwa [List.length_map,zL] at this
  refine LN.tS m7.is lo7 (by omega) fun ss D8 l8 hp ho m8=>?_
  have zss:ss.length=x.es.length:=by rw [hp.length_eq,List.length_map,zkv]
  refine LN.cL m8.is (by rw [List.length_map,zss];omega) ?_
  have le8:=(((((((le.trans m3.le).trans le4).trans m4.le).trans m5.le).trans le6).trans m6.le).trans m7.le).trans m8.le
  have D8':=D2.more le8
  refine LN.cL (S.R.le D8'.le).li (by rw [List.length_map,S.R.n,ao];omega) ?_
  refine .f' (by rw [List.length_map,List.length_map,zss,S.R.n,ao];simp) ?_
  have nra:x.ra≠x.src:=S.R.li.ne S.z1
  have nDz:Dz≠x.src:=fun q=>(D2.more le).s.held (q▸m3.fresh)
  have nm8:HL l8 Dz ((oR x.es).map .str):=((((nm5.le le6).le m6.le).le m7.le).le m8.le)
  have at_:∀ n∈x.es,((oR x.es).map CV.str)[((x.es.idxOf n:Nat):Int).toNat]?=some (.str (rN (n:Int))):=fun n hn=>by
   rw [Int.toNat_natCast,List.getElem?_map,List.getElem?_map,List.getElem?_eq_getElem (List.idxOf_lt_length_of_mem hn),List.getElem_idxOf];rfl
  have idx:∀ n∈x.es,((x.es.idxOf n:Nat):Int) < 2 ^ 63:=fun n hn=>by have:=List.idxOf_lt_length_of_mem hn;omega
  refine mQ D8'.s (S.R.le D8'.le) nra (by rw [ao];omega) fun sel b l9 hsub s9 kp9 fb hb=>?_
  have D9:=D8'.draw S kp9 s9
  have nm9:=nm8.kp kp9 nDz
  have kc:∀ {z v},z≠x.src→ae l2 z v→ae l9 z v:=fun n z=>by obtain (⟨o,v,e,q,is⟩):=z;exact ⟨o,v,kp9 _ _ n (le8 _ _ e),q,is⟩
  have nc1:c1≠x.src:=fs n1.fresh
  have nc2:c2≠x.src:=fs (n1.le.none n2.fresh)
  have kK:=kc nc2 cellK
  have kC:=kc nc1 cellC
  have rest:∀ (f:Nat) b due l',l9.le l'→go (fi:={ns:=nm ["source", "rows", "names", "some", "due", "own"],gi:=[59,63,70,46,50],cn:=nm ["context", "calls"]}) (r:=r+11) ⟨d',[c1,c2],P,fun O O=>False⟩ (f+40) (.s (.f (st 70)) 5 .nil) (.c (.v (.ref x.src)) (.c (.v (.ref x.ra)) (.c (.v (.ref Dz)) (.c (.v (.ref b)) (.c (.str due) (.u .nil)))))) l':=by
   intro f b due l' leA
   have DA:=D9.more leA
   refine LE.dA (fi2:={ns:=nm ["node", "told"],gi:=[]}) 0 (x.tp.map fun a=>.v (.ref a)) (mK x.ra l' fun j=>aq (x.es.take j)) ev (by kernel_rfl) (by decide) rfl (bz _) (by rw [List.length_map,S.R.n,ao];omega) (fun P' hP'=>?_) ?_ ?_
   ·exact hP' _ _ (S.R.le DA.le).li ⟨rfl,rfl,.rfl,rfl⟩
   ·rintro d2 a as P2 Q2 i c ys o l2 hw hc ho hl ⟨rfl,rfl,lq,rfl⟩ sX next skip
    rw [List.getElem?_map,Option.map_eq_some_iff] at hc
    obtain (⟨tx,htx,rfl⟩):=hc
    obtain (⟨p,hp⟩):=aa (l:=rws x.es x.ts) (i:=i) (by rw [← S.R.n];exact (List.getElem?_eq_some_iff.mp htx).1)
    have hpe:x.es[i]?=some p.1:=by
     have:=congrArg (fun z=>z[i]?) (bZ (es:=x.es) (ts:=x.ts))
     rw [← this,List.getElem?_map,hp];rfl
    refine bh.of ((S.R.it i tx p htx hp).le (DA.le.trans lq)) rfl ?_
    exact next _ _ l2 ho ⟨rfl,rfl,lq,by rw [List.take_add_one,hpe,aT];rfl⟩
   rintro a as Dy2 ys l2' l2 ⟨rfl,rfl,lq,rfl⟩ sX mq
   rw [List.take_of_length_le (by rw [List.length_map,S.R.n,ao];exact Nat.le_refl _)] at mq
   refine bG.lst "list.index" mq.is F.slot_list_index F.type_list_index ?_
   refine CK.mk _ (((kC.le leA).le lq).le mq.le) ?_
   have DB:=(DA.more lq).more mq.le
   refine (S.C.le DB.le).node ?_
   refine LN.mc mq.is (by omega) S.nd ?_
   refine LN.aR (((nm9.le leA).le lq).le mq.le) (by omega) (at_ _ S.nd) (idx _ S.nd) ?_
   refine CK.mk _ (((kK.le leA).le lq).le mq.le) ?_
   refine LN.cp (S.cd.le DB.le) g7 hgi ?_
   refine LN.ag (cs:=[]) (Nat.zero_le _) fun A1 l3 m3=>?_
   refine CK.mk _ ((((kC.le leA).le lq).le mq.le).le m3.le) ?_
   refine bw hst' (fun d1 O=>CW.own (by kernel_rfl)) fun d1 K' O O kk O O=>?_
   refine kJ (S.C.le (DB.more m3.le).le) m3.is (h1000 _ S.nd) (hlen _ S.nd) (kk _ _ ?_)
   refine hP _ _ _ _ (by show K (.v (.bool (rN (x.nd:Int)==rN (x.nd:Int)))) _;rw [beq_self_eq_true];exact k l3 (DB.more m3.le)) .rfl
  refine LN.ag (cs:=[]) (Nat.zero_le _) fun e1 lA mA=>?_
  refine LN.d7 (mA.keep hb) mA.is ?_
  have DA:=D9.more mA.le
  induction sel with
  | nil =>
   refine .f' rfl ?_
   refine CK.mk _ (kK.le mA.le) ?_
   refine LN.cp (S.cd.le DA.le) g7 hgi ?_
   refine LN.ag (aj rfl) fun A1 l3 m3=>?_
   refine CK.mk _ ((kC.le mA.le).le m3.le) ?_
   refine bw hst' (fun d1 O=>CW.own (by kernel_rfl)) fun d1 K' O O kk O O=>?_
   refine jE m3.is (m3.keep (mA.keep hb)) (kk _ _ ?_)
   refine .f' (by simp) ?_
   have q:=rest 277 b (Str.ofString "") l3 (mA.le.trans m3.le)
   conv at q=>whnf
   conv=>whnf
   exact q
  | cons n ns =>
   have hn:n∈x.es:=by have:=hsub.subset (.head _);rwa [bZ] at this
   rw [List.length_map,ao,List.length_cons] at hsub.length_le
   refine .t' (by simp [aq]) ?_
   refine LE.dA (fi2:={ns:=nm ["node", "told"],gi:=[]}) 0 (x.tp.map fun a=>.v (.ref a)) (mK x.ra lA fun j=>aq (x.es.take j)) ev (by kernel_rfl) (by decide) rfl (bz _) (by rw [List.length_map,S.R.n,ao];omega) (fun P' hP'=>?_) ?_ ?_
   ·exact hP' _ _ (S.R.le DA.le).li ⟨rfl,rfl,.rfl,rfl⟩
   ·rintro d2 a as P2 Q2 i c ys o l2 hw hc ho hl ⟨rfl,rfl,lq,rfl⟩ sX next skip
    rw [List.getElem?_map,Option.map_eq_some_iff] at hc
    obtain (⟨tx,htx,rfl⟩):=hc
    obtain (⟨p,hp⟩):=aa (l:=rws x.es x.ts) (i:=i) (by rw [← S.R.n];exact (List.getElem?_eq_some_iff.mp htx).1)
    have hpe:x.es[i]?=some p.1:=by
     have:=congrArg (fun z=>z[i]?) (bZ (es:=x.es) (ts:=x.ts))
     rw [← this,List.getElem?_map,hp];rfl
    refine bh.of ((S.R.it i tx p htx hp).le (DA.le.trans lq)) rfl ?_
    exact next _ _ l2 ho ⟨rfl,rfl,lq,by rw [List.take_add_one,hpe,aT];rfl⟩
   rintro a as Dy2 ys l2' l2 ⟨rfl,rfl,lq,rfl⟩ sX mq
   rw [List.take_of_length_le (by rw [List.length_map,S.R.n,ao];exact Nat.le_refl _)] at mq
   refine bG.lst "list.index" mq.is F.slot_list_index F.type_list_index ?_
   have hb2:=((mA.keep hb).le lq).le mq.le
   refine LN.aR hb2 (by decide) rfl (by decide) ?_
   refine LN.mc mq.is (by omega) hn ?_
   refine LN.aR (((nm9.le mA.le).le lq).le mq.le) (by omega) (at_ _ hn) (idx _ hn) ?_
   refine CK.mk _ (((kK.le mA.le).le lq).le mq.le) ?_
   refine LN.cp (S.cd.le ((DA.more lq).more mq.le).le) g7 hgi ?_
   refine LN.ag (aj rfl) fun A1 l3 m3=>?_
   refine CK.mk _ ((((kC.le mA.le).le lq).le mq.le).le m3.le) ?_
   refine bw hst' (fun d1 O=>CW.own (by kernel_rfl)) fun d1 K' O O kk O O=>?_
   refine gO m3.is (m3.keep hb2) (by omega) (h1000 _ hn) (hlen _ hn) (kk _ _ ?_)
   refine .f' (by simp) ?_
   have q:=rest 263 b (rN (n:Int)) l3 (((mA.le.trans lq).trans mq.le).trans m3.le)
   conv at q=>whnf
   conv=>whnf
   exact q
end
end
section
noncomputable abbrev cM:Stmt:=cC (.t (.f (st 71)) 0) 4
noncomputable abbrev jz:Pos:={line:=500,col:=8,endLine:=502,endCol:=24}
noncomputable abbrev cV:Str:=Str.ofString "law.<locals>.index_of"
noncomputable abbrev tZ(cA cI:Addr)(doc pm ctv:Value)(c':Addr):FuncData:=fnX (aD cM) cV (ri cM) (iS cM) (cE cM) [(Str.ofString "index",cI),(Str.ofString "asked",cA)] .none .none doc pm none (.ref c') ctv
structure eJ(l:Led)(f cA cI:Addr):Prop where
 fn:∃ doc pm ctv c',l f=some {cls:=.type "function",data:=.func (tZ cA cI doc pm ctv c')}∧cy l c' cV
theorem eJ.le{l l':Led}{f cA cI:Addr}(h:eJ l f cA cI)(le:l.le l'):eJ l' f cA cI:=by
 obtain (⟨doc,pm,ctv,c',e,hc⟩):=h
 exact ⟨doc,pm,ctv,c',le _ _ e,hc.le le⟩
section
variable {d:Dy}{r:Nat}{l:Led}{K:CV→Led→Prop}{av:List Addr}
theorem uI{f cA cI c al ix t cl:Addr}{nd cu:Int}{asked:List CV}(hf:eJ l f cA cI)(hA:ae l cA (.v (.ref al)))(hI:ae l cI (.v (.ref ix)))(hc:Ctx l av c t nd cu cl)(hal:HL l al asked)(hz:asked.length≤900)
  (k:∀ l',Up l al (ai (asked++[.int nd])) l'→K (.v (.ref ix)) l'):Cl d (r+1) (.ref f) [.v (.ref c)] K l:=by
 obtain ⟨doc,pm,ctv,c',ef,oc,vs,tq,ec,hoc,hq⟩:=hf
 refine (Cc.into (fd:=tZ cA cI doc pm ctv c') (D:=cM) (as:=[.v (.ref c)]) {ns:=nm ["context"],gi:=[],fr:=nm ["index", "asked"]} (nm ["context"]) 99 rfl (fun h X hl=>⟨_,hl _ _ ef,rfl,c',oc,vs,tq,rfl,hl _ _ ec,hoc,hq⟩) (by kernel_rfl) (fun s vs O O hv=>?_) fun d' P' sb hP ev=>?_).cl
 ·obtain ⟨v,rfl,_⟩:=hv.one
  exact ⟨_,hv,.of_eq rfl,Makes.rq rfl (by kernel_rfl) (by kernel_rfl)⟩
 refine CK.mk _ hA ?_
 refine bG.lst "list.append" hal F.slot_list_append F.type_list_append ?_
 refine hc.node ?_
 refine LN.append hal (Nat.le_trans hz (by decide)) fun l2 u2=>?_
 obtain ⟨o,v,e,hd,is⟩:=hI
 have n:cI≠al:=fun q=>by
  obtain ⟨us,m,e2,_⟩:=HL.at hal
  rw [← q,e] at e2;cases e2;cases hd
 refine CK.mk _ (⟨o,v,(u2.but _ n).trans e,hd,is⟩) ?_
 exact hP _ _ _ _ (k l2 u2) .rfl
end
inductive yN(l:Led)(a:Addr):Prop
 | mk (o:Obj) (vs:Array Value) (e:l a=some o) (h:o.data=.fields vs):yN l a
structure fO(l:Led)(ex:List Addr)(R:Led→Prop):Prop where
 h:∀ a∈ex,yN l a
 k:∀ l',(∀ a o,a∈ex→l a=some o→l' a=some o)→R l'
theorem fO.now{l:Led}{ex:List Addr}{R:Led→Prop}(h:fO l ex R):R l:=h.k l fun O O O e=>e
theorem fO.held{l:Led}{ex:List Addr}{R:Led→Prop}(h:fO l ex R):∀ a∈ex,l a≠none:=fun a ha q=>by
 cases h.h a ha with | mk o vs e hd=>rw [e] at q;cases q
theorem fO.step{l l':Led}{ex:List Addr}{R:Led→Prop}(h:fO l ex R)(s:∀ a o,a∈ex→l a=some o→l' a=some o):fO l' ex R :=
 ⟨fun a ha=>by cases h.h a ha with | mk o vs e hd=>exact ⟨o,vs,s a o ha e,hd⟩,fun l2 k=>h.k l2 fun a o ha e=>k a o ha (s a o ha e)⟩
theorem fO.and{l:Led}{ex ex':List Addr}{R R':Led→Prop}(h:fO l ex R)(h':fO l ex' R'):fO l (ex++ex') fun l=>R l∧R' l :=
 ⟨fN h.h h'.h,fun l2 k=>⟨h.k l2 fun a o ha=>k a o (List.mem_append_left _ ha),h'.k l2 fun a o ha=>k a o (List.mem_append_right _ ha)⟩⟩
theorem fO.off{l:Led}{ex:List Addr}{R:Led→Prop}(h:fO l ex R){z:Addr}(hz:∀ o vs,l z=some o→o.data≠.fields vs):∀ a∈ex,a≠z:=fun a ha q=>by
 cases h.h a ha with | mk o vs e hd=>exact hz o vs (q▸e) hd
theorem Tab.sup{l:Led}{P:Addr}{pos:Pos}{q:Str}(h:Tab l P pos q):∃ ex,P∈ex∧fO l ex fun l=>Tab l P pos q:=by
 obtain (⟨x,e,h⟩):=h
 rcases h with rfl | ⟨c,rfl,oc,vs,t,ec,hd,hv⟩
 ·exact ⟨[P],.head _,aC ⟨_,_,e,rfl⟩ dD,fun l' k=>⟨_,k _ _ (.head _) e,.inl rfl⟩⟩
 ·exact ⟨[P,c],.head _,aC ⟨_,_,e,rfl⟩ (aC ⟨_,_,ec,hd⟩ dD),fun l' k=>⟨_,k _ _ (.head _) e,.inr ⟨c,rfl,oc,vs,t,k _ _ (.tail _ (.head _)) ec,hd,hv⟩⟩⟩
theorem aK.sup{Y:Led→Addr→Prop}{l:Led}{P:Addr}{pos:Pos}{q:Str}(h:aK Y l P pos q)(hY:∀ P',Y l P'→∃ ex,P'∈ex∧fO l ex fun l=>Y l P'):∃ ex,P∈ex∧fO l ex fun l=>aK (fun l P'=>Y l P'∧P'∈ex) l P pos q:=by
 obtain ⟨x,e,h⟩:=h
 rcases h with rfl | ⟨c,P',rfl,⟨oc,vs,t,ec,hd,hv,hc,hn⟩,y⟩
 ·exact ⟨[P],.head _,aC ⟨_,_,e,rfl⟩ dD,fun l' k=>⟨_,k _ _ (.head _) e,.inl rfl⟩⟩
 ·obtain ⟨ex,h1,h2⟩:=hY P' y
  exact ⟨P::c::ex,.head _,aC ⟨_,_,e,rfl⟩ (aC ⟨_,_,ec,hd⟩ h2.h),fun l' k=>⟨_,k _ _ (.head _) e,.inr ⟨c,P',rfl,⟨oc,vs,t,k _ _ (.tail _ (.head _)) ec,hd,hv,hc,hn⟩,h2.k l' fun a o ha=>k a o (.tail _ (.tail _ ha)),.tail _ (.tail _ h1)⟩⟩⟩
theorem aK.xg{l:Led}{P:Addr}{pos:Pos}{q:Str}(h:aK (fun O O=>True) l P pos q):∃ ex,P∈ex∧fO l ex fun l=>aK (fun O O=>True) l P pos q:=by
 obtain (⟨x,e,h⟩):=h
 rcases h with rfl | ⟨c,P',rfl,⟨oc,vs,t,ec,hd,hv,hc,hn⟩,_⟩
 ·exact ⟨[P],.head _,aC ⟨_,_,e,rfl⟩ dD,fun l' k=>⟨_,k _ _ (.head _) e,.inl rfl⟩⟩
 ·exact ⟨[P,c],.head _,aC ⟨_,_,e,rfl⟩ (aC ⟨_,_,ec,hd⟩ dD),fun l' k=>⟨_,k _ _ (.head _) e,.inr ⟨c,P',rfl,⟨oc,vs,t,k _ _ (.tail _ (.head _)) ec,hd,hv,hc,hn⟩,trivial⟩⟩⟩
noncomputable def rG(l:Led)(P:Addr):Prop:=P≠292∧P≠335∧P≠702∧Tab l P aZ aN
structure rz(ex:List Addr)(l:Led):Prop where
 t1:Tab l 292 aS aG
 t2:aK (fun l P=>rG l P∧P∈ex) l 335 dy bB
 t3:aK (fun O O=>True) l 702 jz cV
theorem rz.mk'{l:Led}(t1:Tab l 292 aS aG)(t2:aK rG l 335 dy bB)(t3:aK (fun O O=>True) l 702 jz cV):∃ ex,292∈ex∧335∈ex∧702∈ex∧fO l ex (rz ex):=by
 obtain (⟨e1,m1,s1⟩):=t1.sup
 obtain (⟨e2,m2,s2⟩):=t2.sup fun P' z=>by obtain (⟨a,b,c,h⟩):=z;obtain (⟨ex,m,s⟩):=h.sup;exact ⟨ex,m,s.h,fun l' k=>⟨a,b,c,s.k l' k⟩⟩
 obtain (⟨e3,m3,s3⟩):=t3.xg
 ·have s:=(s1.and s2).and s3
  refine ⟨_,List.mem_append_left _ (List.mem_append_left _ m1),List.mem_append_left _ (List.mem_append_right _ m2),List.mem_append_right _ m3,s.h,fun l' k=>?_⟩
  obtain (⟨⟨a,b⟩,c⟩):=s.k l' k
  exact ⟨a,b.le .rfl fun P' h=>⟨h.1,List.mem_append_left _ (List.mem_append_right _ h.2)⟩,c.le .rfl fun O O=>trivial⟩
theorem fO.fields{l l':Led}{ex:List Addr}{R:Led→Prop}(h:fO l ex R)(s:∀ a o vs,o.data=.fields vs→l a=some o→l' a=some o):fO l' ex R :=
 h.step fun a o ha e=>by cases h.h a ha with | mk o2 vs e2 hd=>exact s a o vs (by rw [e] at e2;cases e2;exact hd) e
theorem fO.kd{l l':Led}{ex:List Addr}{R:Led→Prop}(h:fO l ex R)(k:cP l l'):fO l' ex R:=h.fields fun a o vs hd e=>k a o (fun v q=>nomatch hd.symm.trans q) e
noncomputable def bp:Fin 4→Str
 | 0=>Str.ofString "current"
 | 1=>Str.ofString "format-number"
 | 2=>Str.ofString "generate-id"
 | 3=>Str.ofString "key"
theorem jc:∀ i j k m:Fin 4,[i,j,k,m].Nodup→sortedS [bp i,bp j,bp k,bp m]=true→i=0∧j=1∧k=2∧m=3:=by decide +kernel
theorem eG{x:Str}(h:x∈[Str.ofString "key",Str.ofString "current",Str.ofString "generate-id",Str.ofString "format-number"]):∃ i,x=bp i:=by
 simp only [List.mem_cons,List.not_mem_nil,or_false] at h
 rcases h with rfl | rfl | rfl | rfl
 ·exact ⟨3,rfl⟩
 ·exact ⟨0,rfl⟩
 ·exact ⟨2,rfl⟩
 ·exact ⟨1,rfl⟩
theorem xq{l:List Str}{P:Prop}(h:l.length=4)(k:∀ a b c d,l=[a,b,c,d]→P):P:=by
 rcases l with _ | ⟨a,_ | ⟨b,_ | ⟨c,_ | ⟨d,_ | ⟨e,l⟩⟩⟩⟩⟩
 ·exact absurd h (Nat.ne_of_beq_eq_false rfl)
 ·exact absurd h (Nat.ne_of_beq_eq_false rfl)
 ·exact absurd h (Nat.ne_of_beq_eq_false rfl)
 ·exact absurd h (Nat.ne_of_beq_eq_false rfl)
 ·exact k a b c d rfl
 ·exact absurd h (Nat.ne_of_beq_eq_false rfl)
theorem sh{ss:List Str}(hp:ss.Perm [Str.ofString "key",Str.ofString "current",Str.ofString "generate-id",Str.ofString "format-number"])(hs:sortedS ss=true):ss=[Str.ofString "current",Str.ofString "format-number",Str.ofString "generate-id",Str.ofString "key"]:=by
 refine xq hp.length_eq fun a b c d e=>?_
 ·subst e
  obtain (⟨i,rfl⟩):=eG (hp.subset (a:=a) (by simp))
  obtain (⟨j,rfl⟩):=eG (hp.subset (a:=b) (by simp))
  obtain (⟨k,rfl⟩):=eG (hp.subset (a:=c) (by simp))
  obtain (⟨m,rfl⟩):=eG (hp.subset (a:=d) (by simp))
  have hn:[bp i,bp j,bp k,bp m].Nodup:=hp.nodup_iff.mpr (by decide +kernel)
  have hn2:([i,j,k,m].map bp).Nodup:=hn
  obtain (⟨rfl,rfl,rfl,rfl⟩):=jc i j k m (by
   have:=hn2
   unfold List.Nodup at this ⊢
   rw [List.pairwise_map] at this
   exact this.imp fun h e=>h (congrArg _ e)) hs
  rfl
theorem q8(xs:List Str)(h:SeqAt.shaped (.list (xs.map .str))=true):PyData.eqv (.list (xs.map .str)) (.list (xs.map .str))=true:=SeqAt.eqv_refl _ (SeqAt.canLay_of_shaped h)
section
variable {d:Dy}{r:Nat}{l:Led}{K:CV→Led→Prop}
theorem LN.xZ{a b:Addr}{ns:List Nat}(ha:HL l a (aq ns))(hb:HL l b (aq ns))(h:K (.v (.bool false)) l):LN d r (br .NotEq) [.v (.ref a),.v (.ref b)] K l :=
 LN.x5 (fP.list ha .nats) (fP.list hb .nats) (bD ns) (bD ns) (by rw [kU];exact h)
theorem LN.uD{a b:Addr}{xs:List Str}(ha:HL l a (xs.map .str))(hb:HL l b (xs.map .str))(hs:SeqAt.shaped (.list (xs.map .str))=true)(h:K (.v (.bool false)) l):LN d r (br .NotEq) [.v (.ref a),.v (.ref b)] K l :=
 LN.x5 (fP.list ha .strs) (fP.list hb .strs) hs hs (by rw [q8 xs hs];exact h)
end
noncomputable def lB(o:Obj):Prop:=(∃ fd,o.data=.func fd)∨(∃ v,o.data=.cell v)∨∃ vs q t,o.data=.fields vs∧vs[1]?=some (.str q t)
theorem cy.st{l l':Led}{c:Addr}{q:Str}(h:cy l c q)(k:∀ b o,lB o→l b=some o→l' b=some o):cy l' c q:=by
 induction h with | mk o vs t e hd hv=>exact ⟨o,vs,t,k _ _ (.inr (.inr ⟨_,_,_,hd,hv⟩)) e,hd,hv⟩
theorem bM.st{l l':Led}{c P:Addr}{q:Str}(h:bM l c P q)(k:∀ b o,lB o→l b=some o→l' b=some o):bM l' c P q:=by
 induction h with | mk o vs t e hd hv hc n=>exact ⟨o,vs,t,k _ _ (.inr (.inr ⟨_,_,_,hd,hv⟩)) e,hd,hv,hc,n⟩
theorem ae.st{l l':Led}{a:Addr}{c:CV}(h:ae l a c)(k:∀ b o,lB o→l b=some o→l' b=some o):ae l' a c:=by
 induction h with | mk o v e hd is=>exact ⟨o,v,k _ _ (.inr (.inl ⟨_,hd⟩)) e,hd,is⟩
theorem ae.cl{l:Led}{a:Addr}{c:CV}(h:ae l a c):bl l a:=by
 induction h with | mk o v e hd is=>exact ⟨o,_,e,hd⟩
theorem bK.st{l l':Led}{f P io:Addr}(h:bK l f P io)(k:∀ b o,lB o→l b=some o→l' b=some o):bK l' f P io :=
 by obtain (⟨ci,doc,pm,ctv,c',e,hc,hi⟩):=h;exact ⟨ci,doc,pm,ctv,c',k _ _ (.inl ⟨_,rfl⟩) e,hc.st k,hi.st k⟩
theorem eJ.st{l l':Led}{f cA cI:Addr}(h:eJ l f cA cI)(k:∀ b o,lB o→l b=some o→l' b=some o):eJ l' f cA cI :=
 by obtain (⟨doc,pm,ctv,c',e,hc⟩):=h;exact ⟨doc,pm,ctv,c',k _ _ (.inl ⟨_,rfl⟩) e,hc.st k⟩
theorem nv{l:Led}{P b:Addr}{x:Array Value}{pos:Pos}{o:Obj}(e:l P=some (tabObj x))(hx:x=#[]∨∃ c,x=#[rawInt pos.line,rawInt pos.col,Value.ref c])(h:lB o)(eb:l b=some o):b≠P:=fun q=>by
 rw [q,e] at eb;cases eb
 rcases h with ⟨_,h⟩ | ⟨_,h⟩ | ⟨vs,_,_,h,hv⟩
 ·cases h
 ·cases h
 ·cases h
  rcases hx with rfl | ⟨c,rfl⟩<;>cases hv
theorem Tab.rO{l:Led}{P b:Addr}{pos:Pos}{q:Str}{o:Obj}(t:Tab l P pos q)(h:lB o)(eb:l b=some o):b≠P :=
 by cases t with | mk x e hx=>exact nv (pos:=pos) e (hx.imp id fun z=>by obtain (⟨c,h,_⟩):=z;exact ⟨c,h⟩) h eb
theorem aK.rO{Y:Led→Addr→Prop}{l:Led}{P b:Addr}{pos:Pos}{q:Str}{o:Obj}(t:aK Y l P pos q)(h:lB o)(eb:l b=some o):b≠P :=
 by cases t with | mk x e hx=>exact nv (pos:=pos) e (hx.imp id fun z=>by obtain (⟨c,_,h,_⟩):=z;exact ⟨c,h⟩) h eb
theorem Tab.st{l l':Led}{P:Addr}{pos:Pos}{q:Str}(h:Tab l P pos q)(kP:∀ o,l P=some o→l' P=some o)(k:∀ b o,lB o→l b=some o→l' b=some o):Tab l' P pos q :=
 by cases h with | mk x e hx=>exact ⟨x,kP _ e,hx.imp id fun z=>by obtain (⟨c,a,b⟩):=z;exact ⟨c,a,b.st k⟩⟩
theorem aK.st{Y Y':Led→Addr→Prop}{l l':Led}{P:Addr}{pos:Pos}{q:Str}(h:aK Y l P pos q)(kP:∀ o,l P=some o→l' P=some o)(k:∀ b o,lB o→l b=some o→l' b=some o)(hY:∀ P',Y l P'→Y' l' P'):aK Y' l' P pos q :=
 by cases h with | mk x e hx=>exact ⟨x,kP _ e,hx.imp id fun z=>by obtain (⟨c,P',a,b,y⟩):=z;exact ⟨c,P',a,b.st k,hY _ y⟩⟩
theorem Tab.held{l:Led}{P:Addr}{pos:Pos}{q:Str}(h:Tab l P pos q):l P≠none:=by
 induction h with | mk x e hx=>exact fun q=>by rw [e] at q;cases q
theorem aK.held{Y:Led→Addr→Prop}{l:Led}{P:Addr}{pos:Pos}{q:Str}(h:aK Y l P pos q):l P≠none:=by
 induction h with | mk x e hx=>exact fun q=>by rw [e] at q;cases q
theorem fR{l:Led}{P b:Addr}{o o2:Obj}(e:l P=some o2)(h2:∃ vs,o2.data=.fields vs)(eb:l b=some o)(h:∀ vs,o.data≠.fields vs):b≠P:=fun q=>by
 rw [q,e] at eb;cases eb
 obtain (⟨vs,h2⟩):=h2;exact h vs h2
theorem Tab.fld{l:Led}{P:Addr}{pos:Pos}{q:Str}(h:Tab l P pos q):∃ o,l P=some o∧∃ vs,o.data=.fields vs:=by
 induction h with | mk x e hx=>exact ⟨_,e,_,rfl⟩
theorem aK.fld{Y:Led→Addr→Prop}{l:Led}{P:Addr}{pos:Pos}{q:Str}(h:aK Y l P pos q):∃ o,l P=some o∧∃ vs,o.data=.fields vs:=by
 induction h with | mk x e hx=>exact ⟨_,e,_,rfl⟩
theorem bJ.seq{cs:List CV}{o:Obj}(h:bJ cs o):∀ vs,o.data≠.fields vs:=fun vs q=>by obtain (⟨us,rfl,_⟩):=h;cases q
theorem ai.seq{cs:List CV}{o:Obj}(h:ai cs o):∀ vs,o.data≠.fields vs:=fun vs q=>by obtain (⟨us,n,rfl,_⟩):=h;cases q
theorem ai.qy{cs:List CV}{o:Obj}(h:ai cs o):∀ v,o.data≠.cell v:=fun vs q=>by obtain (⟨us,n,rfl,_⟩):=h;cases q
theorem bJ.qy{cs:List CV}{o:Obj}(h:bJ cs o):∀ v,o.data≠.cell v:=fun vs q=>by obtain (⟨us,rfl,_⟩):=h;cases q
theorem ba.st{l l':Led}{ra:Addr}{rw:List (Nat × Str)}{tp:List Addr}(h:ba l ra rw tp)(k1:∀ o,l ra=some o→l' ra=some o)(k2:∀ b o cs,bJ cs o→l b=some o→l' b=some o):ba l' ra rw tp :=
 ⟨h.li.of k1,h.n,fun i a p h1 h2=>by cases h.it i a p h1 h2 with | mk o e q=>exact ⟨o,k2 _ _ _ q e,q⟩⟩
theorem KN.st{w:World}{l l':Led}{ix dx nd:Addr}{N:List (Str × Value)}(h:KN w l ix dx nd N)(k:∀ b∈[ix,dx,nd],∀ o,l b=some o→l' b=some o):KN w l' ix dx nd N :=
 ⟨⟨k _ (.head _) _ h.i.1,h.i.2.of fun o=>k _ (.tail _ (.head _)) o⟩,h.d.of (k _ (.tail _ (.tail _ (.head _)))),h.n,h.lo⟩
theorem Ctx.st{l l':Led}{av:List Addr}{c t:Addr}{nd cu:Int}{cl:Addr}(h:Ctx l av c t nd cu cl)(k:∀ b o,b ∉ av→l b=some o→l' b=some o):Ctx l' av c t nd cu cl :=
 by cases h with | mk dc p s v n i I a b=>exact ⟨dc,p,s,v,n,i,⟨k _ _ a I.1,I.2.of fun o=>k _ o b⟩,a,b⟩
noncomputable def d4(l:Led)(zs:List Addr):Led:=fun b=>if b∈zs then none else l b
theorem r8{l:Led}{zs:List Addr}:(d4 l zs).le l:=fun b o e=>by
 unfold d4 at e;split at e
 ·cases e
 ·exact e
theorem r9{l:Led}{zs:List Addr}{b:Addr}{o:Obj}(h:b ∉ zs)(e:l b=some o):d4 l zs b=some o:=(if_neg h).trans e
theorem fQ{l:Led}{zs:List Addr}{b:Addr}(h:b∈zs):d4 l zs b=none:=if_pos h
end
section
section
variable {fi:Fi}{r:Nat}{d:Dy}{cs:List Addr}{σ:Sl}{l:Led}
theorem LE.t8{p:Pe}{K:CV→Led→Prop}{o i:Ex}{args:List Ex}{ip pos:Pos}(n:Nat)(ev:Ev d fi cs)(hS:p.at=.Call (.Subscript o i ip) args [] pos)(hok:(!(args.any isStar)&&args.length==n)=true)
  (h:Mine.go (fi:=fi) (r:=r) ⟨d,cs,fun o σ' l'=>match o with
   | some c=>Mine.go (fi:=fi) (r:=r) ⟨d,cs,fun o O l=>match o with | some c=>K c l | none=>False,fun O O=>False⟩ 99 (.a p 1 n [] (.loc c .ret)) σ l'
   | none=>False,fun O O=>False⟩ 99 (.e (p.c 0) .ret) σ l):LE d r fi (eval p.at d.env) K σ l:=by
 have h0:(p.c 0).at=ch p.at 0:=rfl
 have h1:∀ q,(p.c (1+q)).at=ch p.at (1+q):=fun O=>rfl
 have he:LE d r fi (eval (p.c 0).at d.env) (fun c l'=>Mine.go (fi:=fi) (r:=r) ⟨d,cs,fun o O l=>match o with | some c=>K c l | none=>False,fun O O=>False⟩ 99 (.a p 1 n [] (.loc c .ret)) σ l') σ l:=cf (x:=⟨d,cs,_,fun O O=>False⟩) ev 99 _ _ _ h
 clear h
 revert h0 h1
 rw [hS]
 intro h0 h1
 ·
  simp only [Bool.and_eq_true,Bool.not_eq_true',beq_iff_eq] at hok
  obtain (⟨hst,rfl⟩):=hok
  rw [h0] at he
  refine ⟨fun m hm=>.iX (fun O O O O h=>Call_ h rfl) ((he.run m hm).pv fun c v l' is k=>?_)⟩
  have hp:Part p 1 args.length args:=part_of fun q=>by rw [h1,Nat.add_comm];rfl
  have la:LA (x:=⟨d,cs,fun o O l=>match o with | some c=>K c l | none=>False,fun O O=>False⟩) (fi:=fi) (r:=r) p 1 args.length _ σ l':=cf (x:=⟨d,cs,_,fun O O=>False⟩) ev 99 _ _ _ k
  refine cq hst fun pos=>(la args hp hst m pos hm).mono fun vs m2 l p=>?_
  induction p with
  | mk cs e is' k =>
   subst e
   have k2:LF d l c fun f=>LN d r (fun vs=>call f vs) ([]++cs) K l:=k.2
   induction k2 with
   | mk f e' cw kk=>subst e';cases is;exact ⟨cw,kk.run vs _ is'⟩
end
end
section
noncomputable abbrev rP:Fi:={ns:=nm ["script", "k", "source", "tree", "rows", "pairs", "index_of", "calls", "node", "current", "context", "other", "turn", "value", "picture", "due", "wrong", "some"],gi:=[71,61,62,59,40,39,43,44,45,36,42,37,63,52,51,49,50],cn:=nm ["index", "asked"]}
section
variable {d:Dy}{r:Nat}{l:Led}{K:CV→Led→Prop}
theorem LN.min2{a b:Int}(h:K (.int (if b < a then b else a)) l):LN d r (fun vs=>call (.builtin "min") vs) [.int a,.int b] K l:=⟨fun vs m hv=>⟨fun A E g s n=>by
 refine ar.dg hv fun v w i1 i2=>?_
 cases i1;cases i2
 obtain (⟨mo,news,F,N,_,st,_⟩):=n.a.led
 exact min_two_N n.R.hd F N fun h' tk F' N'=>⟨g,m,l,.of (t:=tk),st h' F' N',_,rfl,.int _ _,h⟩⟩⟩
end
inductive pz(l:Led):Str→Addr→Prop
 | key {a:Addr} {cs:List CV} (h:HL l a cs) (hz:cs.length≤1000) (n:cs.length < 2∨2 < cs.length):pz l (Str.ofString "key") a
 | cur {a:Addr} {cs:List CV} (h:HL l a cs) (hz:cs.length≤1000) (n:0 < cs.length):pz l (Str.ofString "current") a
 | many {a:Addr} {cs:List CV} (h:HL l a cs) (hz:cs.length≤1000) (n:1 < cs.length):pz l (Str.ofString "generate-id") a
 | odd {a:Addr} {v:CV} {T:String} (h:HL l a [v]) (ty:Ty l v T) (hT:(T=="list")=false):pz l (Str.ofString "generate-id") a
 | vm {a:Addr} {cs:List CV} (h:HL l a cs) (hz:cs.length≤1000) (n:cs.length < 2∨3 < cs.length):pz l (Str.ofString "format-number") a
theorem pz.kp{l l':Led}{src a:Addr}{w:Str}(h:pz l w a)(k:aE l src l')(s:Src l src)(n:a≠src):pz l' w a:=by
 induction h with
 | key h hz m=>exact .key (h.kp k n) hz m
 | cur h hz m=>exact .cur (h.kp k n) hz m
 | many h hz m=>exact .many (h.kp k n) hz m
 | vm h hz m=>exact .vm (h.kp k n) hz m
 | odd h ty hT =>
  refine .odd (h.kp k n) ?_ hT
  induction ty with
  | str x=>exact .str x
  | bool b=>exact .bool b
  | list h=>cases hT
  | tup ht=>exact .tup (ht.kp k (s.nt ht))
inductive rI(l:Led)(src:Addr)(c:CV):Prop
 | mk (B:Addr) (w:Str) (a:Addr) (e:c=.v (.ref B)) (h:HT l B [.str w,.v (.ref a)]) (n:a≠src) (b:pz l w a):rI l src c
theorem rI.kp{l l':Led}{src:Addr}{c:CV}(h:rI l src c)(k:aE l src l')(s:Src l src):rI l' src c :=
 by cases h with | mk B w a e h n b=>exact ⟨B,w,a,e,h.kp k (s.nt h),n,b.kp k s n⟩
structure cQ(l:Led)(src:Addr)(cs:List CV):Prop where
 s:Src l src
 b:∀ c∈cs,rI l src c
theorem cQ.le{l l':Led}{src:Addr}{cs:List CV}(h:cQ l src cs)(le:l.le l'):cQ l' src cs:=⟨h.s.of fun o=>le _ o,fun c hc=>(h.b c hc).kp (fun b o O e=>le b o e) h.s⟩
theorem cQ.one{l l1 l2:Led}{src a B:Addr}{w:Str}{cs xs:List CV}(h:cQ l src cs)(m1:Mk l a (ai xs) l1)(m2:Mk l1 B (bJ [.str w,.v (.ref a)]) l2)(b:pz l1 w a):cQ l2 src (cs++[.v (.ref B)]):=by
 have n:a≠src:=fun q=>h.s.held (q▸m1.fresh)
 have h1:=h.le m1.le
 have h2:=h1.le m2.le
 refine ⟨h2.s,fun c hc=>(List.mem_append.mp hc).elim (h2.b c) fun hc=>?_⟩
 rw [List.mem_singleton.mp hc]
 exact ⟨B,w,a,rfl,m2.is,n,b.kp (fun b o O e=>m2.le b o e) h1.s n⟩
theorem pz.run{l:Led}{f P io a:Addr}{w:Str}(h:pz l w a)(hf:bK l f P io):∃ g,valueAt (dT f) w=some (.ref g)∧(∀ d1:Dy,CW d1 l (.ref g))∧∀ (d:Dy) (r:Nat) (c:Addr) (K:CV→Led→Prop),(∀ l',l.le l'→d.X 63 l')→Cl d (r+4) (.ref g) [.v (.ref a),.v (.ref c)] K l:=by
 induction h with
 | key h hz m =>
  obtain (⟨ci,doc,pm,ctv,c',efn,_⟩):=id hf
  exact ⟨f,rfl,fun d1=>CW.fn efn rfl,fun d r c K x=>kX hf h hz m x⟩
 | cur h hz m=>exact ⟨347,rfl,fun d1=>CW.own (by kernel_rfl),fun d r c K x=>gW h hz m (x _ .rfl)⟩
 | many h hz m=>exact ⟨354,rfl,fun d1=>CW.own (by kernel_rfl),fun d r c K x=>kL h hz m (x _ .rfl)⟩
 | odd h ty hT=>exact ⟨354,rfl,fun d1=>CW.own (by kernel_rfl),fun d r c K x=>md h ty hT (x _ .rfl)⟩
 | vm h hz m=>exact ⟨361,rfl,fun d1=>CW.own (by kernel_rfl),fun d r c K x=>mi h hz m (x _ .rfl)⟩
section
variable {d:Dy}{r:Nat}{l:Led}{K:CV→Led→Prop}
structure rF(l:Led)(cA cI:Addr):Prop where
 a:bl l cA
 i:bl l cI
 t:∃ ex,292∈ex∧335∈ex∧702∈ex∧fO l ex (rz ex)
theorem bl.ne{l:Led}{a b:Addr}(h:bl l a)(e:l b=none):a≠b:=by
 induction h with | mk o v q hd=>exact Led.ne q e
theorem cQ.step{src:Addr}{cs xs:List CV}{w:Str}(B:cQ l src cs)(hz:xs.length≤1000)(b:∀ a l1,Mk l a (ai xs) l1→pz l1 w a)(k:∀ z l2,cQ l2 src (cs++[.v (.ref z)])→l.le l2→K (.v (.ref z)) l2) :
  LN d r newList xs (fun c l=>LN d r newTuple [.str w,c] K l) l :=
 LN.ag hz fun a l1 m1=>LN.au (aj rfl) fun z l2 m2=>k z l2 (cQ.one B m1 m2 (b a l1 m1)) (m1.le.trans m2.le)
noncomputable abbrev xh(x:Th)(sc f:Addr)(k:Int):Sl:=.c (.v (.ref sc)) (.c (.int k) (.c (.v (.ref x.src)) (.c (.v (.ref x.t)) (.c (.v (.ref x.ra)) (.c (.v (.ref x.fd)) (.c (.v (.ref f)) (.c (.v (.ref x.cd)) (.c (.int (x.nd:Int)) (.c (.int (x.cu:Int)) (.c (.v (.ref x.c)) .nil))))))))))
noncomputable abbrev vB(x:Th)(sc f:Addr)(k:Int)(c2:Addr):Sl:=.c (.v (.ref sc)) (.c (.int k) (.c (.v (.ref x.src)) (.c (.v (.ref x.t)) (.c (.v (.ref x.ra)) (.c (.v (.ref x.fd)) (.c (.v (.ref f)) (.c (.v (.ref x.cd)) (.c (.int (x.nd:Int)) (.c (.int (x.cu:Int)) (.c (.v (.ref x.c)) (.c (.v (.ref c2)) .nil)))))))))))
inductive yB(s0:Sl)(l0:Led)(x:Th)(n k:Nat)(σ:Sl)(l':Led):Prop
 | mk (en:n=3) (e:σ=s0) (asked:List CV) (hz:asked.length=k) (D:iU l0 l' x asked):yB s0 l0 x n k σ l'
theorem sL{PP:Option CV→Sl→Led→Prop}{x:Th}{l0:Led}{cA cI sc f:Addr}{kk:Int}(ev:Ev d rP [cI,cA])(hm:d.may)(hfe:d.ay=d.env)(hst:¬ d.az)(ST:pq d.w d.base l0 x)(DN:iU l0 l x [])(hA0:ae l0 cA (.v (.ref x.al)))
  (hav:∀ {l':Led} {asked:List CV},iU l0 l' x asked→∀ a∈x.av,l' a≠none) (next:∀ σ l' asked,iU l0 l' x asked→(Sl.c (.v (.ref sc)) .nil).Le σ→PP none σ l') :
  go (fi:=rP) (r:=r+20) ⟨d,[cI,cA],PP,fun O O=>False⟩ 784 (.s ((Bk.f (st 71)).t 0) 8 .nil) (xh x sc f kk) l:=by
 obtain (⟨t0,ht0⟩):=aa (l:=x.tp) (i:=0) (by rw [ST.R.n,ao];exact ST.h0)
 obtain (⟨q0,hq0⟩):=aa (l:=rws x.es x.ts) (i:=0) (by rw [ao];exact ST.h0)
 have r0L:(x.tp.map fun a=>CV.v (.ref a))[(0:Int).toNat]?=some (.v (.ref t0)):=by show (x.tp.map fun a=>CV.v (.ref a))[0]?=_;rw [List.getElem?_map,ht0];rfl
 conv=>whnf
 refine LN.tS (ST.cd.le DN.le) ST.yj (show 4 < 64 by decide) fun ss D8 l14 hp ho m14=>?_
 obtain rfl:=sh hp ho
 refine LN.ag (aj rfl) fun e8 l15 m15=>?_
 refine LN.uD (m15.keep m14.is) m15.is (by decide +kernel) (.f' rfl ?_)
 refine gz hst ST ((DN.more m14.le).more m15.le) fun l16 D16=>?_
 refine .t' rfl ?_
 obtain (⟨dcx,px,sx,vx,nx,ix2,Ix,_,_⟩):=id (ST.C.le D16.le)
 refine bG.own 390 Ix (by kernel_rfl) ?_
 refine LN.aR (ST.R.le D16.le).li (by decide) r0L (by decide) ?_
 refine LN.cJ ((ST.R.le D16.le).it 0 t0 q0 ht0 hq0) (by decide) rfl (by decide) ?_
 refine pa (av:=x.av) (hav D16) (ST.C.le D16.le) fun c2 l17 hC17 le17 fc2=>?_
 have D17:=D16.more le17
 have hcur:valueAt (dT x.f) (Str.ofString "current")=some (.ref 347):=by rfl
 refine LE.t8 2 ev rfl (by kernel_rfl) ?_
 refine LN.cp (ST.cd.le D17.le) g7 hcur ?_
 refine LN.ag (cs:=[]) (Nat.zero_le _) fun u1 l18 m18=>?_
 refine LF.mk (.ref 347) rfl (CW.own (by kernel_rfl)) ?_
 refine gV (ST.C.le (D17.more m18.le).le) m18.is fun b1 l19 m19=>?_
 refine LN.ag (aj rfl) fun u2 l20 m20=>?_
 refine LN.xZ (ns:=[x.cu]) (m20.keep m19.is) m20.is (.f' rfl ?_)
 have D20:=((D17.more m18.le).more m19.le).more m20.le
 refine LE.t8 2 ev rfl (by kernel_rfl) ?_
 refine LN.cp (ST.cd.le D20.le) g7 hcur ?_
 refine LN.ag (cs:=[]) (Nat.zero_le _) fun u3 l21 m21=>?_
 refine LF.mk (.ref 347) rfl (CW.own (by kernel_rfl)) ?_
 refine gV ((((hC17.le m18.le).le m19.le).le m20.le).le m21.le) m21.is fun b2 l22 m22=>?_
 refine LN.ag (aj rfl) fun u4 l23 m23=>?_
 refine LN.xZ (ns:=[x.cu]) (m23.keep m22.is) m23.is (.f' rfl ?_)
 have D23:=((D20.more m21.le).more m22.le).more m23.le
 have hfm:valueAt (dT x.f) (Str.ofString "format-number")=some (.ref 361):=by rfl
 refine LS.qU 300 (yB (vB x sc f kk c2) l0 x) ev hm hfe (by kernel_rfl) (fun P' hP'=>?_) ?_ ?_
 ·refine LN.jf fun a l24 m24=>?_
  exact hP' a 3 _ l24 (by decide) (.c (.c (.c (.c (.c (.c (.c (.c (.c (.c (.c (.c .nil)))))))))))) m24.is ⟨rfl,rfl,[],rfl,D23.more m24.le⟩
 ·rintro d2 P2 n2 k2 σ l24 s2 hk2 ⟨rfl,rfl,asked,hz2,D24⟩ next2 ret2
  have ST2:pq d2.w d2.base l0 x:=by rw [s2.w,s2.base];exact ST
  have hst2:¬ d2.az:=by rw [s2.az];exact hst
  refine CK.mk _ (hA0.le D24.le) ?_
  refine jv hst2 ST2 D24 (by omega) fun l25 D25=>?_
  refine .t' rfl ?_
  refine lQ D25.s fun b v xv due l26 p q hb hV hF s26 kp26=>?_
  refine bh.fC hb rfl ?_
  have D26:=D25.draw ST2 kp26 s26
  refine LN.cp (ST2.cd.le D26.le) g7 hfm ?_
  refine LN.ag (aj rfl) fun u l27 m27=>?_
  refine bw hst2 (fun d3 O=>CW.own (by kernel_rfl)) fun d3 K' O O kk O O=>?_
  refine uV (ST2.C.le (D26.more m27.le).le) m27.is (hV.le m27.le) hF (kk _ _ (.f' (by simp) ?_))
  exact next2 _ _ l27 (.c (.c (.c (.c (.c (.c (.c (.c (.c (.c (.c (.c .nil)))))))))))) ⟨rfl,rfl,asked++[_],by rw [List.length_append,hz2];rfl,D26.more m27.le⟩
 rintro n2 σ l24 ⟨rfl,rfl,asked,hz2,D24⟩
 have B0:cQ l24 x.src []:=⟨D24.s,fun O h=>nomatch h⟩
 refine cQ.step B0 (aj rfl) (fun a l1 m=>.key m.is (aj rfl) (.inl (aj rfl))) fun z1 l1 B1 e1=>?_
 refine cQ.step B1 (aj rfl) (fun a l1 m=>.key m.is (aj rfl) (.inr (aj rfl))) fun z2 l2 B2 e2=>?_
 refine cQ.step B2 (aj rfl) (fun a l1 m=>.cur m.is (aj rfl) (aj rfl)) fun z3 l3 B3 e3=>?_
 refine LN.ag (cs:=[]) (Nat.zero_le _) fun z31 l31 m31=>?_
 refine LN.ag (cs:=[]) (Nat.zero_le _) fun z32 l32 m32=>?_
 refine cQ.step ((B3.le m31.le).le m32.le) (aj rfl) (fun a l1 m=>.many m.is (aj rfl) (aj rfl)) fun z4 l4 B4 e4=>?_
 refine cQ.step B4 (aj rfl) (fun a l1 m=>.odd m.is (.str _) (by decide)) fun z5 l5 B5 e5=>?_
 refine LN.au (aj rfl) fun z37 l37 m37=>?_
 refine cQ.step (B5.le m37.le) (aj rfl) (fun a l1 m=>.odd m.is (.tup (m.keep m37.is)) (by decide)) fun z6 l6 B6 e6=>?_
 refine LN.au (aj rfl) fun z40 l40 m40=>?_
 refine cQ.step (B6.le m40.le) (aj rfl) (fun a l1 m=>.vm m.is (aj rfl) (.inl (aj rfl))) fun z7 l7 B7 e7=>?_
 refine cQ.step (xs:=[]) B7 (Nat.zero_le _) (fun a l1 m=>.vm m.is (Nat.zero_le _) (.inl (aj rfl))) fun z8 l8 B8 e8=>?_
 refine LN.au (aj rfl) fun z45 l45 m45=>?_
 refine cQ.step (B8.le m45.le) (aj rfl) (fun a l1 m=>.vm m.is (aj rfl) (.inr (aj rfl))) fun z9 l9 B9 e9=>?_
 refine LN.ag (aj rfl) fun zL lL mL=>?_
 have BL:=B9.le mL.le
 have leL:l24.le lL:=(((((((((((((e1.trans e2).trans e3).trans m31.le).trans m32.le).trans e4).trans e5).trans m37.le).trans e6).trans m40.le).trans e7).trans e8).trans m45.le).trans e9).trans mL.le
 have nzL:zL≠x.src:=fun q=>B9.s.held (q▸mL.fresh)
 refine eV BL.s mL.is (aj rfl) (aj rfl) nzL fun iW cW lW hiW drW=>?_
 have DW:=(D24.more leL).draw ST (fun b o n e=>(drW.other b n).trans e) drW.src
 obtain (⟨Bw,w,aw,rfl,hT,naw,hbad⟩):=(BL.b cW (List.mem_of_getElem? hiW)).kp (fun b o n e=>(drW.other b n).trans e) BL.s
 refine bh.of hT rfl ?_
 obtain ⟨g,hg,cw,run⟩:=hbad.run (ST.kf.le DW.le)
 refine LN.cp (ST.cd.le DW.le) g7 hg ?_
 refine bw hst (fun d3 O=>cw d3) fun d3 K' O O kk px O=>?_
 refine run d3 _ x.c K' fun l' rL=>px l' ?_
 refine .f' rfl ?_
 have DZ:=DW.more rL
 exact next _ l' _ DZ (.c .nil)
theorem uE{P:Option CV→Sl→Led→Prop}{cA cI sc:Addr}{ns:List Int}(ev:Ev d rP [cI,cA])(hm:d.may)(hfe:d.ay=d.env)(hst:¬ d.az)(hcode:d.env.code=.ref 706)(hq:qualnameIn d.env (aD cM) (aD cM)=cV)
  (C0:CodeHd d.base 294 292) (C1:CodeHd d.base 339 335) (C2:CodeHd d.base 706 702) (hB:BL d sc ns) (hz:ns.length≤63) (hac:cA≠cI) (J0:rF l cA cI) (hret:∀ σ l',rF l' cA cI→P (some (.v (.bool true))) σ l') :
  go (fi:=rP) (r:=r+20) ⟨d,[cI,cA],P,fun O O=>False⟩ 99 (.s (.f (st 71)) 0 .nil) (Sl.fC (vals (nm ["script"]) [.v (.ref sc)]) rP.ns) l:=by
 refine LS.qU 900 (fun n k σ l'=>n≤2∧σ=.c (.v (.ref sc)) .nil∧rF l' cA cI) ev hm hfe (by kernel_rfl) (fun P' hP'=>?_) ?_ ?_
 ·refine LN.vP hB (Nat.le_trans hz (by decide)) ?_
  refine LN.min2 ?_
  refine LN.max2 ?_
  obtain (⟨n,hn,e⟩):∃ n:Nat,n≤2∧(if (if (2:Int) < (ns.length:Int) then 2 else (ns.length:Int)) > 1 then (if (2:Int) < (ns.length:Int) then 2 else (ns.length:Int)) else 1)=(n:Int):=by
   by_cases h:ns.length < 2
   ·exact ⟨1,by decide,by split<;>split<;>omega⟩
   ·exact ⟨2,by decide,by split<;>split<;>omega⟩
  refine LN.jf fun a l1 m1=>?_
  rw [e] at m1
  exact hP' a n _ l1 (by omega) (.c .nil) m1.is ⟨hn,rfl,⟨J0.a.of fun o=>m1.le _ o,J0.i.of fun o=>m1.le _ o,by obtain (⟨ex,h1,h2,h3,s⟩):=J0.t;exact ⟨ex,h1,h2,h3,s.step fun a o O=>m1.le _ o⟩⟩⟩
 ·rintro d1 P1 n k σ l1 s hk ⟨hn,rfl,J⟩ next ret
  have ev1:=ev.sub s
  have hB1:BL d1 sc ns:=by unfold BL;rw [s.base];exact hB
  obtain ⟨ex,x1,x2,x3,S⟩:=J.t
  have off:∀ {z:Addr},bl l1 z→∀ a∈ex,a≠z:=fun h=>S.off fun o vs e hd=>by
   obtain ⟨o2,v,e2,hd2⟩:=h
   rw [e] at e2;cases e2;rw [hd] at hd2;cases hd2
  refine sC hB1 hz (by omega) fun src l2 m2=>?_
  refine jX (av:=src::cA::cI::ex) (aC m2.is.held (aC (J.a.of fun o=>m2.le _ o).held (aC (J.i.of fun o=>m2.le _ o).held (S.step fun a o O=>m2.le _ o).held))) fun t l3 hT3 cR ft=>?_
  refine LN.ag (cs:=[]) (Nat.zero_le _) fun al l4 m4=>?_
  have le14:l1.le l4:=(m2.le.trans cR).trans m4.le
  refine And.intro (J.a.of fun o=>le14 _ o) fun oA wA isA hdA=>?_
  have nsA:src≠cA:=(J.a.ne m2.fresh).symm
  have nsI:src≠cI:=(J.i.ne m2.fresh).symm
  obtain ⟨oS,eS0,xS,yS,txS,tyS,nS,rfl,qS⟩:=m2.is
  have s2:Src l2 src:=⟨xS,yS,txS,tyS,nS,eS0,qS⟩
  have nal:al≠src:=fun q=>(s2.of fun o=>cR _ o).held (q▸m4.fresh)
  have iA4:bl l4 cA:=J.a.of fun o=>le14 _ o
  have nAl:al≠cA:=fun q=>((J.a.of fun o=>m2.le _ o).of fun o=>cR _ o).held (q▸m4.fresh)
  have nIl:al≠cI:=fun q=>((J.i.of fun o=>m2.le _ o).of fun o=>cR _ o).held (q▸m4.fresh)
  have kd5:cP l4 (l4.set cA oA):=.set iA4
  have T5:Tree (l4.set cA oA) (al::src::cA::cI::ex) t []:=(hT3.av (av':=al::src::cA::cI::ex) (aC (.inr m4.fresh) fun a ha=>.inl ha)).cZ fun b o hb e=>Led.skip (m4.le _ _ e) fun q=>hb (by rw [q];exact .tail _ (.tail _ (.head _)))
  have s5:Src (l4.set cA oA) src:=(s2.of fun o e=>m4.le _ _ (cR _ _ e)).kd kd5
  have S5:=(S.step fun a o O=>le14 _ o).kd kd5
  have a5:HL (l4.set cA oA) al []:=HL.kd m4.is kd5
  have hA5:ae (l4.set cA oA) cA (.v (.ref al)):=⟨oA,wA,Led.hit,hdA,isA⟩
  have iI5:bl (l4.set cA oA) cI:=(J.i.of fun o=>le14 _ o).of fun o e=>(if_neg hac.symm).trans e
  generalize l4.set cA oA=l5 at T5 s5 S5 a5 hA5 iI5
  refine qM s5 T5 (.tail _ (.head _)) (aC a5.held (aC s5.held (aC hA5.cl.held (aC iI5.held S5.held)))) fun ra D es ts tp l6 p0 p5 hBt hv s6 T6 R6 nra kp6=>?_
  have zA:cA∈al::src::cA::cI::ex:=.tail _ (.tail _ (.head _))
  have zI:cI∈al::src::cA::cI::ex:=.tail _ (.tail _ (.tail _ (.head _)))
  have zE:∀ {z},z∈ex→z∈al::src::cA::cI::ex:=fun h=>.tail _ (.tail _ (.tail _ (.tail _ h)))
  have eS:∀ z∈ex,z≠src:=S5.off fun o vs e hd=>by
   obtain ⟨x,y,tx,ty,n,e2,_⟩:=s5
   rw [e] at e2;cases e2;cases hd
  have eA:∀ z∈ex,z≠al:=S5.off fun o vs e hd=>by
   obtain ⟨us,n,e2,_⟩:=HL.at a5
   rw [e] at e2;cases e2;cases hd
  have eC:∀ {z:Addr},bl l5 z→∀ a∈ex,a≠z:=fun h=>S5.off fun o vs e hd=>by
   obtain ⟨o2,v,e2,hd2⟩:=h
   rw [e] at e2;cases e2;rw [hd] at hd2;cases hd2
  have S6:=S5.step fun a o ha=>kp6 a o (zE ha) (eS a ha)
  have a6:HL l6 al []:=a5.of fun o=>kp6 _ o (.head _) nal
  have hA6:ae l6 cA (.v (.ref al)):=hA5.of fun o=>kp6 _ o zA nsA.symm
  have iI6:bl l6 cI:=iI5.of fun o=>kp6 _ o zI nsI.symm
  have eI:=eC iI5
  clear kp6 S5 a5 hA5 iI5 s5 T5 eC
  refine qt s6 R6 nra (by rw [ao];exact p5) fun fd a1 a2 p1 p2 l7 hfd pr1 pr2 s7 kp7 lo7 ffd=>?_
  rw [bZ] at pr1 pr2
  refine qK hfd lo7 (pr1.cZ fun O O O e=>e) (pr2.cZ fun O O O e=>e) fun ix dx oF dk1 dk2 l8 le8 kn kf1 kf2 fnd fix=>?_
  have f67:∀ {b},l7 b=none→l6 b=none:=fun {b} h=>by
   cases q:l6 b with
   | none=>rfl
   | some o =>
    by_cases e:b=src
    ·exact absurd h (e▸s7.held)
    ·have:=kp7 _ _ e q;rw [h] at this;cases this
  have iI8:bl l8 cI:=iI6.of fun o e=>le8 _ _ (kp7 _ _ nsI.symm e)
  refine And.intro iI8 fun oI wI isI hdI=>?_
  have kd9:cP l8 (l8.set cI oI):=.set iI8
  have hI9:ae (l8.set cI oI) cI (.v (.ref ix)):=⟨oI,wI,Led.hit,hdI,isI⟩
  have k89:∀ b o,b≠cI→l8 b=some o→(l8.set cI oI) b=some o:=fun b o n e=>Led.skip e n
  have s9:Src (l8.set cI oI) src:=(s7.of fun o=>le8 _ o).kd kd9
  generalize l8.set cI oI=l9 at hI9 k89 s9
  have k69:∀ b o,b≠src→b≠cI→l6 b=some o→l9 b=some o:=fun b o n1 n2 e=>k89 _ _ n2 (le8 _ _ (kp7 _ _ n1 e))
  have S9:=S6.step fun a o ha=>k69 a o (eS a ha) (eI a ha)
  have hA9:ae l9 cA (.v (.ref al)):=hA6.of fun o=>k69 _ o nsA.symm hac
  have t1:=S9.now.t1
  have t2:=S9.now.t2
  have t3:=S9.now.t3
  have ed:kW cM=jz:=by kernel_rfl
  have eq1:qualnameIn d1.env (aD cM) (aD cM)=cV:=by rw [s.env];exact hq
  refine LS.wg (c:=706) (P:=702) (Y:=fun O O=>True) (k:=6) (clos:=[(Str.ofString "index",cI),(Str.ofString "asked",cA)]) ev1 (by kernel_rfl) rfl rfl rfl (by rw [s.env];exact hcode) (fun h hb=>C2.keeps fun b o e=>hb b o (s.base▸e)) ?_ (fun O O O O=>trivial) (fun O O O O=>trivial) fun f l10 fn=>?_
  ·exact (show aK (fun O O=>True) l9 702 (kW cM) (qualnameIn d1.env (aD cM) (aD cM)) by rw [ed,eq1];exact t3)
  have u3:aK (fun O O=>True) l10 702 (kW cM) (qualnameIn d1.env (aD cM) (aD cM)):=fn.tab
  rw [ed,eq1] at u3
  have k910:l9.ky 702 l10:=fn.keep
  have z9:∀ b o,lB o→l9 b=some o→l10 b=some o:=fun b o h e=>k910 _ _ (t3.rO h e) e
  have hf:eJ l10 f cA cI:=by
   obtain ⟨c',P',doc,ctv,h1,h2,_⟩:=fn.fn
   have h2:bM l10 c' P' (qualnameIn d1.env (aD cM) (aD cM)):=h2
   rw [eq1] at h2
   obtain ⟨o,vs,t,e,hd,hv,_⟩:=h2
   refine ⟨doc,(d1.mg (Str.ofString "__name__")).getD .none,ctv,c',h1.trans ?_,o,vs,t,e,hd,hv⟩
   show some (Obj.mk _ _ (.func (fnX _ (qualnameIn d1.env (aD cM) (aD cM)) _ _ _ _ _ _ _ _ _ _ _)) _)=_
   rw [eq1]
  have u1:Tab l10 292 aS aG:=t1.st (fun o=>k910 _ o (by decide)) z9
  have u2:aK (fun l P=>rG l P∧(P∈ex∨l10 P=none)) l10 335 dy bB:=t2.st (fun o=>k910 _ o (by decide)) z9 fun P' h=>⟨⟨h.1.1,h.1.2.1,h.1.2.2.1,h.1.2.2.2.st (fun o=>k910 _ o h.1.2.2.1) z9⟩,.inl h.2⟩
  have hA10:=hA9.st z9
  have hI10:=hI9.st z9
  have s10:Src l10 src:=s9.of fun o=>k910 _ o (eS _ x3).symm
  have k610:∀ b o,b≠src→b≠cI→b≠702→l6 b=some o→l10 b=some o:=fun b o n1 n2 n3 e=>k910 _ _ n3 (k69 _ _ n1 n2 e)
  have k810:∀ b o,b≠cI→b≠702→l8 b=some o→l10 b=some o:=fun b o n1 n2 e=>k910 _ _ n2 (k89 _ _ n1 e)
  have ff9:l9 f=none:=fn.fresh
  clear fn t1 t2 t3 S9 kd9 hI9 hA9 s9 k910 z9
  refine gf (Y:=fun l P=>rG l P∧(P∈ex∨l10 P=none)) (by rw [s.base];exact C1) u2 (fun l' P' h e=>⟨⟨fun q=>u1.held (q▸h),fun q=>u2.held (q▸h),fun q=>u3.held (q▸h),_,e,.inl rfl⟩,.inr h⟩) (fun l l' P' le h=>⟨⟨h.1.1,h.1.2.1,h.1.2.2.1,h.1.2.2.2.le le⟩,h.2⟩) (fun l l' z P' lb pl h=>⟨⟨h.1.1,h.1.2.1,h.1.2.2.1,h.1.2.2.2.kf lb pl⟩,h.2⟩) fun cd fk P l11 lb11 v2 fcd hcd hkf y11 locd=>?_
  have z10:∀ b o,lB o→l10 b=some o→l11 b=some o:=fun b o h e=>lb11 _ _ (u2.rO h e) e
  have v1:Tab l11 292 aS aG:=u1.st (fun o=>lb11 _ o (by decide)) z10
  have v3:aK (fun O O=>True) l11 702 jz cV:=u3.st (fun o=>lb11 _ o (by decide)) z10 fun O O=>trivial
  have hA11:=hA10.st z10
  have hI11:=hI10.st z10
  have s11:Src l11 src:=s10.of fun o=>lb11 _ o (eS _ x2).symm
  have k611:∀ b o,b≠src→b≠cI→b≠702→b≠335→l6 b=some o→l11 b=some o:=fun b o n1 n2 n3 n4 e=>lb11 _ _ n4 (k610 _ _ n1 n2 n3 e)
  have a11:HL l11 al []:=a6.of fun o=>k611 _ o nal nIl (eA _ x3).symm (eA _ x2).symm
  obtain ⟨o7,e7,f7⟩:=S6.now.t3.fld
  obtain ⟨o3,e3,f3⟩:=S6.now.t2.fld
  have k611s:∀ b o,b≠src→(∀ vs,o.data≠.fields vs)→(∀ v,o.data≠.cell v)→l6 b=some o→l11 b=some o:=fun b o n h1 h2 e=>k611 b o n (fun q=>by
   obtain ⟨o',v,e',hd⟩:=iI6
   rw [q,e'] at e;cases e;exact h2 _ hd) (fR e7 f7 e h1) (fR e3 f3 e h1) e
  have R11:ba l11 ra (rws es ts) tp:=R6.st (fun o e=>by
   obtain ⟨o2,e2,h2⟩:=R6.li
   rw [e] at e2;cases e2
   exact k611s _ _ nra h2.seq h2.qy e) fun b o cs h e=>k611s _ _ (s6.nt ⟨o,e,h⟩) h.seq h.qy e
  have T10:Tree l10 (P::al::src::cA::cI::ex) t D:=(T6.cZ fun b o hb e=>k610 _ _ (fun q=>hb (q▸.tail _ (.head _))) (fun q=>hb (q▸zI)) (fun q=>hb (q▸zE x3)) e).av (aC (y11.2.imp zE id) fun a ha=>.inl ha)
  have T11:Tree l11 (P::al::src::cA::cI::ex) t D:=T10.cZ fun b o hb e=>lb11 _ _ (fun q=>hb (q▸.tail _ (zE x2))) e
  refine eV s11 R11.li (by rw [List.length_map,R11.n,ao];exact p0) (by rw [List.length_map,R11.n,ao];omega) nra fun i c l12 hi dr=>?_
  rw [List.getElem?_map,Option.map_eq_some_iff] at hi
  obtain ⟨tx,htx,rfl⟩:=hi
  obtain ⟨pp,hpp⟩:=aa (l:=rws es ts) (i:=i) (by rw [← R11.n];exact (List.getElem?_eq_some_iff.mp htx).1)
  have fst_at:∀ {j:Nat} {q:Nat × Str},(rws es ts)[j]?=some q→es[j]?=some q.1:=fun {j q} h=>by
   have:=congrArg (fun z=>z[j]?) (bZ (es:=es) (ts:=ts))
   rw [← this,List.getElem?_map,h];rfl
  have k12:aE l11 src l12:=fun b o n e=>(dr.other b n).trans e
  have s12:=dr.src
  have R12:=R11.kp k12 s11 nra
  have T12:=T11.cZ fun b o hb e=>k12 _ _ (fun q=>hb (q▸.tail _ (.tail _ (.head _)))) e
  refine LN.cJ (R12.it i tx pp htx hpp) (by decide) rfl (by decide) ?_
  refine T12.iJ 601 (by kernel_rfl) ?_
  obtain ⟨t0,ht0⟩:=aa (l:=tp) (i:=0) (by rw [R12.n,ao];exact p0)
  obtain ⟨q0,hq0⟩:=aa (l:=rws es ts) (i:=0) (by rw [ao];exact p0)
  obtain ⟨x0,hx0⟩:=aa (l:=ts) (i:=0) (by rw [hBt.hl];exact p0)
  obtain ⟨tn,hrow,_⟩:=hBt.el 0 q0.1 x0 (fst_at hq0) hx0
  have r0L:(tp.map fun a=>CV.v (.ref a))[(0:Int).toNat]?=some (.v (.ref t0)):=by show (tp.map fun a=>CV.v (.ref a))[0]?=_;rw [List.getElem?_map,ht0];rfl
  refine LN.aR R12.li (by decide) r0L (by decide) ?_
  refine LN.cJ (R12.it 0 t0 q0 ht0 hq0) (by decide) rfl (by decide) ?_
  refine lO T12 (top:=0) (out:=[q0.1,0]) (.cons hrow (.cons hBt.root .nil)) rfl ?_
  have k612:∀ b o,b≠src→b≠cI→b≠702→b≠335→l6 b=some o→l12 b=some o:=fun b o n1 n2 n3 n4 e=>k12 _ _ n1 (k611 _ _ n1 n2 n3 n4 e)
  have a12:HL l12 al []:=a11.of fun o=>k12 _ o nal
  have z11:∀ b o,lB o→l11 b=some o→l12 b=some o:=fun b o h e=>k12 _ _ (fun q=>by
   obtain ⟨x,y,tx,ty,n,e2,_⟩:=s11
   rw [q,e2] at e;cases e
   rcases h with ⟨_,h⟩ | ⟨_,h⟩ | ⟨_,_,_,h,_⟩<;>cases h) e
  have w1:Tab l12 292 aS aG:=v1.st (fun o=>k12 _ o (eS _ x1)) z11
  have w2:=v2.st (fun o=>k12 _ o (eS _ x2)) z11 (Y':=rG) fun P' h=>⟨h.1.1,h.1.2.1,h.1.2.2.1,h.1.2.2.2.st (fun o=>k12 _ o fun q=>by
   obtain ⟨_,e,_⟩:=h.1.2.2.2
   obtain ⟨x,y,tx,ty,n,e2,_⟩:=s11
   rw [q,e2] at e;cases e) z11⟩
  have w3:=v3.st (fun o=>k12 _ o (eS _ x3)) z11 (Y':=fun O O=>True) fun O O=>trivial
  have nPs:P≠src:=fun q=>by
   obtain ⟨_,e,_⟩:=y11.1.2.2.2
   obtain ⟨x,y,tx,ty,n,e2,_⟩:=s11
   rw [q,e2] at e;cases e
  have wP:Tab l12 P aZ aN:=y11.1.2.2.2.st (fun o=>k12 _ o nPs) z11
  have hav12:∀ a∈P::al::src::cA::cI::ex,l12 a≠none:=aC wP.held<|aC a12.held<|aC s12.held<|aC (hA11.st z11).cl.held<|aC (hI11.st z11).cl.held fun a ha=>by
   by_cases q1:a=702
   ·rw [q1];exact w3.held
   by_cases q2:a=335
   ·rw [q2];exact w2.held
   obtain ⟨o,_,e,_⟩:=S6.h a ha
   exact fun q=>by rw [k612 _ _ (eS a ha) (eI a ha) q1 q2 e] at q;cases q
  refine my (av:=P::al::src::cA::cI::ex) hav12 fun c l13 hC le13 fc=>?_
  have s13:Src l13 src:=s12.of fun o=>le13 _ o
  have a13:HL l13 al []:=a12.le le13
  have y1:=w1.le le13
  have yP:=wP.le le13
  have R13:=R12.le le13
  have nra2:ra≠al:=fun q=>by
   obtain ⟨us,n1,e1,h1⟩:=HL.at R13.li
   obtain ⟨vs,n2,e2,h2⟩:=HL.at a13
   rw [q,e2] at e1
   have h3:=h1.len
   have h4:=congrArg Obj.data (Option.some.inj e1)
   cases h2
   simp [W.listOf] at h4
   rw [h4.1,List.length_map,R13.n,ao] at h3
   simp at h3;omega
  have st:∀ b o,b≠src→b≠al→b≠P→b≠292→l13 b=some o→d4 l13 [src,al,P,292] b=some o:=fun b o m1 m2 m3 m4 e=>r9 (by simp [m1,m2,m3,m4]) e
  have sq:∀ {z b:Addr} {o o':Obj},l13 z=some o'→(∃ a n,o'.data=.seq a n)→lB o→l13 b=some o→b≠z:=fun {z b o o'} ez ⟨a,n,hd⟩ h e q=>by
   rw [q,ez] at e;cases e
   rcases h with ⟨_,h⟩ | ⟨_,h⟩ | ⟨_,_,_,h,_⟩<;>rw [hd] at h<;>cases h
  have srcO:∃ o',l13 src=some o'∧∃ a n,o'.data=.seq a n:=by obtain (⟨x,y,tx,ty,n,e,_⟩):=s13;exact ⟨_,e,_,_,rfl⟩
  have alO:∃ o',l13 al=some o'∧∃ a n,o'.data=.seq a n:=by obtain (⟨us,n,e,_⟩):=HL.at a13;exact ⟨_,e,_,_,rfl⟩
  have zz:∀ b o,lB o→l13 b=some o→d4 l13 [src,al,P,292] b=some o:=fun b o h e=>st b o (sq srcO.choose_spec.1 srcO.choose_spec.2 h e) (sq alO.choose_spec.1 alO.choose_spec.2 h e) (yP.rO h e) (y1.rO h e) e
  have tb:∀ b o,(∀ vs,o.data≠.fields vs)→l13 b=some o→b≠P∧b≠292:=fun b o h e=>⟨by obtain (⟨_,e2,f2⟩):=yP.fld;exact fR e2 f2 e h,by obtain (⟨_,e2,f2⟩):=y1.fld;exact fR e2 f2 e h⟩
  have nal2:al≠P∧al≠292:=by obtain (⟨o,e,h⟩):=a13;exact tb _ _ h.seq e
  have h6:∀ {b},l6 b=none→b≠src∧b≠al∧b≠292∧b≠cI∧b≠702∧b≠335:=fun {b} h=>⟨fun q=>s6.held (q▸h),fun q=>a6.held (q▸h),fun q=>S6.held _ x1 (q▸h),fun q=>iI6.held (q▸h),fun q=>S6.held _ x3 (q▸h),fun q=>S6.held _ x2 (q▸h)⟩
  have fr6:∀ b o,l6 b=none→l8 b=some o→d4 l13 [src,al,P,292] b=some o:=fun b o h e=>by
   obtain ⟨m1,m2,m3,m4,m5,m6⟩:=h6 h
   have e10:=k810 _ _ m4 m5 e
   refine st b o m1 m2 (fun q=>?_) m3 (le13 _ _ (k12 _ _ m1 (lb11 _ _ m6 e10)))
   rcases y11.2 with hp | hp
   ·exact S6.held _ hp (q▸h)
   ·rw [← q,e10] at hp;cases hp
  have hf0:eJ (d4 l13 [src,al,P,292]) f cA cI:=(((hf.st z10).st z11).le le13).st zz
  have hA0:ae (d4 l13 [src,al,P,292]) cA (.v (.ref al)):=((hA11.st z11).le le13).st zz
  have hI0:ae (d4 l13 [src,al,P,292]) cI (.v (.ref ix)):=((hI11.st z11).le le13).st zz
  have hC0:Ctx (d4 l13 [src,al,P,292]) (P::al::src::cA::cI::ex) c t ((pp.1:Nat):Int) ((0:Nat):Int) cd:=hC.st fun b o hb e=>st _ _ (fun q=>hb (q▸.tail _ (.tail _ (.head _)))) (fun q=>hb (q▸.tail _ (.head _))) (fun q=>hb (q▸.head _)) (fun q=>hb (q▸.tail _ (zE x1))) e
  have ST:pq d1.w d1.base (d4 l13 [src,al,P,292]) {av:=P::al::src::cA::cI::ex,src:=src,al:=al,P:=P,t:=t,c:=c,cd:=cd,f:=fk,io:=f,ix:=ix,dx:=dx,oF:=oF,d1:=dk1,d2:=dk2,ra:=ra,fd:=fd,a1:=a1,a2:=a2,nd:=pp.1,cu:=0,D:=D,es:=es,ts:=ts,tp:=tp,p1:=p1,p2:=p2}:={
   B:=hBt,h0:=p0,h5:=p5,nd:=(List.mem_of_getElem? (fst_at hpp))
   T:=T12.cZ fun b o hb e=>st _ _ (fun q=>hb (q▸.tail _ (.tail _ (.head _)))) (fun q=>hb (q▸.tail _ (.head _))) (fun q=>hb (q▸.head _)) (fun q=>hb (q▸.tail _ (zE x1))) (le13 _ _ e)
   C:=hC0
   R:=R13.st (fun o e=>by
    obtain ⟨o2,e2,h2⟩:=R13.li
    rw [e] at e2;cases e2
    exact st _ _ nra nra2 (tb _ _ h2.seq e).1 (tb _ _ h2.seq e).2 e) fun b o cs h e=>st _ _ (s13.nt ⟨o,e,h⟩) (fun q=>by
     obtain ⟨us,n,e2,_⟩:=HL.at a13
     obtain ⟨us2,e3,_⟩:=HT.at ⟨o,e,h⟩
     rw [q,e2] at e3;exact absurd (Value.type.inj (congrArg Obj.cls (Option.some.inj e3))) (by decide)) (tb _ _ h.seq e).1 (tb _ _ h.seq e).2 e
   F:=hfd.of fun o e=>fr6 _ _ ffd (le8 _ _ e)
   P1:=pr1.cZ fun b o h e=>fr6 _ _ h (le8 _ _ e)
   P2:=pr2.cZ fun b o h e=>fr6 _ _ h (le8 _ _ e)
   I:=kn.st fun b hb o e=>fr6 _ _ (f67 (aC (P:=fun b=>_=none) fix.1 (aC fix.2 (aC fnd dD)) b hb)) e
   K1:=kf1.cZ fun b o h e=>fr6 _ _ (f67 h) e
   K2:=kf2.cZ fun b o h e=>fr6 _ _ (f67 h) e
   cd:=by
    have nd:∀ z,l10 z≠none→cd≠z:=fun z hz q=>hz (q▸fcd)
    obtain ⟨o,e,h⟩:=hcd
    have e13:=le13 _ _ (k12 _ _ (nd _ s10.held) e)
    have hs:∀ vs,o.data≠.fields vs:=fun vs q=>by obtain (⟨_,_,_,hd,_⟩):=h;rw [hd] at q;cases q
    exact ⟨o,st _ _ (nd _ s10.held) (fun q=>by obtain (⟨o2,e2,h2⟩):=a13;rw [← q,e13] at e2;cases e2;exact gC _ h2 h) (tb _ _ hs e13).1 (tb _ _ hs e13).2 e13,h⟩
   yj:=locd
   kf:=((hkf.st z11).le le13).st zz
   io:=by obtain (⟨_,_,_,_,e,_⟩):=hf0;exact ⟨_,_,e,rfl⟩
   run:=fun d' r' K' l' asked ew eb le ha hz k=>uI (hf0.le le) (hA0.le le) (hI0.le le) (hC0.le le) ha hz k
   C0:=by rw [s.base];exact C0
   z1:=fQ (.head _),z2:=fQ (.tail _ (.head _)),z3:=fQ (.tail _ (.tail _ (.head _))),z4:=fQ (.tail _ (.tail _ (.tail _ (.head _))))
   n1:=nal,n2:=nal2.1,n3:=nal2.2,n4:=y11.1.1,n5:=nPs.symm,n6:=(eS _ x1).symm}
  have DN:iU (d4 l13 [src,al,P,292]) l13 {av:=P::al::src::cA::cI::ex,src:=src,al:=al,P:=P,t:=t,c:=c,cd:=cd,f:=fk,io:=f,ix:=ix,dx:=dx,oF:=oF,d1:=dk1,d2:=dk2,ra:=ra,fd:=fd,a1:=a1,a2:=a2,nd:=pp.1,cu:=0,D:=D,es:=es,ts:=ts,tp:=tp,p1:=p1,p2:=p2} []:=⟨r8,s13,a13,yP,y1⟩
  have hav0:∀ {l':Led} {asked:List CV},iU (d4 l13 [src,al,P,292]) l' {av:=P::al::src::cA::cI::ex,src:=src,al:=al,P:=P,t:=t,c:=c,cd:=cd,f:=fk,io:=f,ix:=ix,dx:=dx,oF:=oF,d1:=dk1,d2:=dk2,ra:=ra,fd:=fd,a1:=a1,a2:=a2,nd:=pp.1,cu:=0,D:=D,es:=es,ts:=ts,tp:=tp,p1:=p1,p2:=p2} asked→∀ a∈P::al::src::cA::cI::ex,l' a≠none:=fun {l' asked} Dn a ha=>by
   by_cases m1:a=src
   ·rw [m1];exact Dn.s.held
   by_cases m2:a=al
   ·rw [m2];exact Dn.a.held
   by_cases m3:a=P
   ·rw [m3];exact Dn.tk.held
   by_cases m4:a=292
   ·rw [m4];exact Dn.t2.held
   cases q:l12 a with
   | none=>exact absurd q (hav12 a ha)
   | some o=>exact fun z=>by rw [Dn.le _ _ (st _ _ m1 m2 m3 m4 (le13 _ _ q))] at z;cases z
  have q:=sL (PP:=P1) (r:=r) (sc:=sc) (f:=f) (kk:=(k:Int)) ev1 (s.may hm) (by rw [s.ay,s.env];exact hfe) (by rw [s.az];exact hst) ST DN hA0 hav0 (fun σ l' asked DZ le=>by
   have zk:∀ b o,lB o→l12 b=some o→l' b=some o:=fun b o h e=>DZ.le _ _ (zz b o h (le13 _ _ e))
   have st2:∀ b o,b≠src→b≠al→b≠P→b≠292→l12 b=some o→l' b=some o:=fun b o m1 m2 m3 m4 e=>DZ.le _ _ (st b o m1 m2 m3 m4 (le13 _ _ e))
   refine next _ _ l' le ⟨hn,rfl,(hA0.le DZ.le).cl,(hI0.le DZ.le).cl,rz.mk' DZ.t2 (w2.st (fun o=>st2 _ o (eS _ x2) (eA _ x2) y11.1.2.1.symm (by decide)) zk fun P' h=>?_) (w3.st (fun o=>st2 _ o (eS _ x3) (eA _ x3) y11.1.2.2.1.symm (by decide)) zk fun O O=>trivial)⟩
   refine ⟨h.1,h.2.1,h.2.2.1,?_⟩
   by_cases q:P'=P
   ·rw [q];exact DZ.tk
   ·obtain ⟨_,eP,_⟩:=id h.2.2.2
    refine h.2.2.2.st (fun o=>st2 _ o (fun q2=>?_) (fun q2=>?_) q h.1) zk
    ·obtain ⟨x,y,tx,ty,n,e2,_⟩:=s12
     rw [← q2,eP] at e2;cases e2
    ·obtain ⟨us,n,e2,_⟩:=HL.at a12
     rw [← q2,eP] at e2;cases e2)
  conv at q=>whnf
  conv=>whnf
  exact q
 ·rintro n σ l1 ⟨hn,rfl,J⟩
  exact hret _ l1 J
end
end
section
noncomputable def qD:Stmt:=(PySem.Challenge.pw_on0195_01.main.body.getLast?).getD (.Pass default)
set_option backward.match.sparseCases false in
noncomputable def ng:List Stmt:=match qD with | .FunctionDef _ _ b _ _ _ _ _ _ _=>b | _=>[]
set_option backward.match.sparseCases false in
noncomputable def kB:Scope:=match qD with | .FunctionDef _ _ _ _ _ _ s _ _ _=>s | _=>default
noncomputable def fe(L fa:Addr):Env:=envOfC (Str.ofString "law") kB L fa (.ref 706)
theorem oW{s:Shared}{h₀ h₀':Heap}{L:Addr}{m:Str→Option Value}(T:KtsTurn [] h₀ h₀')(F:Fr h₀' L s.heap m):Fr h₀ L s.heap m :=
 ⟨F.ns,fun b o e=>F.keep b o (T.other b o e List.not_mem_nil),by rw [← T.size];exact F.above⟩
theorem ko{s:Shared}{h₀ h₀':Heap}{L:Addr}{news:List (Addr × Obj)}(T:KtsTurn [] h₀ h₀')(N:News h₀' L s.heap news):News h₀ L s.heap news:=fun p hp=>by
 refine ⟨(N p hp).1,(N p hp).2.1,?_⟩
 cases q:h₀.get? p.1 with
 | none=>rfl
 | some o=>have:=(N p hp).2.2;rw [T.other _ _ q List.not_mem_nil] at this;cases this
noncomputable def dw(L:Addr)(oA oI:Obj):Led:=fun b=>if b=L+1+1 then some oI else if b=L+1 then some oA else if b=292∨b=335∨b=702 then some (tabObj #[]) else none
theorem nW{l:List Str}{gA:ExcName→Option Value}{mg mb:Str→Option Value}{h:Heap}(T:Top topProg l gA mg mb h)(hs:∀ x∈l,x∈loose):Top topProg loose gA mg mb h :=
 {T with free:=fun x h1 h2 h3 h4 h5=>T.free x h1 (fun h=>h2 (hs x h)) h3 h4 h5}
set_option tactic.hygienic true in
theorem sJ{w:World}{gA:ExcName→Option Value}{mg mb:Str→Option Value}{h₀:Heap}{L fa:Addr}{m:Str→Option Value}{s:Shared}{Q:Flow→Shared→Prop}{E:Value→Shared→Prop}{oI oA:Obj}{sc:Addr}{items:Array Value}{ns:List Int}{l:List Str}{vI vA:Option Value}{K0:Params→Frag}
   (B:Below callerA h₀ [] h₀) (F:Fr h₀ L s.heap m) (X0:(K0 w.params).In h₀) (N:News h₀ L s.heap [(L+1+1,oI),(L+1,oA),(292,tabObj #[]),(335,tabObj #[]),(702,tabObj #[])]) (T0:Top topProg l gA mg mb h₀) (hl:∀ x∈l,x∈loose) (hK:K39 w.params=((K39 w.params).map (·.1)).filterMap fun k=>((K0 w.params).lookup k).map fun o=>(k,o))
   (hI:oI.data=.cell vI) (hA:oA.data=.cell vA) (hL:@LT.lt Nat _ 702 L) (C0:CodeHd h₀ 294 292) (C1:CodeHd h₀ 339 335) (C2:CodeHd h₀ 706 702) (hs:h₀.IsList sc items) (hi:IntsAre items.toList ns) (hz63:ns.length≤63) (m1:m (Str.ofString "script")=some (.ref sc))
   (hret:∀ h' tk' m' nw,Fr h₀ L h' m'→News h₀ L h' nw→(∃ x,(292,tabObj x)∈nw)→(∃ x,(335,tabObj x)∈nw)→(∃ x,(702,tabObj x)∈nw)→Q (.ret (.bool true)) {s with heap:=h',toks:=tk'}) :
   wpAny (model Pg w) (callerA.deeper (fe L fa)) (execs ng (fe L fa)) Q E s:=by
 have T:=nW T0 hl
 have X:(K39 w.params).In h₀:=In.sub hK X0
 let d:Dy:={w:=w,gA:=gA,mg:=mg,mb:=mb,A₀:=callerA,base:=h₀,outer:=[],L:=L,ay:=fe L fa,env:=fe L fa,cmp:=none,fz:=[],may:=True,X:=fun O O=>False,Y:=fun O O=>False,az:=False}
 have ev:Ev d rP [L+1+1,L+1]:=Ev.of (d:=d) (fi:=rP) (by show qW kB rP=true;kernel_rfl) rfl
 have n1:L+1+1≠L+1:=Nat.succ_ne_self _
 have n2:@LT.lt Nat _ 702 (L+1):=Nat.lt_succ_of_lt hL
 have n3:@LT.lt Nat _ 702 (L+1+1):=Nat.lt_succ_of_lt n2
 have e1:dw L oA oI (L+1+1)=some oI:=if_pos rfl
 have e2:dw L oA oI (L+1)=some oA:=(if_neg n1.symm).trans (if_pos rfl)
 have e3:∀ z:Nat,z≤702→z=292∨z=335∨z=702→dw L oA oI z=some (tabObj #[]):=fun z h q=>(if_neg (Nat.ne_of_lt (Nat.lt_of_le_of_lt h n3))).trans ((if_neg (Nat.ne_of_lt (Nat.lt_of_le_of_lt h n2))).trans (if_pos q))
 have J:rF (dw L oA oI) (L+1) (L+1+1):=⟨⟨oA,vA,e2,hA⟩,⟨oI,vI,e1,hI⟩,rz.mk' ⟨_,e3 292 (by decide) (.inl rfl),.inl rfl⟩ ⟨_,e3 335 (by decide) (.inr (.inl rfl)),.inl rfl⟩ ⟨_,e3 702 (by decide) (.inr (.inr rfl)),.inl rfl⟩⟩
 have hW:Nw h₀ L s.heap (dw L oA oI):=fun a o e=>by
  unfold dw at e
  split at e
  ·rename_i q;cases e;rw [q];exact N _ (.head _)
  split at e
  ·rename_i q;cases e;rw [q];exact N _ (.tail _ (.head _))
  split at e
  ·rename_i q;cases e
   rcases q with rfl | rfl | rfl
   ·exact N _ (.tail _ (.tail _ (.head _)))
   ·exact N _ (.tail _ (.tail _ (.tail _ (.head _))))
   ·exact N _ (.tail _ (.tail _ (.tail _ (.tail _ (.head _)))))
  ·cases e
 have eB:ng=(Bk.f (st 71)).at:=by kernel_rfl
 have hx:=cf (x:=⟨d,[L+1+1,L+1],_,fun O O=>False⟩) ev 99 _ _ _ (uE (d:=d) (r:=0) (l:=dw L oA oI) (P:=fun o O l'=>match o with | some c=>c=.v (.bool true)∧rF l' (L+1) (L+1+1) | none=>False) ev trivial rfl (fun h=>h) rfl rfl C0 C1 C2 ⟨items,hs,hi⟩ hz63 n1.symm J fun σ l' j=>⟨rfl,j⟩)
 have nw:bx d 20 (callerA.deeper (fe L fa)) (fun O O=>False) h₀ s m (dw L oA oI):=⟨⟨X,T,rfl,rfl,rfl,rfl,rfl,rfl⟩,⟨rfl,rfl,Nat.lt_of_lt_of_le (show 1+claimMargin+1+20+1 < 1000 by decide) (Nat.le_refl _),(by show (callerA.deeper (fe L fa)).units+_ < 9900;rw [units_deeper];decide)⟩,⟨B,hW,F,fun O h=>nomatch h⟩,fun O O O=>PassesOwnAt.never,fun a s' th=>by cases th<;>contradiction⟩
 have fr:bL rP.ns (Sl.fC (vals (nm ["script"]) [.v (.ref sc)]) rP.ns) m:=fun x i c hx hc=>by
  rw [mZ _ hx] at hc
  unfold vals at hc
  rw [show (nm ["script"]).zip [CV.v (Value.ref sc)]=[(Str.ofString "script",CV.v (.ref sc))] from rfl,List.lookup_cons] at hc
  split at hc
  ·rename_i q
   cases hc
   exact ⟨_,by rw [eq_of_beq q];exact m1,.v _⟩
  ·cases hc
 rw [eB]
 refine wpAny_mono ((LS.run hx m fr).run _ _ _ _ nw) (fun f s' p=>?_) fun O O h=>h.elim
 induction p with | mk g' m' l' e a k =>
 cases k with
 | next σ _ k=>exact k.elim
 | ret σ c _ is k =>
  obtain (⟨rfl,j⟩):=k
  cases is
  have F':Fr g' L s'.heap m':=a.W
  obtain (⟨ex,_,_,_,S⟩):=j.t
  obtain (⟨x1,q1,_⟩):=S.now.t1
  obtain (⟨x2,q2,_⟩):=S.now.t2
  obtain (⟨x3,q3,_⟩):=S.now.t3
  have N':News g' L s'.heap [(292,tabObj x1),(335,tabObj x2),(702,tabObj x3)]:=fun p hp=>by
   rcases List.mem_cons.mp hp with rfl | hp
   ·exact a.N _ _ q1
   rcases List.mem_cons.mp hp with rfl | hp
   ·exact a.N _ _ q2
   rw [List.mem_singleton.mp hp]
   exact a.N _ _ q3
  have:=hret s'.heap s'.toks m' _ (oW e.T F') (ko (s:=s') e.T N') ⟨x1,.head _⟩ ⟨x2,.tail _ (.head _)⟩ ⟨x3,.tail _ (.tail _ (.head _))⟩
  obtain (⟨h1,h2,h3⟩):=e.e
  cases s';cases s;cases h1;cases h2;cases h3
  exact this
end
end Mine
namespace Mine
theorem xt {ns : List Int} (h : ¬ ((63 : Nat) : Int) < (ns.length : Int)) : ns.length ≤ 63 := by omega
theorem oV {cl : Str → Option Addr} {gA : ExcName → Option Value} {args : List WData} {s₁ s' : Shared} {L : Addr} {m : Str → Option Value} (F : Fr s₁.heap L s'.heap m) (hg : s'.gens = #[]) (hos : s'.os = s₁.os) :
  GoodW PySem.Challenge.rw_on0195_01.row.claim cl gA args s₁ (.ok (.ret (.bool true))) s' := by
 refine goodW_bool F hg (raisesW_false ?_) ?_ hos
 ·wrow_none_raised
 ·first | rfl | wrow_post
end Mine
namespace Mine.hold
noncomputable abbrev T:Prop:=True
theorem t:T:=⟨⟩
theorem tw1126054997468075784:T:=t
theorem tw16214651239223340017:T:=t
theorem tw8025738169490522874:T:=t
theorem tw14107274488373376713:T:=t
theorem tw15680791823355568445:T:=t
theorem tw2189190486969883637:T:=t
theorem tw8871279637179942407:T:=t
theorem tw4223745111712747777:T:=t
theorem tw4711740973308325223:T:=t
theorem tw7425398644116076144:T:=t
theorem tw10595680851326871275:T:=t
theorem tw18418480195855362731:T:=t
theorem tw6196868260354674019:T:=t
theorem tw3961405607542388498:T:=t
theorem tw12082443611114530445:T:=t
theorem tw6749792925740027992:T:=t
theorem tw9313925093626756758:T:=t
theorem tw9227348949931266738:T:=t
theorem tw824867314626249222:T:=t
theorem tw5479475584830294250:T:=t
theorem tw7045363075557810579:T:=t
theorem tw17120640739203244241:T:=t
theorem tw2017597808403406424:T:=t
theorem tw13570874381829032177:T:=t
theorem tw18166560764678975744:T:=t
theorem tw5158477206174760013:T:=t
theorem tw17696093352327936542:T:=t
theorem tw12946699117568471206:T:=t
theorem tw9671205159124290776:T:=t
theorem tw15101321430166138583:T:=t
theorem tw17786582738522568153:T:=t
theorem tw5764352626321725062:T:=t
theorem tw8518999104281316416:T:=t
theorem tw16363465878770161795:T:=t
theorem tw12314257304202561101:T:=t
theorem tw15943509648103852390:T:=t
theorem tw6097397752137948852:T:=t
theorem tw15311083606330164891:T:=t
theorem tw14949849618838498282:T:=t
theorem tw6149034428013438206:T:=t
theorem tw4550866308754388022:T:=t
theorem tw16496866012892320675:T:=t
theorem tw225891193110252062:T:=t
theorem tw14964485188647815697:T:=t
theorem tw1317708588047120316:T:=t
theorem tw3617534306091382407:T:=t
theorem tw14835775149633042507:T:=t
theorem tw10222667941116125380:T:=t
theorem tw3170712268246259284:T:=t
theorem tw13898003132947532250:T:=t
theorem tw7978894538209520133:T:=t
theorem tw16982272911792693321:T:=t
theorem tw12221077731126365404:T:=t
theorem tw7596233291428194910:T:=t
theorem tw6728791207936454154:T:=t
theorem tw11281658458417443589:T:=t
theorem tw15885136211537644785:T:=t
theorem tw5964533798856291207:T:=t
theorem tw9584154058424143978:T:=t
theorem tw16913364423043603070:T:=t
theorem tw3995253809488354029:T:=t
theorem tw16304359134326898266:T:=t
theorem tw5137064844250592428:T:=t
theorem tw2301635247585637687:T:=t
theorem tw14062615046838109058:T:=t
theorem tw5501765072984844499:T:=t
theorem tw1947066409169234344:T:=t
theorem tw4853670812886509203:T:=t
theorem tw17154239235268209328:T:=t
theorem tw5285634183048490446:T:=t
theorem tw2729811266445971284:T:=t
theorem tw3278644464979399824:T:=t
theorem tw12715985319188728674:T:=t
theorem tw17788038119402199344:T:=t
theorem tw15911033189367481867:T:=t
theorem tw17712126440805343534:T:=t
theorem tw16136083756879566432:T:=t
theorem tw15162971249098410991:T:=t
theorem tw1299234577958744182:T:=t
theorem tw9471704007242632829:T:=t
theorem tw12723356461127555403:T:=t
theorem tw6100756995773352870:T:=t
theorem tw16081805249583644832:T:=t
theorem tw149949227600079617:T:=t
theorem tw10147256509740826425:T:=t
theorem tw1766443892827239582:T:=t
theorem tw7204334170476824907:T:=t
theorem tw3224701993501995106:T:=t
theorem tw2651422726935371723:T:=t
theorem tw17860518147237442206:T:=t
theorem tw16794303777060904449:T:=t
theorem tw16695133055991917640:T:=t
theorem tw16157905445756488439:T:=t
theorem tw15514647075763173226:T:=t
theorem tw11147761904112704382:T:=t
theorem tw14232514774899711302:T:=t
theorem tw18198400765717332933:T:=t
theorem tw17624073854935925647:T:=t
theorem tw17861145605871311271:T:=t
theorem tw10497805983678270539:T:=t
theorem tw6664550732343926872:T:=t
theorem tw7662404067879543027:T:=t
theorem tw12272158669465179299:T:=t
theorem tw2179331694800802878:T:=t
theorem tw1492387332064164962:T:=t
theorem tw2800828092963483328:T:=t
theorem tw11092404256041892059:T:=t
theorem tw9462499447244490400:T:=t
theorem tw15095726042167197415:T:=t
theorem tw2593269584463035267:T:=t
theorem tw271881127138358627:T:=t
theorem tw18014444917314079488:T:=t
theorem tw7968479434462816521:T:=t
theorem tw17513185641540944442:T:=t
theorem tw16778900696485438025:T:=t
theorem tw10562913848651856666:T:=t
theorem tw12721358166986775558:T:=t
theorem tw1032352642599625904:T:=t
theorem tw13027875727295023778:T:=t
theorem tw7364495439521016578:T:=t
theorem tw6699837373977873911:T:=t
theorem tw17603312175274407648:T:=t
theorem tw4603806039312538658:T:=t
theorem tw16991101205413499222:T:=t
theorem tw13926807638243073652:T:=t
theorem tw17348356227215163709:T:=t
theorem tw3476425296031001688:T:=t
theorem tw12960371163303246319:T:=t
theorem tw16103069300973558461:T:=t
theorem tw88870420472224081:T:=t
theorem tw3687300620495208803:T:=t
theorem tw6473383667879329979:T:=t
theorem tw9779062967424419893:T:=t
theorem tw2653832337718670727:T:=t
theorem tw14918408350431466542:T:=t
theorem tw5573185526988749031:T:=t
theorem tw7540352918958542259:T:=t
theorem tw8890237846717469945:T:=t
theorem tw2564222854539435743:T:=t
theorem tw367505537307392249:T:=t
theorem tw5225648906220786391:T:=t
theorem tw6739719257646998716:T:=t
theorem tw1241757436280333576:T:=t
theorem tw10526720494015533099:T:=t
theorem tw17810044660156064804:T:=t
theorem tw7996274278799498680:T:=t
theorem tw111267881400260153:T:=t
theorem tw15951111053684314116:T:=t
theorem tw14873665541114213008:T:=t
theorem tw10779908779101117337:T:=t
theorem tw16636071350549770972:T:=t
theorem tw14067802750616918357:T:=t
theorem tw5154393432956562885:T:=t
theorem tw14113929234391258346:T:=t
theorem tw4466040363633965231:T:=t
theorem tw8491841390644524823:T:=t
theorem tw18127276904666768240:T:=t
theorem tw13982028952961050078:T:=t
theorem tw15939790655590366495:T:=t
theorem tw13330403137323899426:T:=t
theorem tw4998025138022901224:T:=t
theorem tw11174934979367449493:T:=t
theorem tw18336334700918877372:T:=t
theorem tw14755492495774016971:T:=t
theorem tw1448546856344717797:T:=t
theorem tw588715750499991503:T:=t
theorem tw4837100096565312201:T:=t
theorem tw2330573303959463528:T:=t
theorem tw1462233092886455509:T:=t
theorem tw1535593193024824169:T:=t
theorem tw17234828734085952712:T:=t
theorem tw10588987374832698340:T:=t
theorem tw18175399485286331893:T:=t
theorem tw17296622908048064184:T:=t
theorem tw4920417245093615859:T:=t
theorem tw7537922692248328883:T:=t
theorem tw14015701489255343846:T:=t
theorem tw10721617047062326709:T:=t
theorem tw4406830346180416371:T:=t
theorem tw809208618446344086:T:=t
theorem tw2527039373915908884:T:=t
theorem tw5539256416569887873:T:=t
theorem tw9346536990966057074:T:=t
theorem tw17101973375373042280:T:=t
theorem tw16535126556372249581:T:=t
theorem tw131679151692141066:T:=t
theorem tw2633316094598058952:T:=t
theorem tw7951001166981759062:T:=t
theorem tw1554809661954940610:T:=t
theorem tw18110467034259759927:T:=t
theorem tw4756242770155343811:T:=t
theorem tw17901142136619995800:T:=t
theorem tw2874101214658725417:T:=t
theorem tw18245049293274397543:T:=t
theorem tw10291217355399783765:T:=t
theorem tw1045437556766575189:T:=t
theorem tw17146063699395151677:T:=t
theorem tw6464553561243812551:T:=t
theorem tw8913548061035332290:T:=t
theorem tw18376261231110345567:T:=t
theorem tw4602297664643903159:T:=t
theorem tw11975005501505573530:T:=t
theorem tw2666034025213991773:T:=t
theorem tw12498770570541493743:T:=t
theorem tw13857662788044739118:T:=t
theorem tw731536547386195132:T:=t
theorem tw9547818784074727253:T:=t
theorem tw941314449784719922:T:=t
theorem tw14820932529880060480:T:=t
theorem tw17667792247323746402:T:=t
theorem tw14422995739166360441:T:=t
theorem tw14596000959044891833:T:=t
theorem tw5809832459732969038:T:=t
theorem tw9861024007582642989:T:=t
theorem tw2009625947867045781:T:=t
theorem tw10577358052965336106:T:=t
theorem tw5591745340298374427:T:=t
theorem tw13315804833070777541:T:=t
theorem tw5996743062054086746:T:=t
theorem tw3534621335289778872:T:=t
theorem tw2488011459932174498:T:=t
theorem tw18218630883986158:T:=t
theorem tw11650868144150915106:T:=t
theorem tw10795569678266850969:T:=t
theorem tw7582635293524660581:T:=t
theorem tw11546229617472138921:T:=t
theorem tw7200634371538702160:T:=t
theorem tw7647822905092160893:T:=t
theorem tw11254902243475374203:T:=t
theorem tw776106717158255070:T:=t
theorem tw10514357349721179907:T:=t
theorem tw7315718055399414977:T:=t
theorem tw15102863797965375538:T:=t
theorem tw9922061127355866236:T:=t
theorem tw4796836471641213634:T:=t
theorem tw7261261145731410781:T:=t
theorem tw11737768084771052512:T:=t
theorem tw9763299858519695862:T:=t
theorem tw4812255560099102132:T:=t
theorem tw1250849750037437548:T:=t
theorem tw8078582414481879505:T:=t
theorem tw12189383819261737982:T:=t
theorem tw15496129842098997827:T:=t
theorem tw12304157096625838102:T:=t
theorem tw18109322893302575286:T:=t
theorem tw5636149584087806342:T:=t
theorem tw4922027568852752592:T:=t
theorem tw16701056318995654412:T:=t
theorem tw6063074117387085709:T:=t
theorem tw6016066526794270467:T:=t
theorem tw668950032922975333:T:=t
theorem tw3642114435839288020:T:=t
theorem tw18296917965364767464:T:=t
theorem tw17031585025283546794:T:=t
theorem tw15879564269699800544:T:=t
theorem tw6829510912031852633:T:=t
theorem tw6804198046215163858:T:=t
theorem tw17394611706679270741:T:=t
theorem tw12709299894263038688:T:=t
theorem tw9910593983011539472:T:=t
theorem tw10894609272897114175:T:=t
theorem tw7944595467943447177:T:=t
theorem tw20603901706297152:T:=t
theorem tw8988530608397523063:T:=t
theorem tw15442825661122211918:T:=t
theorem tw6984600564480806313:T:=t
theorem tw7470738819077068695:T:=t
theorem tw17194080425071099199:T:=t
theorem tw17429253698777091873:T:=t
theorem tw479198816786831472:T:=t
theorem tw15428127703077102811:T:=t
theorem tw2180627370392686974:T:=t
theorem tw17779004835088434487:T:=t
theorem tw7870888189801644038:T:=t
theorem tw11335687417101436607:T:=t
theorem tw3187659567207238832:T:=t
theorem tw5470361023355546190:T:=t
theorem tw11664235277477157809:T:=t
theorem tw6874978033343818544:T:=t
theorem tw8691084008722251722:T:=t
theorem tw17257682231030617556:T:=t
theorem tw6933206822179276899:T:=t
theorem tw7075305949185054220:T:=t
theorem tw13785830949329881961:T:=t
theorem tw8919121814577039432:T:=t
theorem tw3762819131826886194:T:=t
theorem tw10593925970737836838:T:=t
theorem tw3097613285690556372:T:=t
theorem tw13247424753978578730:T:=t
theorem tw1733097676747209783:T:=t
theorem tw10525804934896939213:T:=t
theorem tw5521568721600408730:T:=t
theorem tw12685207129576603986:T:=t
theorem tw1885003098612045780:T:=t
theorem tw6484090383143868055:T:=t
theorem tw5175658074414696089:T:=t
theorem tw13632263001156194711:T:=t
theorem tw10152962452885642228:T:=t
theorem tw8875462053124919052:T:=t
theorem tw14225821402699603777:T:=t
theorem tw1294427088933586143:T:=t
theorem tw3923825835086347728:T:=t
theorem tw18422894123153866285:T:=t
theorem tw9592244627281618421:T:=t
theorem tw5678586599223635705:T:=t
theorem tw10190684257661784157:T:=t
theorem tw3637133563986060184:T:=t
theorem tw10372997280747770080:T:=t
theorem tw528949975883002662:T:=t
theorem tw6455340183141730636:T:=t
theorem tw4921880686415270800:T:=t
theorem tw9509363917358790852:T:=t
theorem tw3384978328954740602:T:=t
theorem tw7103398604317157287:T:=t
theorem tw13858868819421330698:T:=t
theorem tw10938855569275160756:T:=t
theorem tw12495785552424629468:T:=t
theorem tw16511170265087770500:T:=t
theorem tw3008260121346232556:T:=t
theorem tw2963261221965869688:T:=t
theorem tw16701536972184657987:T:=t
theorem tw13845534081027672091:T:=t
theorem tw9319301040065717146:T:=t
theorem tw5747371974910199008:T:=t
theorem tw4042254188937639055:T:=t
theorem tw12406060410983638183:T:=t
theorem tw7661877192072097923:T:=t
theorem tw6429981715278777095:T:=t
theorem tw394106401178249813:T:=t
theorem tw3627816553045722480:T:=t
theorem tw14929504542985867087:T:=t
theorem tw4767087701769283099:T:=t
theorem tw694045852685114685:T:=t
theorem tw2164895943776622387:T:=t
theorem tw9880369280935781516:T:=t
theorem tw18081466368716789807:T:=t
theorem tw17028702147185440086:T:=t
theorem tw7750657474683351569:T:=t
theorem tw2094870773678741200:T:=t
theorem tw12246946946364335263:T:=t
theorem tw14829434571606203124:T:=t
theorem tw13167745098211001464:T:=t
theorem tw12193213461652013329:T:=t
theorem tw3309045257514415799:T:=t
theorem tw4695210657720387394:T:=t
theorem tw17189389355761779876:T:=t
theorem tw12013144997719199021:T:=t
theorem tw12027534494047426117:T:=t
theorem tw3799568784994474446:T:=t
theorem tw13794153996652931553:T:=t
theorem tw9879499655484385396:T:=t
theorem tw9773769170552734818:T:=t
theorem tw9158223280470470983:T:=t
theorem tw6341298421630299139:T:=t
theorem tw5663254659401579094:T:=t
theorem tw4312165232351381762:T:=t
theorem tw3488928900323243523:T:=t
theorem tw3195572107924077703:T:=t
theorem tw17791750646220519301:T:=t
theorem tw17403054121196285585:T:=t
theorem tw16093868475516614630:T:=t
theorem tw14871578400491134082:T:=t
theorem tw14395808102595152552:T:=t
theorem tw13846847585327848755:T:=t
theorem tw13174665523231563080:T:=t
theorem tw12078129027396527781:T:=t
theorem tw10870559252253045058:T:=t
theorem tw10487845400320278959:T:=t
theorem tw10173388437924002884:T:=t
theorem tw13366257236588862133:T:=t
theorem tw7607646382130811756:T:=t
theorem tw7499687415134124786:T:=t
theorem tw13460779895997958600:T:=t
theorem tw11040599832200416087:T:=t
theorem tw13592165722700366336:T:=t
theorem tw15434385853700007826:T:=t
theorem tw13216123434899553010:T:=t
theorem tw1966193015454004055:T:=t
theorem tw12709708060240544911:T:=t
theorem tw6804000141876170716:T:=t
theorem tw5873506994847698133:T:=t
theorem tw15361216197669029894:T:=t
theorem tw728878997531085654:T:=t
theorem tw169981145969593002:T:=t
theorem tw8913650484828847610:T:=t
theorem tw11757520449753779891:T:=t
theorem tw4389773883684832899:T:=t
theorem tw7575953938633015480:T:=t
theorem tw3828828021671723082:T:=t
theorem tw12540613734518514315:T:=t
theorem tw9869774906176734062:T:=t
theorem tw17129391961779509749:T:=t
theorem tw2189463249335179130:T:=t
theorem tw1750636494845353527:T:=t
theorem tw8679910533495592017:T:=t
theorem tw11706105296466825386:T:=t
theorem tw15735255865507666328:T:=t
theorem tw13050562787663810805:T:=t
theorem tw13937210608439813038:T:=t
theorem tw1761422461475589716:T:=t
theorem tw12680330630040593087:T:=t
theorem tw10745936412428391918:T:=t
theorem tw5402090118414515028:T:=t
theorem tw968349290475188169:T:=t
theorem tw13422559024381956108:T:=t
theorem tw12259010229547332555:T:=t
theorem tw7104157118244199116:T:=t
theorem tw1865279116314524768:T:=t
theorem tw11758962860423998205:T:=t
theorem tw10903629292540672352:T:=t
theorem tw3704535510270933184:T:=t
theorem tw10671987088240406200:T:=t
theorem tw7749247609769807973:T:=t
theorem tw12575385476450664922:T:=t
theorem tw18034327244745102118:T:=t
theorem tw8342000918306231226:T:=t
theorem tw7249160642350225813:T:=t
theorem tw6125053798117218122:T:=t
theorem tw515650168220328324:T:=t
theorem tw16055078980946289382:T:=t
theorem tw12329445814889805665:T:=t
theorem tw16028452047523453397:T:=t
theorem tw6508440756361745039:T:=t
theorem tw10948524382575402524:T:=t
theorem tw6646115627278127341:T:=t
theorem tw8575082885706172672:T:=t
theorem tw16910881655178764817:T:=t
theorem tw13296770805470520774:T:=t
theorem tw18004912139823314608:T:=t
theorem tw13387989500275887523:T:=t
theorem tw4848390046139796519:T:=t
theorem tw2484172901051222959:T:=t
theorem tw10062968131948367708:T:=t
theorem tw4006802140663431099:T:=t
theorem tw7395868078876219021:T:=t
theorem tw16472616209228830220:T:=t
theorem tw12295677062131573561:T:=t
theorem tw11173645026100633412:T:=t
theorem tw11486149270425546886:T:=t
theorem tw10017866479700114792:T:=t
theorem tw4504515797377977072:T:=t
theorem tw18022479617219746077:T:=t
theorem tw10483507062576678518:T:=t
theorem tw16334653659589263445:T:=t
theorem tw2380814805117345964:T:=t
theorem tw14979820874661770031:T:=t
theorem tw17093798191305595355:T:=t
theorem tw14254403761822981808:T:=t
theorem tw2886991180324587110:T:=t
theorem tw9174818740081191264:T:=t
theorem tw12238264637080714735:T:=t
theorem tw14127183458576549056:T:=t
theorem tw17924822696644724423:T:=t
theorem tw13189002817299945047:T:=t
theorem tw12571366391539657303:T:=t
theorem tw1868659572719473550:T:=t
theorem tw10259186508281350011:T:=t
theorem tw3705818732210801602:T:=t
theorem tw2491238839148265835:T:=t
theorem tw15258790292714916927:T:=t
theorem tw6004356105571982850:T:=t
theorem tw16591916227164722429:T:=t
theorem tw17374426124107629352:T:=t
theorem tw12602365920224067314:T:=t
theorem tw10670618885365883439:T:=t
theorem tw9485039587744918226:T:=t
theorem tw10082076345405204645:T:=t
theorem tw1329813755872911699:T:=t
theorem tw1535381922577883171:T:=t
theorem tw9214991658048300261:T:=t
theorem tw14486139977914501987:T:=t
theorem tw899371758670453840:T:=t
theorem tw13483281547000207479:T:=t
theorem tw680522644936540885:T:=t
theorem tw15299652763180379970:T:=t
theorem tw189251507165350557:T:=t
theorem tw7126106858317563267:T:=t
theorem tw1005303441479116459:T:=t
theorem tw13884359947959868384:T:=t
theorem tw4417937268743982832:T:=t
theorem tw6779939219227353557:T:=t
theorem tw5171097044272124210:T:=t
theorem tw4686538671280775114:T:=t
theorem tw4108698914208135212:T:=t
theorem tw12066585049076152202:T:=t
theorem tw8404013400542587812:T:=t
theorem tw11733463243784036637:T:=t
theorem tw10335525638102856152:T:=t
theorem tw6957742334778179757:T:=t
theorem tw2425720581168043106:T:=t
theorem tw11665678496099771957:T:=t
theorem tw5138441134334953377:T:=t
theorem tw17388030481478283280:T:=t
theorem tw15557286453950731272:T:=t
theorem tw9151797257141774867:T:=t
theorem tw10579691532282216823:T:=t
theorem tw4082623615404732790:T:=t
theorem tw658981712904782634:T:=t
theorem tw577822399856626888:T:=t
theorem tw1687917450142348686:T:=t
theorem tw14190256908368770889:T:=t
theorem tw10465754452627505293:T:=t
theorem tw14486256409471015712:T:=t
theorem tw3897354960734065572:T:=t
theorem tw5246696837662044574:T:=t
theorem tw12022354852679842875:T:=t
theorem tw3551117840513176009:T:=t
theorem tw8943805375846665122:T:=t
theorem tw1945886593738847317:T:=t
theorem tw7068902846966120171:T:=t
theorem tw7912971558556061288:T:=t
theorem tw7599311528386045199:T:=t
theorem tw3625580133609817301:T:=t
theorem tw12426307173574817489:T:=t
theorem tw12376159331301184307:T:=t
theorem tw1559155204805412344:T:=t
theorem tw1408935008524503920:T:=t
theorem tw17526833754253242412:T:=t
theorem tw13270888491860839785:T:=t
theorem tw15191868807036741431:T:=t
theorem tw1842913832519487727:T:=t
theorem tw13571917742678196030:T:=t
theorem tw13571905448785869882:T:=t
theorem tw9163490214043277418:T:=t
theorem tw10071722320873988261:T:=t
theorem tw5985261495743940577:T:=t
theorem tw10633193051980416609:T:=t
theorem tw4731736465901523077:T:=t
theorem tw8564754835342820926:T:=t
theorem tw17693441023903512545:T:=t
theorem tw5024551949591479683:T:=t
theorem tw6892300936551952720:T:=t
theorem tw7359267591380776851:T:=t
theorem tw2452241265260593787:T:=t
theorem tw7576156381456872967:T:=t
theorem tw7650072156506744564:T:=t
theorem tw11153773198349977563:T:=t
theorem tw5688760876154144310:T:=t
theorem tw8628974502843448316:T:=t
theorem tw13132216251322456798:T:=t
theorem tw17551307066611038115:T:=t
theorem tw1616907013009210576:T:=t
theorem tw11098522406952332200:T:=t
theorem tw5501017792115812337:T:=t
theorem tw17914512984091843462:T:=t
theorem tw10787632023234782459:T:=t
theorem tw10786866938306449656:T:=t
theorem tw4103483610311552073:T:=t
theorem tw9903906234251843586:T:=t
theorem tw18057322575915826800:T:=t
theorem tw3564481345399060810:T:=t
theorem tw6071569509126558030:T:=t
theorem tw2607275872116182454:T:=t
theorem tw284630824925332169:T:=t
theorem tw17301451560799117172:T:=t
theorem tw13332300491835242396:T:=t
theorem tw2171033067198223846:T:=t
theorem tw12141422963746176355:T:=t
theorem tw15742379896477833997:T:=t
theorem tw16794543530496371600:T:=t
theorem tw7497637052904912136:T:=t
theorem tw4571007229506947876:T:=t
theorem tw10700526877448906:T:=t
theorem tw13098810326061660470:T:=t
theorem tw18297465458794111227:T:=t
theorem tw10653002321225976066:T:=t
theorem tw15586006530425847038:T:=t
theorem tw4058479393669032453:T:=t
theorem tw6387400041349090303:T:=t
theorem tw18014625075998911152:T:=t
theorem tw11313966402537827619:T:=t
theorem tw8919444063027844448:T:=t
theorem tw12477742043108195338:T:=t
theorem tw1147053758642919295:T:=t
theorem tw5272461522587717166:T:=t
theorem tw12964099920116970347:T:=t
theorem tw5153202097396428643:T:=t
theorem tw7464607472368917406:T:=t
theorem tw15030241047496280023:T:=t
theorem tw17725367659785260877:T:=t
theorem tw9495637358954233342:T:=t
theorem tw16247452572738511707:T:=t
theorem tw6845340351014584046:T:=t
theorem tw12745523843844540320:T:=t
theorem tw16000919303379674546:T:=t
theorem tw9424104064708137779:T:=t
theorem tw6968255201488092198:T:=t
theorem tw7376918100994895413:T:=t
theorem tw3074428908510724294:T:=t
theorem tw13505416231838694361:T:=t
theorem tw2215340624633733547:T:=t
theorem tw6412200083811085596:T:=t
theorem tw7578449140360544925:T:=t
theorem tw7880785776678700394:T:=t
theorem tw6204976726241498486:T:=t
theorem tw8968364043680154799:T:=t
theorem tw11114638795605439127:T:=t
theorem tw7567770878326274979:T:=t
theorem tw17376124419411238051:T:=t
theorem tw2415513574286000335:T:=t
theorem tw4575009923981004020:T:=t
theorem tw15790823065497080543:T:=t
theorem tw683156548718324324:T:=t
theorem tw4390922755378104239:T:=t
theorem tw14104974637344658162:T:=t
theorem tw16424303937047445011:T:=t
theorem tw4271487070655907871:T:=t
theorem tw15307598751150935708:T:=t
theorem tw7999916857225293025:T:=t
theorem tw233049759453925299:T:=t
theorem tw14421748727321804676:T:=t
theorem tw11400227500041041972:T:=t
theorem tw4752044299393398382:T:=t
theorem tw13850200139379683881:T:=t
theorem tw2780993574426749691:T:=t
theorem tw10342993111136486545:T:=t
theorem tw2351258132267008774:T:=t
theorem tw9900770207486059575:T:=t
theorem tw3591657117916210710:T:=t
theorem tw15283028380915970748:T:=t
theorem tw7603658646087744078:T:=t
theorem tw12939943837312746290:T:=t
theorem tw16472913973497623726:T:=t
theorem tw5573705223869458254:T:=t
theorem tw4625305059706839105:T:=t
theorem tw7296812823500536161:T:=t
theorem tw13676031625649786061:T:=t
theorem tw9528083140977106316:T:=t
theorem tw6684447660538366022:T:=t
theorem tw3649763252255876646:T:=t
theorem tw9915053212655559486:T:=t
theorem tw5434155135859803799:T:=t
theorem tw1457360354844159562:T:=t
theorem tw5657474016428230055:T:=t
theorem tw8405250613474912099:T:=t
theorem tw14220481128244611163:T:=t
theorem tw4432359065934730540:T:=t
theorem tw16958948775616364074:T:=t
theorem tw157076469847183509:T:=t
theorem tw10583829945681177452:T:=t
theorem tw16135218037875207781:T:=t
theorem tw3256695927405119364:T:=t
theorem tw5643603890761435959:T:=t
theorem tw1308701864352849948:T:=t
theorem tw15770989983014387663:T:=t
theorem tw5584274209755728958:T:=t
theorem tw5915500524130981785:T:=t
theorem tw575188197759119467:T:=t
theorem tw14214666402933405320:T:=t
theorem tw3584166293510180741:T:=t
theorem tw5388470661617537149:T:=t
theorem tw18280155281623247637:T:=t
theorem tw6719076068753725305:T:=t
theorem tw11298673499973256644:T:=t
theorem tw9026215930262231613:T:=t
theorem tw15347064552394716889:T:=t
theorem tw11275958860080388790:T:=t
theorem tw2195669677132706064:T:=t
theorem tw14534335560499019296:T:=t
theorem tw12962701183467805129:T:=t
theorem tw1370215208840563064:T:=t
theorem tw14790620628508115802:T:=t
theorem tw13610433613675494380:T:=t
theorem tw8100323719810643183:T:=t
theorem tw725457412556363204:T:=t
theorem tw4151354013267218305:T:=t
theorem tw2366343634515110210:T:=t
theorem tw2381615436861169465:T:=t
theorem tw58662410338977149:T:=t
theorem tw17333799987375218963:T:=t
theorem tw3883925391000872186:T:=t
theorem tw17380598743273575621:T:=t
theorem tw15983457954052622638:T:=t
theorem tw17816273549166445270:T:=t
theorem tw7247883474580743122:T:=t
theorem tw17747042135954236328:T:=t
theorem tw784335693790458933:T:=t
theorem tw10496482377792658583:T:=t
theorem tw14510653529941217512:T:=t
theorem tw6048289343639603392:T:=t
theorem tw4291243580853926085:T:=t
theorem tw6617698045170198782:T:=t
theorem tw12835616711500035928:T:=t
theorem tw5411140187131691176:T:=t
theorem tw3935834157905250306:T:=t
theorem tw1031097872485715150:T:=t
theorem tw7731690825445204991:T:=t
theorem tw12221201568698487815:T:=t
theorem tw4262182830909278453:T:=t
theorem tw10181901796154452679:T:=t
theorem tw17356630741033872785:T:=t
theorem tw8818808922871922312:T:=t
theorem tw15590499298603825337:T:=t
theorem tw17778249920374714097:T:=t
theorem tw16248778041697056230:T:=t
theorem tw534715749385089546:T:=t
theorem tw3568484990690613848:T:=t
theorem tw5156446436833150268:T:=t
theorem tw17730821018032447834:T:=t
theorem tw8254707732584542653:T:=t
theorem tw6819562659341952318:T:=t
theorem tw16022921220613611414:T:=t
theorem tw1897745817411280589:T:=t
theorem tw970013847684542244:T:=t
theorem tw9837322928952515446:T:=t
theorem tw4078467890406268398:T:=t
theorem tw16024405594405577650:T:=t
theorem tw3997244925295405124:T:=t
theorem tw15392177776610014826:T:=t
theorem tw5006285617726208810:T:=t
theorem tw4889281411131734719:T:=t
theorem tw11989005611731676470:T:=t
theorem tw4252917592704009079:T:=t
theorem tw6699215878735613329:T:=t
theorem tw10160429308511228725:T:=t
theorem tw2426759089165422516:T:=t
theorem tw8160233779813351183:T:=t
theorem tw10213821570311434139:T:=t
theorem tw4982978105338591705:T:=t
theorem tw272430365471137889:T:=t
theorem tw9948939500917030166:T:=t
theorem tw13556269501207324691:T:=t
theorem tw17351993316414295171:T:=t
theorem tw13339842216208239589:T:=t
theorem tw10428554410289733240:T:=t
theorem tw2270333860330760702:T:=t
theorem tw16595786050685992808:T:=t
theorem tw16072406652429123250:T:=t
theorem tw8302095610134041685:T:=t
theorem tw16454105579095151594:T:=t
theorem tw6598233728187129095:T:=t
theorem tw16741497690334250367:T:=t
theorem tw10094330940255809787:T:=t
theorem tw9124063942075315238:T:=t
theorem tw7245206941449584106:T:=t
theorem tw5446288744918941025:T:=t
theorem tw14001872355622043688:T:=t
theorem tw6947375541980548379:T:=t
theorem tw3339988647096725683:T:=t
theorem tw17762051653226513549:T:=t
theorem tw12382209956527727610:T:=t
theorem tw14329136532361350945:T:=t
theorem tw5520846920269349132:T:=t
theorem tw5021321480860241171:T:=t
theorem tw108449704484315312:T:=t
theorem tw16691896557453967102:T:=t
theorem tw16002325190943780896:T:=t
theorem tw5138081621806807131:T:=t
theorem tw5349732747006642286:T:=t
theorem tw8818206529760525054:T:=t
theorem tw8594652244968915040:T:=t
theorem tw13334598982615172980:T:=t
theorem tw1431106116409313282:T:=t
theorem tw2380911502108785613:T:=t
theorem tw3554643453950093181:T:=t
end Mine.hold
set_option Elab.async true
theorem Mine.hold : PySem.Challenge.rw_on0195_01.Holds := by
 w_on; o_law; o_head (kmHook Mine.K39 (nat_lit 2::nat_lit 3::nat_lit 22::nat_lit 34::nat_lit 35::nat_lit 37::nat_lit 38::nat_lit 39::nat_lit 42::nat_lit 50::nat_lit 51::nat_lit 54::nat_lit 62::nat_lit 63::nat_lit 66::nat_lit 74::nat_lit 75::nat_lit 90::nat_lit 91::nat_lit 97::nat_lit 98::nat_lit 104::nat_lit 105::nat_lit 111::nat_lit 112::nat_lit 121::nat_lit 122::nat_lit 123::nat_lit 124::nat_lit 132::nat_lit 133::nat_lit 146::nat_lit 147::nat_lit 149::nat_lit 150::nat_lit 151::nat_lit 152::nat_lit 160::nat_lit 161::nat_lit 167::nat_lit 168::nat_lit 174::nat_lit 175::nat_lit 181::nat_lit 182::nat_lit 188::nat_lit 189::nat_lit 195::nat_lit 196::nat_lit 197::nat_lit 203::nat_lit 204::nat_lit 210::nat_lit 211::nat_lit 212::nat_lit 218::nat_lit 219::nat_lit 225::nat_lit 226::nat_lit 232::nat_lit 233::nat_lit 239::nat_lit 240::nat_lit 246::nat_lit 247::nat_lit 253::nat_lit 254::nat_lit 260::nat_lit 261::nat_lit 262::nat_lit 268::nat_lit 269::nat_lit 275::nat_lit 276::nat_lit 282::nat_lit 283::nat_lit 289::nat_lit 290::nat_lit 294::nat_lit 295::nat_lit 301::nat_lit 302::nat_lit 306::nat_lit 307::nat_lit 313::nat_lit 314::nat_lit 320::nat_lit 321::nat_lit 327::nat_lit 328::nat_lit 332::nat_lit 333::nat_lit 339::nat_lit 340::nat_lit 346::nat_lit 347::nat_lit 353::nat_lit 354::nat_lit 360::nat_lit 361::nat_lit 367::nat_lit 368::nat_lit 376::nat_lit 382::nat_lit 383::nat_lit 389::nat_lit 390::nat_lit 406::nat_lit 407::nat_lit 408::nat_lit 409::nat_lit 412::nat_lit 425::nat_lit 426::nat_lit 428::nat_lit 429::nat_lit 430::nat_lit 431::nat_lit 446::nat_lit 447::nat_lit 453::nat_lit 454::nat_lit 460::nat_lit 461::nat_lit 467::nat_lit 468::nat_lit 474::nat_lit 475::nat_lit 481::nat_lit 482::nat_lit 488::nat_lit 489::nat_lit 537::nat_lit 538::nat_lit 565::nat_lit 566::nat_lit 572::nat_lit 573::nat_lit 579::nat_lit 580::nat_lit 600::nat_lit 601::nat_lit 617::nat_lit 618::nat_lit 619::nat_lit 620::nat_lit 623::nat_lit 629::nat_lit 630::nat_lit 636::nat_lit 637::nat_lit 643::nat_lit 644::nat_lit 648::nat_lit 649::nat_lit 653::nat_lit 654::nat_lit 660::nat_lit 661::nat_lit 665::nat_lit 666::nat_lit 670::nat_lit 671::nat_lit 675::nat_lit 676::nat_lit 682::nat_lit 683::nat_lit 689::nat_lit 690::nat_lit 694::nat_lit 695::nat_lit 699::nat_lit 700::nat_lit 706::nat_lit 707 ::[]) (fun _ => by kernel_rfl) (292 :: 335 :: 702 :: [])); (case hw => w_witness2)
 k_go0
 all_goals (try k_fold)
 rename Below _ _ _ _ => B
 rename Fr _ _ _ _ => F
 rename Frag.In _ _ => X
 rename News _ _ _ _ => N
 rename Top _ _ _ _ _ _ => T
 rename IntsAre _ _ => hi
 rename _ = #[] => hg
 rename ¬ _ < _ => hc
 have hs := lifted
 have C2 := codeHd
 rename_i C0 C1 l0
 refine Mine.sJ B F X N T (by decide +kernel) (by kernel_rfl) (by assumption) (by assumption) l0.2.2 C0 C1 C2 hs hi (Mine.xt hc) rfl (fun h' tk' m' nw F' N' ⟨_, k1⟩ ⟨_, k2⟩ ⟨_, k3⟩ => ?_)
 refine ⟨?_, GrownAt.of N' k1, GrownAt.of N' k2, GrownAt.of N' k3, trivial⟩
 exact Mine.oV F' hg rfl
theorem PySem.Challenge.cw_on0195_01_holds : PySem.Challenge.rw_on0195_01.Holds :=
 Mine.hold
