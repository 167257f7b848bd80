import PyProof.Rows.All
import Wide.All
import OpenK.AllK
import Wide.FinOn
import PyProof.ZipIter
import KE.BitLaws
import KE.KDictList
import Lean
import PySem.Challenge.RW_nn0360_01
set_option Elab.async false
set_option linter.all false
set_option tactic.hygienic false
set_option genSizeOf false
set_option maxRecDepth 100000
set_option maxHeartbeats 8000000
namespace Mine
variable {a b c d e f g u v:Nat} {i j k l m n:Int}
theorem zdm {k:Nat} (h:a*k+b=c*k+d) (hb:b<k) (hd:d<k):a=c∧b=d:=by
 have f:∀ {x y},y<k→(x*k+y) / k=x:=fun {x y} hy=>by rw [Nat.mul_comm,Nat.mul_add_div (Nat.zero_lt_of_lt hy),Nat.div_eq_of_lt hy];rfl
 have e:a=c:=(f hb).symm.trans ((congrArg (· / k) h).trans (f hd))
 subst e;exact ⟨rfl,Nat.add_left_cancel h⟩
theorem zml {k m:Nat} (h:a<m) (h2:b<k):a*k+b<m*k:=Nat.lt_of_lt_of_le (Nat.add_lt_add_left h2 _) ((Nat.succ_mul a k)▸Nat.mul_le_mul_right k h)
theorem zti (h1 : -1≤i∧i≤64) (h2 : -1≤j∧j≤64) (h:(i+1).toNat=(j+1).toNat):i=j :=
 (Int.add_left_inj 1).mp ((Int.toNat_of_nonneg (Int.add_le_add_right h1.1 1)).symm.trans ((congrArg Nat.cast h).trans (Int.toNat_of_nonneg (Int.add_le_add_right h2.1 1))))
theorem ztn (h:k≤i∧i≤64):(i+1).toNat<66:=Nat.lt_succ_of_le (Int.toNat_le.mpr (Int.add_le_add_right h.2 1))
theorem zh150 (h0:(a*66+(i+1:Int).toNat)*64+b=(c*66+(j+1:Int).toNat)*64+d) (h1 : -1≤i∧i≤64) (h2 : -1≤j∧j≤64) (h3:a<64∧b<64) (h4:c<64∧d<64):i=j:=zti h1 h2 (zdm (zdm h0 h3.2 h4.2).1 (ztn h1) (ztn h2)).2
theorem zh149 (h0:(a*66+(i+1:Int).toNat)*64+c=(b*66+(j+1:Int).toNat)*64+d) (h1:k≤i∧i≤64) (h2:k≤j∧j≤64) (h3:a<64∧c<64) (h4:b<64∧d<64):a=b:=(zdm (zdm h0 h3.2 h4.2).1 (ztn h1) (ztn h2)).1
theorem zh151 (h0:c*64+a=d*64+b) (h1:e<64∧a<64) (h2:f<64∧b<64):a=b:=(zdm h0 h1.2 h2.2).2
theorem zh44 (h0:a - b=d+c):a - (b+c)=d:=(Nat.sub_sub a b c).symm.trans ((congrArg (· - c) h0).trans (Nat.add_sub_cancel ..))
theorem zh152 (h0:j≤i∧i≤64) (h1:a<64∧b<64):(a*66+(i+1:Int).toNat)*64+b<270336:=zml (m:=4224) (zml (m:=64) h1.1 (ztn h0)) h1.2
theorem zh166:((-1)+(a:Int):Int).toNat=a - 1:=(congrArg Int.toNat (Int.add_comm (-1) a)).trans (Int.toNat_sub a 1)
theorem zh57:((a:Int) - (b:Int):Int).toNat=a - b:=Int.toNat_sub a b
theorem zh40 (h0:b+c≤a):a - b=a - (b+c)+c:=((congrArg (·+c) (Nat.sub_sub a b c).symm).trans (Nat.sub_add_cancel (Nat.le_sub_of_add_le' h0))).symm
theorem zh59 (h0:b<a):a - b=a - (b+1)+1:=zh40 h0
theorem zh99 (h0:b<c) (h1:c≤a):a - (b+1)<a - b:=Nat.sub_succ_lt_self a b (Nat.lt_of_lt_of_le h0 h1)
theorem zh35 (h0:b<a):a - (b+1)<a - b:=Nat.sub_succ_lt_self a b h0
theorem zx54 (h0:2*(a+1)+c≤d):2*a+(c+1)≤d:=Nat.le_trans (Nat.le_of_lt ((Nat.add_right_comm (2*a) 2 c)▸Nat.le_refl _)) h0
theorem zh54 (h0:2*(a - b)+c≤d) (h1:b<a):2*(a - (b+1))+(c+1)≤d:=zx54 (zh59 h1▸h0)
theorem zh16 (h0:a+70<d) (h1:e≤64) (h2:c≤e):a+1+(min b c)<d:=Nat.lt_of_le_of_lt (Nat.add_le_add_left (Nat.le_trans (Nat.min_le_right b c) (Nat.le_trans h2 h1)) (a+1)) (Nat.lt_of_le_of_lt (Nat.add_le_add_left (Nat.le_of_ble_eq_true rfl:65≤70) a) h0)
theorem zh17 (h0:a+70<b):a+64<b:=Nat.lt_of_le_of_lt (Nat.add_le_add_left (Nat.le_of_ble_eq_true rfl:64≤70) a) h0
theorem zh10 (h0:a+c≤2000) (h1:b=9900):a+70<b:=h1▸Nat.lt_of_le_of_lt (Nat.add_le_add_right (Nat.le_trans (Nat.le_add_right a c) h0) 70) (Nat.le_of_ble_eq_true rfl)
theorem zh9 (h0:a+c≤700) (h1:b=1000):a<b:=h1▸Nat.lt_of_le_of_lt (Nat.le_trans (Nat.le_add_right a c) h0) (Nat.le_of_ble_eq_true rfl)
theorem zh103 (h0:b<100) (h1:c<d) (h2:a≤100*c+b) (h3:d≤8):a≤1000:=Nat.le_trans h2 (Nat.add_le_add (Nat.mul_le_mul_left 100 (Nat.le_trans (Nat.le_of_lt h1) h3)) (Nat.le_of_lt (Nat.lt_of_lt_of_le h0 (Nat.le_of_ble_eq_true rfl:100≤200))))
theorem zh20 (h0:i.toNat<b) (h1:a=b):i<(a:Int):=h1▸Int.lt_of_le_of_lt (Int.self_le_toNat i) (Int.ofNat_lt.mpr h0)
theorem zh18 (h0:i.toNat<a) (h1:b=1000000) (h2:a≤b):i<2 ^ 63:=Int.lt_trans (Int.lt_of_le_of_lt (Int.self_le_toNat i) (Int.ofNat_lt.mpr (Nat.lt_of_lt_of_le h0 (h1▸h2)))) (by decide)
theorem zh167:a≤a - b+b:=Nat.le_add_of_sub_le (Nat.le_refl _)
theorem zh100 (h0:a - b=0) (h1:b≤a):a=b:=Nat.le_antisymm (Nat.le_of_sub_eq_zero h0) h1
theorem zh32 (h0:e+f≤g) (h1:g=1000000) (h2:c=16777216) (h3:a=e) (h4:b=f):a+b≤c+d:=by subst h3 h4 h1 h2;exact Nat.le_trans h0 (Nat.le_add_right_of_le (Nat.le_of_ble_eq_true rfl))
theorem zh25 (h0:¬(a≤b)):min (a:Int) (b:Int)=min (b:Int) (b:Int):=(Int.min_eq_right (Int.ofNat_le.mpr (Nat.le_of_not_le h0))).trans (Int.min_self _).symm
theorem zh11 (h0:i≤(a:Int)) (h1:a=1000000):i<2000000:=Int.lt_of_le_of_lt (h1▸h0) (by decide)
theorem zh62 (h0:b≤8):min a b<1000000:=Nat.lt_of_le_of_lt (Nat.le_trans (Nat.min_le_right a b) h0) (Nat.le_of_ble_eq_true rfl)
theorem zh123:(min 40 a)+(0+1+1)≤1000000:=Nat.le_trans (Nat.add_le_add_right (Nat.min_le_left 40 a) 2) (Nat.le_of_ble_eq_true rfl)
theorem zh58 (h0:b≤1000) (h1:a≤b):(-((1000000:Nat):Int):Int)≤(a:Int)∧(a:Int)≤((1000000:Nat):Int)∧(-((1000000:Nat):Int):Int)≤(b:Int)∧(b:Int)≤((1000000:Nat):Int) :=
 have z:∀ x:Nat,x≤1000→(-((1000000:Nat):Int):Int)≤(x:Int)∧(x:Int)≤((1000000:Nat):Int):=fun x h=>⟨Int.le_trans (by decide) (Int.natCast_nonneg x),Int.ofNat_le.mpr (Nat.le_trans h (Nat.le_of_ble_eq_true rfl))⟩
 ⟨(z a (Nat.le_trans h1 h0)).1,(z a (Nat.le_trans h1 h0)).2,z b h0⟩
theorem zh142 (h0:i=(a:Int) - 1) (h1:a<5) : -1≤i∧i≤3:=h0▸⟨Int.sub_le_sub_right (Int.natCast_nonneg a) 1,Int.sub_le_sub_right (Int.ofNat_le.mpr (Nat.le_of_lt_succ h1)) 1⟩
theorem zh86:(a:Int) % 2≠0↔a % 2=1:=⟨fun h=>(Nat.mod_two_eq_zero_or_one a).resolve_left fun e=>h (congrArg Nat.cast e),fun h e=>by cases h.symm.trans (Int.ofNat_inj.mp e)⟩
theorem zh12 (h0:i<2000000) (h1:a≤1*i.toNat):a≤2000000:=Nat.le_trans (Nat.le_trans h1 (Nat.le_of_eq (Nat.one_mul _))) (Int.toNat_le.mpr (Int.le_of_lt h0))
theorem zh148 (h0:a<c) (h1:b<d) (h2:c≤2 ^ 6) (h3:d≤2 ^ 6):a<64∧b<64:=⟨Nat.lt_of_lt_of_le h0 h2,Nat.lt_of_lt_of_le h1 h3⟩
theorem zh77 (h0:b≤a) : -(a:Int)≤0∧(0:Int)≤(a:Int) ∧ -(a:Int)≤(b:Int)∧(b:Int)≤(a:Int) :=
 have z:=Int.neg_nonpos_of_nonneg (Int.natCast_nonneg a)
 ⟨z,Int.natCast_nonneg a,Int.le_trans z (Int.natCast_nonneg b),Int.ofNat_le.mpr h0⟩
theorem zh163 (h0:b<2) (h1:a=5):0<a - b:=h1▸Nat.sub_pos_of_lt (Nat.lt_of_lt_of_le h0 (Nat.le_of_ble_eq_true rfl))
theorem zh93 (h0:a+(c+1)=d) (h1:e≤b) (h2:d≤e):a<b:=Nat.lt_of_lt_of_le (h0▸Nat.lt_add_of_pos_right (Nat.succ_pos c)) (Nat.le_trans h2 h1)
theorem zh71 (h0:a+(c+1)=d) (h1:d≤b):a<b:=Nat.lt_of_lt_of_le (h0▸Nat.lt_add_of_pos_right (Nat.succ_pos c)) h1
theorem zh83 (h0:a≤c+8*d) (h1:b≤8):a+b≤c+8*(d+1):=(Nat.add_le_add h0 h1:a+b≤c+8*d+8)
theorem zh74 (h0:a≤3000*b+c) (h1:c≤3000):a≤3000*(b+1):=Nat.le_trans h0 (Nat.add_le_add_left h1 _)
theorem zh80 (h0:a≤1000*b+c) (h1:c≤1000):a≤1000*(b+1):=Nat.le_trans h0 (Nat.add_le_add_left h1 _)
theorem zh82 (h0:c<8) (h1:a≤8000+8*c) (h2:b≤8):a+b≤1000000:=Nat.le_trans (Nat.add_le_add (Nat.le_trans h1 (Nat.add_le_add_left (Nat.mul_le_mul_left 8 (Nat.le_of_lt h0)) _)) h2) (Nat.le_of_ble_eq_true rfl)
theorem zh145 (h0:a<4):(a:Int)≤((1000000:Nat):Int):=Int.ofNat_le.mpr (Nat.le_trans (Nat.le_of_lt h0) (Nat.le_of_ble_eq_true rfl))
theorem zh63 (h0:a≤8):(a:Int)≤((1000000:Nat):Int):=Int.ofNat_le.mpr (Nat.le_trans h0 (Nat.le_of_ble_eq_true rfl))
theorem zh60 (h0:a≤8):(-((1000000:Nat):Int):Int)≤0∧(0:Int)≤((1000000:Nat):Int)∧(-((1000000:Nat):Int):Int)≤(a:Int)∧(a:Int)≤((1000000:Nat):Int):=zh77 (Nat.le_trans h0 (Nat.le_of_ble_eq_true rfl))
theorem zh144 (h0:c≤5) (h1:d≤7) (h2:a≤d) (h3:b≤c):a+b≤1000000:=Nat.le_trans (Nat.add_le_add (Nat.le_trans h2 h1) (Nat.le_trans h3 h0)) (Nat.le_of_ble_eq_true rfl)
theorem zh136 (h0:b<8) (h1:c<b) (h2:c=a):42+3*a≤1000:=Nat.le_trans (Nat.add_le_add_left (Nat.mul_le_mul_left 3 (h2▸Nat.le_of_lt (Nat.lt_trans h1 h0))) 42) (Nat.le_of_ble_eq_true rfl)
theorem zmb {k l m n:Nat} (h0:a≤b) (q:Nat.ble (k+m*b+l) n=true):k+m*a+l≤n:=Nat.le_trans (Nat.add_le_add_right (Nat.add_le_add_left (Nat.mul_le_mul_left m h0) k) l) (Nat.le_of_ble_eq_true q)
theorem zh138 (h0:b<8) (h1:c<b) (h2:c=a):42+3*a+1+1≤1000:=zmb (b:=8) (l:=2) (h2▸Nat.le_of_lt (Nat.lt_trans h1 h0)) rfl
theorem zh127 (h0:b<6) (h1:c<b) (h2:c=a):2+2*a≤1000:=zmb (b:=6) (l:=0) (h2▸Nat.le_of_lt (Nat.lt_trans h1 h0)) rfl
theorem zh128 (h0:b<6) (h1:c<b) (h2:c=a):2+2*a+1≤1000:=zmb (b:=6) (l:=1) (h2▸Nat.le_of_lt (Nat.lt_trans h1 h0)) rfl
theorem zh131 (h0:b<4) (h1:c<b) (h2:c=a):21+2*a≤1000:=zmb (b:=4) (l:=0) (h2▸Nat.le_of_lt (Nat.lt_trans h1 h0)) rfl
theorem zh132 (h0:b<4) (h1:c<b) (h2:c=a):21+2*a+1≤1000:=zmb (b:=4) (l:=1) (h2▸Nat.le_of_lt (Nat.lt_trans h1 h0)) rfl
theorem zh137 (h0:b<8) (h1:c<b) (h2:c=a):42+3*a+1≤1000:=zmb (b:=8) (l:=1) (h2▸Nat.le_of_lt (Nat.lt_trans h1 h0)) rfl
theorem zh130 (h0:a<6):2+2*a≤20:=zmb (l:=0) (Nat.le_of_lt h0) rfl
theorem zh135 (h0:a<4):21+2*a≤40:=zmb (l:=0) (Nat.le_of_lt h0) rfl
theorem zh140 (h0:a<8):42+3*a≤70:=zmb (l:=0) (Nat.le_of_lt h0) rfl
theorem zh112 (h0:a≤7):100*a≤700:=Nat.mul_le_mul_left 100 h0
theorem zh109 (h0:a≤8):100*a≤1000:=Nat.le_trans (Nat.mul_le_mul_left 100 h0) (Nat.le_of_ble_eq_true rfl)
theorem zh75 (h0:a≤3000*b) (h1:b≤8):a≤24000:=Nat.le_trans h0 (Nat.mul_le_mul_left 3000 h1)
theorem zh81 (h0:a≤1000*b) (h1:b≤8):a≤8000:=Nat.le_trans h0 (Nat.mul_le_mul_left 1000 h1)
theorem zh94 (h0:a≤1000*b) (h1:c≤8) (h2:b≤c):a≤8000:=Nat.le_trans h0 (Nat.mul_le_mul_left 1000 (Nat.le_trans h2 h1))
theorem zh79 (h0:b<1000) (h1:c<8) (h2:a≤1000*c+b):a<1000000:=Nat.lt_of_le_of_lt h2 (Nat.lt_of_le_of_lt (Nat.add_le_add (Nat.mul_le_mul_left 1000 (Nat.le_of_lt h1)) (Nat.le_of_lt h0)) (Nat.le_of_ble_eq_true rfl))
theorem zh72 (h0:b<3000) (h1:c<8) (h2:a≤3000*c+b):a<1000000:=Nat.lt_of_le_of_lt h2 (Nat.lt_of_le_of_lt (Nat.add_le_add (Nat.mul_le_mul_left 3000 (Nat.le_of_lt h1)) (Nat.le_of_lt h0)) (Nat.le_of_ble_eq_true rfl))
theorem zh65 (h0:a≤b+c) (h1:b≤1000) (h2:c≤8):a<1000000:=Nat.lt_of_le_of_lt (Nat.le_trans h0 (Nat.add_le_add h1 h2)) (Nat.le_of_ble_eq_true rfl)
theorem zh64 (h0:a≤b+c) (h1:b≤1000) (h2:c≤8):a≤1000000:=Nat.le_of_lt (zh65 h0 h1 h2)
theorem zh116 (h0:a≤7):700+a≤800:=Nat.le_trans (Nat.add_le_add_left h0 700) (Nat.le_of_ble_eq_true rfl)
theorem zh115 (h0:b<8) (h1:a≤700+b):a≤1000:=Nat.le_trans h1 (Nat.le_trans (Nat.add_le_add_left (Nat.le_of_lt h0) 700) (Nat.le_of_ble_eq_true rfl))
theorem zh141 (h0:b<5) (h1:b=a):70+a≤1000:=Nat.le_trans (Nat.add_le_add_left (h1▸Nat.le_of_lt h0) 70) (Nat.le_of_ble_eq_true rfl)
theorem zh110 (h0:b<100) (h1:c<d) (h2:c=e) (h3:a≤100*e+b) (h4:d≤7):a≤1000:=zh103 h0 (h2▸h1) h3 (Nat.le_trans h4 (Nat.le_of_ble_eq_true rfl))
theorem zh29 (h0:a<c) (h1:c=1000000) (h2:b=16777216):a≤b:=h2▸Nat.le_trans (Nat.le_of_lt (h1▸h0)) (Nat.le_of_ble_eq_true rfl)
theorem zh30 (h0:c=1000000) (h1:b=16777216) (h2:a=d) (h3:d≤c):a≤b:=h2▸h1▸Nat.le_trans (h0▸h3) (Nat.le_of_ble_eq_true rfl)
theorem zh31 (h0:c+d≤e) (h1:e=1000000) (h2:b=16777216) (h3:a=c):a≤b:=h3▸h2▸Nat.le_trans (Nat.le_trans (Nat.le_add_right c d) (h1▸h0)) (Nat.le_of_ble_eq_true rfl)
theorem zh34 (h0:a≤c+b) (h1:c≤100):a≤16777216+b:=Nat.le_trans h0 (Nat.add_le_add_right (Nat.le_trans h1 (Nat.le_of_ble_eq_true rfl)) b)
theorem zh15 (h0:b=1000000) (h1:a≤b):(a:Int)<2 ^ 63:=Int.lt_of_le_of_lt (Int.ofNat_le.mpr (h0▸h1)) (by decide)
theorem zh28 (h0:i<(a:Int)) (h1:b=1000000) (h2:a≤b):i<2 ^ 63:=Int.lt_trans h0 (zh15 h1 h2)
theorem zh147 (h0:a<b) (h1:b≤64):(-1:Int)≤(a:Int)∧(a:Int)≤64:=⟨Int.le_trans (by decide) (Int.natCast_nonneg a),Int.ofNat_le.mpr (Nat.le_trans (Nat.le_of_lt h0) h1)⟩
theorem zh69:(-2 ^ 64:Int)<(a:Int):=Int.lt_of_lt_of_le (by decide) (Int.natCast_nonneg a)
theorem zh19 (h0:0≤i) : -2 ^ 63≤i:=Int.le_trans (by decide) h0
theorem zh22 (h0 : -(a:Int)≤i) (h1:b=1000000) (h2:a≤b) : -2 ^ 63≤i:=Int.le_trans (Int.neg_le_neg (Int.le_of_lt (zh15 h1 h2))) h0
theorem zh23 (h0:¬(0≤i)):i<2 ^ 63:=Int.lt_trans (Int.lt_of_not_ge h0) (by decide)
theorem zh67 (h0:a<3):(a:Int)<((b+1+1+1:Nat):Int):=Int.ofNat_lt.mpr (Nat.lt_of_lt_of_le h0 (Nat.le_add_left 3 b))
theorem zh13 (h0:0≤i) (h1:i<2000000) : -9223372036854775808≤i∧i<9223372036854775808:=⟨Int.le_trans (by decide) h0,Int.lt_trans h1 (by decide)⟩
theorem zh70 (h0:b≤1000) (h1:a≤b):((a+1:Nat):Int)<2 ^ 64:=Int.lt_of_le_of_lt (Int.ofNat_le.mpr (Nat.succ_le_succ (Nat.le_trans h1 h0))) (by decide)
theorem zh117 (h0:b<c∧a<2):a<8:=Nat.lt_of_lt_of_le h0.2 (Nat.le_of_ble_eq_true rfl)
theorem zh105 (h0:a<c∧b<a∧d<e):a≠b:=(Nat.ne_of_lt h0.2.1).symm
theorem zh162 (h0:a<2) (h1:b=5):a≤b:=h1▸Nat.le_trans (Nat.le_of_lt h0) (Nat.le_of_ble_eq_true rfl)
theorem zh160 (h0:a<2) (h1:b=5):(a:Int)≤(b:Int):=Int.ofNat_le.mpr (zh162 h0 h1)
theorem zh90 (h0:a<b+1) (h1:a≠b):a<b:=Nat.lt_of_le_of_ne (Nat.le_of_lt_succ h0) h1
theorem zh76 (h0:a<b+1) (h1:¬(a=b)):a<b:=zh90 h0 h1
theorem zh45 (h0:a≤b+1) (h1:¬(a=b+1)):a≤b:=Nat.le_of_lt_succ (Nat.lt_of_le_of_ne h0 h1)
theorem zh36 (h0:a≤b) (h1:¬(a<b)):a=b:=Nat.le_antisymm h0 (Nat.le_of_not_lt h1)
theorem zh41 (h0:b - a=0) (h1:a≤b):a=b:=(zh100 h0 h1).symm
theorem zh43 (h0:a<d) (h1:d≤c):a+b≤c+b:=Nat.add_le_add_right (Nat.le_trans (Nat.le_of_lt h0) h1) b
theorem zh73 (h0:a≤b+c):a≤b+(c+d):=Nat.le_trans h0 (Nat.add_le_add_left (Nat.le_add_right c d) b)
theorem zh3 (h0:a+10*d≤c) (h1:b≤d):a+10*b≤c:=Nat.le_trans (Nat.add_le_add_left (Nat.mul_le_mul_left 10 h1) a) h0
theorem zh4 (h0:a+20*d≤c) (h1:b≤d):a+20*b≤c:=Nat.le_trans (Nat.add_le_add_left (Nat.mul_le_mul_left 20 h1) a) h0
theorem zh66 (h0:a≤c+d):a+b≤c+(d+b):=Nat.le_trans (Nat.add_le_add_right h0 b) (Nat.le_of_eq (Nat.add_assoc ..))
theorem zh104:a+b+c≤a+(b+c):=Nat.le_of_eq (Nat.add_assoc ..)
theorem zh106:a+b≤a+(b+c):=Nat.add_le_add_left (Nat.le_add_right b c) a
theorem zh158:a+b+c=a+(c+b):=(Nat.add_assoc ..).trans (congrArg (a+·) (Nat.add_comm ..))
theorem zh159 (h0:a=b):a≤b+c:=h0▸Nat.le_add_right a c
theorem zh108:100*a+100≤100*(a+1):=Nat.le_refl _
theorem zh111 (h0:b≤100):100*a+b≤100*(a+1):=Nat.add_le_add_left h0 _
theorem zh107 (h0:a≤b*c+b):a≤b*(c+1):=h0
theorem zh87 (h0:a<b):a<b+c:=Nat.lt_of_lt_of_le h0 (Nat.le_add_right b c)
theorem zh154 (h0:c<b) (h1:a≤c):a+1≤b:=Nat.lt_of_le_of_lt h1 h0
theorem zh156 (h0:a≤b) (h1:¬((a:Int)<(b:Int))):a=b:=Nat.le_antisymm h0 (Int.ofNat_le.mp (Int.not_lt.mp h1))
theorem zh168 (h0:a≤b+1) (h1:¬(a≤b)):a=b+1:=Nat.le_antisymm h0 (Nat.lt_of_not_le h1)
theorem zh0 (h0:a≤38):301+10*(a+1)≤700:=Nat.le_trans (Nat.add_le_add_left (Nat.mul_le_mul_left 10 (Nat.succ_le_succ h0)) 301) (Nat.le_of_ble_eq_true rfl)
theorem zh1 (h0:a≤38):4+20*(a+1)≤2000:=Nat.le_trans (Nat.add_le_add_left (Nat.mul_le_mul_left 20 (Nat.succ_le_succ h0)) 4) (Nat.le_of_ble_eq_true rfl)
theorem zh143 (h0:a=b∧c<d) (h1:¬((0:Int)<(d:Int))):False:=h1 (Int.ofNat_lt.mpr (Nat.zero_lt_of_lt h0.2))
theorem zh27 (h0:i≤(a:Int)∧(a:Int)≤(c:Int)) (h1:b=c):a≤b:=h1▸Int.ofNat_le.mp h0.2
theorem zh113 (h0:a+b=c) (h1:c≤7):a<8:=Nat.lt_succ_of_le (Nat.le_trans (h0▸Nat.le_add_right a b) h1)
theorem zh38:i+(a:Int)+1=i+((a+1:Nat):Int):=Int.add_assoc ..
theorem zh92 (h0:a<b) (h1:b≤8):(a:Int)≤1000000:=Int.ofNat_le.mpr (Nat.le_trans (Nat.le_trans (Nat.le_of_lt h0) h1) (Nat.le_of_ble_eq_true rfl))
theorem zh37 (h0:a<i.toNat):0<i - (a:Int):=Int.sub_pos_of_lt (Int.lt_toNat.mp h0)
theorem zh102 (h0:a≤1000) (h1:b≤1000):a+b≤2000:=Nat.add_le_add h0 h1
theorem zh61 (h0:a≤1000) (h1:b≤1000):a+b≤1000000:=Nat.le_trans (Nat.add_le_add h0 h1) (Nat.le_of_ble_eq_true rfl)
theorem zh14 (h0:a≤2000000):¬((2 ^ 63 - 1) / 8<a):=Nat.not_lt_of_le (Nat.le_trans h0 (Nat.le_of_ble_eq_true rfl))
theorem zh33 (h0:a<b) (h1:a=b):False:=Nat.ne_of_lt h0 h1
theorem zh114 (h0:a≤7):a+1≤100:=Nat.le_trans (Nat.succ_le_succ h0) (Nat.le_of_ble_eq_true rfl)
theorem zh122:min 40 a≤1000000:=Nat.le_trans (Nat.min_le_left 40 a) (Nat.le_of_ble_eq_true rfl)
theorem zh124:(min 40 a)+(0+1+1)≤100:=Nat.le_trans (Nat.add_le_add_right (Nat.min_le_left 40 a) 2) (Nat.le_of_ble_eq_true rfl)
theorem zh126:1+(a:Int)=((a+1:Nat):Int):=Int.add_comm ..
theorem zh165 (h0:b<a) : -(a:Int) ≤ -1:=Int.neg_le_neg (Int.ofNat_le.mpr (Nat.zero_lt_of_lt h0))
theorem zh49 (h0:b=1000000) (h1:a≤8):a<b:=h0▸Nat.lt_of_le_of_lt h1 (Nat.le_of_ble_eq_true rfl)
theorem zh121 (h0:3<a):2≠a:=Nat.ne_of_lt (Nat.lt_of_succ_lt h0)
theorem zh68 (h0:b<a):(a:Int)≠0:=fun e=>Nat.ne_of_gt (Nat.zero_lt_of_lt h0) (Int.ofNat_inj.mp e)
theorem zq0 (h0:¬((b:Int)<(a:Int))):a≤b:=by lia
theorem zq1 (h0:a+20*(c+b)≤d):a+b+20*c≤d:=by lia
theorem zq2 (h0:a+10*(c+b)≤d):a+b+10*c≤d:=by lia
theorem zq3 (h0:a+20*(b+1)≤c):a+3+20*b≤c:=by lia
theorem zk0 (h0:a≤u) (q:Nat.ble u v=true):a≤v:=Nat.le_trans h0 (Nat.le_of_ble_eq_true q)
theorem zq4 (h0 : -(b:Int)≤i) (h1:a=b) : -(a:Int)≤i:=le_of_eq_of_le (congrArg Neg.neg (congrArg Nat.cast h1)) h0
theorem zq5:¬((a:Int)<0):=by lia
theorem zq6:a≤a+b:=by lia
theorem zk1 (h0:a<u) (q:Nat.ble u (v+1)=true):a≤v:=Nat.le_of_add_le_add_right (Nat.le_trans h0 (Nat.le_of_ble_eq_true q):a+1≤v+1)
theorem zq7:i - (a:Int) - 1=i - ((a+1:Nat):Int):=by lia
theorem zq8 (h0:a<c) (h1:b=c):a<b:=(Nat.lt_of_lt_of_le h0 (Nat.le_of_eq h1.symm))
theorem zq9 (h0:a<a):False:=by lia
theorem zq10:(a:Int) % 2=((a % 2:Nat):Int):=by lia
theorem zq11 (h0:(a:Int)=1):a=1:=by lia
theorem zq12 (h0:¬((a:Int)=1)):¬(a=1):=by lia
theorem zq13 (h0:c<d) (h1:d=c):a<b:=by lia
theorem zq14 (h0:a<b):(a:Int)≤(b:Int):=by lia
theorem zq15:(0:Int)≤(a:Int):=by lia
theorem zk2 (h0:a≤u) (q:Nat.ble (u+1) v=true):a<v:=Nat.lt_of_le_of_lt h0 (Nat.le_of_ble_eq_true q)
theorem zk3 (h0:a≤b) (h1:b≤u) (q:Nat.ble u v=true):a≤v:=Nat.le_trans (Nat.le_trans h0 h1) (Nat.le_of_ble_eq_true q)
theorem zk4 (h0:a≤b) (h1:b≤u) (q:Nat.ble (u+1) v=true):a<v:=Nat.lt_of_le_of_lt (Nat.le_trans h0 h1) (Nat.le_of_ble_eq_true q)
theorem zq16 (h0:a≤c):a+b≤c+b:=by lia
theorem zq17 (h0:a≠b):¬((a:Int)=(b:Int)):=by lia
theorem zk5 (h0:a≤b) (h1:b<c) (h2:c≤u) (q:Nat.ble (u+1) (v+1)=true):a<v:=Nat.lt_of_add_lt_add_right (Nat.lt_of_le_of_lt (Nat.le_trans (Nat.lt_of_le_of_lt h0 h1) h2) (Nat.le_of_ble_eq_true q):a+1<v+1)
theorem zk6 (h0:a<u) (q:Nat.ble (u+1) (v+1)=true):a<v:=Nat.lt_of_add_lt_add_right (Nat.lt_of_le_of_lt h0 (Nat.le_of_ble_eq_true q):a+1<v+1)
theorem zk7 (h0:a=b) (h1:b<u) (q:Nat.ble (u+1) (v+1)=true):a<v:=Nat.lt_of_add_lt_add_right (Nat.lt_of_le_of_lt (Nat.lt_of_le_of_lt (Nat.le_of_eq h0) h1) (Nat.le_of_ble_eq_true q):a+1<v+1)
theorem zq18 (h0:c<d) (h1:c=a) (h2:d≤b):a<b:=(Nat.lt_of_lt_of_le (Nat.lt_of_le_of_lt (Nat.le_of_eq h1.symm) h0) h2)
theorem zq19:(-((-i) - j)) - j=i:=by lia
theorem zq20:¬(0≤(-(a:Int)) - 1):=by lia
theorem zq21:a<a+1:=by lia
theorem zq22 (h0:a<b+1) (h1:¬(b=a)):a<b:=by lia
theorem zq23 (h0:¬(a=b)):¬((a:Int)=(b:Int)):=by lia
theorem zq24 (h0:c<b) (h1:a<c):a<b:=(Nat.lt_of_lt_of_le h1 (Nat.le_of_lt h0))
theorem zq25 (h0:b<c) (h1:c=b):a≠b:=by lia
theorem zq26 (h0:a≤7):a≠9:=by lia
theorem zq27 (h0:a≤7):a≠8:=by lia
theorem zk8 (h0:a<b) (h1:b≤u) (q:Nat.ble (u+1) (v+1)=true):a<v:=Nat.lt_of_add_lt_add_right (Nat.lt_of_le_of_lt (Nat.le_trans h0 h1) (Nat.le_of_ble_eq_true q):a+1<v+1)
theorem zq28 (h0:¬((a:Int)<(b:Int))):¬(a<b):=by lia
theorem zk9 (h0:a=b) (h1:b≤u) (q:Nat.ble u v=true):a≤v:=Nat.le_trans (Nat.le_trans (Nat.le_of_eq h0) h1) (Nat.le_of_ble_eq_true q)
theorem zk10 (h0:a=b) (h1:b=c) (h2:c≤u) (q:Nat.ble u v=true):a≤v:=Nat.le_trans (Nat.le_trans (Nat.le_trans (Nat.le_of_eq h0) (Nat.le_of_eq h1)) h2) (Nat.le_of_ble_eq_true q)
theorem zk11 (h0:a=b) (h1:b≤u) (q:Nat.ble (u+1) v=true):a<v:=Nat.lt_of_le_of_lt (Nat.le_trans (Nat.le_of_eq h0) h1) (Nat.le_of_ble_eq_true q)
theorem zk12 (h0:b=a) (h1:b<c) (h2:c≤u) (q:Nat.ble (u+1) (v+1)=true):a<v:=Nat.lt_of_add_lt_add_right (Nat.lt_of_le_of_lt (Nat.le_trans (Nat.lt_of_le_of_lt (Nat.le_of_eq h0.symm) h1) h2) (Nat.le_of_ble_eq_true q):a+1<v+1)
theorem zq29 (h0:a<b) (h1:b≤a):False:=by lia
theorem zq30 (h0:a<b) (h1:b=a):False:=by lia
theorem zq31 (h0:3<a):1≠a:=by lia
theorem zq32:0<a+1:=by lia
theorem zk13 (h0:a=b) (h1:b<c) (h2:c≤u) (q:Nat.ble (u+1) (v+1)=true):a<v:=Nat.lt_of_add_lt_add_right (Nat.lt_of_le_of_lt (Nat.le_trans (Nat.lt_of_le_of_lt (Nat.le_of_eq h0) h1) h2) (Nat.le_of_ble_eq_true q):a+1<v+1)
theorem zk14 (h0:a≤b) (h1:b=c) (h2:d=c) (h3:d<e) (h4:e<u) (q:Nat.ble u (v+2)=true):a≤v:=Nat.le_of_add_le_add_right (Nat.le_trans (Nat.lt_of_le_of_lt (Nat.lt_of_le_of_lt (Nat.le_trans (Nat.le_trans h0 (Nat.le_of_eq h1)) (Nat.le_of_eq h2.symm)) h3) h4) (Nat.le_of_ble_eq_true q):a+2≤v+2)
theorem zk15 (h0:a=b) (h1:c=b) (h2:c<d) (h3:d<u) (q:Nat.ble (u+1) (v+2)=true):a<v:=Nat.lt_of_add_lt_add_right (Nat.lt_of_le_of_lt (Nat.lt_of_le_of_lt (Nat.lt_of_le_of_lt (Nat.le_trans (Nat.le_of_eq h0) (Nat.le_of_eq h1.symm)) h2) h3) (Nat.le_of_ble_eq_true q):a+2<v+2)
theorem zq33:2+2*a+b+b≤2+2*(a+b):=by lia
theorem zk16 (h0:a=b) (h1:b<u) (q:Nat.ble u (v+1)=true):a≤v:=Nat.le_of_add_le_add_right (Nat.le_trans (Nat.lt_of_le_of_lt (Nat.le_of_eq h0) h1) (Nat.le_of_ble_eq_true q):a+1≤v+1)
theorem zk17 (h0:a≤b) (h1:c=b) (h2:c<d) (h3:d<u) (q:Nat.ble u (v+2)=true):a≤v:=Nat.le_of_add_le_add_right (Nat.le_trans (Nat.lt_of_le_of_lt (Nat.lt_of_le_of_lt (Nat.le_trans h0 (Nat.le_of_eq h1.symm)) h2) h3) (Nat.le_of_ble_eq_true q):a+2≤v+2)
theorem zk18 (h0:a≤b) (h1:c=b) (h2:c<d) (h3:d<u) (q:Nat.ble (u+1) (v+2)=true):a<v:=Nat.lt_of_add_lt_add_right (Nat.lt_of_le_of_lt (Nat.lt_of_le_of_lt (Nat.lt_of_le_of_lt (Nat.le_trans h0 (Nat.le_of_eq h1.symm)) h2) h3) (Nat.le_of_ble_eq_true q):a+2<v+2)
theorem zq34:a+2*b+c+c≤a+2*(b+c):=by lia
theorem zq35:a+2*b+c≤a+2*(b+c):=by lia
theorem zk19 (h0:a≤b) (h1:b<u) (q:Nat.ble u (v+1)=true):a≤v:=Nat.le_of_add_le_add_right (Nat.le_trans (Nat.lt_of_le_of_lt h0 h1) (Nat.le_of_ble_eq_true q):a+1≤v+1)
theorem zq36:a+3*b+c+c+c≤a+3*(b+c):=by lia
theorem zq37:(-1:Int) ≤ -1∧(-1:Int)≤64:=by lia
theorem zq38 (h0:(a:Int)<(b:Int)) (h1:b≤a):False:=by lia
theorem zq39 (h0:a<3):(a:Int)≤((1000000:Nat):Int):=by lia
theorem zk20 (h0:a=u) (q:Nat.ble u v=true):a≤v:=Nat.le_trans (Nat.le_of_eq h0) (Nat.le_of_ble_eq_true q)
theorem zq40 (h0:(a:Int) = -1∧b=c):False:=by lia
theorem zq41 (h0:j≤i∧i≤3):i≤((1000000:Nat):Int):=by lia
theorem zq42:¬((0:Int) ≤ -1):=by lia
end Mine
namespace Mine
inductive E2 {α0:Sort _} {α1:Sort _} (p:α0→α1→Prop):Prop
 | mk (x0:α0) (x1:α1) (h:p x0 x1):E2 p
inductive E3 {α0:Sort _} {α1:Sort _} {α2:Sort _} (p:α0→α1→α2→Prop):Prop
 | mk (x0:α0) (x1:α1) (x2:α2) (h:p x0 x1 x2):E3 p
inductive E4 {α0:Sort _} {α1:Sort _} {α2:Sort _} {α3:Sort _} (p:α0→α1→α2→α3→Prop):Prop
 | mk (x0:α0) (x1:α1) (x2:α2) (x3:α3) (h:p x0 x1 x2 x3):E4 p
inductive E5 {α0:Sort _} {α1:Sort _} {α2:Sort _} {α3:Sort _} {α4:Sort _} (p:α0→α1→α2→α3→α4→Prop):Prop
 | mk (x0:α0) (x1:α1) (x2:α2) (x3:α3) (x4:α4) (h:p x0 x1 x2 x3 x4):E5 p
inductive A3 (p0 p1 p2:Prop):Prop
 | mk (h0:p0) (h1:p1) (h2:p2):A3 p0 p1 p2
inductive A4 (p0 p1 p2 p3:Prop):Prop
 | mk (h0:p0) (h1:p1) (h2:p2) (h3:p3):A4 p0 p1 p2 p3
inductive A5 (p0 p1 p2 p3 p4:Prop):Prop
 | mk (h0:p0) (h1:p1) (h2:p2) (h3:p3) (h4:p4):A5 p0 p1 p2 p3 p4
inductive A6 (p0 p1 p2 p3 p4 p5:Prop):Prop
 | mk (h0:p0) (h1:p1) (h2:p2) (h3:p3) (h4:p4) (h5:p5):A6 p0 p1 p2 p3 p4 p5
inductive A7 (p0 p1 p2 p3 p4 p5 p6:Prop):Prop
 | mk (h0:p0) (h1:p1) (h2:p2) (h3:p3) (h4:p4) (h5:p5) (h6:p6):A7 p0 p1 p2 p3 p4 p5 p6
inductive A8 (p0 p1 p2 p3 p4 p5 p6 p7:Prop):Prop
 | mk (h0:p0) (h1:p1) (h2:p2) (h3:p3) (h4:p4) (h5:p5) (h6:p6) (h7:p7):A8 p0 p1 p2 p3 p4 p5 p6 p7
inductive A9 (p0 p1 p2 p3 p4 p5 p6 p7 p8:Prop):Prop
 | mk (h0:p0) (h1:p1) (h2:p2) (h3:p3) (h4:p4) (h5:p5) (h6:p6) (h7:p7) (h8:p8):A9 p0 p1 p2 p3 p4 p5 p6 p7 p8
inductive A10 (p0 p1 p2 p3 p4 p5 p6 p7 p8 p9:Prop):Prop
 | mk (h0:p0) (h1:p1) (h2:p2) (h3:p3) (h4:p4) (h5:p5) (h6:p6) (h7:p7) (h8:p8) (h9:p9):A10 p0 p1 p2 p3 p4 p5 p6 p7 p8 p9
end Mine
open PySem PySem.Calls PyProof.Rows PySem.SeqAt PySem.W
namespace Mine
set_option genCtorIdx false in
inductive V where
 | none
 | bool (b:Bool)
 | int (i:Int)
 | tup (l:List V)
 | lst (l:List V)
 | rng (a b:Int)
 | ref (a:Addr)
noncomputable def V.ctorIdx (t:V):Nat := @V.casesOn (fun _=>Nat) t 0 (fun _=>1) (fun _=>2) (fun _=>3) (fun _=>4) (fun _ _=>5) (fun _=>6)
set_option genCtorIdx false in
inductive MO where
 | list (l:List V)
 | dict (l:List (Int×V))
 | inst (c:Addr) (fs:List (Str×V))
noncomputable def MO.ctorIdx (t:MO):Nat := @MO.casesOn (fun _=>Nat) t (fun _=>0) (fun _=>1) (fun _ _=>2)
set_option genCtorIdx false in
inductive Slot where
 | out
 | fz (o:Obj)
 | pin (o:Obj)
 | lv (x:MO)
 | own
 | sub (a:Addr)
noncomputable def Slot.ctorIdx (t:Slot):Nat := @Slot.casesOn (fun _=>Nat) t 0 (fun _=>1) (fun _=>2) (fun _=>3) 4 (fun _=>5)
set_option  genInjectivity false
theorem neo {x s t:Slot} (e:x=s) (n:Nat.beq s.ctorIdx t.ctorIdx=false):x≠t:=fun q=>Nat.ne_of_beq_eq_false n (congrArg Slot.ctorIdx (e.symm.trans q))
abbrev Hm:=Addr→Slot
abbrev lobj (c:String) (items:Array Value) (n:Nat):Obj:={cls:= .type c,dict:=none,data:= .seq items n,slots := #[]}
mutual
inductive ValIs (H:Hm):V→Value→Prop
 | none:ValIs H .none .none
 | bool (b:Bool):ValIs H (.bool b) (.bool b)
 | int (i:Int) (t:Tok):ValIs H (.int i) (.int i t)
 | ref (a:Addr):ValIs H (.ref a) (.ref a)
 | tup {a:Addr} {items:Array Value} {n:Nat} {l:List V}:H a= .fz (lobj "tuple" items n)→AllIs H l items.toList→ValIs H (.tup l) (.ref a)
 | lst {a:Addr} {items:Array Value} {n:Nat} {l:List V}:H a= .fz (lobj "list" items n)→AllIs H l items.toList→ValIs H (.lst l) (.ref a)
 | rng {r:Addr} {a b:Int} {t u v:Tok}:H r= .fz {cls:= .type "range",dict:=none,data:= .fields #[.int a t,.int b u,.int 1 v],slots := #[]}→ValIs H (.rng a b) (.ref r)
inductive AllIs (H:Hm):List V→List Value→Prop
 | nil:AllIs H [] []
 | cons {x:V} {v:Value} {l:List V} {vs:List Value}:ValIs H x v→AllIs H l vs→AllIs H (x::l) (v::vs)
end
structure Grow (H H':Hm):Prop where
 fz:∀ a o,H a= .fz o→H' a= .fz o
 pin:∀ a o,H a= .pin o→H' a= .pin o
 own:∀ a,H a= .own→H' a= .own
theorem Grow.refl (H:Hm):Grow H H:=⟨fun _ _ h=>h,fun _ _ h=>h,fun _ h=>h⟩
theorem Grow.trans {H H' H'':Hm} (x:Grow H H') (y:Grow H' H''):Grow H H'' :=
 ⟨fun a o h=>y.fz a o (x.fz a o h),fun a o h=>y.pin a o (x.pin a o h),fun a h=>y.own a (x.own a h)⟩
theorem ValIs.mono {H H':Hm} (k:∀ a o,H a= .fz o→H' a= .fz o) {x:V} {v:Value} (h:ValIs H x v):ValIs H' x v :=
 @ValIs.rec H (fun x v _=>ValIs H' x v) (fun l vs _=>AllIs H' l vs) .none .bool .int .ref (fun h _ t=> .tup (k _ _ h) t) (fun h _ t=> .lst (k _ _ h) t) (fun h=> .rng (k _ _ h)) .nil (fun _ _ a b=> .cons a b) _ _ h
theorem AllIs.ind {H:Hm} {M:List V→List Value→Prop} (n:M [] []) (c:∀ {x v l vs},ValIs H x v→AllIs H l vs→M l vs→M (x::l) (v::vs)) {l:List V} {vs:List Value} (h:AllIs H l vs):M l vs :=
 @AllIs.rec H (fun _ _ _=>True) (fun l vs _=>M l vs) trivial (fun _=>trivial) (fun _ _=>trivial) (fun _=>trivial) (fun _ _ _=>trivial) (fun _ _ _=>trivial) (fun _=>trivial) n (fun a b _ ih=>c a b ih) _ _ h
theorem AllIs.mono {H H':Hm} (k:∀ a o,H a= .fz o→H' a= .fz o) {l:List V} {vs:List Value} (h:AllIs H l vs):AllIs H' l vs :=
 AllIs.ind (M:=fun l vs=>AllIs H' l vs) .nil (fun a _ ih=> .cons (a.mono k) ih) h
theorem AllIs.length {H:Hm} {l:List V} {vs:List Value} (h:AllIs H l vs):l.length=vs.length :=
 AllIs.ind (M:=fun l vs=>l.length=vs.length) rfl (fun _ _ ih=>congrArg Nat.succ ih) h
theorem AllIs.append {H:Hm} {l:List V} {vs:List Value} {l':List V} {vs':List Value} (h:AllIs H l vs) (h':AllIs H l' vs'):AllIs H (l++l') (vs++vs') :=
 AllIs.ind (M:=fun l vs=>AllIs H (l++l') (vs++vs')) h' (fun a _ ih=> .cons a ih) h
theorem AllIs.get {H:Hm} {l:List V} {vs:List Value} {i:Nat} {x:V} (h:AllIs H l vs):l[i]?=some x→∃ v,vs[i]?=some v∧ValIs H x v :=
 AllIs.ind (M:=fun l vs=>∀ i,l[i]?=some x→∃ v,vs[i]?=some v∧ValIs H x v) (fun _ e=>by cases List.getElem?_nil.symm.trans e) (fun {_ v _ _} a _ ih i=>Nat.casesOn i (fun e=>⟨v,rfl,Option.some.inj e▸a⟩) (fun i e=>ih i e)) h i
theorem AllIs.get' {H:Hm} {l:List V} {vs:List Value} {i:Nat} {v:Value} (h:AllIs H l vs):vs[i]?=some v→∃ x,l[i]?=some x∧ValIs H x v :=
 AllIs.ind (M:=fun l vs=>∀ i,vs[i]?=some v→∃ x,l[i]?=some x∧ValIs H x v) (fun _ e=>by cases List.getElem?_nil.symm.trans e) (fun {x _ _ _} a _ ih i=>Nat.casesOn i (fun e=>⟨x,rfl,Option.some.inj e▸a⟩) (fun i e=>ih i e)) h i
theorem AllIs.take {H:Hm} {l:List V} {vs:List Value} (n:Nat) (h:AllIs H l vs):AllIs H (l.take n) (vs.take n) :=
 AllIs.ind (M:=fun l vs=>∀ n,AllIs H (l.take n) (vs.take n)) (fun n=>Nat.casesOn n .nil fun _=> .nil) (fun a _ ih n=>Nat.casesOn n .nil fun n=> .cons a (ih n)) h n
theorem AllIs.drop {H:Hm} {l:List V} {vs:List Value} (n:Nat) (h:AllIs H l vs):AllIs H (l.drop n) (vs.drop n) :=
 AllIs.ind (M:=fun l vs=>∀ n,AllIs H (l.drop n) (vs.drop n)) (fun n=>Nat.casesOn n .nil fun _=> .nil) (fun a b ih n=>Nat.casesOn n (.cons a b) ih) h n
theorem AllIs.reverse {H:Hm} {l:List V} {vs:List Value} (h:AllIs H l vs):AllIs H l.reverse vs.reverse :=
 AllIs.ind (M:=fun l vs=>AllIs H l.reverse vs.reverse) .nil (fun a _ ih=>by rw [List.reverse_cons,List.reverse_cons];exact AllIs.append ih (.cons a .nil)) h
theorem AllIs.set {H:Hm} {l:List V} {vs:List Value} (i:Nat) {x:V} {v:Value} (h:AllIs H l vs) (hx:ValIs H x v):AllIs H (l.set i x) (vs.set i v) :=
 AllIs.ind (M:=fun l vs=>∀ i,AllIs H (l.set i x) (vs.set i v)) (fun _=> .nil) (fun a b ih i=>Nat.casesOn i (.cons hx b) fun i=> .cons a (ih i)) h i
inductive PairsIs (H:Hm):List (Int×V)→List (Int×Value)→Prop
 | nil:PairsIs H [] []
 | cons {k:Int} {x:V} {v:Value} {l:List (Int×V)} {vs:List (Int×Value)}:ValIs H x v→PairsIs H l vs→PairsIs H ((k,x)::l) ((k,v)::vs)
theorem PairsIs.mono {H H':Hm} (k:∀ a o,H a= .fz o→H' a= .fz o) {l:List (Int×V)} {vs:List (Int×Value)} (h:PairsIs H l vs):PairsIs H' l vs :=
 @PairsIs.rec H (fun l vs _=>PairsIs H' l vs) .nil (fun a _ ih=> .cons (a.mono k) ih) _ _ h
theorem PairsIs.length {H:Hm} {l:List (Int×V)} {vs:List (Int×Value)} (h:PairsIs H l vs):l.length=vs.length :=
 @PairsIs.rec H (fun l vs _=>l.length=vs.length) rfl (fun _ _ ih=>congrArg Nat.succ ih) _ _ h
theorem PairsIs.keys {H:Hm} {l:List (Int×V)} {vs:List (Int×Value)} (h:PairsIs H l vs):vs.map (·.1)=l.map (·.1) :=
 @PairsIs.rec H (fun l vs _=>vs.map (·.1)=l.map (·.1)) rfl (fun {k _ _ _ _} _ _ ih=>congrArg (k::·) ih) _ _ h
inductive FldsIs (P:Params) (H:Hm):List (Str×V)→List DictEntry→Prop
 | nil:FldsIs P H [] []
 | cons {n:Str} {t:Tok} {x:V} {v:Value} {l:List (Str×V)} {es:List DictEntry}:ValIs H x v→FldsIs P H l es→FldsIs P H ((n,x)::l) (⟨PyData.keyHash P n,.str n t,v⟩::es)
theorem FldsIs.mono {P:Params} {H H':Hm} (k:∀ a o,H a= .fz o→H' a= .fz o) {l:List (Str×V)} {vs:List DictEntry} (h:FldsIs P H l vs):FldsIs P H' l vs :=
 @FldsIs.rec P H (fun l vs _=>FldsIs P H' l vs) .nil (fun a _ ih=> .cons (a.mono k) ih) _ _ h
theorem FldsIs.length {P:Params} {H:Hm} {l:List (Str×V)} {vs:List DictEntry} (h:FldsIs P H l vs):l.length=vs.length :=
 @FldsIs.rec P H (fun l vs _=>l.length=vs.length) rfl (fun _ _ ih=>congrArg Nat.succ ih) _ _ h
noncomputable def MO.Is (prog:Program) (w:World) (H:Hm) (h:Heap) (a:Addr):MO→Prop
 | .list l=>∃ items n,IsL h a items n∧AllIs H l items.toList
 | .dict l=>∃ kvs,h.DictOf (intKind prog w) a kvs∧PairsIs H l kvs
 | .inst c fs=>∃ dx es n,h.get? a=some (W.instObj c dx)∧H dx= .sub a∧h.get? dx=some (W.dictOf es n)∧FldsIs w.params H fs es
structure HeapOk (prog:Program) (w:World) (h₀:Heap) (H:Hm) (h:Heap):Prop where
 base:∀ a o,h₀.get? a=some o→H a= .fz o
 fz:∀ a o,H a= .fz o→h.get? a=some o
 pin:∀ a o,H a= .pin o→h.get? a=some o
 lv:∀ a x,H a= .lv x→x.Is prog w H h a
 own:∀ a,H a= .own→∃ o,h.get? a=some o
 sub:∀ a b,H a= .sub b→∃ o,h.get? a=some o
structure EnvOk (sc:Scope) (env:Env):Prop where
 kind:env.scope.kind= .function
 glb:env.globals=mainGlobals
 bts:env.builtins=builtinsNs
 knd:∀ x k,sc.names.lookup x=some k→env.kindOf x=some k∨(k= .free∧env.kindOf x=some .cell)
 inj:∀ x y c,env.cells.lookup x=some c→env.cells.lookup y=some c→x=y
 ne:∀ x c,env.cells.lookup x=some c→c≠env.locals
 nodup:(sc.names.map (·.1)).Nodup
 fre:∀ x k,(x,k)∈sc.names→(k= .free∨k= .cell)→∃ c,env.cells.lookup x=some c
noncomputable def Holds (H:Hm) (h:Heap) (env:Env) (x:Str) (v:Value):Prop :=
 (env.kindOf x=some .local∧∃ m,h.Ns env.locals m∧m x=some v) ∨
 ((env.kindOf x=some .cell∨env.kindOf x=some .free)∧∃ c,env.cells.lookup x=some c∧h.IsCell c (some v)∧(H c= .own∨∃ o,H c= .pin o))
abbrev Loc:=Nat→Option V
structure MS where
 loc:Loc
 lv:Addr→Option MO
structure FrOk (H:Hm) (h:Heap) (sc:Scope) (env:Env) (loc:Loc):Prop where
 L:H env.locals= .own
 ns:∃ m,h.Ns env.locals m
 loc:∀ i v,loc i=some v→∃ x k u,sc.names[i]?=some (x,k)∧Holds H h env x u∧ValIs H v u
 cell:∀ x,sc.names.lookup x=some .cell→∃ c v,env.cells.lookup x=some c∧H c= .own∧h.IsCell c v
 cls:∀ x c,env.cells.lookup x=some c→sc.names.lookup x=some .cell∨∃ o v,H c= .pin o∧o.data= .cell v
structure St (prog:Program) (w:World) (h₀:Heap) (sc:Scope) (env:Env) (H:Hm) (σ:MS) (h:Heap):Prop where
 heap:HeapOk prog w h₀ H h
 live:∀ a x,σ.lv a=some x→H a= .lv x
 fr:FrOk H h sc env σ.loc
noncomputable def Same (s s':Shared):Prop:=∃ h t,s'={s with heap:=h,toks:=t}
theorem Same.refl (s:Shared):Same s s:=⟨s.heap,s.toks,rfl⟩
theorem Same.trans {a b c:Shared} (x:Same a b) (y:Same b c):Same a c:=by
 obtain ⟨h,t,rfl⟩:=x
 obtain ⟨h',t',rfl⟩:=y
 exact ⟨h',t',rfl⟩
theorem Same.mk (s:Shared) (h:Heap) (t:Nat):Same s {s with heap:=h,toks:=t}:=⟨h,t,rfl⟩
variable {prog:Program} {w:World} {h₀:Heap}
theorem MO.Is.agree {H:Hm} {h h':Heap} {a:Addr} {x:MO} (hx:x.Is prog w H h a) (ha:h'.get? a=h.get? a∨∀ o,h.get? a=some o→h'.get? a=some o)
  (hs:∀ d,H d= .sub a→∀ o,h.get? d=some o→h'.get? d=some o):x.Is prog w H h' a:=by
 have k:∀ o,h.get? a=some o→h'.get? a=some o:=ha.elim (fun e o q=>e.trans q) id
 cases x with
 | list l=>obtain ⟨items,n,h1,h2⟩:=hx;exact ⟨items,n,k _ h1,h2⟩
 | dict l=>obtain ⟨kvs,h1,h2⟩:=hx;exact ⟨kvs,h1.at k,h2⟩
 | inst c fs=>obtain ⟨dx,es,n,h1,h2,h3,h4⟩:=hx;exact ⟨dx,es,n,k _ h1,h2,hs _ h2 _ h3,h4⟩
theorem MO.Is.mono {H H':Hm} {h:Heap} {a:Addr} {x:MO} (hx:x.Is prog w H h a) (hf:∀ a o,H a= .fz o→H' a= .fz o) (hs:∀ d,H d= .sub a→H' d= .sub a):x.Is prog w H' h a:=by
 cases x with
 | list l=>obtain ⟨items,n,h1,h2⟩:=hx;exact ⟨items,n,h1,h2.mono hf⟩
 | dict l=>obtain ⟨kvs,h1,h2⟩:=hx;exact ⟨kvs,h1,h2.mono hf⟩
 | inst c fs=>obtain ⟨dx,es,n,h1,h2,h3,h4⟩:=hx;exact ⟨dx,es,n,h1,hs _ h2,h3,h4.mono hf⟩
theorem HeapOk.agree {H:Hm} {h h':Heap} (x:HeapOk prog w h₀ H h) (k:∀ a o,H a≠ .out→h.get? a=some o→h'.get? a=some o):HeapOk prog w h₀ H h' where
 base:=x.base
 fz a o e:=k a o (neo e rfl) (x.fz a o e)
 pin a o e:=k a o (neo e rfl) (x.pin a o e)
 lv a y e:=(x.lv a y e).agree (.inr fun o q=>k a o (neo e rfl) q) fun d hd o q=>k d o (neo hd rfl) q
 own a e:=let ⟨o,q⟩:=x.own a e;⟨o,k a o (neo e rfl) q⟩
 sub a b e:=let ⟨o,q⟩:=x.sub a b e;⟨o,k a o (neo e rfl) q⟩
theorem Holds.agree {H:Hm} {h h':Heap} {env:Env} {x:Str} {v:Value} (hx:Holds H h env x v) (hL:H env.locals= .own) (k:∀ a o,H a≠ .out→h.get? a=some o→h'.get? a=some o):Holds H h' env x v:=by
 rcases hx with ⟨h1,m,h2,h3⟩ | ⟨h1,c,h2,h3,h4⟩
 ·exact .inl ⟨h1,m,h2.at fun o e=>k _ o (neo hL rfl) e,h3⟩
 ·refine .inr ⟨h1,c,h2,?_,h4⟩
  obtain ⟨o,q,r⟩:=h3
  exact ⟨o,k c o (by rcases h4 with e | ⟨_,e⟩<;>rw [e]<;>exact Slot.noConfusion) q,r⟩
theorem FrOk.agree {H:Hm} {h h':Heap} {sc:Scope} {env:Env} {loc:Loc} (x:FrOk H h sc env loc) (k:∀ a o,H a≠ .out→h.get? a=some o→h'.get? a=some o):FrOk H h' sc env loc where
 L:=x.L
 ns:=let ⟨m,q⟩:=x.ns;⟨m,q.at fun o e=>k _ o (neo x.L rfl) e⟩
 loc i v e:=let ⟨n,kd,u,h1,h2,h3⟩:=x.loc i v e;⟨n,kd,u,h1,h2.agree x.L k,h3⟩
 cell n e:=by
  obtain ⟨c,v,h1,h2,o,q,r⟩:=x.cell n e
  exact ⟨c,v,h1,h2,o,k c o (neo h2 rfl) q,r⟩
 cls:=x.cls
theorem St.agree {sc:Scope} {env:Env} {H:Hm} {σ:MS} {h h':Heap} (x:St prog w h₀ sc env H σ h) (k:∀ a o,H a≠ .out→h.get? a=some o→h'.get? a=some o):St prog w h₀ sc env H σ h' :=
 ⟨x.heap.agree k,x.live,x.fr.agree k⟩
theorem St.keeps {sc:Scope} {env:Env} {H:Hm} {σ:MS} {h h':Heap} (x:St prog w h₀ sc env H σ h) (k:∀ a o,h.get? a=some o→h'.get? a=some o):St prog w h₀ sc env H σ h' :=
 x.agree fun a o _=>k a o
theorem St.push {sc:Scope} {env:Env} {H:Hm} {σ:MS} {h:Heap} (x:St prog w h₀ sc env H σ h) (o:Obj):St prog w h₀ sc env H σ (h.push o) :=
 x.keeps fun _ _ e=>Heap.get?_push_of_some _ e
theorem St.sameBut {sc:Scope} {env:Env} {H:Hm} {σ:MS} {h h':Heap} {a:Addr} (x:St prog w h₀ sc env H σ h) (ha:H a= .out) (hs:Heap.SameBut a h h'):St prog w h₀ sc env H σ h' :=
 x.agree fun b o hb e=>(hs.2 b (fun q=>hb (q▸ha))).trans e
theorem HeapOk.someObj {H:Hm} {h:Heap} (x:HeapOk prog w h₀ H h) {a:Addr} (ha:H a≠ .out):∃ o,h.get? a=some o:=by
 cases e:H a with
 | out=>exact absurd e ha
 | fz o=>exact ⟨o,x.fz a o e⟩
 | pin o=>exact ⟨o,x.pin a o e⟩
 | own=>exact x.own a e
 | sub b=>exact x.sub a b e
 | lv y =>
  have:=x.lv a y e
  cases y with
  | list l=>obtain ⟨_,_,h1,_⟩:=this;exact ⟨_,h1⟩
  | dict l=>obtain ⟨_,⟨o,_,_,h1,_⟩,_⟩:=this;exact ⟨o,h1⟩
  | inst c fs=>obtain ⟨_,_,_,h1,_⟩:=this;exact ⟨_,h1⟩
theorem HeapOk.out_of_none {H:Hm} {h:Heap} (x:HeapOk prog w h₀ H h) {a:Addr} (ha:h.get? a=none):H a= .out:=by
 cases e:H a with
 | out=>rfl
 | _=>exact absurd (x.someObj (a:=a) (neo e rfl)) (by rw [ha];rintro ⟨o,q⟩;cases q)
theorem get?_ge {h:Heap} {a:Addr} (ha:h.objs.size≤a):h.get? a=none:=by
 cases e:h.get? a with
 | none=>rfl
 | some o=>exact absurd (Heap.lt_size e) (Nat.not_lt.mpr ha)
theorem HeapOk.out_ge {H:Hm} {h:Heap} (x:HeapOk prog w h₀ H h) {a:Addr} (ha:h.objs.size≤a):H a= .out:=x.out_of_none (get?_ge ha)
noncomputable def Hm.set (H:Hm) (a:Addr) (y:Slot):Hm:=fun b=>if b=a then y else H b
@[simp] theorem Hm.set_self (H:Hm) (a:Addr) (y:Slot):H.set a y a=y:=by simp [Hm.set]
theorem Hm.set_ne (H:Hm) {a b:Addr} (y:Slot) (h:b≠a):H.set a y b=H b:=by simp [Hm.set,h]
noncomputable def updL (f:Addr→Option MO) (a:Addr) (x:Option MO):Addr→Option MO:=fun b=>if b=a then x else f b
@[simp] theorem updL_self (f:Addr→Option MO) (a:Addr) (x:Option MO):updL f a x a=x:=by simp [updL]
theorem updL_ne (f:Addr→Option MO) {a b:Addr} (x:Option MO) (h:b≠a):updL f a x b=f b:=by simp [updL,h]
noncomputable def setV (f:Loc) (i:Nat) (v:V):Loc:=fun j=>if j=i then some v else f j
theorem setV_ne (f:Loc) {i j:Nat} (v:V) (h:j≠i):setV f i v j=f j:=by simp [setV,h]
theorem fz_set {H:Hm} {a:Addr} {y:Slot} (ha:∀ o,H a≠ .fz o):∀ b o,H b= .fz o→(H.set a y) b= .fz o:=fun b o e=>by
 by_cases q:b=a
 ·subst q;exact absurd e (ha o)
 ·exact (Hm.set_ne _ _ q).trans e
theorem St.lay {sc:Scope} {env:Env} {H:Hm} {σ:MS} {h:Heap} {a:Addr} {y:Slot} (x:St prog w h₀ sc env H σ h) (ha:H a= .out)
  (hy:match y with
   | .fz o=>h.get? a=some o
   | .pin o=>h.get? a=some o
   | .lv z=>z.Is prog w (H.set a y) h a
   | .out=>True
   | _=>False):St prog w h₀ sc env (H.set a y) σ h:=by
 have hf:∀ b o,H b= .fz o→(H.set a y) b= .fz o:=fz_set (fun o=>neo ha rfl)
 have nb:∀ {b z},H b=z→z≠ .out→b≠a:=fun e hz q=>hz (by rw [←e,q,ha])
 have hbase:∀ a o,h₀.get? a=some o→(H.set a y) a= .fz o→True:=fun _ _ _ _=>trivial
 refine ⟨⟨fun b o e=>hf b o (x.heap.base b o e),fun b o e => ?_,fun b o e => ?_,fun b z e => ?_,fun b e => ?_,fun b c e => ?_⟩,fun b z e => ?_,?_⟩
 ·by_cases q:b=a
  ·subst q;rw [Hm.set_self] at e;subst e;exact hy
  ·replace e:=(Hm.set_ne _ _ q).symm.trans e;exact x.heap.fz b o e
 ·by_cases q:b=a
  ·subst q;rw [Hm.set_self] at e;subst e;exact hy
  ·replace e:=(Hm.set_ne _ _ q).symm.trans e;exact x.heap.pin b o e
 ·by_cases q:b=a
  ·subst q;rw [Hm.set_self] at e;subst e;exact hy
  ·replace e:=(Hm.set_ne _ _ q).symm.trans e
   exact (x.heap.lv b z e).mono hf fun d hd=>(Hm.set_ne _ _ (nb hd Slot.noConfusion)).trans hd
 ·by_cases q:b=a
  ·subst q;rw [Hm.set_self] at e;subst e;exact hy.elim
  ·replace e:=(Hm.set_ne _ _ q).symm.trans e;exact x.heap.own b e
 ·by_cases q:b=a
  ·subst q;rw [Hm.set_self] at e;subst e;exact hy.elim
  ·replace e:=(Hm.set_ne _ _ q).symm.trans e;exact x.heap.sub b c e
 ·have e':=x.live b z e
  exact (Hm.set_ne _ _ (nb e' Slot.noConfusion)).trans e'
 ·have hL:=x.fr.L
  refine ⟨(Hm.set_ne _ _ (nb hL Slot.noConfusion)).trans hL,x.fr.ns,fun i v e => ?_,fun n e => ?_,fun n c e => ?_⟩
  ·obtain ⟨n,k,u,h1,h2,h3⟩:=x.fr.loc i v e
   refine ⟨n,k,u,h1,?_,h3.mono hf⟩
   rcases h2 with h2 | ⟨h2,c,h4,h5,h6⟩
   ·exact .inl h2
   ·refine .inr ⟨h2,c,h4,h5,?_⟩
    rcases h6 with h6 | ⟨o,h6⟩
    ·exact .inl ((Hm.set_ne _ _ (nb h6 Slot.noConfusion)).trans h6)
    ·exact .inr ⟨o,(Hm.set_ne _ _ (nb h6 Slot.noConfusion)).trans h6⟩
  ·obtain ⟨c,v,h1,h2,h3⟩:=x.fr.cell n e
   exact ⟨c,v,h1,(Hm.set_ne _ _ (nb h2 Slot.noConfusion)).trans h2,h3⟩
  ·rcases x.fr.cls n c e with e' | ⟨o,v,e',r⟩
   ·exact .inl e'
   ·exact .inr ⟨o,v,(Hm.set_ne _ _ (nb e' Slot.noConfusion)).trans e',r⟩
theorem Grow.set {H:Hm} {a:Addr} {y:Slot} (ha:H a= .out):Grow H (H.set a y):=by
 refine ⟨fun b o e => ?_,fun b o e => ?_,fun b e => ?_⟩ <;>
 ·have:b≠a:=fun q=>by rw [q,ha] at e;cases e
  exact (Hm.set_ne _ _ this).trans e
theorem Grow.setLv {H:Hm} {a:Addr} {y:Slot} {z:MO} (ha:H a= .lv z):Grow H (H.set a y):=by
 refine ⟨fun b o e => ?_,fun b o e => ?_,fun b e => ?_⟩ <;>
 ·have:b≠a:=fun q=>by rw [q,ha] at e;cases e
  exact (Hm.set_ne _ _ this).trans e
theorem St.addLv {sc:Scope} {env:Env} {H:Hm} {σ:MS} {h:Heap} {a:Addr} {y:MO} (x:St prog w h₀ sc env H σ h) (e:H a= .lv y):St prog w h₀ sc env H {σ with lv:=updL σ.lv a (some y)} h :=
 ⟨x.heap,fun b z q=>by
  by_cases hb:b=a
  ·subst hb;dsimp only at q;rw [updL_self] at q;cases q;exact e
  ·dsimp only at q;replace q:=(updL_ne _ _ hb).symm.trans q;exact x.live b z q,x.fr⟩
theorem St.newFz {sc:Scope} {env:Env} {H:Hm} {σ:MS} {h:Heap} {a:Addr} {o:Obj} (x:St prog w h₀ sc env H σ h) (ha:H a= .out) (ho:h.get? a=some o) :
  St prog w h₀ sc env (H.set a (.fz o)) σ h:=x.lay ha ho
theorem St.newLv {sc:Scope} {env:Env} {H:Hm} {σ:MS} {h:Heap} {a:Addr} {z:MO} (x:St prog w h₀ sc env H σ h) (ha:H a= .out) (hz:z.Is prog w (H.set a (.lv z)) h a) :
  St prog w h₀ sc env (H.set a (.lv z)) {σ with lv:=updL σ.lv a (some z)} h:=(x.lay (y:= .lv z) ha hz).addLv (Hm.set_self ..)
theorem St.updLv {sc:Scope} {env:Env} {H:Hm} {σ:MS} {h h':Heap} {a:Addr} {y z:MO} (x:St prog w h₀ sc env H σ h) (ha:H a= .lv y)
  (hk:∀ b o,b≠a→H b≠ .out→H b≠ .sub a→h.get? b=some o→h'.get? b=some o)
  (hsub:∀ d,H d= .sub a→∃ o,h'.get? d=some o) (hz:z.Is prog w (H.set a (.lv z)) h' a) :
  St prog w h₀ sc env (H.set a (.lv z)) {σ with lv:=updL σ.lv a (some z)} h':=by
 have hf:∀ b o,H b= .fz o→(H.set a (.lv z)) b= .fz o:=fz_set (fun o=>neo ha rfl)
 have nb:∀ {b s},H b=s→(∀ q,s≠ .lv q)→b≠a:=fun e hz q=>hz y (e.symm.trans ((congrArg H q).trans ha))
 refine ⟨⟨fun b o e=>hf b o (x.heap.base b o e),fun b o e => ?_,fun b o e => ?_,fun b q e => ?_,fun b e => ?_,fun b c e => ?_⟩,fun b q e => ?_,?_⟩
 ·by_cases q:b=a
  ·subst q;rw [Hm.set_self] at e;cases e
  ·replace e:=(Hm.set_ne _ _ q).symm.trans e;exact hk b o q (neo e rfl) (neo e rfl) (x.heap.fz b o e)
 ·by_cases q:b=a
  ·subst q;rw [Hm.set_self] at e;cases e
  ·replace e:=(Hm.set_ne _ _ q).symm.trans e;exact hk b o q (neo e rfl) (neo e rfl) (x.heap.pin b o e)
 ·by_cases r:b=a
  ·subst r;rw [Hm.set_self] at e;cases e;exact hz
  ·replace e:=(Hm.set_ne _ _ r).symm.trans e
   refine ((x.heap.lv b q e).agree (.inr fun o p=>hk b o r (neo e rfl) (neo e rfl) p) fun d hd o p => ?_).mono hf fun d hd=>(Hm.set_ne _ _ (nb hd fun _=>Slot.noConfusion)).trans hd
   exact hk d o (nb hd fun _=>Slot.noConfusion) (neo hd rfl) (by rw [hd];intro q;cases q;exact r rfl) p
 ·by_cases q:b=a
  ·subst q;rw [Hm.set_self] at e;cases e
  ·replace e:=(Hm.set_ne _ _ q).symm.trans e
   obtain ⟨o,p⟩:=x.heap.own b e
   exact ⟨o,hk b o q (neo e rfl) (neo e rfl) p⟩
 ·by_cases q:b=a
  ·subst q;rw [Hm.set_self] at e;cases e
  ·replace e:=(Hm.set_ne _ _ q).symm.trans e
   obtain ⟨o,p⟩:=x.heap.sub b c e
   by_cases hc:c=a
   ·subst hc;exact hsub b e
   ·exact ⟨o,hk b o q (neo e rfl) (by rw [e];intro q;cases q;exact hc rfl) p⟩
 ·dsimp only at e
  by_cases r:b=a
  ·subst r;rw [updL_self] at e;cases e;exact Hm.set_self ..
  ·replace e:=(updL_ne _ _ r).symm.trans e;rw [Hm.set_ne _ _ r];exact x.live b q e
 ·have hL:=x.fr.L
  have hLa:env.locals≠a:=nb hL fun _=>Slot.noConfusion
  obtain ⟨m,hm⟩:=x.fr.ns
  have kL:∀ o,h.get? env.locals=some o→h'.get? env.locals=some o:=fun o e=>hk _ o hLa (neo hL rfl) (neo hL rfl) e
  refine ⟨(Hm.set_ne _ _ hLa).trans hL,⟨m,hm.at kL⟩,fun i v e => ?_,fun n e => ?_,fun n c e => ?_⟩
  ·obtain ⟨n,k,u,h1,h2,h3⟩:=x.fr.loc i v e
   refine ⟨n,k,u,h1,?_,h3.mono hf⟩
   rcases h2 with ⟨h2,m,h4,h5⟩ | ⟨h2,c,h4,⟨o,h5,h5'⟩,h6⟩
   ·exact .inl ⟨h2,m,h4.at kL,h5⟩
   ·have hca:c≠a:=by rcases h6 with h6 | ⟨_,h6⟩<;>exact nb h6 fun _=>Slot.noConfusion
    refine .inr ⟨h2,c,h4,⟨o,hk c o hca (by rcases h6 with h6 | ⟨_,h6⟩<;>rw [h6]<;>exact Slot.noConfusion) (by rcases h6 with h6 | ⟨_,h6⟩<;>rw [h6]<;>exact Slot.noConfusion) h5,h5'⟩,?_⟩
    rcases h6 with h6 | ⟨o,h6⟩
    ·exact .inl ((Hm.set_ne _ _ hca).trans h6)
    ·exact .inr ⟨o,(Hm.set_ne _ _ hca).trans h6⟩
  ·obtain ⟨c,v,h1,h2,o,h3,h3'⟩:=x.fr.cell n e
   have hca:c≠a:=nb h2 fun _=>Slot.noConfusion
   exact ⟨c,v,h1,(Hm.set_ne _ _ hca).trans h2,o,hk c o hca (neo h2 rfl) (neo h2 rfl) h3,h3'⟩
  ·rcases x.fr.cls n c e with e' | ⟨o,v,e',r⟩
   ·exact .inl e'
   ·exact .inr ⟨o,v,(Hm.set_ne _ _ (nb e' fun _=>Slot.noConfusion)).trans e',r⟩
end Mine
namespace Mine
abbrev PT (β:Type):=MS→(β→MS→Prop)→Prop
inductive LocP (i:Nat) (σ:MS) (Q:V→MS→Prop):Prop
 | mk (v:V) (h:σ.loc i=some v) (k:Q v σ):LocP i σ Q
noncomputable def AOk (b:Nat) (A:Around):Prop:=A.handled=none∧A.depth+10*b≤700∧A.units+20*b≤2000
theorem AOk.mono {b b':Nat} {A:Around} (h:AOk b A) (hb:b'≤b):AOk b' A:=⟨h.1,by have:=h.2.1;exact zh3 this hb,by have:=h.2.2;exact zh4 this hb⟩
theorem AOk.deeper {b:Nat} {A:Around} (env:Env) (h:AOk (b+1) A):AOk b (A.deeper env):=⟨h.1,zq2 h.2.1,zq3 h.2.2⟩
theorem AOk.room {b:Nat} {A:Around} (h:AOk b A):A.depth<recursionLimit:=by have:=h.2.1;have e:recursionLimit=1000:=rfl;exact zh9 this e
theorem AOk.line {b:Nat} {A:Around} (h:AOk b A):A.units+70<cLine:=by have:=h.2.2;have e:cLine=9900:=rfl;exact zh10 this e
noncomputable def Post (prog:Program) (w:World) (h₀:Heap) (sc:Scope) (env:Env) {α β:Type} (R:Hm→α→β→Prop) (H:Hm) (s:Shared) (Q:β→MS→Prop):α→Shared→Prop :=
 fun x s'=>E3 fun H' σ' y=>A5 (Grow H H') (St prog w h₀ sc env H' σ' s'.heap) (R H' x y) (Same s s') (Q y σ')
abbrev noE:Value→Shared→Prop:=fun _ _=>False
noncomputable def Tri (prog:Program) (w:World) (h₀:Heap) (b:Nat) (sc:Scope) (env:Env) {α β:Type} (R:Hm→α→β→Prop) (t:Sem α) (P:PT β):Prop :=
 ∀ A,AOk b A→∀ σ Q s H,P σ Q→St prog w h₀ sc env H σ s.heap→wpAny (model prog w) A t (Post prog w h₀ sc env R H s Q) noE s
abbrev RV:Hm→Value→V→Prop:=fun H u v=>ValIs H v u
abbrev RVs:Hm→List Value→List V→Prop:=fun H us vs=>AllIs H vs us
abbrev RB:Hm→Bool→Bool→Prop:=fun _ x y=>x=y
abbrev RU:Hm→Unit→Unit→Prop:=fun _ _ _=>True
set_option genCtorIdx false in
inductive Fl where
 | next | brk | cont
 | ret (v:V)
noncomputable def Fl.ctorIdx (t:Fl):Nat := @Fl.casesOn (fun _=>Nat) t 0 1 2 (fun _=>3)
inductive FlIs (H:Hm):Flow→Fl→Prop
 | next:FlIs H .next .next
 | brk:FlIs H .brk .brk
 | cont:FlIs H .cont .cont
 | ret {u:Value} {v:V}:ValIs H v u→FlIs H (.ret u) (.ret v)
section
variable {prog:Program} {w:World} {h₀:Heap} {sc:Scope} {env:Env} {b:Nat} {A:Around} {H H':Hm} {s s':Shared} {σ:MS}
theorem Post.here {α β:Type} {R:Hm→α→β→Prop} {Q:β→MS→Prop} {x:α} {y:β} (S:St prog w h₀ sc env H σ s.heap) (r:R H x y) (q:Q y σ):Post prog w h₀ sc env R H s Q x s :=
 ⟨H,σ,y,.refl H,S,r,.refl s,q⟩
theorem Post.from {α β:Type} {R:Hm→α→β→Prop} {Q:β→MS→Prop} {x:α} {s'':Shared} (g:Grow H H') (e:Same s s') (h:Post prog w h₀ sc env R H' s' Q x s''):Post prog w h₀ sc env R H s Q x s'':=by
 obtain ⟨H1,σ1,y,g1,S,r,e1,q⟩:=h
 exact ⟨H1,σ1,y,g.trans g1,S,r,e.trans e1,q⟩
theorem wp_from {α β:Type} {R:Hm→α→β→Prop} {Q:β→MS→Prop} {t:Sem α} {E:Value→Shared→Prop} (g:Grow H H') (e:Same s s') {s₁:Shared} (h:wpAny (model prog w) A t (Post prog w h₀ sc env R H' s' Q) E s₁) :
  wpAny (model prog w) A t (Post prog w h₀ sc env R H s Q) E s₁:=wpAny_mono h (fun _ _ p=>p.from g e) fun _ _ x=>x
theorem Tri.use {α β:Type} {R:Hm→α→β→Prop} {t:Sem α} {P:PT β} {Q1:β→MS→Prop} {F:α→Shared→Prop} (h:Tri prog w h₀ b sc env R t P) (hA:AOk b A) (hP:P σ Q1) (S:St prog w h₀ sc env H σ s.heap)
  {E:Value→Shared→Prop} (k:∀ x y σ1 s1 H1,Grow H H1→Same s s1→R H1 x y→Q1 y σ1→St prog w h₀ sc env H1 σ1 s1.heap→F x s1):wpAny (model prog w) A t F E s:=by
 refine wpAny_mono (h A hA σ Q1 s H hP S) (fun x s1 p => ?_) fun _ _ x=>x.elim
 obtain ⟨H1,σ1,y,g,S1,r,e,q⟩:=p
 exact k x y σ1 s1 H1 g e r q S1
theorem tri_none {k:Nat} {pos:Pos}:Tri prog w h₀ b sc env RV (eval (.Constant .none k pos) env) (fun σ Q=>Q .none σ):=fun A _ σ Q s H hP S=>wpAny_Constant_none (Post.here S .none hP)
theorem tri_boolc {x:Bool} {k:Nat} {pos:Pos}:Tri prog w h₀ b sc env RV (eval (.Constant (.bool x) k pos) env) (fun σ Q=>Q (.bool x) σ):=fun A _ σ Q s H hP S=>wpAny_Constant_bool (Post.here S (.bool _) hP)
theorem tri_intc {x:Int} {k:Nat} {pos:Pos}:Tri prog w h₀ b sc env RV (eval (.Constant (.int x) k pos) env) (fun σ Q=>Q (.int x) σ):=fun A _ σ Q s H hP S=>wpAny_Constant_int ⟨H,σ,_,.refl H,S,.int _ _,⟨_,_,rfl⟩,hP⟩
theorem names_inj {names:List (Str×NameKind)} (hn:(names.map (·.1)).Nodup) {i j:Nat} {x:Str} {k k':NameKind} (hi:names[i]?=some (x,k)) (hj:names[j]?=some (x,k')):i=j:=by
 have h1:(names.map (·.1))[i]?=some x:=by rw [List.getElem?_map,hi];rfl
 have h2:(names.map (·.1))[j]?=some x:=by rw [List.getElem?_map,hj];rfl
 obtain ⟨l1,e1⟩:=List.getElem?_eq_some_iff.mp h1
 obtain ⟨l2,e2⟩:=List.getElem?_eq_some_iff.mp h2
 have P:=List.pairwise_iff_getElem.mp hn
 rcases Nat.lt_trichotomy i j with q | q | q
 ·exact absurd (e1.trans e2.symm) (P i j l1 l2 q)
 ·exact q
 ·exact absurd (e2.trans e1.symm) (P j i l2 l1 q)
theorem lookup_of_get {names:List (Str×NameKind)} (hn:(names.map (·.1)).Nodup):∀ {i:Nat} {x:Str} {k:NameKind},names[i]?=some (x,k)→names.lookup x=some k:=by
 induction names with
 | nil=>intro i x k h;simp at h
 | cons y r ih =>
  intro i x k h
  rw [List.map_cons,List.nodup_cons] at hn
  cases i with
  | zero=>simp at h;subst h;simp [List.lookup_cons]
  | succ i =>
   simp at h
   have hm:x∈r.map (·.1):=List.mem_map.mpr ⟨(x,k),List.mem_of_getElem? h,rfl⟩
   have hne:(x == y.1)=false:=by
    cases q:x == y.1 with
    | false=>rfl
    | true=>exact absurd (beq_iff_eq.mp q▸hm) hn.1
   obtain ⟨n,c⟩:=y
   rw [List.lookup_cons]
   simp only at hne
   rw [hne]
   exact ih hn.2 h
theorem tri_name {x:Str} {pos:Pos} {i:Nat} {k:NameKind} (E:EnvOk sc env) (hi:sc.names[i]?=some (x,k)) (h1:(x == ("__debug__":Str))=false) (h2:(x == ("__classdict__":Str))=false) :
  Tri prog w h₀ b sc env RV (eval (.Name x pos) env) (LocP i):=fun A _ σ Q s H h S=>by
 obtain ⟨v,hv,hQ⟩:=h
 obtain ⟨x',k',u,e1,e2,e3⟩:=S.fr.loc i v hv
 replace e1:=hi.symm.trans e1
 cases e1
 refine wpAny_Name ?_ h1
 rcases e2 with ⟨l1,m,l2,l3⟩ | ⟨l1 | l1,c,l2,l3,_⟩
 ·exact wpAny_loadName_local E.kind l1 l2 l3 (Post.here S e3 hQ)
 ·exact wpAny_loadName_cell E.kind l1 l2 l3 (Post.here S e3 hQ)
 ·exact wpAny_loadName_free E.kind l1 l2 l3 (Post.here S e3 hQ) h2
theorem HeapOk.ownChange {h h':Heap} {a:Addr} (x:HeapOk prog w h₀ H h) (ha:H a= .own) (hs:Heap.SameBut a h h') (ho:∃ o,h'.get? a=some o):HeapOk prog w h₀ H h':=by
 have k:∀ b o,H b≠ .own→h.get? b=some o→h'.get? b=some o:=fun b o hb e=>(hs.2 b fun q=>hb (q▸ha)).trans e
 refine ⟨x.base,fun b o e=>k b o (neo e rfl) (x.fz b o e),fun b o e=>k b o (neo e rfl) (x.pin b o e),
  fun b y e=>(x.lv b y e).agree (.inr fun o q=>k b o (neo e rfl) q) fun d hd o q=>k d o (neo hd rfl) q,fun b e => ?_,
  fun b c e=>let ⟨o,q⟩:=x.sub b c e;⟨o,k b o (neo e rfl) q⟩⟩
 by_cases hb:b=a
 ·subst hb;exact ho
 ·obtain ⟨o,q⟩:=x.own b e
  exact ⟨o,(hs.2 b hb).trans q⟩
theorem wp_store {x:Str} {i:Nat} {k:NameKind} {u:Value} {v:V} (E:EnvOk sc env) (hi:sc.names[i]?=some (x,k)) (hk:k= .local∨k= .cell) {Q:Unit→MS→Prop}
  (S:St prog w h₀ sc env H σ s.heap) (hv:ValIs H v u) (hQ:Q () {σ with loc:=setV σ.loc i v}) :
  wpAny (model prog w) A (storeName env x u) (fun _ s'=>Post prog w h₀ sc env RU H s Q () s') noE s:=by
 have hl:=lookup_of_get E.nodup hi
 have fin:∀ h' t,HeapOk prog w h₀ H h'→(∃ m,h'.Ns env.locals m)→Holds H h' env x u→(∀ y c,y≠x→Holds H s.heap env y c→Holds H h' env y c) →
   (∀ y c v,env.cells.lookup y=some c→s.heap.IsCell c v→∃ v',h'.IsCell c v')→Post prog w h₀ sc env RU H s Q () {s with heap:=h',toks:=t}:=fun h' t a1 a2 a3 a4 a5=>by
  refine ⟨H,{σ with loc:=setV σ.loc i v},(),.refl H,⟨a1,S.live,S.fr.L,a2,fun j v' e => ?_,fun y e => ?_,S.fr.cls⟩,trivial,⟨h',t,rfl⟩,hQ⟩
  ·dsimp only [setV] at e
   by_cases hj:j=i
   ·subst hj;replace e:=(if_pos rfl).symm.trans e;cases e;exact ⟨x,k,u,hi,a3,hv⟩
   ·replace e:=(if_neg hj).symm.trans e
    obtain ⟨y,k',u',b1,b2,b3⟩:=S.fr.loc j v' e
    refine ⟨y,k',u',b1,a4 y u' (fun q => ?_) b2,b3⟩
    subst q
    exact hj (names_inj E.nodup b1 hi)
  ·obtain ⟨c,v,b1,b2,b3⟩:=S.fr.cell y e
   obtain ⟨v',b4⟩:=a5 y c v b1 b3
   exact ⟨c,v',b1,b2,b4⟩
 rcases hk with rfl | rfl
 ·have hkl:env.kindOf x=some .local:=by rcases E.knd x _ hl with e | ⟨e,_⟩;exact e;cases e
  obtain ⟨m,hm⟩:=S.fr.ns
  refine wpAny_storeName_local hkl hm (fun h' hn hs=>fin h' _ (S.heap.ownChange S.fr.L hs (let ⟨o,_,_,e,_⟩:=hn;⟨o,e⟩)) ⟨_,hn⟩ (.inl ⟨hkl,_,hn,by simp⟩) (fun y c hy hh => ?_) fun y c v hc hh=>⟨v,hh.sameBut hs (E.ne y c hc)⟩) (by rw [E.kind];rfl)
  rcases hh with ⟨l1,m',l2,l3⟩ | ⟨l1,c',l2,l3,l4⟩
  ·refine .inl ⟨l1,_,hn,?_⟩
   rw [if_neg hy,hm.agree l2];exact l3
  ·exact .inr ⟨l1,c',l2,l3.sameBut hs (E.ne y c' l2),l4⟩
 ·have hkl:env.kindOf x=some .cell:=by rcases E.knd x _ hl with e | ⟨e,_⟩;exact e;cases e
  obtain ⟨c,v₀,b1,b2,b3⟩:=S.fr.cell x hl
  have hcL:c≠env.locals:=E.ne x c b1
  refine wpAny_storeName_cell E.kind hkl b1 b3 (fun h' hc hs=>fin h' _ (S.heap.ownChange b2 hs (let ⟨o,e,_⟩:=hc;⟨o,e⟩)) (let ⟨m,hm⟩:=S.fr.ns;⟨m,hm.sameBut hs (Ne.symm hcL)⟩)
   (.inr ⟨.inl hkl,c,b1,hc,.inl b2⟩) (fun y c' hy hh => ?_) fun y c' v hc' hh => ?_)
  ·rcases hh with ⟨l1,m',l2,l3⟩ | ⟨l1,c2,l2,l3,l4⟩
   ·exact .inl ⟨l1,m',l2.sameBut hs (Ne.symm hcL),l3⟩
   ·exact .inr ⟨l1,c2,l2,l3.sameBut hs fun q=>hy (E.inj y x c2 l2 (q▸b1)),l4⟩
  ·by_cases q:c'=c
   ·subst q;exact ⟨_,hc⟩
   ·exact ⟨v,hh.sameBut hs q⟩
theorem tri_bind {x:Str} {i:Nat} {k:NameKind} {u:Value} {v:V} (E:EnvOk sc env) (hi:sc.names[i]?=some (x,k)) (hk:k= .local∨k= .cell) {Q:Unit→MS→Prop}
  (S:St prog w h₀ sc env H σ s.heap) (hv:ValIs H v u) (hQ:Q () {σ with loc:=setV σ.loc i v}) :
  wpAny (model prog w) A (bindName env x u) (Post prog w h₀ sc env RU H s Q) noE s:=wpAny_bindName (wp_store E hi hk S hv hQ)
noncomputable def GV (h₀:Heap) (x:Str) (u:Value):Prop :=
 ∃ mg mb,h₀.Ns mainGlobals mg∧h₀.Ns builtinsNs mb∧(mg x=some u∨(mg x=none∧mb x=some u))
theorem HeapOk.stays {h:Heap} (x:HeapOk prog w h₀ H h):∀ a o,h₀.get? a=some o→h.get? a=some o:=fun a o e=>x.fz a o (x.base a o e)
theorem glob_name {x:Str} {pos:Pos} {u:Value} {F:Value→Shared→Prop} {Er:Value→Shared→Prop} (E:EnvOk sc env) (hx:sc.names.lookup x=some .globalImplicit) (h1:(x == ("__debug__":Str))=false) (G:GV h₀ x u)
  (S:HeapOk prog w h₀ H s.heap) (h:F u s):wpAny (model prog w) A (eval (.Name x pos) env) F Er s:=by
 obtain ⟨mg,mb,g1,g2,g3⟩:=G
 have hk:env.kindOf x=some .globalImplicit:=by rcases E.knd x _ hx with e | ⟨e,_⟩;exact e;cases e
 refine Name_function_global E.kind hk ?_ h1
 rcases g3 with g3 | ⟨g3,g4⟩
 ·exact loadGlobal_global (mg:=mg) (by rw [E.glb];exact g1.keeps S.stays) g3 h
 ·exact loadGlobal_builtin (mg:=mg) (mb:=mb) (by rw [E.glb];exact g1.keeps S.stays) g3 (by rw [E.bts];exact g2.keeps S.stays) g4 h
theorem tri_gconst {x:Str} {pos:Pos} {i:Int} {t:Tok} (E:EnvOk sc env) (hx:sc.names.lookup x=some .globalImplicit) (h1:(x == ("__debug__":Str))=false) (G:GV h₀ x (.int i t)) :
  Tri prog w h₀ b sc env RV (eval (.Name x pos) env) (fun σ Q=>Q (.int i) σ):=fun _ _ _ _ _ _ hP S=>glob_name E hx h1 G S.heap (Post.here S (.int _ _) hP)
end
end Mine
namespace Mine
noncomputable def Plain:Nat→V→Prop
 | 0,v=>match v with | .none=>True | .int _=>True | _=>False
 | n+1,v=>match v with
  | .none=>True
  | .int _=>True
  | .tup l=>∀ x∈l,Plain n x
  | .lst l=>∀ x∈l,Plain n x
  | _=>False
noncomputable def py:Nat→V→PyData
 | 0,v=>match v with | .int i=> .int i | _=> .none
 | n+1,v=>match v with
  | .int i=> .int i
  | .tup l=> .tuple (l.map (py n))
  | .lst l=> .list (l.map (py n))
  | _=> .none
theorem reads_all {H:Hm} {h:Heap} {n:Nat} (ih:∀ {v:V} {u:Value},Plain n v→ValIs H v u→∃ as,Reads h u (py n v) as) {l:List V} {us:List Value} (hp:∀ x∈l,Plain n x) (h0:AllIs H l us):∃ as,ReadsAll h us (l.map (py n)) as :=
 AllIs.ind (M:=fun l us=>(∀ x∈l,Plain n x)→∃ as,ReadsAll h us (l.map (py n)) as) (fun _=>⟨_,.nil⟩) (fun a _ q hp=>(ih (hp _ (.head _)) a).elim fun _ ra=>(q fun y hy=>hp y (.tail _ hy)).elim fun _ rs=>⟨_,.cons ra rs⟩) h0 hp
theorem reads_of {H:Hm} {h:Heap} (hf:∀ a o,H a= .fz o→h.get? a=some o) {n:Nat} {v:V} {u:Value} (hp:Plain n v) (hv:ValIs H v u):∃ as,Reads h u (py n v) as:=by
 induction n generalizing v u with
 | zero=>exact @ValIs.casesOn H (fun v u _=>Plain 0 v→∃ as,Reads h u (py 0 v) as) v u hv (fun _=>⟨_,.none⟩) (fun _ hp=>hp.elim) (fun i t _=>⟨_,.int i t⟩) (fun _ hp=>hp.elim) (fun _ _ hp=>hp.elim) (fun _ _ hp=>hp.elim) (fun _ hp=>hp.elim) hp
 | succ n ih=>exact @ValIs.casesOn H (fun v u _=>Plain (n+1) v→∃ as,Reads h u (py (n+1) v) as) v u hv (fun _=>⟨_,.none⟩) (fun _ hp=>hp.elim) (fun i t _=>⟨_,.int i t⟩) (fun _ hp=>hp.elim) (fun h1 h4 hp=>(reads_all ih hp h4).elim fun _ r=>⟨_,.tuple (hf _ _ h1) rfl rfl r⟩) (fun h1 h4 hp=>(reads_all ih hp h4).elim fun _ r=>⟨_,.list (hf _ _ h1) rfl rfl r⟩) (fun _ hp=>hp.elim) hp
theorem canLayAll_map {n:Nat} {l:List V} (h:∀ x∈l,(py n x).canLay0=true):PyData.canLayAll0 (l.map (py n))=true:=by
 induction l with
 | nil=>rfl
 | cons x r ih=>exact Bool.and_eq_true_iff.mpr ⟨h x (.head _),ih fun y hy=>h y (.tail _ hy)⟩
theorem canLay_py (n:Nat) (v:V):(py n v).canLay0=true:=by
 induction n generalizing v with
 | zero=>cases v<;>rfl
 | succ n ih=>cases v<;>first | rfl | exact canLayAll_map fun x _=>ih x
theorem depthAll_map {n:Nat} {l:List V} (h:∀ x∈l,(py n x).depth≤n):PyData.depthAll (l.map (py n))≤n:=by
 induction l with
 | nil=>exact Nat.zero_le _
 | cons x r ih=>exact Nat.max_le.mpr ⟨h x (.head _),ih fun y hy=>h y (.tail _ hy)⟩
theorem depth_py (n:Nat) (v:V):(py n v).depth≤n:=by
 induction n generalizing v with
 | zero=>cases v<;>exact Nat.le_refl 0
 | succ n ih=>cases v<;>first | exact Nat.zero_le _ | exact Nat.succ_le_succ (depthAll_map fun x _=>ih x)
theorem shaped_py {n:Nat} (hn:n≤64) (v:V):shaped (py n v)=true:=by
 unfold shaped
 rw [canLay_py,decide_eq_true (Nat.le_trans (depth_py n v) hn)];rfl
open Classical in
theorem eqvAll_map {n:Nat} (ih:∀ {x y:V},Plain n x→Plain n y→PyData.eqv (py n x) (py n y)=decide (x=y))
  {l l':List V} (h1:∀ x∈l,Plain n x) (h2:∀ x∈l',Plain n x):PyData.eqvAll (l.map (py n)) (l'.map (py n))=decide (l=l'):=by
 induction l generalizing l' with
 | nil=>cases l' with
  | nil=>exact (decide_eq_true rfl).symm
  | cons y t=>exact (decide_eq_false nofun).symm
 | cons x r q=>cases l' with
  | nil=>exact (decide_eq_false nofun).symm
  | cons y t =>
   refine (congr (congrArg and (ih (h1 x (.head _)) (h2 y (.head _)))) (q (fun z hz=>h1 z (.tail _ hz)) fun z hz=>h2 z (.tail _ hz))).trans ?_
   by_cases e:x=y
   ·by_cases e':r=t
    ·rw [decide_eq_true e,decide_eq_true e',e,e'];exact (decide_eq_true rfl).symm
    ·rw [decide_eq_false e',Bool.and_false];exact (decide_eq_false fun k=>e' (List.cons.inj k).2).symm
   ·rw [decide_eq_false e,Bool.false_and];exact (decide_eq_false fun k=>e (List.cons.inj k).1).symm
open Classical in
theorem vnd {x y:V} (h:Nat.beq x.ctorIdx y.ctorIdx=false):false=decide (x=y):=(decide_eq_false fun e=>Nat.ne_of_beq_eq_false h (congrArg V.ctorIdx e)).symm
open Classical in
theorem vni {i j:Int}:(i == j)=decide (V.int i=V.int j):=decide_eq_decide.mpr ⟨congrArg V.int,V.int.inj⟩
open Classical in
theorem eqv_py {n:Nat} {x y:V} (h1:Plain n x) (h2:Plain n y):PyData.eqv (py n x) (py n y)=decide (x=y):=by
 induction n generalizing x y with
 | zero=>cases x with
  | none=>cases y with
   | none=>exact (decide_eq_true rfl).symm
   | int j=>exact vnd rfl
   | _=>exact h2.elim
  | int i=>cases y with
   | none=>exact vnd rfl
   | int j=>exact vni
   | _=>exact h2.elim
  | _=>exact h1.elim
 | succ n ih=>cases x with
  | none=>cases y with
   | none=>exact (decide_eq_true rfl).symm
   | bool=>exact h2.elim
   | ref=>exact h2.elim
   | rng=>exact h2.elim
   | _=>exact vnd rfl
  | int i=>cases y with
   | int j=>exact vni
   | bool=>exact h2.elim
   | ref=>exact h2.elim
   | rng=>exact h2.elim
   | _=>exact vnd rfl
  | tup l=>cases y with
   | tup l'=>exact (eqvAll_map ih h1 h2).trans (decide_eq_decide.mpr ⟨congrArg V.tup,V.tup.inj⟩)
   | bool=>exact h2.elim
   | ref=>exact h2.elim
   | rng=>exact h2.elim
   | _=>exact vnd rfl
  | lst l=>cases y with
   | lst l'=>exact (eqvAll_map ih h1 h2).trans (decide_eq_decide.mpr ⟨congrArg V.lst,V.lst.inj⟩)
   | bool=>exact h2.elim
   | ref=>exact h2.elim
   | rng=>exact h2.elim
   | _=>exact vnd rfl
  | _=>exact h1.elim
inductive BOp where
 | add | sub | mul | fdiv | mod | band | bor | shl | shr
noncomputable def BOp.op:BOp→Operator
 | .add=> .Add | .sub=> .Sub | .mul=> .Mult | .fdiv=> .FloorDiv | .mod=> .Mod | .band=> .BitAnd | .bor=> .BitOr | .shl=> .LShift | .shr=> .RShift
noncomputable def BOp.ok:BOp→Int→Int→Prop
 | .mul,a,b=>IntMulOk a b
 | .fdiv,_,b=>b≠0∧b.natAbs<1073741824
 | .mod,_,b=>b≠0
 | .shl,a,n=>0≤n∧n≤1000000∧a.natAbs<2 ^ 64
 | .shr,_,n=>0≤n
 | _,_,_=>True
noncomputable def BOp.val:BOp→Int→Int→Int
 | .add,a,b=>a+b
 | .sub,a,b=>a - b
 | .mul,a,b=>a*b
 | .fdiv,a,b=>a.fdiv b
 | .mod,a,b=>a.fmod b
 | .band,a,b=>Builtin.bitAnd a b
 | .bor,a,b=>Builtin.bitOr a b
 | .shl,a,n=>a*2 ^ n.toNat
 | .shr,a,n=>a.fdiv (2 ^ n.toNat)
noncomputable def lim:Nat:=1000000
noncomputable def listAt:Option MO→Option (List V)
 | some (.list l)=>some l
 | _=>none
theorem listAt_inv {o:Option MO} {l:List V} (h:listAt o=some l):o=some (.list l):=by
 cases o with
 | none=>cases h
 | some x=>cases x with
  | list=>cases h;rfl
  | _=>cases h
noncomputable def listOf (σ:MS):V→Option (List V)
 | .lst l=>some l
 | .ref a=>listAt (σ.lv a)
 | _=>none
noncomputable def mkL (m:Bool) (l:List V):PT V:=fun σ Q =>
 match m with
 | true=>∀ a,σ.lv a=none→Q (.ref a) {σ with lv:=updL σ.lv a (some (.list l))}
 | false=>Q (.lst l) σ
inductive BinR (m:Bool) (op:BOp) (u:V) (n:Int) (σ:MS) (Q:V→MS→Prop):Prop
 | mk (e:op= .mul) (l:List V) (h1:listOf σ u=some l) (h2:0≤n) (h3:l.length≤1) (h4:n≤lim) (h:mkL m (List.flatten (List.replicate n.toNat l)) σ Q):BinR m op u n σ Q
inductive BinC (m:Bool) (op:BOp) (u v:V) (σ:MS) (Q:V→MS→Prop):Prop
 | mk (e:op= .add) (l l':List V) (h1:listOf σ u=some l) (h2:listOf σ v=some l') (h3:l.length+l'.length≤lim) (h:mkL m (l++l') σ Q):BinC m op u v σ Q
noncomputable def binI (m:Bool) (op:BOp) (j:Int) (u:V):PT V:=fun σ Q =>
 match u with
 | .int i=>op.ok i j∧Q (.int (op.val i j)) σ
 | u=>BinR m op u j σ Q
noncomputable def binP (m:Bool) (op:BOp) (u v:V):PT V:=fun σ Q =>
 match v with
 | .int j=>binI m op j u σ Q
 | v=>BinC m op u v σ Q
section
variable {prog:Program} {w:World} {h₀:Heap} {sc:Scope} {env:Env} {b:Nat} {A:Around} {H H':Hm} {s s':Shared} {σ:MS}
theorem lim_le:lim≤sizeLine:=by decide
theorem fin_mkL {m:Bool} {l:List V} {items:Array Value} {Q:V→MS→Prop} {a:Addr} {n:Nat} (S:St prog w h₀ sc env H σ s.heap) (hl:IsL s.heap a items n) (ha:H a= .out) (hv:AllIs H l items.toList)
  (hQ:mkL m l σ Q):Post prog w h₀ sc env RV H s Q (.ref a) s:=by
 have hn:σ.lv a=none:=by
  cases e:σ.lv a with
  | none=>rfl
  | some x=>have:=S.live a x e;rw [ha] at this;cases this
 cases m with
 | true =>
  have hm:=fz_set (H:=H) (a:=a) (y:= .lv (.list l)) (fun o=>by rw [ha];exact Slot.noConfusion)
  exact ⟨H.set a (.lv (.list l)),_,.ref a,.set ha,S.newLv ha ⟨items,n,hl,hv.mono hm⟩,.ref a,.refl s,hQ a hn⟩
 | false =>
  have hm:=fz_set (H:=H) (a:=a) (y:= .fz {cls:= .type "list",dict:=none,data:= .seq items n,slots := #[]}) (fun o=>by rw [ha];exact Slot.noConfusion)
  exact ⟨H.set a (.fz {cls:= .type "list",dict:=none,data:= .seq items n,slots := #[]}),σ,.lst l,.set ha,S.newFz ha hl,.lst (Hm.set_self ..) (hv.mono hm),.refl s,hQ⟩
theorem listOf_is {v:V} {u:Value} {l:List V} (S:St prog w h₀ sc env H σ s.heap) (hv:ValIs H v u) (hl:listOf σ v=some l):∃ a items n,u= .ref a∧IsL s.heap a items n∧AllIs H l items.toList:=by
 cases hv with
 | lst h1 h4=>cases hl;exact ⟨_,_,_,rfl,S.heap.fz _ _ h1,h4⟩
 | ref a=>exact (S.heap.lv a _ (S.live a _ (listAt_inv hl))).elim fun _ k=>k.elim fun _ k=>⟨a,_,_,rfl,k⟩
 | _=>cases hl
theorem St.outSize (S:St prog w h₀ sc env H σ s.heap):H s.heap.objs.size= .out:=S.heap.out_ge (Nat.le_refl _)
theorem listOf_len {v:V} {u:Value} {l:List V} (S:St prog w h₀ sc env H σ s.heap) (hv:ValIs H v u) (hl:listOf σ v=some l):∃ a items n,u= .ref a∧IsL s.heap a items n∧AllIs H l items.toList∧items.size=l.length:=by
 obtain ⟨a,items,n,h1,h2,h3⟩:=listOf_is S hv hl
 exact ⟨a,items,n,h1,h2,h3,by rw [h3.length,Array.length_toList]⟩
theorem AllIs.rep {l:List V} {us:List Value} (h:AllIs H l us):∀ n,AllIs H (List.replicate n l).flatten (List.replicate n us).flatten
 | 0=>by simp;exact .nil
 | n+1=>by simp only [List.replicate_succ,List.flatten_cons];exact AllIs.append h (AllIs.rep h n)
theorem wp_bin {m:Bool} {op:BOp} {x y:V} {u v:Value} {Q:V→MS→Prop} (S:St prog w h₀ sc env H σ s.heap) (hx:ValIs H x u) (hy:ValIs H y v) (hQ:binP m op x y σ Q) :
  wpAny (model prog w) A (binaryOp op.op u v) (Post prog w h₀ sc env RV H s Q) noE s:=by
 have two:BinC m op x y σ Q→wpAny (model prog w) A (binaryOp op.op u v) (Post prog w h₀ sc env RV H s Q) noE s:=by
  rintro ⟨rfl,l,l',h1,h2,h3,h4⟩
  obtain ⟨a,it1,n1,rfl,i1,a1,z1⟩:=listOf_len S hx h1
  obtain ⟨c,it2,n2,rfl,i2,a2,z2⟩:=listOf_len S hy h2
  refine P.add_list i1 i2 ?_ (by rw [z1,z2];exact Nat.le_trans h3 lim_le)
  have:=fin_mkL (s:={s with heap:=s.heap.push {cls:= .type "list",data:= .seq (it1++it2)}}) (m:=m) (Q:=Q) (l:=l++l') (S.push _) (IsL.new s.heap (it1++it2)) S.outSize (by rw [Array.toList_append];exact a1.append a2) h4
  exact this.from (.refl H) (.mk s _ _)
 have rep:∀ n t,v= .int n t→BinR m op x n σ Q→wpAny (model prog w) A (binaryOp op.op u v) (Post prog w h₀ sc env RV H s Q) noE s:=by
  rintro n t rfl ⟨rfl,l,h1,h2,h3,h4,h5⟩
  obtain ⟨a,it1,n1,rfl,i1,a1,z1⟩:=listOf_len S hx h1
  have hn:n<2000000:=by have:lim=1000000:=rfl;exact zh11 h4 this
  have hz:it1.size*n.toNat≤2000000:=by
   rw [z1]
   have:l.length*n.toNat≤1*n.toNat:=Nat.mul_le_mul_right _ h3
   exact zh12 hn this
  refine wpAny_binaryOp_repeat_ref (T := "list") (U := "int") (by decide) ⟨_,i1,rfl⟩ (fun s'=>typeIs_int s' n t) noFill_list_mul F.fills_int_mul F.slot_int_rmul repeat_list F.slot_int_index.lookup
   (call_meets F.slot_int_rmul (typeIs_int s n t) F.entry_int_rmul (F.args_int_rmul_2 _ _) (lm_int_rmul_list_any n t a it1 n1 none #[])
    ⟨i1,rfl,⟨_,i1,rfl⟩,call_meets F.slot_list_mul ⟨_,i1,rfl⟩ F.entry_list_mul (F.args_list_mul_2 _ _)
     (lm_list_mul_any a it1 n1 none #[] n t (by simp [Builtin.List.listFitsIndex];exact zh13 h2 hn) (by exact zh14 hz) (by simp [Builtin.List.listTooLong,sizeLine];exact zk0 hz rfl))
     ⟨i1,?_⟩⟩)
  rw [listMul_foldl_if]
  have:=fin_mkL (s:={s with heap:=s.heap.push {cls:= .type "list",data:= .seq (List.replicate n.toNat it1.toList).flatten.toArray}}) (m:=m) (Q:=Q) (S.push _) (IsL.new s.heap _) S.outSize (a1.rep n.toNat) h5
  exact this.from (.refl H) (.mk s _ _)
 cases y with
 | int j =>
  cases hy with | int _ t' =>
  cases x with
  | int i =>
   cases hx with | int _ t =>
   obtain ⟨h1,h2⟩:=hQ
   have fin:Post prog w h₀ sc env RV H s Q (.int (op.val i j) s.toks) {s with toks:=s.toks+1}:=⟨H,σ,_,.refl H,S,.int _ _,⟨_,_,rfl⟩,h2⟩
   cases op
   ·exact PyProof.Rows.add_int fin
   ·exact PyProof.Rows.sub_int fin
   ·exact PyProof.Rows.mul_int fin h1
   ·exact PyProof.Rows.floordiv_int h1.1 fin (.inl (PyProof.noPylong_small h1.2))
   ·exact PyProof.Rows.mod_int' h1 fin
   ·exact PyProof.Rows.and_int fin
   ·exact PyProof.Rows.or_int fin
   ·exact PyProof.Rows.lshift_int_small h1.1 h1.2.1 h1.2.2 fin
   ·exact PyProof.Rows.rshift_int h1 fin
  | _=>exact rep _ _ rfl hQ
 | _=>exact two hQ
theorem tri_bin {m:Bool} {op:BOp} {l r:Expr} {pos:Pos} {P1 P2:PT V} (h1:Tri prog w h₀ b sc env RV (eval l env) P1) (h2:Tri prog w h₀ b sc env RV (eval r env) P2) :
  Tri prog w h₀ b sc env RV (eval (.BinOp l op.op r pos) env) (fun σ Q=>P1 σ fun x σ1=>P2 σ1 fun y σ2=>binP m op x y σ2 Q):=fun A hA σ Q s H hP S=>by
 refine wpAny_BinOp (h1.use hA hP S fun u x σ1 s1 H1 g1 e1 r1 q1 S1=>h2.use hA q1 S1 fun v y σ2 s2 H2 g2 e2 r2 q2 S2 => ?_)
 exact wp_from (g1.trans g2) (e1.trans e2) (wp_bin S2 (r1.mono g2.fz) r2 q2)
end
end Mine
namespace Mine
noncomputable def truthP (v:V):PT Bool:=fun σ Q =>
 match v with
 | .none=>Q false σ
 | .bool b=>Q b σ
 | .int i=>Q (i != 0) σ
 | .tup l=>l.length≤lim∧Q (!l.isEmpty) σ
 | v=>∃ l,listOf σ v=some l∧l.length≤lim∧Q (!l.isEmpty) σ
inductive COp where
 | eq | ne | lt | gt | ge | isin | notin
noncomputable def COp.op:COp→CmpOp
 | .eq=> .Eq | .ne=> .NotEq | .lt=> .Lt | .gt=> .Gt | .ge=> .GtE | .isin=> .In | .notin=> .NotIn
noncomputable def seqOf (σ:MS):V→Option (List V)
 | .tup l=>some l
 | v=>listOf σ v
noncomputable def dictOf? (σ:MS):V→Option (List (Int×V))
 | .ref a=>match σ.lv a with | some (.dict l)=>some l | _=>none
 | _=>none
open Classical in
noncomputable def cmpP (op:COp) (u v:V):PT Bool:=fun σ Q =>
 match op with
 | .eq=>A3 (Plain 4 u) (Plain 4 v) (Q (decide (u=v)) σ)
 | .ne=>A3 (Plain 4 u) (Plain 4 v) (Q (!decide (u=v)) σ)
 | .lt=>E2 fun i j=>A3 (u= .int i) (v= .int j) (Q (decide (i<j)) σ)
 | .gt=>E2 fun i j=>A3 (u= .int i) (v= .int j) (Q (decide (j<i)) σ)
 | .ge=>E2 fun i j=>A3 (u= .int i) (v= .int j) (Q (decide (j≤i)) σ)
 | .isin=>(Plain 4 u∧∃ l,A3 (seqOf σ v=some l) ((∀ x∈l,Plain 4 x)) (Q (decide (u∈l)) σ))∨(E2 fun i kvs=>A3 (u= .int i) (dictOf? σ v=some kvs) (Q (decide (i∈kvs.map (·.1))) σ))
 | .notin=>(Plain 4 u∧∃ l,A3 (seqOf σ v=some l) ((∀ x∈l,Plain 4 x)) (Q (!decide (u∈l)) σ))∨(E2 fun i kvs=>A3 (u= .int i) (dictOf? σ v=some kvs) (Q (!decide (i∈kvs.map (·.1))) σ))
section
variable {prog:Program} {w:World} {h₀:Heap} {sc:Scope} {env:Env} {b:Nat} {A:Around} {H H':Hm} {s s':Shared} {σ:MS}
theorem lim_fit {n:Nat} (h:n≤lim):((n:Nat):Int)<2 ^ 63:=by have:lim=1000000:=rfl;exact zh15 this h
theorem wp_truth {x:V} {u:Value} {Q:Bool→MS→Prop} (S:St prog w h₀ sc env H σ s.heap) (hx:ValIs H x u) (hQ:truthP x σ Q) :
  wpAny (model prog w) A (truthy u) (Post prog w h₀ sc env RB H s Q) noE s:=by
 have lst:(∃ l,listOf σ x=some l∧l.length≤lim∧Q (!l.isEmpty) σ)→wpAny (model prog w) A (truthy u) (Post prog w h₀ sc env RB H s Q) noE s:=by
  rintro ⟨l,h1,h2,h3⟩
  obtain ⟨a,it,n,rfl,i1,a1,z1⟩:=listOf_len S hx h1
  refine wpAny_truthy_list (IsL.isList i1) (by rw [z1];exact lim_fit h2) ?_
  refine Post.here S ?_ h3
  have:it.toList.length=l.length:=by rw [Array.length_toList,z1]
  cases l with
  | nil=>simp at z1;simp [z1]
  | cons y t =>
   have:it ≠ #[]:=fun e=>by subst e;simp at z1
   simp [this]
 cases x with
 | none=>cases hx;exact wpAny_pure (Post.here S rfl hQ)
 | bool v=>cases hx;exact wpAny_truthy_bool (Post.here S rfl hQ)
 | int i=>cases hx;exact truthy_int (Post.here S rfl hQ)
 | tup l =>
  cases hx with | @tup a items n _ h1 h2 =>
  have hl:items.size=l.length:=by rw [h2.length,Array.length_toList]
  have T:IsTup s.heap a items:=⟨_,S.heap.fz _ _ h1,rfl,n,rfl⟩
  refine truthy_tuple T (by rw [hl];exact lim_fit hQ.1) (Post.here S ?_ hQ.2)
  cases l with
  | nil=>simp at hl;simp [hl]
  | cons y t =>
   have:items ≠ #[]:=fun e=>by subst e;simp at hl
   simp [this]
 | lst l=>exact lst hQ
 | rng=>exact lst hQ
 | ref=>exact lst hQ
theorem room_in {n:Nat} (hn:n≤64) {A:Around} {xs:List PyData} (v:V) (hA:AOk b A):A.units+1+min (PyData.depthAll xs) (py n v).depth<cLine:=by
 have h1:=depth_py n v
 have h2:min (PyData.depthAll xs) (py n v).depth≤(py n v).depth:=Nat.min_le_right _ _
 have:=hA.line
 exact zh16 this hn h1
open Classical in
theorem any_eqv {n:Nat} {x:V} (hx:Plain n x):∀ {l:List V},(∀ y∈l,Plain n y)→((l.map (py n)).any fun y=>PyData.eqv y (py n x))=decide (x∈l)
 | [],_=>by simp
 | y::r,h=>by
  rw [List.map_cons,List.any_cons,eqv_py (h y (.head _)) hx,any_eqv hx fun z hz=>h z (.tail _ hz)]
  simp only [List.mem_cons,eq_comm (a:=y),Bool.decide_or]
theorem seqOf_is {v:V} {u:Value} {l:List V} (S:St prog w h₀ sc env H σ s.heap) (hv:ValIs H v u) (hl:seqOf σ v=some l) :
  ∃ a items n,u= .ref a∧(IsL s.heap a items n∨s.heap.get? a=some (lobj "tuple" items n))∧AllIs H l items.toList:=by
 cases v with
 | tup l' =>
  cases hl
  cases hv with | tup h1 h2=>exact ⟨_,_,_,rfl,.inr (S.heap.fz _ _ h1),h2⟩
 | _=>obtain ⟨a,it,n,h1,h2,h3⟩:=listOf_is S hv hl;exact ⟨a,it,n,h1,.inl h2,h3⟩
set_option tactic.hygienic true in
theorem dictOf_is {v:V} {u:Value} {l:List (Int×V)} (S:St prog w h₀ sc env H σ s.heap) (hv:ValIs H v u) (hl:dictOf? σ v=some l) :
  ∃ a kvs,v= .ref a∧u= .ref a∧H a= .lv (.dict l)∧s.heap.DictOf (intKind prog w) a kvs∧PairsIs H l kvs:=by
 cases v with
 | ref a =>
  cases hv
  simp only [dictOf?] at hl
  split at hl
  ·rename_i x e
   cases hl
   have:=S.live a _ e
   obtain ⟨kvs,h1,h2⟩:=S.heap.lv a _ this
   exact ⟨a,kvs,rfl,rfl,this,h1,h2⟩
  ·cases hl
 | _=>cases hl
theorem int_is (i:Int) (t:Tok):(intKind prog w).is i (.int i t)=true:=by
 show Value.isInt i (.int i t)=true
 simp [Value.isInt]
theorem isSome_valueAt {l:List (Int×V)} {kvs:List (Int×Value)} (h:PairsIs H l kvs) (k:Int):(valueAt kvs k).isSome=decide (k∈l.map (·.1)):=by
 rw [←h.keys]
 unfold valueAt
 rw [Option.isSome_map,Bool.eq_iff_iff,List.find?_isSome]
 simp only [decide_eq_true_eq,List.mem_map]
theorem not_sys {a:Addr} {x:MO} (hb:∃ o,h₀.get? sysModules=some o) (S:HeapOk prog w h₀ H s.heap) (ha:H a= .lv x):(a == sysModules)=false:=by
 cases q:a == sysModules with
 | false=>rfl
 | true =>
  obtain ⟨o,e⟩:=hb
  rw [beq_iff_eq.mp q,S.base _ _ e] at ha
  cases ha
open Classical in
theorem wp_cmp {op:COp} {x y:V} {u v:Value} {Q:Bool→MS→Prop} (hb:∃ o,h₀.get? sysModules=some o) (hA:AOk b A) (S:St prog w h₀ sc env H σ s.heap) (hx:ValIs H x u) (hy:ValIs H y v) (hQ:cmpP op x y σ Q) :
  wpAny (model prog w) A (compareOp op.op u v) (fun c s'=>∃ t,c= .bool t∧Post prog w h₀ sc env RB H s Q t s') noE s:=by
 have hu:A.units+64<cLine:=by have:=hA.line;exact zh17 this
 cases op with
 | eq =>
  obtain ⟨p1,p2,h⟩:=hQ
  obtain ⟨as,r1⟩:=reads_of S.heap.fz p1 hx
  obtain ⟨bs,r2⟩:=reads_of S.heap.fz p2 hy
  exact compareEq_shaped r1 r2 (shaped_py (by decide) x) (shaped_py (by decide) y) hu ⟨_,rfl,Post.here S (eqv_py p1 p2) h⟩
 | ne =>
  obtain ⟨p1,p2,h⟩:=hQ
  obtain ⟨as,r1⟩:=reads_of S.heap.fz p1 hx
  obtain ⟨bs,r2⟩:=reads_of S.heap.fz p2 hy
  exact compareNe_shaped r1 r2 (shaped_py (by decide) x) (shaped_py (by decide) y) hu ⟨_,rfl,Post.here S (by rw [eqv_py p1 p2]) h⟩
 | lt =>
  obtain ⟨i,j,rfl,rfl,h⟩:=hQ
  cases hx;cases hy
  exact PyProof.Rows.lt_int ⟨_,rfl,Post.here S (by simp) h⟩
 | gt =>
  obtain ⟨i,j,rfl,rfl,h⟩:=hQ
  cases hx;cases hy
  exact PyProof.Rows.gt_int ⟨_,rfl,Post.here S (by simp) h⟩
 | ge =>
  obtain ⟨i,j,rfl,rfl,h⟩:=hQ
  cases hx;cases hy
  exact PyProof.Rows.ge_int ⟨_,rfl,Post.here S (by simp) h⟩
 | isin =>
  rcases hQ with ⟨p1,l,h1,p2,h⟩ | ⟨i,kvs,rfl,h1,h⟩
  ·obtain ⟨a,it,n,rfl,h2,h3⟩:=seqOf_is S hy h1
   obtain ⟨as,r1⟩:=reads_of S.heap.fz p1 hx
   obtain ⟨bs,r2⟩:=reads_all (fun a b=>reads_of S.heap.fz a b) p2 h3
   rcases h2 with h2 | h2
   ·exact in_list_reads (.list h2 rfl rfl r2) r1 (canLayAll_map fun x _=>canLay_py 4 x) (canLay_py 4 x) (room_in (by decide) x hA) ⟨_,rfl,Post.here S (any_eqv p1 p2) h⟩
   ·exact in_tuple_reads (.tuple h2 rfl rfl r2) r1 (canLayAll_map fun x _=>canLay_py 4 x) (canLay_py 4 x) (room_in (by decide) x hA) ⟨_,rfl,Post.here S (any_eqv p1 p2) h⟩
  ·obtain ⟨a,kvs',rfl,rfl,h2,h3,h4⟩:=dictOf_is S hy h1
   cases hx with | int _ t =>
   exact wpAny_in_of (int_is i t) (not_sys hb S.heap h2) h3.mapOf ⟨_,rfl,H,σ,_,.refl H,S,by rw [isSome_valueAt h4],⟨_,_,rfl⟩,h⟩
 | notin =>
  rcases hQ with ⟨p1,l,h1,p2,h⟩ | ⟨i,kvs,rfl,h1,h⟩
  ·obtain ⟨a,it,n,rfl,h2,h3⟩:=seqOf_is S hy h1
   obtain ⟨as,r1⟩:=reads_of S.heap.fz p1 hx
   obtain ⟨bs,r2⟩:=reads_all (fun a b=>reads_of S.heap.fz a b) p2 h3
   rcases h2 with h2 | h2
   ·exact notIn_list_reads (.list h2 rfl rfl r2) r1 (canLayAll_map fun x _=>canLay_py 4 x) (canLay_py 4 x) (room_in (by decide) x hA) ⟨_,rfl,Post.here S (by rw [any_eqv p1 p2]) h⟩
   ·exact notIn_tuple_reads (.tuple h2 rfl rfl r2) r1 (canLayAll_map fun x _=>canLay_py 4 x) (canLay_py 4 x) (room_in (by decide) x hA) ⟨_,rfl,Post.here S (by rw [any_eqv p1 p2]) h⟩
  ·obtain ⟨a,kvs',rfl,rfl,h2,h3,h4⟩:=dictOf_is S hy h1
   cases hx with | int _ t =>
   exact wpAny_notIn_of (int_is i t) (not_sys hb S.heap h2) h3.mapOf ⟨_,rfl,H,σ,_,.refl H,S,by rw [isSome_valueAt h4],⟨_,_,rfl⟩,h⟩
theorem tri_cmp {op:COp} {l r:Expr} {pos:Pos} {P1 P2:PT V} (hb:∃ o,h₀.get? sysModules=some o) (h1:Tri prog w h₀ b sc env RV (eval l env) P1) (h2:Tri prog w h₀ b sc env RV (eval r env) P2) (hm:behindInMarks op.op r=false) :
  Tri prog w h₀ b sc env RV (eval (.Compare l [op.op] [r] pos) env) (fun σ Q=>P1 σ fun x σ1=>P2 σ1 fun y σ2=>cmpP op x y σ2 fun t=>Q (.bool t)):=fun A hA σ Q s H hP S=>by
 refine wpAny_Compare1 (h1.use hA hP S fun u x σ1 s1 H1 g1 e1 r1 q1 S1=>h2.use hA q1 S1 fun v y σ2 s2 H2 g2 e2 r2 q2 S2 => ?_) hm
 refine wp_from (g1.trans g2) (e1.trans e2) (wpAny_mono (wp_cmp hb hA S2 (r1.mono g2.fz) r2 q2) (fun c s3 ⟨t,e,p⟩ => ?_) fun _ _ x=>x)
 obtain ⟨H',σ',t',a1,a2,a3,a4,a5⟩:=p
 subst e
 cases a3
 exact ⟨H',σ',.bool t,a1,a2,.bool t,a4,a5⟩
theorem tri_cmpT {op:COp} {l r:Expr} {pos:Pos} {whole:Sem Value} {P1 P2:PT V} (hb:∃ o,h₀.get? sysModules=some o) (h1:Tri prog w h₀ b sc env RV (eval l env) P1) (h2:Tri prog w h₀ b sc env RV (eval r env) P2) (hm:behindInMarks op.op r=false) :
  Tri prog w h₀ b sc env RB (isTrue (.Compare l [op.op] [r] pos) env whole) (fun σ Q=>P1 σ fun x σ1=>P2 σ1 fun y σ2=>cmpP op x y σ2 Q):=fun A hA σ Q s H hP S=>by
 refine wpAny_isTrue_Compare1 (h1.use hA hP S fun u x σ1 s1 H1 g1 e1 r1 q1 S1=>h2.use hA q1 S1 fun v y σ2 s2 H2 g2 e2 r2 q2 S2 => ?_) hm
 refine wpAny_mono (wp_cmp hb hA S2 (r1.mono g2.fz) r2 q2) (fun c s3 ⟨t,e,p⟩ => ?_) fun _ _ x=>x
 subst e
 exact wpAny_truthy_bool (p.from (g1.trans g2) (e1.trans e2))
theorem tri_truthE {e:Expr} {P:PT V} (h:Tri prog w h₀ b sc env RV (eval e env) P) (he:isTrue e env (eval e env)=(do let v ←eval e env;standAt e.pos;holding [v] (truthy v))) :
  Tri prog w h₀ b sc env RB (isTrue e env (eval e env)) (fun σ Q=>P σ fun x σ1=>truthP x σ1 Q):=fun A hA σ Q s H hP S =>
 wpAny_isTrue_value (h.use hA hP S fun _ _ _ _ _ g1 e1 r1 q1 S1=>wp_from g1 e1 (wp_truth S1 r1 q1)) he
theorem tri_notT {x:Expr} {pos:Pos} {whole:Sem Value} {P:PT Bool} (h:Tri prog w h₀ b sc env RB (isTrue x env (eval x env)) P) :
  Tri prog w h₀ b sc env RB (isTrue (.UnaryOp .Not x pos) env whole) (fun σ Q=>P σ fun t=>Q (!t)):=fun A hA σ Q s H hP S =>
 wpAny_isTrue_Not (h.use hA hP S fun u y σ1 s1 H1 g1 e1 r1 q1 S1=>by cases r1;exact (Post.here S1 rfl q1).from g1 e1)
theorem tri_and2T {x y:Expr} {pos:Pos} {whole:Sem Value} {P1 P2:PT Bool} (h1:Tri prog w h₀ b sc env RB (isTrue x env (eval x env)) P1) (h2:Tri prog w h₀ b sc env RB (isTrue y env (eval y env)) P2) :
  Tri prog w h₀ b sc env RB (isTrue (.BoolOp .And [x,y] pos) env whole) (fun σ Q=>P1 σ fun t σ1=>(t=true→P2 σ1 Q)∧(t=false→Q false σ1)):=fun A hA σ Q s H hP S=>by
 refine wpAny_isTrue_BoolOp (wpAny_allTrue_And_cons (h1.use hA hP S fun u t σ1 s1 H1 g1 e1 r1 q1 S1 => ?_))
 cases r1
 cases u with
 | false=>exact (Post.here S1 rfl (q1.2 rfl)).from g1 e1
 | true =>
  refine wpAny_allTrue_And_cons (h2.use hA (q1.1 rfl) S1 fun u t σ2 s2 H2 g2 e2 r2 q2 S2 => ?_)
  cases r2
  cases u with
  | false=>exact (Post.here S2 rfl q2).from (g1.trans g2) (e1.trans e2)
  | true=>exact wpAny_allTrue_And_nil ((Post.here S2 rfl q2).from (g1.trans g2) (e1.trans e2))
theorem tri_or2T {x y:Expr} {pos:Pos} {whole:Sem Value} {P1 P2:PT Bool} (h1:Tri prog w h₀ b sc env RB (isTrue x env (eval x env)) P1) (h2:Tri prog w h₀ b sc env RB (isTrue y env (eval y env)) P2) :
  Tri prog w h₀ b sc env RB (isTrue (.BoolOp .Or [x,y] pos) env whole) (fun σ Q=>P1 σ fun t σ1=>(t=true→Q true σ1)∧(t=false→P2 σ1 Q)):=fun A hA σ Q s H hP S=>by
 refine wpAny_isTrue_BoolOp (wpAny_allTrue_Or_cons (h1.use hA hP S fun u t σ1 s1 H1 g1 e1 r1 q1 S1 => ?_))
 cases r1
 cases u with
 | true=>exact (Post.here S1 rfl (q1.1 rfl)).from g1 e1
 | false =>
  refine wpAny_allTrue_Or_cons (h2.use hA (q1.2 rfl) S1 fun u t σ2 s2 H2 g2 e2 r2 q2 S2 => ?_)
  cases r2
  cases u with
  | true=>exact (Post.here S2 rfl q2).from (g1.trans g2) (e1.trans e2)
  | false=>exact wpAny_allTrue_Or_nil ((Post.here S2 rfl q2).from (g1.trans g2) (e1.trans e2))
theorem tri_and2 {x y:Expr} {pos:Pos} {P1 P2:PT V} (h1:Tri prog w h₀ b sc env RV (eval x env) P1) (h2:Tri prog w h₀ b sc env RV (eval y env) P2) :
  Tri prog w h₀ b sc env RV (eval (.BoolOp .And [x,y] pos) env) (fun σ Q=>P1 σ fun v σ1=>truthP v σ1 fun t σ2=>(t=true→P2 σ2 Q)∧(t=false→Q v σ2)):=fun A hA σ Q s H hP S=>by
 refine wpAny_And2 (h1.use hA hP S fun u v σ1 s1 H1 g1 e1 r1 q1 S1=>wpAny_mono (wp_truth S1 r1 q1) (fun t s2 p => ?_) fun _ _ x=>x)
 obtain ⟨H2,σ2,t',g2,S2,rfl,e2,q2⟩:=p
 cases t with
 | true=>exact wp_from (g1.trans g2) (e1.trans e2) (h2 A hA σ2 Q s2 H2 (q2.1 rfl) S2)
 | false=>exact (Post.here (R:=RV) S2 (r1.mono g2.fz) (q2.2 rfl)).from (g1.trans g2) (e1.trans e2)
theorem tri_or2 {x y:Expr} {pos:Pos} {P1 P2:PT V} (h1:Tri prog w h₀ b sc env RV (eval x env) P1) (h2:Tri prog w h₀ b sc env RV (eval y env) P2) :
  Tri prog w h₀ b sc env RV (eval (.BoolOp .Or [x,y] pos) env) (fun σ Q=>P1 σ fun v σ1=>truthP v σ1 fun t σ2=>(t=true→Q v σ2)∧(t=false→P2 σ2 Q)):=fun A hA σ Q s H hP S=>by
 refine wpAny_Or2 (h1.use hA hP S fun u v σ1 s1 H1 g1 e1 r1 q1 S1=>wpAny_mono (wp_truth S1 r1 q1) (fun t s2 p => ?_) fun _ _ x=>x)
 obtain ⟨H2,σ2,t',g2,S2,rfl,e2,q2⟩:=p
 cases t with
 | false=>exact wp_from (g1.trans g2) (e1.trans e2) (h2 A hA σ2 Q s2 H2 (q2.2 rfl) S2)
 | true=>exact (Post.here (R:=RV) S2 (r1.mono g2.fz) (q2.1 rfl)).from (g1.trans g2) (e1.trans e2)
theorem tri_ite {c x y:Expr} {pos:Pos} {P:PT Bool} {P1 P2:PT V} (h:Tri prog w h₀ b sc env RB (isTrue c env (eval c env)) P) (h1:Tri prog w h₀ b sc env RV (eval x env) P1) (h2:Tri prog w h₀ b sc env RV (eval y env) P2) :
  Tri prog w h₀ b sc env RV (eval (.IfExp c x y pos) env) (fun σ Q=>P σ fun t σ1=>(t=true→P1 σ1 Q)∧(t=false→P2 σ1 Q)):=fun A hA σ Q s H hP S=>by
 refine wpAny_IfExp (h.use hA hP S fun u t σ1 s1 H1 g1 e1 r1 q1 S1 => ?_)
 cases r1
 cases u with
 | true=>exact wp_from g1 e1 (h1 A hA σ1 Q s1 H1 (q1.1 rfl) S1)
 | false=>exact wp_from g1 e1 (h2 A hA σ1 Q s1 H1 (q1.2 rfl) S1)
theorem tri_neg {n:Int} {k:Nat} {pos pos':Pos}:Tri prog w h₀ b sc env RV (eval (.UnaryOp .USub (.Constant (.int n) k pos) pos') env) (fun σ Q=>Q (.int (-n)) σ):=fun A _ σ Q s H hP S =>
 wpAny_UnaryOp (wpAny_Constant_int (PyProof.Rows.neg_int ⟨H,σ,_,.refl H,S,.int _ _,⟨_,_,rfl⟩,hP⟩))
theorem fin_tup {l:List V} {items:Array Value} {Q:V→MS→Prop} {a:Addr} {n:Nat} (S:St prog w h₀ sc env H σ s.heap) (hl:s.heap.get? a=some (lobj "tuple" items n)) (ha:H a= .out) (hv:AllIs H l items.toList)
  (hQ:Q (.tup l) σ):Post prog w h₀ sc env RV H s Q (.ref a) s:=by
 have hm:=fz_set (H:=H) (a:=a) (y:= .fz (lobj "tuple" items n)) (fun o=>neo ha rfl)
 exact ⟨H.set a (.fz (lobj "tuple" items n)),σ,.tup l,.set ha,S.newFz ha hl,.tup (Hm.set_self ..) (hv.mono hm),.refl s,hQ⟩
theorem tri_tuple {es:List Expr} {k:Nat} {pos:Pos} {P:PT (List V)} (h:Tri prog w h₀ b sc env RVs (spliced (backTo pos (starEach es env))) P) :
  Tri prog w h₀ b sc env RV (eval (.Tuple es k pos) env) (fun σ Q=>P σ fun l σ1=>l.length≤lim∧Q (.tup l) σ1):=fun A hA σ Q s H hP S=>by
 refine wpAny_Tuple (h.use hA hP S fun us l σ1 s1 H1 g1 e1 r1 q1 S1=>⟨by rw [←r1.length];exact Nat.le_trans q1.1 lim_le,?_⟩)
 have:=fin_tup (s:={s1 with heap:=s1.heap.push {cls:= .type "tuple",data:= .seq us.toArray}}) (Q:=Q) (l:=l) (S1.push _) (Heap.get?_push_size _ rfl) S1.outSize r1 q1.2
 exact this.from g1 (e1.trans (.mk _ _ _))
theorem tri_list {m:Bool} {es:List Expr} {pos:Pos} {P:PT (List V)} (h:Tri prog w h₀ b sc env RVs (spliced (backTo pos (starEach es env))) P) :
  Tri prog w h₀ b sc env RV (eval (.List es pos) env) (fun σ Q=>P σ fun l σ1=>l.length≤lim∧mkL m l σ1 Q):=fun A hA σ Q s H hP S=>by
 refine wpAny_List (h.use hA hP S fun us l σ1 s1 H1 g1 e1 r1 q1 S1=>⟨by rw [←r1.length];exact Nat.le_trans q1.1 lim_le,?_⟩)
 have:=fin_mkL (s:={s1 with heap:=s1.heap.push {cls:= .type "list",data:= .seq us.toArray}}) (m:=m) (Q:=Q) (l:=l) (S1.push _) (IsL.new s1.heap us.toArray) S1.outSize r1 q1.2
 exact this.from g1 (e1.trans (.mk _ _ _))
end
end Mine
namespace Mine
noncomputable def dget (kvs:List (Int×V)) (k:Int):Option V:=(kvs.find? fun p=>decide (p.1=k)).map (·.2)
noncomputable def dset (kvs:List (Int×V)) (k:Int) (v:V):List (Int×V) :=
 if kvs.any (fun p=>decide (p.1=k)) then kvs.map (fun p=>if p.1=k then (p.1,v) else p) else kvs++[(k,v)]
noncomputable def at? (l:List V) (k:Int):Option V:=if 0≤k then l[k.toNat]? else if -(l.length:Int)≤k then l[(k+l.length).toNat]? else none
inductive IdxL (o:V) (k:Int) (σ:MS) (Q:V→MS→Prop):Prop
 | mk (l:List V) (x:V) (h1:seqOf σ o=some l) (h2:l.length≤lim) (h3:at? l k=some x) (h:Q x σ):IdxL o k σ Q
inductive IdxD (o:V) (k:Int) (σ:MS) (Q:V→MS→Prop):Prop
 | mk (kvs:List (Int×V)) (x:V) (h1:dictOf? σ o=some kvs) (h3:dget kvs k=some x) (h:Q x σ):IdxD o k σ Q
inductive idxP (o i:V) (σ:MS) (Q:V→MS→Prop):Prop
 | mk (k:Int) (e:i= .int k) (h:IdxL o k σ Q∨IdxD o k σ Q):idxP o i σ Q
inductive Cut where
 | upto | from_ | rev
noncomputable def cutL:Cut→Int→List V→Option (List V)
 | .upto,k,l=>if 0≤k then some (l.take k.toNat) else none
 | .from_,k,l=>if 0≤k∧k≤l.length then some (l.drop k.toNat) else none
 | .rev,_,l=>some l.reverse
inductive cutP (m:Bool) (c:Cut) (o:V) (k:Int) (σ:MS) (Q:V→MS→Prop):Prop
 | mk (l l':List V) (h1:listOf σ o=some l) (h2:l.length≤lim) (h3:cutL c k l=some l') (h:mkL m l' σ Q):cutP m c o k σ Q
inductive PutL (a:Addr) (k:Int) (v:V) (σ:MS) (Q:Unit→MS→Prop):Prop
 | mk (l:List V) (h1:σ.lv a=some (.list l)) (h2:0≤k) (h3:k<l.length) (h4:l.length≤lim) (h:Q () ⟨σ.loc,updL σ.lv a (some (.list (l.set k.toNat v)))⟩):PutL a k v σ Q
inductive PutD (a:Addr) (k:Int) (v:V) (σ:MS) (Q:Unit→MS→Prop):Prop
 | mk (kvs:List (Int×V)) (h1:σ.lv a=some (.dict kvs)) (h2:kvs.length<lim) (h:Q () ⟨σ.loc,updL σ.lv a (some (.dict (dset kvs k v)))⟩):PutD a k v σ Q
inductive putP (o i v:V) (σ:MS) (Q:Unit→MS→Prop):Prop
 | mk (a:Addr) (k:Int) (h1:o= .ref a) (h2:i= .int k) (h:PutL a k v σ Q∨PutD a k v σ Q):putP o i v σ Q
section
variable {prog:Program} {w:World} {h₀:Heap} {sc:Scope} {env:Env} {b:Nat} {A:Around} {H H':Hm} {s s':Shared} {σ:MS}
theorem PairsIs.get {l:List (Int×V)} {kvs:List (Int×Value)} (h:PairsIs H l kvs) {k:Int} {x:V} (e:dget l k=some x):∃ u,valueAt kvs k=some u∧ValIs H x u:=by
 induction h with
 | nil=>simp [dget] at e
 | @cons k' y u l vs h1 h2 ih =>
  unfold dget valueAt at *
  simp only [List.find?_cons] at e ⊢
  by_cases q:k'=k
  ·simp only [q,decide_true,if_true] at e ⊢
   simp at e
   subst e
   exact ⟨u,by simp,h1⟩
  ·simp only [q,decide_false] at e ⊢
   exact ih e
theorem PairsIs.any {l:List (Int×V)} {kvs:List (Int×Value)} (h:PairsIs H l kvs) (k:Int):(kvs.any fun p=>decide (p.1=k))=l.any fun p=>decide (p.1=k):=by
 induction h with
 | nil=>rfl
 | cons _ _ ih=>simp only [List.any_cons,ih]
theorem PairsIs.mapSet {l:List (Int×V)} {kvs:List (Int×Value)} (h:PairsIs H l kvs) (k:Int) {x:V} {u:Value} (hx:ValIs H x u) :
  PairsIs H (l.map fun p=>if p.1=k then (p.1,x) else p) (kvs.map fun p=>if p.1=k then (p.1,u) else p):=by
 induction h with
 | nil=>exact .nil
 | @cons k' y v l vs h1 h2 ih =>
  simp only [List.map_cons]
  by_cases q:k'=k
  ·simp only [q,if_true];exact .cons hx ih
  ·simp only [q,if_false];exact .cons h1 ih
theorem PairsIs.snoc {l:List (Int×V)} {kvs:List (Int×Value)} (h:PairsIs H l kvs) (k:Int) {x:V} {u:Value} (hx:ValIs H x u):PairsIs H (l++[(k,x)]) (kvs++[(k,u)]):=by
 induction h with
 | nil=>exact .cons hx .nil
 | cons h1 h2 ih=>exact .cons h1 ih
theorem PairsIs.stored {l:List (Int×V)} {kvs:List (Int×Value)} (h:PairsIs H l kvs) (k:Int) {x:V} {u:Value} (hx:ValIs H x u):PairsIs H (dset l k x) (stored kvs k u):=by
 unfold dset PySem.stored
 rw [h.any]
 split
 ·exact h.mapSet k hx
 ·exact h.snoc k hx
theorem IsTup.mk' {h:Heap} {a:Addr} {items:Array Value} {n:Nat} (e:h.get? a=some (lobj "tuple" items n)):PyProof.Rows.IsTup h a items:=⟨_,e,rfl,n,rfl⟩
theorem wp_idx {o i:V} {u v:Value} {Q:V→MS→Prop} {value slice:Expr} (S:St prog w h₀ sc env H σ s.heap) (ho:ValIs H o u) (hi:ValIs H i v) (hQ:idxP o i σ Q)
  (hs:subscripted slice false u v=operate [u,v] (getItem u v)):wpAny (model prog w) A (subscriptTail value slice u v) (Post prog w h₀ sc env RV H s Q) noE s:=by
 obtain ⟨k,rfl,hQ⟩:=hQ
 cases hi with | int _ t =>
 rcases hQ with ⟨l,x,h1,h2,h3,h4⟩ | ⟨kvs,x,h1,h2,h3⟩
 ·obtain ⟨a,it,n,rfl,h5,h6⟩:=seqOf_is S ho h1
  have hl:it.size=l.length:=by rw [h6.length,Array.length_toList]
  have hlim:lim=1000000:=rfl
  unfold at? at h3
  by_cases hk:0≤k
  ·replace h3:=(if_pos hk).symm.trans h3
   have hlt:k.toNat<l.length:=(List.getElem?_eq_some_iff.mp h3).1
   obtain ⟨u,e1,e2⟩:=h6.get h3
   replace e1:=(Array.getElem?_toList).symm.trans e1
   rcases h5 with h5 | h5
   ·exact tail_any (T := "list") ⟨_,h5,rfl⟩ slot_list_getitem.lookup (wpAny_getItem_list (IsL.isList h5) hk (by exact zh18 hlt hlim h2) e1 (Post.here S e2 h4)) hs
   ·exact tail_any (T := "tuple") ⟨_,h5,rfl⟩ slot_tuple_getitem.lookup (getItem_tuple (IsTup.mk' h5) (by exact zh19 hk) (by exact zh18 hlt hlim h2) (seqIndex_of hk (by exact zh20 hlt hl)) e1 (Post.here S e2 h4)) hs
  ·replace h3:=(if_neg hk).symm.trans h3
   split at h3
   ·rename_i hk2
    have hlt:=(List.getElem?_eq_some_iff.mp h3).1
    obtain ⟨u,e1,e2⟩:=h6.get h3
    rw [Array.getElem?_toList,←hl] at e1
    rcases h5 with h5 | h5
    ·exact tail_any (T := "list") ⟨_,h5,rfl⟩ slot_list_getitem.lookup (wpAny_getItem_list_neg (IsL.isList h5) (by exact Int.lt_of_not_ge hk) (by exact zq4 hk2 hl) (by exact zh22 hk2 hlim h2) e1 (Post.here S e2 h4)) hs
    ·exact tail_any (T := "tuple") ⟨_,h5,rfl⟩ slot_tuple_getitem.lookup (getItem_tuple (IsTup.mk' h5) (by exact zh22 hk2 hlim h2) (by exact zh23 hk) (seqIndex_neg (by exact Int.lt_of_not_ge hk) (by exact zq4 hk2 hl)) e1 (Post.here S e2 h4)) hs
   ·cases h3
 ·obtain ⟨a,kvs',rfl,rfl,h4,h5,h6⟩:=dictOf_is S ho h1
  obtain ⟨u,e1,e2⟩:=h6.get h2
  exact tail_any (T := "dict") h5.typeIs slot_dict_getitem.lookup (wpAny_getItem_of (int_is k t) h5.mapOf e1 ⟨H,σ,_,.refl H,S,e2,⟨_,_,rfl⟩,h3⟩) hs
theorem tri_sub {value slice:Expr} {pos:Pos} {P1 P2:PT V} (h1:Tri prog w h₀ b sc env RV (eval value env) P1) (h2:Tri prog w h₀ b sc env RV (eval slice env) P2) (hs:∀ u v,subscripted slice false u v=operate [u,v] (getItem u v)) :
  Tri prog w h₀ b sc env RV (eval (.Subscript value slice pos) env) (fun σ Q=>P1 σ fun x σ1=>P2 σ1 fun y σ2=>idxP x y σ2 Q):=fun A hA σ Q s H hP S=>by
 refine Subscript_ (h1.use hA hP S fun u x σ1 s1 H1 g1 e1 r1 q1 S1=>h2.use hA q1 S1 fun v y σ2 s2 H2 g2 e2 r2 q2 S2 => ?_)
 exact wp_from (g1.trans g2) (e1.trans e2) (wp_idx S2 (r1.mono g2.fz) r2 q2 (hs u v))
theorem slicePick_upto' (items:Array Value) (k:Nat):slicePick items none (some (k:Int)) none=(items.toList.take k).toArray:=by
 by_cases h:k≤items.size
 ·exact slicePick_upto items k h
 ·have e:slicePick items none (some (k:Int)) none=slicePick items none (some (items.size:Int)) none:=by
   unfold slicePick sliceBounds
   have h1:¬ ((k:Int)<0):=by exact zq5
   have h2:¬ ((items.size:Int)<0):=by exact zq5
   simp only [h1,h2,if_false]
   have:min (k:Int) (items.size:Int)=min (items.size:Int) (items.size:Int):=by exact zh25 h
   simp_all
  rw [e,slicePick_upto items items.size (Nat.le_refl _)]
  rw [List.take_of_length_le (by simp),List.take_of_length_le (by simp;exact Nat.le_of_lt (Nat.lt_of_not_le h))]
theorem wp_cut {m:Bool} {c:Cut} {k:Int} {o:V} {u vl vu vs:Value} {Q:V→MS→Prop} {value slice:Expr} {ops:List Value} (S:St prog w h₀ sc env H σ s.heap) (ho:ValIs H o u) (hQ:cutP m c o k σ Q)
  (hc:match c with | .upto=>vl= .none∧(∃ t,vu= .int k t)∧vs= .none | .from_=>(∃ t,vl= .int k t)∧vu= .none∧vs= .none | .rev=>vl= .none∧vu= .none∧∃ t,vs= .int (-1) t)
  (hs:∀ a,subscripted slice false u (.ref a)=operate (ops.map fun x=>x) (getItem u (.ref a))∨True)
  (hs:subscripted slice false u (.ref s.heap.objs.size)=operate ops (getItem u (.ref s.heap.objs.size))) :
  wpAny (model prog w) A (subscriptTail value slice u (.ref s.heap.objs.size)) (Post prog w h₀ sc env RV H s Q) noE {s with heap:=s.heap.push {cls:= .type "slice",data:= .fields #[vl,vu,vs]}}:=by
 obtain ⟨l,l',h1,h2,h3,h4⟩:=hQ
 obtain ⟨a,it,n,rfl,i1,a1,z1⟩:=listOf_len S ho h1
 have i1':IsL (s.heap.push {cls:= .type "slice",data:= .fields #[vl,vu,vs]}) a it n:=i1.push _
 have hsl:=Heap.IsSliceOf.new s.heap vl vu vs
 have fin:∀ lo hi st,IsPart vl lo→IsPart vu hi→IsPart vs st→st≠some 0→AllIs H l' (slicePick it lo hi st).toList →
   wpAny (model prog w) A (subscriptTail value slice (.ref a) (.ref s.heap.objs.size)) (Post prog w h₀ sc env RV H s Q) noE {s with heap:=s.heap.push {cls:= .type "slice",data:= .fields #[vl,vu,vs]}}:=fun lo hi st p1 p2 p3 hz hall=>by
  refine tail_any (T := "list") ⟨_,i1',rfl⟩ slot_list_getitem.lookup (wpAny_getItem_list_slice (IsL.isList i1') hsl p1 p2 p3 hz ?_ (by rw [z1];exact Nat.le_trans h2 lim_le)) hs
  have:=fin_mkL (s:={s with heap:=(s.heap.push {cls:= .type "slice",data:= .fields #[vl,vu,vs]}).push {cls:= .type "list",data:= .seq (slicePick it lo hi st)}}) (m:=m) (Q:=Q) (l:=l') ((S.push _).push _) (IsL.new (s.heap.push {cls:= .type "slice",data:= .fields #[vl,vu,vs]}) _)
   (S.heap.out_ge (by rw [Heap.size_push];exact zq6)) hall h4
  exact this.from (.refl H) (.mk s _ _)
 cases c with
 | upto =>
  obtain ⟨rfl,⟨t,rfl⟩,rfl⟩:=hc
  simp only [cutL] at h3
  split at h3
  ·rename_i hk
   cases h3
   obtain ⟨j,rfl⟩:=Int.eq_ofNat_of_zero_le hk
   refine fin none (some (j:Int)) none .none (.int _ t) .none (by simp) ?_
   rw [slicePick_upto'];exact a1.take j
  ·cases h3
 | from_ =>
  obtain ⟨⟨t,rfl⟩,rfl,rfl⟩:=hc
  simp only [cutL] at h3
  split at h3
  ·rename_i hk
   cases h3
   obtain ⟨j,rfl⟩:=Int.eq_ofNat_of_zero_le hk.1
   refine fin (some (j:Int)) none none (.int _ t) .none .none (by simp) ?_
   rw [slicePick_from it j (by exact zh27 hk z1)];exact a1.drop j
  ·cases h3
 | rev =>
  obtain ⟨rfl,rfl,t,rfl⟩:=hc
  simp only [cutL] at h3
  cases h3
  refine fin none none (some (-1)) .none .none (.int _ t) (by simp) ?_
  rw [W.krv_pick]
  exact a1.reverse
theorem tri_upto {m:Bool} {value e:Expr} {p pos:Pos} {P1 P2:PT V} (h1:Tri prog w h₀ b sc env RV (eval value env) P1) (h2:Tri prog w h₀ b sc env RV (eval e env) P2) :
  Tri prog w h₀ b sc env RV (eval (.Subscript value (.Slice none (some e) none p) pos) env) (fun σ Q=>P1 σ fun x σ1=>P2 σ1 fun y σ2=>∃ k,y= .int k∧cutP m .upto x k σ2 Q):=fun A hA σ Q s H hP S=>by
 refine Subscript_ (h1.use hA hP S fun u x σ1 s1 H1 g1 e1 r1 q1 S1=>wpAny_Slice (wpAny_pure (h2.use hA q1 S1 fun v y σ2 s2 H2 g2 e2 r2 q2 S2=>wpAny_pure ?_)))
 obtain ⟨k,rfl,q2⟩:=q2
 cases r2 with | int _ t =>
 exact wp_from (g1.trans g2) (e1.trans e2) (wp_cut (ops:=[.ref s2.heap.objs.size,u]) S2 (r1.mono g2.fz) q2 ⟨rfl,⟨t,rfl⟩,rfl⟩ (fun _=> .inr trivial) rfl)
theorem tri_from {m:Bool} {value e:Expr} {p pos:Pos} {P1 P2:PT V} (h1:Tri prog w h₀ b sc env RV (eval value env) P1) (h2:Tri prog w h₀ b sc env RV (eval e env) P2) :
  Tri prog w h₀ b sc env RV (eval (.Subscript value (.Slice (some e) none none p) pos) env) (fun σ Q=>P1 σ fun x σ1=>P2 σ1 fun y σ2=>∃ k,y= .int k∧cutP m .from_ x k σ2 Q):=fun A hA σ Q s H hP S=>by
 refine Subscript_ (h1.use hA hP S fun u x σ1 s1 H1 g1 e1 r1 q1 S1=>wpAny_Slice (h2.use hA q1 S1 fun v y σ2 s2 H2 g2 e2 r2 q2 S2=>wpAny_pure (wpAny_pure ?_)))
 obtain ⟨k,rfl,q2⟩:=q2
 cases r2 with | int _ t =>
 exact wp_from (g1.trans g2) (e1.trans e2) (wp_cut (ops:=[.ref s2.heap.objs.size,u]) S2 (r1.mono g2.fz) q2 ⟨⟨t,rfl⟩,rfl,rfl⟩ (fun _=> .inr trivial) rfl)
theorem tri_rev {m:Bool} {value:Expr} {p pos p1 p2:Pos} {k1:Nat} {P1:PT V} (h1:Tri prog w h₀ b sc env RV (eval value env) P1) :
  Tri prog w h₀ b sc env RV (eval (.Subscript value (.Slice none none (some (.UnaryOp .USub (.Constant (.int 1) k1 p1) p2)) p) pos) env) (fun σ Q=>P1 σ fun x σ1=>cutP m .rev x 0 σ1 Q):=fun A hA σ Q s H hP S=>by
 refine Subscript_ (h1.use hA hP S fun u x σ1 s1 H1 g1 e1 r1 q1 S1=>wpAny_Slice (wpAny_pure (wpAny_pure (wpAny_UnaryOp (wpAny_Constant_int (PyProof.Rows.neg_int ?_))))))
 have:=wp_cut (A:=A) (value:=value) (slice:= .Slice none none (some (.UnaryOp .USub (.Constant (.int 1) k1 p1) p2)) p) (ops:=[u,.ref s1.heap.objs.size]) (s:={s1 with toks:=s1.toks+1+1}) (vl:= .none) (vu:= .none) (vs:= .int (-1) (s1.toks+1)) S1 r1 q1 ⟨rfl,rfl,_,rfl⟩ (fun _=> .inr trivial) rfl
 exact wp_from g1 (e1.trans (.mk _ _ _)) this
theorem wp_setItem_list {l:Addr} {items:Array Value} {n:Nat} {k:Int} {t:Tok} {v:Value} {Q:Unit→Shared→Prop} {E:Value→Shared→Prop} (hl:IsL s.heap l items n)
  (h0:0≤k) (hfit:k<2 ^ 63) (hn:k<items.size)
  (hQ:Q () {s with heap:=s.heap.update l (Obj.mapSeq (·.setIfInBounds k.toNat v))}) :
  wpAny (model prog w) A (setItem (.ref l) (.int k t) v) Q E s:=by
 have hl':=IsL.isList hl
 unfold setItem
 try with_reducible refine wpAny_holding ?_
 first | refine wpAny_bind (wpAny_pure ?_) | skip
 refine wpAny_bind (wpAny_sequenceKey hl'.typeIs (by decide) ?_)
 refine wpAny_bind (wpAny_callSpecial?_slot (name:=Str.ofString "__setitem__") hl'.typeIs slot_list_setitem
  (wpAny_call_entry slot_list_setitem hl'.typeIs entry_list_setitem ?_ (args_list_setitem _ _ _)))
 show wpAny _ _ (Builtin.List.listSubscript? (.int k t) >>= _) _ _ s
 refine wpAny_bind (wpAny_listSubscript_int (fitsIndex_of h0 hfit) ?_)
 clear hfit
 obtain ⟨j,rfl⟩:=Int.eq_ofNat_of_zero_le h0
 have hj:j<items.size:=by exact Int.ofNat_lt.mp hn
 have hx':items[j]?=some items[j]:=Array.getElem?_eq_getElem hj
 show wpAny _ _ ((seqItemAt l j >>= fun r=>pure (r.map (j,·))) >>= _) _ _ s
 refine wpAny_bind (wpAny_bind (wpAny_seqItemAt hl rfl (wpAny_pure ?_)))
 rw [hx']
 show wpAny _ _ (setSeqItemAt l j v >>= _) _ _ s
 refine wpAny_bind (wpAny_setSeqItemAt hl rfl ?_)
 first
  | exact wpAny_bind (wpAny_pure (wpAny_pure ⟨.none,rfl,wpAny_pure hQ⟩))
  | exact wpAny_pure ⟨.none,rfl,wpAny_pure hQ⟩
theorem St.updList {l l':List V} {a:Addr} {items items':Array Value} {n:Nat} {f:Array Value→Array Value} (S:St prog w h₀ sc env H σ s.heap) (ha:σ.lv a=some (.list l)) (hl:IsL s.heap a items n) (hf:f items=items')
  (hv:AllIs H l' items'.toList):∃ H',Grow H H'∧St prog w h₀ sc env H' {σ with lv:=updL σ.lv a (some (.list l'))} (s.heap.update a (Obj.mapSeq f)):=by
 have hH:=S.live a _ ha
 have hm:=fz_set (H:=H) (a:=a) (y:= .lv (.list l')) (fun o=>neo hH rfl)
 refine ⟨H.set a (.lv (.list l')),Grow.setLv hH,S.updLv hH (fun c o hc _ _ e=>(Heap.get?_update_ne _ _ _ _ hc).trans e) (fun d hd => ?_) ?_⟩
 ·obtain ⟨o,e⟩:=S.heap.sub d a hd
  have:d≠a:=fun q=>by rw [q,hH] at hd;cases hd
  exact ⟨o,(Heap.get?_update_ne _ _ _ _ this).trans e⟩
 ·exact ⟨items',_,hf▸IsL.update hl f,hv.mono hm⟩
theorem St.updDict {kvs kvs':List (Int×V)} {a:Addr} {ps:List (Int×Value)} {h':Heap} (S:St prog w h₀ sc env H σ s.heap) (ha:σ.lv a=some (.dict kvs)) (hd:h'.DictOf (intKind prog w) a ps) (hs:Heap.SameBut a s.heap h')
  (hv:PairsIs H kvs' ps):∃ H',Grow H H'∧St prog w h₀ sc env H' {σ with lv:=updL σ.lv a (some (.dict kvs'))} h':=by
 have hH:=S.live a _ ha
 have hm:=fz_set (H:=H) (a:=a) (y:= .lv (.dict kvs')) (fun o=>neo hH rfl)
 refine ⟨H.set a (.lv (.dict kvs')),Grow.setLv hH,S.updLv hH (fun c o hc _ _ e=>(hs.2 c hc).trans e) (fun d hd => ?_) ?_⟩
 ·obtain ⟨o,e⟩:=S.heap.sub d a hd
  have:d≠a:=fun q=>by rw [q,hH] at hd;cases hd
  exact ⟨o,(hs.2 d this).trans e⟩
 ·exact ⟨ps,hd,hv.mono hm⟩
theorem live_list {a:Addr} {l:List V} (S:St prog w h₀ sc env H σ s.heap) (ha:σ.lv a=some (.list l)):∃ items n,IsL s.heap a items n∧AllIs H l items.toList∧items.size=l.length:=by
 obtain ⟨items,n,h1,h2⟩:=S.heap.lv a _ (S.live a _ ha)
 exact ⟨items,n,h1,h2,by rw [h2.length,Array.length_toList]⟩
theorem live_dict {a:Addr} {l:List (Int×V)} (S:St prog w h₀ sc env H σ s.heap) (ha:σ.lv a=some (.dict l)):∃ ps,s.heap.DictOf (intKind prog w) a ps∧PairsIs H l ps:=S.heap.lv a _ (S.live a _ ha)
theorem wp_put {o i x:V} {u v r:Value} {Q:Unit→MS→Prop} (S:St prog w h₀ sc env H σ s.heap) (ho:ValIs H o u) (hi:ValIs H i v) (hx:ValIs H x r) (hQ:putP o i x σ Q) :
  wpAny (model prog w) A (setItem u v r) (fun _ s'=>Post prog w h₀ sc env RU H s Q () s') noE s:=by
 obtain ⟨a,k,rfl,rfl,hQ⟩:=hQ
 cases ho
 cases hi with | int _ t =>
 have hlim:lim=1000000:=rfl
 rcases hQ with ⟨l,h1,h2,h3,h4,h5⟩ | ⟨kvs,h1,h2,h3⟩
 ·obtain ⟨items,n,hl,hv,hz⟩:=live_list S h1
  refine wp_setItem_list hl h2 (by exact zh28 h3 hlim h4) (by exact lt_of_lt_of_eq h3 (congrArg Nat.cast (id (Eq.symm hz)))) ?_
  obtain ⟨H',g,S'⟩:=S.updList (f:=(·.setIfInBounds k.toNat r)) h1 hl rfl (l':=l.set k.toNat x) (by rw [Array.toList_setIfInBounds];exact hv.set _ hx)
  exact ⟨H',_,(),g,S',trivial,⟨_,_,rfl⟩,h5⟩
 ·obtain ⟨ps,hd,hv⟩:=live_dict S h1
  refine wpAny_setItem_pairs (int_is k t) hd (fun h' hd' hs' => ?_) (by rw [←hv.length];have e:sizeLine=16777216:=(by decide);exact zh29 h2 hlim e)
  obtain ⟨H',g,S'⟩:=S.updDict h1 hd' hs' (hv.stored k hx)
  exact ⟨H',_,(),g,S',trivial,⟨_,_,rfl⟩,h3⟩
end
end Mine
namespace Mine
inductive LMeth where
 | append | pop | reverse | extend
noncomputable def LMeth.name:LMeth→Str
 | .append => "append" | .pop => "pop" | .reverse => "reverse" | .extend => "extend"
noncomputable def LMeth.id:LMeth→String
 | .append => "list.append" | .pop => "list.pop" | .reverse => "list.reverse" | .extend => "list.extend"
noncomputable def one (k:V→Prop):List V→Prop
 | [x]=>k x
 | _=>False
theorem one_inv {k:V→Prop}:∀ {xs:List V},one k xs→∃ x,xs=[x]∧k x
 | [x],h=>⟨x,rfl,h⟩
theorem one_mono {k k':V→Prop} (h:∀ x,k x→k' x):∀ {xs:List V},one k xs→one k' xs
 | [x],q=>h x q
noncomputable def nil0 (p:Prop):List V→Prop
 | []=>p
 | _=>False
theorem nil0_inv {p:Prop}:∀ {xs:List V},nil0 p xs→xs=[]∧p
 | [],h=>⟨rfl,h⟩
noncomputable def lmB (m:LMeth) (a:Addr) (l xs:List V) (σ:MS) (Q:V→MS→Prop):Prop :=
 match m with
 | .append=>one (fun x=>l.length<lim∧Q .none ⟨σ.loc,updL σ.lv a (some (.list (l++[x])))⟩) xs
 | .pop=>nil0 (l.length≤lim∧∃ x,l.getLast?=some x∧Q x ⟨σ.loc,updL σ.lv a (some (.list l.dropLast))⟩) xs
 | .reverse=>nil0 (l.length≤lim∧Q .none ⟨σ.loc,updL σ.lv a (some (.list l.reverse))⟩) xs
 | .extend=>one (fun x=>∃ l',A3 (listOf σ x=some l') (l.length+l'.length≤lim) (Q .none ⟨σ.loc,updL σ.lv a (some (.list (l++l')))⟩)) xs
inductive lmethP (m:LMeth) (o:V) (xs:List V) (σ:MS) (Q:V→MS→Prop):Prop
 | mk (a:Addr) (l:List V) (h1:o= .ref a) (h2:σ.lv a=some (.list l)) (h:lmB m a l xs σ Q):lmethP m o xs σ Q
noncomputable def isLiveL (o:V) (σ:MS):Prop:=E2 fun a l=>o= .ref a∧σ.lv a=some (.list l)
noncomputable def noStar (es:List Expr):Bool:=es.all fun e=>e.ctorIdx != 22
noncomputable def evs (es:List Expr) (env:Env):List (Bool×Sem Value):=es.map fun e=>(false,eval e env)
theorem AllIs.dropLast {H:Hm} {l:List V} {vs:List Value} (h:AllIs H l vs):AllIs H l.dropLast vs.dropLast:=by
 rw [List.dropLast_eq_take,List.dropLast_eq_take,h.length];exact h.take _
theorem getLast_at {α:Type} {l:List α} {x:α} (h:l.getLast?=some x):l[l.length - 1]?=some x:=by rw [←List.getLast?_eq_getElem?];exact h
theorem eraseLast {α:Type}:∀ l:List α,l.eraseIdx (l.length - 1)=l.dropLast
 | []=>rfl
 | [x]=>rfl
 | x::y::r=>by
  have:=eraseLast (y::r)
  simp only [List.length_cons,Nat.add_sub_cancel] at this ⊢
  rw [List.eraseIdx_cons_succ,this];rfl
theorem starEach1 {e:Expr} {r:List Expr} {env:Env} (h:(e.ctorIdx != 22)=true):starEach (e::r) env=(false,eval e env)::starEach r env:=by
 cases e<;>first | rfl | exact (Bool.false_ne_true h).elim
theorem starEach_plain (env:Env) {es:List Expr} (h:noStar es=true):starEach es env=evs es env:=by
 induction es with
 | nil=>rfl
 | cons e r ih=>exact (starEach1 (Bool.and_eq_true_iff.mp h).1).trans (congrArg _ (ih (Bool.and_eq_true_iff.mp h).2))
theorem backTo_evs (pos:Pos) (env:Env) (es:List Expr):backTo pos (evs es env)=evs es env:=by
 induction es with
 | nil=>rfl
 | cons e r ih=>exact congrArg (List.cons (false,eval e env)) ih
theorem evs_any (env:Env) (es:List Expr):(evs es env).any (·.1)=false:=by
 induction es with
 | nil=>rfl
 | cons e r ih=>simp only [evs,List.map_cons,List.any_cons,Bool.false_or];exact ih
theorem evs_form (n:Nat) (env:Env) (es:List Expr) (h:n<30):methodCallForm n (evs es env) []=true:=by
 unfold methodCallForm
 have:(evs es env).all (fun x => !x.1)=true:=by
  induction es with
  | nil=>rfl
  | cons e r ih=>simp only [evs,List.map_cons,List.all_cons,Bool.not_false,Bool.true_and];exact ih
 rw [this]
 simp [h]
noncomputable def attrPlain (e:Expr):Bool:=e.ctorIdx != 16
theorem attrBase {o:Expr} {attr:Str} {env:Env} {whole:Sem Value} (h:attrPlain o=true):attributeBase o attr env whole=whole:=by
 cases o<;>first | rfl | exact (Bool.false_ne_true h).elim
section
variable {prog:Program} {w:World} {h₀:Heap} {sc:Scope} {env:Env} {b:Nat} {A:Around} {H H':Hm} {s s':Shared} {σ:MS}
theorem wp_methodCall {M:Model} {o:Expr} {name:Str} {apos pos:Pos} {es:List Expr} {Q:Value→Shared→Prop} {E:Value→Shared→Prop} (ho:attrPlain o=true) (hs:noStar es=true) (hn:es.length<30) (hl:(apos.endLine == pos.line)=true)
  (h:wpAny M A (eval o env) (fun ov s₁=>∀ pl,wpAny M A (getMethod ov name pl) (fun fx s₂=>wpAny M A (callWith pos fx.1 fx.2 (evs es env) []) Q E s₂) E s₁) E s) :
  wpAny M A (eval (.Call (.Attribute o name apos) es [] pos) env) Q E s:=by
 rw [arm_eval_Call,attrBase ho,starEach_plain env hs,backTo_evs]
 refine wpAny_bind (wpAny_mono h (fun ov s₁ h₁=>wpAny_bind (wpAny_standAt ?_)) fun _ _ x=>x)
 unfold methodCall calleeOf methodCallPos
 have hf:methodCallForm (es.length+([]:List Keyword).length) (evs es env) (backToKw pos (keywordEach [] env))=true:=evs_form _ env es hn
 rw [hf]
 refine wpAny_bind (wpAny_holding ?_)
 simp only [if_true]
 refine wpAny_mono (h₁ _) (fun fx s₂ h₂ => ?_) fun _ _ x=>x
 obtain ⟨f,first⟩:=fx
 dsimp only
 rw [hl]
 exact wpAny_bind (wpAny_pure h₂)
theorem tri_evs_nil:Tri prog w h₀ b sc env RVs (spliced (evs [] env)) (fun σ Q=>Q [] σ):=fun _ _ _ _ _ _ hP S=>spliced_nil (Post.here S .nil hP)
theorem tri_evs_cons {e:Expr} {r:List Expr} {P1:PT V} {P2:PT (List V)} (h1:Tri prog w h₀ b sc env RV (eval e env) P1) (h2:Tri prog w h₀ b sc env RVs (spliced (evs r env)) P2) :
  Tri prog w h₀ b sc env RVs (spliced (evs (e::r) env)) (fun σ Q=>P1 σ fun x σ1=>P2 σ1 fun xs=>Q (x::xs)):=fun A hA σ Q s H hP S=>by
 refine spliced_cons (h1.use hA hP S fun u x σ1 s1 H1 g1 e1 r1 q1 S1=>wpAny_mono (h2 A hA σ1 _ s1 H1 q1 S1) (fun us s2 p => ?_) fun _ _ x=>x)
 obtain ⟨H2,σ2,xs,g2,S2,r2,e2,q2⟩:=p
 exact ⟨H2,σ2,x::xs,g1.trans g2,S2,.cons (r1.mono g2.fz) r2,e1.trans e2,q2⟩
theorem tri_evsT {pos:Pos} {es:List Expr} {P:PT (List V)} (hs:noStar es=true) (h:Tri prog w h₀ b sc env RVs (spliced (evs es env)) P):Tri prog w h₀ b sc env RVs (spliced (backTo pos (starEach es env))) P:=by
 rw [starEach_plain env hs,backTo_evs];exact h
theorem wp_evalArgs {f:Value} {es:List Expr} {P:PT (List V)} {Q1:List V→MS→Prop} {F:Args→Shared→Prop} {E:Value→Shared→Prop} (h:Tri prog w h₀ b sc env RVs (spliced (evs es env)) P) (hA:AOk b A) (hP:P σ Q1) (S:St prog w h₀ sc env H σ s.heap)
  (k:∀ us l σ1 s1 H1,Grow H H1→Same s s1→AllIs H1 l us→Q1 l σ1→St prog w h₀ sc env H1 σ1 s1.heap→F ⟨us,[]⟩ s1):wpAny (model prog w) A (evalArgs f true (evs es env) []) F E s:=by
 cases es with
 | nil =>
  unfold evalArgs
  show wpAny (model prog w) A (spliced (evs [] env) >>= _) F E s
  refine wpAny_bind (h.use hA hP S fun us l σ1 s1 H1 g1 e1 r1 q1 S1=>wpAny_bind (wpAny_pure (wpAny_holding ?_)))
  exact wpAny_bind (wpAny_pure (wpAny_bind (wpAny_pure (wpAny_pure (k us l σ1 s1 H1 g1 e1 r1 q1 S1)))))
 | cons e r=>exact evalArgs_plain (h.use hA hP S fun us l σ1 s1 H1 g1 e1 r1 q1 S1=>k us l σ1 s1 H1 g1 e1 r1 q1 S1)
noncomputable def KeepOk (prog:Program) (w:World) (h₀:Heap) (f:Value):Prop :=
 ∀ h:Heap,(∀ a o,h₀.get? a=some o→h.get? a=some o)→∃ k,(k=Keeper.frame∨k=Keeper.machine∨k=Keeper.boundFrame)∧Looks (model prog w) h (keeperOf f) k
theorem keep_builtin (id:String):KeepOk prog w h₀ (.builtin id):=fun h _=>⟨.machine,.inr (.inl rfl),Looks.of_pure rfl⟩
theorem keep_type (id:String):KeepOk prog w h₀ (.type id):=fun h _=>⟨.machine,.inr (.inl rfl),Looks.of_pure rfl⟩
theorem keep_K {K:Frag} {f:Value} (X:K.In h₀) (hk:keepIn K f=true):KeepOk prog w h₀ f:=fun h st=>keeps_K hk h (X.keeps st)
theorem wp_callWith {f:Value} {first:List Value} {pos:Pos} {es:List Expr} {P:PT (List V)} {Q1:List V→MS→Prop} {F:Value→Shared→Prop} {E:Value→Shared→Prop} (h:Tri prog w h₀ b sc env RVs (spliced (evs es env)) P) (hk:KeepOk prog w h₀ f)
  (hA:AOk b A) (hP:P σ Q1) (S:St prog w h₀ sc env H σ s.heap)
  (k:∀ us l σ1 s1 H1,Grow H H1→Same s s1→AllIs H1 l us→Q1 l σ1→St prog w h₀ sc env H1 σ1 s1.heap→wpAny (model prog w) A (call f (first++us)) F E s1) :
  wpAny (model prog w) A (callWith pos f first (evs es env) []) F E s:=by
 refine callWith_of (P:=fun h=>∀ a o,h₀.get? a=some o→h.get? a=some o) (by rw [evs_any];rfl) hk ?_
 exact wp_evalArgs h hA hP S fun us l σ1 s1 H1 g1 e1 r1 q1 S1=>⟨S1.heap.stays,k us l σ1 s1 H1 g1 e1 r1 q1 S1⟩
theorem wp_nameCall {x:Str} {px pos:Pos} {u:Value} {es:List Expr} {P:PT (List V)} {Q1:List V→MS→Prop} {F:Value→Shared→Prop} (E:EnvOk sc env) (hx:sc.names.lookup x=some .globalImplicit) (h1:(x == ("__debug__":Str))=false) (G:GV h₀ x u)
  (hs:noStar es=true) (h:Tri prog w h₀ b sc env RVs (spliced (evs es env)) P) (hk:KeepOk prog w h₀ u) (hA:AOk b A) (hP:P σ Q1) (S:St prog w h₀ sc env H σ s.heap)
  (k:∀ us l σ1 s1 H1,Grow H H1→Same s s1→AllIs H1 l us→Q1 l σ1→St prog w h₀ sc env H1 σ1 s1.heap→wpAny (model prog w) A (call u us) F noE s1) :
  wpAny (model prog w) A (eval (.Call (.Name x px) es [] pos) env) F noE s:=by
 show wpAny (model prog w) A (eval (.Name x px) env >>= fun f=>callWith pos f [] (backTo pos (starEach es env)) (backToKw pos (keywordEach [] env))) F noE s
 rw [starEach_plain env hs,backTo_evs]
 refine wpAny_bind (glob_name E hx h1 G S.heap ?_)
 exact wp_callWith h hk hA hP S k
theorem getMethod_live {a:Addr} {l:List V} {m:LMeth} {pl:Sem Bool} {F:Value×List Value→Shared→Prop} {E:Value→Shared→Prop} (S:St prog w h₀ sc env H σ s.heap) (ha:σ.lv a=some (.list l))
  (h:F (.builtin m.id,[.ref a]) s):wpAny (model prog w) A (getMethod (.ref a) m.name pl) F E s:=by
 obtain ⟨items,n,hl,hv,hs⟩:=live_list S ha
 cases m
 ·exact getMethod_builtin ⟨_,hl,rfl⟩ PySem.F.plainAttrs_list PySem.F.slot_list_append PySem.F.type_list_append (fun c e=>by cases e;exact ⟨_,hl,rfl⟩) h
 ·exact getMethod_builtin ⟨_,hl,rfl⟩ PySem.F.plainAttrs_list PySem.F.slot_list_pop PySem.F.type_list_pop (fun c e=>by cases e;exact ⟨_,hl,rfl⟩) h
 ·exact getMethod_builtin ⟨_,hl,rfl⟩ PySem.F.plainAttrs_list PySem.F.slot_list_reverse PySem.F.type_list_reverse (fun c e=>by cases e;exact ⟨_,hl,rfl⟩) h
 ·exact getMethod_builtin ⟨_,hl,rfl⟩ PySem.F.plainAttrs_list PySem.F.slot_list_extend PySem.F.type_list_extend (fun c e=>by cases e;exact ⟨_,hl,rfl⟩) h
theorem wp_lmeth {m:LMeth} {xs:List V} {us:List Value} {a:Addr} {Q:V→MS→Prop} (S:St prog w h₀ sc env H σ s.heap) (hx:AllIs H xs us) (hQ:lmethP m (.ref a) xs σ Q) :
  wpAny (model prog w) A (call (.builtin m.id) ([.ref a]++us)) (Post prog w h₀ sc env RV H s Q) noE s:=by
 obtain ⟨a',l,e,ha,hQ⟩:=hQ
 cases e
 obtain ⟨items,n,hl,hv,hz⟩:=live_list S ha
 have e:sizeLine=16777216:=by decide
 have e':lim=1000000:=rfl
 have inv:∀ {k:V→Prop},one k xs→∃ x u,us=[u]∧ValIs H x u∧k x:=fun {k} h=>by
  obtain ⟨x,rfl,h⟩:=one_inv h
  cases hx with | cons h1 hx =>
  cases hx
  exact ⟨x,_,rfl,h1,h⟩
 have inN:∀ {p:Prop},nil0 p xs→us=[]∧p:=fun {p} h=>by
  obtain ⟨rfl,h⟩:=nil0_inv h
  cases hx
  exact ⟨rfl,h⟩
 cases m with
 | append =>
  obtain ⟨x,u,rfl,h1,hQ⟩:=inv hQ
  obtain ⟨H',g,S'⟩:=S.updList (f:=fun xs=>xs.push _) ha hl rfl (l':=l++[_]) (by rw [Array.toList_push];exact hv.append (.cons h1 .nil))
  exact call_meets F.slot_list_append ⟨_,hl,rfl⟩ F.entry_list_append (F.args_list_append_2 _ _) (list_append a items n _ (by omega)) ⟨hl,H',_,.none,g,S',.none,⟨_,_,rfl⟩,hQ.2⟩
 | pop =>
  obtain ⟨rfl,q1,x,q2,q3⟩:=inN hQ
  obtain ⟨u,e1,e2⟩:=hv.get (getLast_at q2)
  rw [Array.getElem?_toList,←hz] at e1
  obtain ⟨H',g,S'⟩:=S.updList (f:=fun xs=>xs.eraseIdxIfInBounds (items.size - 1)) (items':=items.pop) ha hl (by
   rw [Array.eraseIdxIfInBounds_eq]
   have:items.size - 1<items.size:=(Array.getElem?_eq_some_iff.mp e1).1
   rw [dif_pos this]
   rw [←Array.toList_inj,Array.toList_eraseIdx,Array.toList_pop,←Array.length_toList,eraseLast]) (l':=l.dropLast) (by rw [Array.toList_pop];exact hv.dropLast)
  exact call_meets F.slot_list_pop ⟨_,hl,rfl⟩ F.entry_list_pop (F.args_list_pop_1 _) (PySem.MeetsSeq.list_pop_last a items n u e1 (by exact zh30 e' e hz q1)) ⟨hl,H',_,x,g,S',e2.mono g.fz,⟨_,_,rfl⟩,q3⟩
 | reverse =>
  obtain ⟨rfl,hQ⟩:=inN hQ
  obtain ⟨H',g,S'⟩:=S.updList (f:=fun xs=>xs.reverse) ha hl rfl (l':=l.reverse) (by rw [Array.toList_reverse];exact hv.reverse)
  exact call_meets F.slot_list_reverse ⟨_,hl,rfl⟩ F.entry_list_reverse (F.args_list_reverse_1 _) (AutoSeq1.list_reverse_list_0 a items n (by omega)) ⟨hl,H',_,.none,g,S',.none,⟨_,_,rfl⟩,hQ.2⟩
 | extend =>
  obtain ⟨x,u,rfl,h1,l',q1,q2,q3⟩:=inv hQ
  obtain ⟨c,it2,n2,rfl,i2,v2,z2⟩:=listOf_len S h1 q1
  obtain ⟨H',g,S'⟩:=S.updList (f:=fun xs=>xs++it2) ha hl rfl (l':=l++l') (by rw [Array.toList_append];exact hv.append v2)
  exact call_meets F.slot_list_extend ⟨_,hl,rfl⟩ F.entry_list_extend (F.args_list_extend_2 _ _) (AutoSeq1.list_extend_list_list_0 a items n c it2 n2 (by simp [Builtin.List.listTooLong];omega) (by exact zh31 q2 e' e hz) (by exact zh32 q2 e' e hz z2))
   ⟨hl,i2,H',_,.none,g,S',.none,⟨_,_,rfl⟩,q3⟩
theorem tri_lmeth {o:Expr} {m:LMeth} {apos pos:Pos} {es:List Expr} {P:PT V} {P2:PT (List V)} (ho:attrPlain o=true) (hs:noStar es=true) (hn:es.length<30) (hl:(apos.endLine == pos.line)=true)
  (h1:Tri prog w h₀ b sc env RV (eval o env) P) (h2:Tri prog w h₀ b sc env RVs (spliced (evs es env)) P2) :
  Tri prog w h₀ b sc env RV (eval (.Call (.Attribute o m.name apos) es [] pos) env) (fun σ Q=>P σ fun x σ1=>isLiveL x σ1∧P2 σ1 fun xs σ2=>lmethP m x xs σ2 Q):=fun A hA σ Q s H hP S=>by
 refine wp_methodCall ho hs hn hl (h1.use hA hP S fun u x σ1 s1 H1 g1 e1 r1 q1 S1 pl => ?_)
 obtain ⟨⟨a,l,rfl,ha⟩,q1⟩:=q1
 cases r1
 refine getMethod_live S1 ha ?_
 refine wp_callWith h2 (keep_builtin _) hA q1 S1 fun us xs σ2 s2 H2 g2 e2 r2 q2 S2 => ?_
 exact wp_from (g1.trans g2) (e1.trans e2) (wp_lmeth S2 r2 q2)
end
end Mine
namespace Mine
abbrev LM:=Addr→Option MO
abbrev PC:=List V→LM→(V→LM→Prop)→Prop
noncomputable def enterH (H:Hm) (h:Heap):Hm:=fun a=>match H a with
 | .own=> .pin ((h.get? a).getD default)
 | s=>s
noncomputable def leaveH (H H':Hm):Hm:=fun a=>match H a with
 | .own=> .own
 | _=>match H' a with
  | .own=> .out
  | y=>y
open Classical in
noncomputable def ownAll (H:Hm) (as:Addr→Prop):Hm:=fun a=>if as a then .own else H a
section
variable {prog:Program} {w:World} {h₀:Heap} {sc:Scope} {env:Env} {b:Nat} {A:Around} {H H':Hm} {s s':Shared} {σ:MS}
theorem enterH_fz {h:Heap} {a:Addr} {o:Obj}:enterH H h a= .fz o↔H a= .fz o:=by
 unfold enterH;cases e:H a<;>simp
theorem enterH_lv {h:Heap} {a:Addr} {x:MO}:enterH H h a= .lv x↔H a= .lv x:=by
 unfold enterH;cases e:H a<;>simp
theorem enterH_sub {h:Heap} {a c:Addr}:enterH H h a= .sub c↔H a= .sub c:=by
 unfold enterH;cases e:H a<;>simp
theorem enterH_out {h:Heap} {a:Addr}:enterH H h a= .out↔H a= .out:=by
 unfold enterH;cases e:H a<;>simp
theorem enterH_own {h:Heap} {a:Addr}:enterH H h a≠ .own:=by
 unfold enterH;cases e:H a<;>simp
theorem enterH_pin {h:Heap} {a:Addr} {o:Obj} (e:H a= .pin o):enterH H h a= .pin o:=by unfold enterH;rw [e]
theorem HeapOk.enter {h:Heap} (x:HeapOk prog w h₀ H h):HeapOk prog w h₀ (enterH H h) h where
 base a o e:=enterH_fz.mpr (x.base a o e)
 fz a o e:=x.fz a o (enterH_fz.mp e)
 pin a o e:=by
  unfold enterH at e
  split at e
  ·rename_i q
   obtain ⟨o',q'⟩:=x.own a q
   rw [q'] at e
   cases e
   exact q'
  ·exact x.pin a o e
 lv a y e:=(x.lv a y (enterH_lv.mp e)).mono (fun a o q=>enterH_fz.mpr q) fun d q=>enterH_sub.mpr q
 own a e:=absurd e enterH_own
 sub a c e:=x.sub a c (enterH_sub.mp e)
theorem HeapOk.ownAll {h:Heap} {as:Addr→Prop} (x:HeapOk prog w h₀ H h) (ha:∀ a,as a→H a= .out∧∃ o,h.get? a=some o):HeapOk prog w h₀ (ownAll H as) h:=by
 have k:∀ a,H a≠ .out→Mine.ownAll H as a=H a:=fun a q=>by unfold Mine.ownAll;rw [if_neg fun m=>q (ha a m).1]
 have k':∀ a y,Mine.ownAll H as a=y→y≠ .own→H a=y:=fun a y e q=>by
  unfold Mine.ownAll at e
  split at e
  ·exact absurd e.symm q
  ·exact e
 refine ⟨fun a o e=>by rw [k a (by rw [x.base a o e];exact Slot.noConfusion)];exact x.base a o e,fun a o e=>x.fz a o (k' a _ e Slot.noConfusion),fun a o e=>x.pin a o (k' a _ e Slot.noConfusion),fun a y e => ?_,fun a e => ?_,
  fun a c e=>x.sub a c (k' a _ e Slot.noConfusion)⟩
 ·exact (x.lv a y (k' a _ e Slot.noConfusion)).mono (fun a o q=>(k a (by rw [q];exact Slot.noConfusion)).trans q) fun d q=>(k d (by rw [q];exact Slot.noConfusion)).trans q
 ·unfold Mine.ownAll at e
  split at e
  ·rename_i m;exact (ha a m).2
  ·exact x.own a e
theorem ownAll_keep {as:Addr→Prop} (ha:∀ a,as a→H a= .out) {a:Addr} (q:H a≠ .out):ownAll H as a=H a:=by unfold ownAll;rw [if_neg fun m=>q (ha a m)]
set_option tactic.hygienic true in
theorem St.leave {h':Heap} {lv':LM} {H₁:Hm} (S:St prog w h₀ sc env H σ s.heap) (X:HeapOk prog w h₀ H' h') (g:Grow H₁ H') (k:∀ a,enterH H s.heap a≠ .out→H₁ a=enterH H s.heap a) (hl:∀ a x,lv' a=some x→H' a= .lv x) :
  Grow H (leaveH H H')∧St prog w h₀ sc env (leaveH H H') {σ with lv:=lv'} h'∧(∀ a o,H' a= .fz o→leaveH H H' a= .fz o):=by
 have own:∀ a,H a= .own→∃ o,s.heap.get? a=some o∧H' a= .pin o:=fun a e=>by
  obtain ⟨o,q⟩:=S.heap.own a e
  refine ⟨o,q,g.pin a o ?_⟩
  have e1:enterH H s.heap a= .pin o:=by unfold enterH;rw [e,q];rfl
  exact (k a (by rw [e1];exact Slot.noConfusion)).trans e1
 have nl:∀ a,H a≠ .own→H' a≠ .own→leaveH H H' a=H' a:=fun a q r=>by
  unfold leaveH
  split
  ·rename_i e;exact absurd e q
  ·split
   ·rename_i e;exact absurd e r
   ·rfl
 have no:∀ a y,H' a=y→(∀ o,y≠ .pin o)→y≠ .own→leaveH H H' a=y:=fun a y e q r=>by
  by_cases c:H a= .own
  ·obtain ⟨o,_,p⟩:=own a c
   exact absurd (e.symm.trans p) (q o)
  ·exact (nl a c (by rw [e];exact r)).trans e
 have on:∀ a,H a= .own→leaveH H H' a= .own:=fun a e=>by unfold leaveH;rw [e]
 have back:∀ a y,leaveH H H' a=y→y≠ .own→y≠ .out→H' a=y:=fun a y e q r=>by
  by_cases c:H a= .own
  ·replace e:=(on a c).symm.trans e;exact absurd e.symm q
  ·by_cases d:H' a= .own
   ·have:leaveH H H' a= .out:=by
     unfold leaveH
     rw [d]
     split
     ·rename_i e';exact absurd e' c
     ·rfl
    replace e:=this.symm.trans e;exact absurd e.symm r
   ·replace e:=(nl a c d).symm.trans e;exact e
 have hfz:∀ a o,H' a= .fz o→leaveH H H' a= .fz o:=fun a o e=>no a _ e (fun _=>Slot.noConfusion) Slot.noConfusion
 have gfz:∀ a o,H a= .fz o→leaveH H H' a= .fz o:=fun a o e=>hfz a o (g.fz a o (by
  have e1:enterH H s.heap a= .fz o:=enterH_fz.mpr e
  rw [k a (neo e1 rfl)];exact e1))
 have gpin:∀ a o,H a= .pin o→leaveH H H' a= .pin o:=fun a o e=>by
  have e2:H' a= .pin o:=by
   refine g.pin a o ?_
   have e1:enterH H s.heap a= .pin o:=enterH_pin e
   exact (k a (by rw [e1];exact Slot.noConfusion)).trans e1
  rw [nl a (neo e rfl) (neo e2 rfl)]
  exact e2
 have hown:∀ a o,H a= .own→s.heap.get? a=some o→h'.get? a=some o:=fun a o e q=>by
  obtain ⟨o',q',p⟩:=own a e
  replace q':=q.symm.trans q';cases q'
  exact X.pin a o p
 refine ⟨⟨gfz,gpin,on⟩,⟨⟨fun a o e=>gfz a o (S.heap.base a o e),fun a o e=>X.fz a o (back a _ e Slot.noConfusion Slot.noConfusion),fun a o e=>X.pin a o (back a _ e Slot.noConfusion Slot.noConfusion),fun a y e => ?_,fun a e => ?_,fun a c e=>X.sub a c (back a _ e Slot.noConfusion Slot.noConfusion)⟩,fun a y e=>no a _ (hl a y e) (fun _=>Slot.noConfusion) Slot.noConfusion,?_⟩,hfz⟩
 ·exact (X.lv a y (back a _ e Slot.noConfusion Slot.noConfusion)).mono hfz fun d q=>no d _ q (fun _=>Slot.noConfusion) Slot.noConfusion
 ·by_cases c:H a= .own
  ·obtain ⟨o,q,p⟩:=own a c;exact ⟨o,X.pin a o p⟩
  ·exfalso
   unfold leaveH at e
   split at e
   ·rename_i e';exact c e'
   ·split at e
    ·cases e
    ·rename_i e';exact e' e
 ·have F:=S.fr
  refine ⟨on _ F.L,let ⟨m,q⟩:=F.ns;⟨m,q.at fun o e=>hown _ o F.L e⟩,fun i v e => ?_,fun n e => ?_,fun n c e => ?_⟩
  ·obtain ⟨x,kd,u,h1,h2,h3⟩:=F.loc i v e
   refine ⟨x,kd,u,h1,?_,h3.mono gfz⟩
   rcases h2 with ⟨h2,m,h4,h5⟩ | ⟨h2,c,h4,⟨o,h5,h5'⟩,h6⟩
   ·exact .inl ⟨h2,m,h4.at fun o e=>hown _ o F.L e,h5⟩
   ·refine .inr ⟨h2,c,h4,?_⟩
    rcases h6 with h6 | ⟨o',h6⟩
    ·exact ⟨⟨o,hown c o h6 h5,h5'⟩,.inl (on c h6)⟩
    ·have q:=gpin c o' h6
     have:h'.get? c=some o':=X.pin c o' (back c _ q Slot.noConfusion Slot.noConfusion)
     have e2:=S.heap.pin c o' h6
     replace e2:=h5.symm.trans e2;cases e2
     exact ⟨⟨o,this,h5'⟩,.inr ⟨o,q⟩⟩
  ·obtain ⟨c,v,h1,h2,o,h3,h3'⟩:=F.cell n e
   exact ⟨c,v,h1,on c h2,o,hown c o h2 h3,h3'⟩
  ·rcases F.cls n c e with e' | ⟨o,v,e',r⟩
   ·exact .inl e'
   ·exact .inr ⟨o,v,gpin c o e',r⟩
noncomputable def CallOk (prog:Program) (w:World) (h₀:Heap) (b:Nat) (f:Value) (C:PC):Prop :=
 ∀ sc env A,AOk b A→∀ σ Q s H l us,St prog w h₀ sc env H σ s.heap→AllIs H l us→C l σ.lv (fun v lv'=>Q v {σ with lv:=lv'}) →
  codeAny (model prog w) A (.call f ⟨us,[]⟩) (fun r s'=>match r with | .ok (.ret v)=>Post prog w h₀ sc env RV H s Q v s' | .ok _=>False | .error e=>noE e s') s
theorem CallOk.mono {f:Value} {C C':PC} (h:CallOk prog w h₀ b f C) (k:∀ l lv Q,C' l lv Q→C l lv Q):CallOk prog w h₀ b f C' :=
 fun sc env A hA σ Q s H l us S hl hC=>h sc env A hA σ Q s H l us S hl (k _ _ _ hC)
theorem CallOk.le {f:Value} {C:PC} {b':Nat} (h:CallOk prog w h₀ b f C) (hb:b≤b'):CallOk prog w h₀ b' f C :=
 fun sc env A hA=>h sc env A (hA.mono hb)
theorem tri_call {x:Str} {px pos:Pos} {f:Value} {C:PC} {es:List Expr} {P:PT (List V)} (E:EnvOk sc env) (hx:sc.names.lookup x=some .globalImplicit) (h1:(x == ("__debug__":Str))=false) (G:GV h₀ x f)
  (hs:noStar es=true) (h:Tri prog w h₀ b sc env RVs (spliced (evs es env)) P) (hk:KeepOk prog w h₀ f) (hC:CallOk prog w h₀ b f C) :
  Tri prog w h₀ b sc env RV (eval (.Call (.Name x px) es [] pos) env) (fun σ Q=>P σ fun l σ1=>C l σ1.lv fun v lv=>Q v {σ1 with lv:=lv}):=fun A hA σ Q s H hP S =>
 wp_nameCall E hx h1 G hs h hk hA hP S fun us l σ1 s1 H1 g1 e1 r1 q1 S1=>wp_from g1 e1 (wpAny_call (hC sc env A hA σ1 Q s1 H1 l us S1 r1 q1))
end
end Mine
namespace Mine
noncomputable def argLoc (l:List V):Loc:=fun i=>l[i]?
noncomputable def retP (Q:V→LM→Prop):Fl→MS→Prop:=fun fl σ=>match fl with
 | .ret v=>Q v σ.lv
 | .next=>Q .none σ.lv
 | _=>False
structure FnOk (prog:Program) (w:World) (h₀:Heap) (f:Addr) (fd:FuncData) (body:List Stmt) (params:List Str):Prop where
 obj:∃ o,h₀.get? f=some o∧o.data= .func fd
 body:fd.body= .stmts body
 clo:fd.closure=[]
 code:h₀.CodeRec fd.code fd.qualname
 glb:fd.globals=mainGlobals
 bts:fd.builtins=builtinsNs
 nolim:h₀.NoLimit
 bind:∀ (A:Around) (E:Value→Shared→Prop) (s:Shared) (vals:List Value) (Q:List (Str×Value)→Shared→Prop),(∀ a o,h₀.get? a=some o→s.heap.get? a=some o)→vals.length=params.length →
  Q (params.zip vals) s→wpAny (model prog w) A (bindArgs fd ⟨vals,[]⟩) Q E s
 co:fd.scope.isCoroutine=false
 gen:fd.scope.isGenerator=false
 kind:fd.scope.kind= .function
 par:∀ (i:Nat) (x:Str),params[i]?=some x→fd.scope.names[i]?=some (x,NameKind.local)∨fd.scope.names[i]?=some (x,NameKind.cell)
 nodup:(fd.scope.names.map (·.1)).Nodup
 nofree:∀ x k,(x,k)∈fd.scope.names→k≠ .free
section
variable {prog:Program} {w:World} {h₀:Heap} {sc:Scope} {env:Env} {b:Nat} {A:Around} {H H':Hm} {s s':Shared} {σ:MS}
theorem bindL_notin {kindOf:Str→Option NameKind} {x:Str} {binds:List (Str×Value)} {m:Str→Option Value} (h:x∉binds.map (·.1)):bindL kindOf binds m x=m x:=by
 induction binds generalizing m with
 | nil=>rfl
 | cons p r ih =>
  obtain ⟨n,v⟩:=p
  refine (ih fun q=>h (.tail _ q)).trans ?_
  by_cases c:kindOf n=some .local
  ·rw [if_pos c];exact if_neg fun q=>h (by subst q;exact .head _)
  ·rw [if_neg c]
theorem bindC_notin {kindOf:Str→Option NameKind} {x:Str} {binds:List (Str×Value)} {m:Str→Option Value} (h:x∉binds.map (·.1)):bindC kindOf binds m x=m x:=by
 induction binds generalizing m with
 | nil=>rfl
 | cons p r ih =>
  obtain ⟨n,v⟩:=p
  refine (ih fun q=>h (.tail _ q)).trans ?_
  by_cases c:kindOf n=some .local
  ·rw [if_pos c]
  ·rw [if_neg c];exact if_neg fun q=>h (by subst q;exact .head _)
theorem bindL_get {kindOf:Str→Option NameKind} {x:Str} {v:Value} {binds:List (Str×Value)} {m:Str→Option Value} (hn:(binds.map (·.1)).Nodup) (hm:(x,v)∈binds) (hk:kindOf x=some .local):bindL kindOf binds m x=some v:=by
 induction binds generalizing m with
 | nil=>cases hm
 | cons p r ih=>cases hm with
  | head=>exact (bindL_notin (List.nodup_cons.mp hn).1).trans ((congrFun (if_pos hk) x).trans (if_pos rfl))
  | tail _ hm=>exact ih (List.nodup_cons.mp hn).2 hm
theorem bindC_get {kindOf:Str→Option NameKind} {x:Str} {v:Value} {binds:List (Str×Value)} {m:Str→Option Value} (hn:(binds.map (·.1)).Nodup) (hm:(x,v)∈binds) (hk:kindOf x≠some .local):bindC kindOf binds m x=some v:=by
 induction binds generalizing m with
 | nil=>cases hm
 | cons p r ih=>cases hm with
  | head=>exact (bindC_notin (List.nodup_cons.mp hn).1).trans ((congrFun (if_neg hk) x).trans (if_pos rfl))
  | tail _ hm=>exact ih (List.nodup_cons.mp hn).2 hm
theorem lk_t {β:Type} {x n:Str} {v:β} {r:List (Str×β)} (q:(x == n)=true):((n,v)::r).lookup x=some v:=by rw [List.lookup_cons,q]
theorem lk_f {β:Type} {x n:Str} {v:β} {r:List (Str×β)} (q:(x == n)=false):((n,v)::r).lookup x=r.lookup x:=by rw [List.lookup_cons,q]
theorem lk_inv {β:Type} {x n:Str} {v u:β} {r:List (Str×β)} (h:((n,v)::r).lookup x=some u):(x=n∧v=u)∨r.lookup x=some u:=by
 cases q:x == n with
 | true=>exact .inl ⟨beq_iff_eq.mp q,Option.some.inj ((lk_t q).symm.trans h)⟩
 | false=>exact .inr ((lk_f q).symm.trans h)
theorem cellsFrom_spec (names:List (Str×NameKind)) (n:Nat) (acc:List (Str×Addr)) (h1:∀ x c,acc.lookup x=some c→c<n) (h2:∀ x y c,acc.lookup x=some c→acc.lookup y=some c→x=y) :
  (∀ x c,(cellsFrom n names acc).lookup x=some c→(n≤c∧(x,NameKind.cell)∈names)∨acc.lookup x=some c)∧(∀ x y c,(cellsFrom n names acc).lookup x=some c→(cellsFrom n names acc).lookup y=some c→x=y):=by
 induction names generalizing n acc with
 | nil=>exact ⟨fun x c h=> .inr h,h2⟩
 | cons p r ih =>
  obtain ⟨z,k⟩:=p
  by_cases e:(k == NameKind.cell)=true
  ·rw [show cellsFrom n ((z,k)::r) acc=cellsFrom (n+1) r ((z,n)::acc) from if_pos e]
   have i:=ih (n+1) ((z,n)::acc) (fun x c h=>(lk_inv h).elim (fun q=>q.2▸Nat.lt_succ_self _) fun q=>Nat.lt_succ_of_lt (h1 x c q))
    fun x y c hx hy=>(lk_inv hx).elim (fun q=>(lk_inv hy).elim (fun q'=>q.1.trans q'.1.symm) fun q'=>absurd (h1 y c q') (q.2▸Nat.lt_irrefl _)) fun q=>(lk_inv hy).elim (fun q'=>absurd (h1 x c q) (q'.2▸Nat.lt_irrefl _)) fun q'=>h2 x y c q q'
   exact ⟨fun x c h=>(i.1 x c h).elim (fun q=> .inl ⟨Nat.le_of_succ_le q.1,.tail _ q.2⟩) fun q=>(lk_inv q).elim (fun q=> .inl ⟨q.2▸Nat.le_refl _,by rw [q.1,←beq_iff_eq.mp e];exact .head _⟩) .inr,i.2⟩
  ·rw [show cellsFrom n ((z,k)::r) acc=cellsFrom n r acc from if_neg e]
   have i:=ih n acc h1 h2
   exact ⟨fun x c h=>(i.1 x c h).imp (fun q=>⟨q.1,.tail _ q.2⟩) id,i.2⟩
theorem envOk_call {fd:FuncData} {f L:Addr} {s₁:Shared} {m cm:Str→Option Value} (hk:fd.scope.kind= .function) (hg:fd.globals=mainGlobals) (hb:fd.builtins=builtinsNs) (hn:(fd.scope.names.map (·.1)).Nodup) (hf:∀ x k,(x,k)∈fd.scope.names→k≠ .free)
  (X:InCallC s (callEnvC fd L f).locals m (callEnvC fd L f).cells cm s₁):EnvOk fd.scope (callEnvC fd L f) where
 kind:=hk
 glb:=hg
 bts:=hb
 knd x k e:= .inl e
 inj x y c e1 e2:=name_of_addr X.apart (PySem.mem_of_lookup e1) (PySem.mem_of_lookup e2)
 ne x c e:=Nat.ne_of_gt (X.above _ _ (PySem.mem_of_lookup e))
 nodup:=hn
 fre x k m hk:=by
  rcases hk with rfl | rfl
  ·exact absurd rfl (hf x _ m)
  ·obtain ⟨i,hi⟩:=List.mem_iff_getElem?.mp m
   exact Option.isSome_iff_exists.mp (cellsFrom_some fd.scope.names (L+1) [] (.inl (lookup_of_get hn hi)))
theorem params_nodup {names:List (Str×NameKind)} {params:List Str} (hn:(names.map (·.1)).Nodup) (hp:∀ (i:Nat) (x:Str),params[i]?=some x→names[i]?=some (x,NameKind.local)∨names[i]?=some (x,NameKind.cell)):params.Nodup:=by
 refine List.pairwise_iff_getElem.mpr fun i j hi hj hij e => ?_
 have h1:=hp i _ (List.getElem?_eq_getElem hi)
 have h2:=hp j _ (List.getElem?_eq_getElem hj)
 rw [←e] at h2
 have:i=j:=by
  rcases h1 with h1 | h1<;>rcases h2 with h2 | h2<;>exact names_inj hn h1 h2
 exact zh33 hij this
theorem callOk_fn {f:Addr} {fd:FuncData} {body:List Stmt} {params:List Str} {P:PT Fl} (F:FnOk prog w h₀ f fd body params)
  (hb:∀ env,EnvOk fd.scope env→Tri prog w h₀ b fd.scope env FlIs (execs body env) P) :
  CallOk prog w h₀ (b+1) (.ref f) (fun l lv Q=>l.length=params.length∧P ⟨argLoc l,lv⟩ (retP Q)):=by
 intro sc env A hA σ Q s H l us S hl hC
 obtain ⟨hlen,hC⟩:=hC
 obtain ⟨o,ho,hd⟩:=F.obj
 have hul:us.length=params.length:=hl.length.symm.trans hlen
 have hpn:=params_nodup F.nodup F.par
 have hbn:((params.zip us).map (·.1)).Nodup:=by
  rw [List.map_fst_zip (by exact Nat.le_of_eq hul.symm)];exact hpn
 refine codeAny_call_function hA.room (S.heap.stays _ _ ho) hd F.co F.gen F.body (let ⟨c,oc,vs,t,a1,a2,a3,a4⟩:=F.code;⟨c,oc,vs,t,a1,S.heap.stays _ _ a2,a3,a4⟩) ?_
 refine F.bind _ _ s us _ S.heap.stays hul ?_
 rw [F.clo]
 have hkn:∀ x∈params.zip us,fd.scope.names.lookup x.1=some .local∨fd.scope.names.lookup x.1=some .cell:=fun x hx=>by
  obtain ⟨i,hi⟩:=List.mem_iff_getElem?.mp hx
  have hp:params[i]?=some x.1:=by
   rw [List.getElem?_zip_eq_some] at hi;exact hi.1
  exact (F.par i x.1 hp).imp (lookup_of_get F.nodup) (lookup_of_get F.nodup)
 refine wpAny_newFunctionEnv_cells F.kind (fun x hx => ?_) fun env' he s₁ X => ?_
 ·rcases hkn x hx with e | e
  ·exact .inl e
  ·exact .inr ⟨e,cellsFrom_some _ _ _ (.inl e)⟩
 have he':env'=callEnvC fd s.heap.objs.size f:=he
 subst he'
 refine ⟨F.nolim.keeps fun a o e=>X.toInCall.keep _ _ (S.heap.stays _ _ e),?_⟩
 have E':=envOk_call F.kind F.glb F.bts F.nodup F.nofree X
 let cs:=(callEnvC fd s.heap.objs.size f).cells
 have hLo:∀ a,s.heap.objs.size≤a→enterH H s.heap a= .out:=fun a ha=>enterH_out.mpr (S.heap.out_ge ha)
 have hcell:∀ n c,cs.lookup n=some c→s₁.heap.IsCell c (bindC (callEnvC fd s.heap.objs.size f).kindOf (params.zip us) (fun _=>none) n):=X.cell
 let as:Addr→Prop:=fun a=>a=s.heap.objs.size∨∃ n,cs.lookup n=some a
 obtain ⟨h₁,tk,e1⟩:=X.toInCall.same
 have hmem:∀ a,as a→enterH H s.heap a= .out∧∃ o,s₁.heap.get? a=some o:=fun a ha=>by
  rcases ha with rfl | ⟨n,ha⟩
  ·obtain ⟨o,_,_,e,_⟩:=X.toInCall.ns
   exact ⟨hLo _ (Nat.le_refl _),o,e⟩
  ·obtain ⟨o,e,_⟩:=hcell n a ha
   exact ⟨hLo _ (Nat.le_of_lt (X.above _ _ (PySem.mem_of_lookup ha))),o,e⟩
 have HE:HeapOk prog w h₀ (enterH H s.heap) s₁.heap:=S.heap.enter.agree fun a o _ e=>X.toInCall.keep a o e
 have HB:=HE.ownAll hmem
 have kp:∀ {a},enterH H s.heap a≠ .out→ownAll (enterH H s.heap) as a=enterH H s.heap a:=fun q=>ownAll_keep (fun a ha=>(hmem a ha).1) q
 have hfz:∀ a o,H a= .fz o→ownAll (enterH H s.heap) as a= .fz o:=fun a o e=>by
  have:=enterH_fz (h:=s.heap).mpr e
  exact (kp (by rw [this];exact Slot.noConfusion)).trans this
 have hown:∀ a,as a→ownAll (enterH H s.heap) as a= .own:=fun a ha=>by unfold ownAll;rw [if_pos ha]
 have S₁:St prog w h₀ fd.scope (callEnvC fd s.heap.objs.size f) (ownAll (enterH H s.heap) as) ⟨argLoc l,σ.lv⟩ s₁.heap:=by
  refine ⟨HB,fun a x e => ?_,hown _ (.inl rfl),⟨_,X.toInCall.ns⟩,fun i v e => ?_,fun x e => ?_,fun x c e=> .inl ?_⟩
  ·have:=enterH_lv (h:=s.heap).mpr (S.live a x e)
   exact (kp (by rw [this];exact Slot.noConfusion)).trans this
  ·have e:l[i]?=some v:=e
   obtain ⟨u,e2,e3⟩:=hl.get e
   have hi:i<params.length:=by rw [←hlen];exact (List.getElem?_eq_some_iff.mp e).1
   have e4:(params.zip us)[i]?=some (params[i],u):=by
    rw [List.getElem?_zip_eq_some];exact ⟨List.getElem?_eq_getElem hi,e2⟩
   have hm:(params[i],u)∈params.zip us:=List.mem_of_getElem? e4
   rcases F.par i _ (List.getElem?_eq_getElem hi) with q | q
   ·refine ⟨params[i],.local,u,q,.inl ⟨lookup_of_get F.nodup q,_,X.toInCall.ns,bindL_get hbn hm (lookup_of_get F.nodup q)⟩,e3.mono hfz⟩
   ·have hk:(callEnvC fd s.heap.objs.size f).kindOf params[i]=some .cell:=lookup_of_get F.nodup q
    obtain ⟨c,hc⟩:=Option.isSome_iff_exists.mp (cellsFrom_some fd.scope.names (s.heap.objs.size+1) [] (.inl (lookup_of_get F.nodup q)))
    have:=hcell _ c hc
    rw [bindC_get hbn hm (by rw [hk];decide)] at this
    exact ⟨params[i],.cell,u,q,.inr ⟨.inl hk,c,hc,this,.inl (hown c (.inr ⟨_,hc⟩))⟩,e3.mono hfz⟩
  ·obtain ⟨c,hc⟩:=Option.isSome_iff_exists.mp (cellsFrom_some fd.scope.names (s.heap.objs.size+1) [] (.inl e))
   exact ⟨c,_,hc,hown c (.inr ⟨_,hc⟩),hcell _ c hc⟩
  ·rcases (cellsFrom_spec fd.scope.names (s.heap.objs.size+1) [] (by simp) (by simp)).1 x c e with ⟨_,m⟩ | q
   ·obtain ⟨i,hi⟩:=List.mem_iff_getElem?.mp m
    exact lookup_of_get F.nodup hi
   ·cases q
 refine codeAny_func ?_
 refine wpAny_mono (hb _ E' (A.deeper _) (hA.deeper _) ⟨argLoc l,σ.lv⟩ _ s₁ _ hC S₁) (fun fl s₂ p => ?_) fun _ _ x=>x.elim
 obtain ⟨H₂,σ₂,y,g,S₂,r,sm,q⟩:=p
 have S₃:=S.leave (lv':=σ₂.lv) S₂.heap g (fun a q=>kp q) S₂.live
 have sm':Same s s₂:=Same.trans (by rw [e1];exact .mk s _ _) sm
 cases r with
 | next=>exact ⟨_,_,.none,S₃.1,S₃.2.1,.none,sm',q⟩
 | brk=>exact q.elim
 | cont=>exact q.elim
 | ret r=>exact ⟨_,_,_,S₃.1,S₃.2.1,r.mono S₃.2.2,sm',q⟩
end
end Mine
namespace Mine
noncomputable def attrK (K:Frag) (C:Addr) (n:Str):Bool :=
 plainGet K C n && hasDictIn K C && findIn K (.ref C) n == some none && findIn K (.ref C) "__setattr__" == some (some (.builtin "object.__setattr__")) && plainOver K C && takerIn K C n == some none
noncomputable def methK (K:Frag) (C:Addr) (n:Str) (f:Addr):Bool:=plainGet K C n && findIn K (.ref C) n == some (some (.ref f)) && typeIn K (.ref f) == some (.type "function") && keepIn K (.ref f)
noncomputable def classK (K:Frag) (C f:Addr):Bool:=makesIn K C && findIn K (.ref C) "__init__" == some (some (.ref f)) && typeIn K (.ref f) == some (.type "function")
noncomputable def fset (fs:List (Str×V)) (n:Str) (v:V):List (Str×V) :=
 match fs with
 | []=>[(n,v)]
 | (m,u)::r=>if m=n then (m,v)::r else (m,u)::fset r n v
inductive attrP (ok:Addr→Str→Bool) (n:Str) (o:V) (σ:MS) (Q:V→MS→Prop):Prop
 | mk (a C:Addr) (fs:List (Str×V)) (v:V) (h1:o= .ref a) (h2:σ.lv a=some (.inst C fs)) (h3:ok C n=true) (h4:fs.lookup n=some v) (h:Q v σ):attrP ok n o σ Q
inductive setAttrP (ok:Addr→Str→Bool) (n:Str) (o v:V) (σ:MS) (Q:Unit→MS→Prop):Prop
 | mk (a C:Addr) (fs:List (Str×V)) (h1:o= .ref a) (h2:σ.lv a=some (.inst C fs)) (h3:ok C n=true) (h4:fs.length<100) (h:Q () ⟨σ.loc,updL σ.lv a (some (.inst C (fset fs n v)))⟩):setAttrP ok n o v σ Q
noncomputable def KR (loc:Loc) (Q:V→MS→Prop):V→LM→Prop:=fun v lv=>Q v ⟨loc,lv⟩
noncomputable def KMa (Γ:Value→PC) (f a:Addr) (Q:V→MS→Prop):List V→MS→Prop:=fun l σ=>Γ (.ref f) (.ref a::l) σ.lv (KR σ.loc Q)
inductive MethP (mt:Addr→Str→Option Addr) (Γ:Value→PC) (n:Str) (P:PT (List V)) (Q:V→MS→Prop) (x:V) (σ:MS):Prop
 | mk (a C:Addr) (fs:List (Str×V)) (f:Addr) (h1:x= .ref a) (h2:σ.lv a=some (.inst C fs)) (h3:fs.lookup n=none) (h4:mt C n=some f) (h:P σ (KMa Γ f a Q)):MethP mt Γ n P Q x σ
section
variable {prog:Program} {w:World} {h₀:Heap} {sc:Scope} {env:Env} {b:Nat} {A:Around} {H H':Hm} {s s':Shared} {σ:MS}
theorem isStr_self (n:Str) (t:Tok) (m:Str):(Value.str n t).isStr m=decide (n=m):=by
 simp only [Value.isStr]
 cases h:n == m with
 | true=>simp [beq_iff_eq.mp h]
 | false=>simp;intro e;subst e;simp at h
theorem FldsIs.getL {P:Params} {fs:List (Str×V)} {es:List DictEntry} (h:FldsIs P H fs es) (n:Str):(fs.lookup n=none∧getL n es=some none)∨∃ v u,fs.lookup n=some v∧W.getL n es=some (some u)∧ValIs H v u:=by
 induction h with
 | nil=>exact .inl ⟨rfl,rfl⟩
 | @cons m t x v l es h1 h2 ih =>
  unfold W.getL at *
  by_cases e:m=n
  ·subst e
   refine .inr ⟨x,v,by simp [List.lookup_cons],?_,h1⟩
   simp [isStr_self]
  ·have e1:(n == m)=false:=by cases q:n == m with | false=>rfl | true=>exact absurd (beq_iff_eq.mp q).symm e
   rw [List.lookup_cons,e1]
   have e2:(Value.str m t).isStr n=false:=by rw [isStr_self];simp [e]
   simp only [List.find?_cons,e2,List.any_cons]
   have e3:(⟨PyData.keyHash P m,.str m t,v⟩:DictEntry).refKey=false:=rfl
   simp only [e3,Bool.false_or]
   exact ih
theorem FldsIs.putL {P:Params} {fs:List (Str×V)} {es:List DictEntry} (h:FldsIs P H fs es) (n:Str) {v:V} {u:Value} (hv:ValIs H v u) (t:Tok):FldsIs P H (fset fs n v) (putL n (PyData.keyHash P n) (.str n t) u es):=by
 induction h with
 | nil=>exact .cons hv .nil
 | @cons m t' x w l es h1 h2 ih =>
  unfold fset W.putL
  have e2:(Value.str m t').isStr n=decide (m=n):=isStr_self m t' n
  simp only [e2,decide_eq_true_eq]
  by_cases e:m=n
  ·subst e;simp only [if_true];exact .cons hv h2
  ·simp only [e,if_false];exact .cons h1 ih
theorem putL_len (n:Str) (k:Int) (t u:Value):∀ es:List DictEntry,(putL n k t u es).length≤es.length+1
 | []=>by simp [putL]
 | e::r=>by
  have:=putL_len n k t u r
  unfold W.putL
  split<;>simp<;>exact this
theorem live_inst {a C:Addr} {fs:List (Str×V)} (S:St prog w h₀ sc env H σ s.heap) (ha:σ.lv a=some (.inst C fs)) :
  ∃ dx es n,s.heap.get? a=some (instObj C dx)∧H dx= .sub a∧s.heap.get? dx=some (W.dictOf es n)∧FldsIs w.params H fs es∧W.InstAt s.heap a (instObj C dx) C (some (W.dictOf es n)):=by
 obtain ⟨dx,es,n,h1,h2,h3,h4⟩:=S.heap.lv a _ (S.live a _ ha)
 exact ⟨dx,es,n,h1,h2,h3,h4,⟨h1,rfl,rfl,h3⟩⟩
theorem handed_val {v:V} {u:Value} (h:ValIs H v u):handedIn u=true:=by cases h<;>rfl
theorem wp_attr {K:Frag} {ok:Addr→Str→Bool} {n:Str} {x:V} {u:Value} {Q:V→MS→Prop} {e:Bool} (hok:∀ C n,ok C n=true→attrK K C n=true) (X:K.In h₀) (S:St prog w h₀ sc env H σ s.heap) (hx:ValIs H x u) (hQ:attrP ok n x σ Q) :
  wpAny (model prog w) A (getAttr u n e) (Post prog w h₀ sc env RV H s Q) noE s:=by
 obtain ⟨a,C,fs,v,rfl,ha,h1,h2,h3⟩:=hQ
 cases hx
 have hk:=hok C n h1
 simp only [attrK,Bool.and_eq_true,beq_iff_eq] at hk
 obtain ⟨⟨⟨⟨⟨k1,k2⟩,k3⟩,k4⟩,k5⟩,k6⟩:=hk
 obtain ⟨dx,es,m,i1,i2,i3,i4,I⟩:=live_inst S ha
 rcases i4.getL n with ⟨q,_⟩ | ⟨v',u,q,q2,q3⟩
 ·replace q:=h2.symm.trans q;cases q
 ·replace q:=h2.symm.trans q;cases q
  exact get_value (X.keeps S.heap.stays) I (plainGet_of k1).1 (findObj_own k2 k3 (by rfl) (by rw [lookIn_dict];exact q2)) (handed_val q3) ⟨H,σ,v,.refl H,S,q3,⟨_,_,rfl⟩,h3⟩
set_option tactic.hygienic true in
theorem wp_osa {K:Frag} {n:Str} {a C dx:Addr} {es:List DictEntry} {k:Nat} {u:Value} {R:Result→Shared→Prop} {tk:Tok} (X:K.In s.heap) (I:W.InstAt s.heap a (instObj C dx) C (some (W.dictOf es k))) (hp:plainOver K C=true) (ht:takerIn K C n=some none) (hh:hasDictIn K C=true)
  (hl:(getL n es).isSome=true) (hz:es.length≤100) (h:R (.ok (.ret .none)) {s with heap:=s.heap.update dx (Obj.putName n (PyData.keyHash w.params n) (.str n s.toks) u),toks:=s.toks+1}) :
  codeAny (model prog w) A (.call (.builtin "object.__setattr__") ⟨[.ref a,.str n tk,u],[]⟩) R s:=by
 refine osa_open X I hp ht fun b => ?_
 obtain ⟨cd,hc,hd'⟩:=W.any_some hh
 obtain ⟨hx,hcl,hn,D⟩:=I
 have D:s.heap.get? dx=some (W.dictOf es k):=D
 have D':(s.heap.update dx (Obj.putName n (PyData.keyHash w.params n) (.str n s.toks) u)).get? dx=some (W.dictOf (putL n (PyData.keyHash w.params n) (.str n s.toks) u es) (putN n es k)):=by
  rw [←putName_dict];exact Heap.get?_update_self _ D (by rw [putName_dict];rfl)
 refine wpAny_bind (wpAny_pure (wpAny_bind (wpAny_bind (wpAny_loadPart hx (wpAny_bind ((looks_clsIn X hc).here ?_))))))
 rw [hd']
 refine wpAny_pure (a:=some dx) (wpAny_bind (wpAny_pure (wpAny_bind ?_)))
 unfold nsSet
 refine wpAny_bind (wpAny_bind (wpAny_askSetting (wpAny_pure (wpAny_bind (wpAny_mkText (wpAny_bind (wpAny_loadPart D ?_)))))))
 dsimp only
 have c:(!es.toArray.any (·.key.isStr n) && es.toArray.any (·.refKey))=false:=by
  rw [←Array.any_toList,←Array.any_toList]
  unfold getL at hl
  split at hl
  ·rename_i en he
   rw [List.any_eq_true.mpr ⟨en,List.mem_of_find?_eq_some he,List.find?_some he⟩];rfl
  ·split at hl
   ·cases hl
   ·rename_i z;rw [Bool.not_eq_true] at z;rw [z,Bool.and_false]
 rw [aRefKeyMayBeTheName_at,c]
 refine wpAny_updatePart D ?_
 refine wpAny_bind (wpAny_lookBehind D' (pastItsLine_dict (by
  rw [List.size_toArray,sizeLine_eq]
  have:=putL_len n (PyData.keyHash w.params n) (.str n s.toks) u es
  exact zh34 this hz)) ?_)
 exact wpAny_pure h
theorem tri_attr {K:Frag} {ok:Addr→Str→Bool} {value:Expr} {n:Str} {pos:Pos} {P:PT V} (hok:∀ C n,ok C n=true→attrK K C n=true) (X:K.In h₀) (hp:attrPlain value=true) (h:Tri prog w h₀ b sc env RV (eval value env) P) :
  Tri prog w h₀ b sc env RV (eval (.Attribute value n pos) env) (fun σ Q=>P σ fun x σ1=>attrP ok n x σ1 Q):=fun A hA σ Q s H hP S =>
 Attribute_any_ (h.use hA hP S fun u x σ1 s1 H1 g1 e1 r1 q1 S1=>wp_from g1 e1 (wp_attr hok X S1 r1 q1)) (by rw [arm_eval_Attribute,attrBase hp])
theorem wp_setAttr {K:Frag} {ok:Addr→Str→Bool} {n:Str} {x y:V} {u v:Value} {Q:Unit→MS→Prop} (hok:∀ C n,ok C n=true→attrK K C n=true) (X:K.In h₀) (S:St prog w h₀ sc env H σ s.heap) (hx:ValIs H x u) (hy:ValIs H y v) (hQ:setAttrP ok n x y σ Q) :
  wpAny (model prog w) A (setAttr u n v) (fun _ s'=>Post prog w h₀ sc env RU H s Q () s') noE s:=by
 obtain ⟨a,C,fs,rfl,ha,h1,h2,h3⟩:=hQ
 cases hx
 have hk:=hok C n h1
 simp only [attrK,Bool.and_eq_true,beq_iff_eq] at hk
 obtain ⟨⟨⟨⟨⟨k1,k2⟩,k3⟩,k4⟩,k5⟩,k6⟩:=hk
 obtain ⟨dx,es,m,i1,i2,i3,i4,I⟩:=live_inst S ha
 have X':=X.keeps S.heap.stays
 have hH:=S.live a _ ha
 have hda:dx≠a:=fun q=>by rw [q,hH] at i2;cases i2
 refine set_plain X' I k4 (wp_osa (s:={s with toks:=s.toks+1}) X' I k5 k6 k2 ?_ (by rw [←i4.length];exact Nat.le_of_lt h2) ?_)
 ·rcases i4.getL n with ⟨_,q⟩ | ⟨_,_,_,q,_⟩<;>rw [q]<;>rfl
 ·have hm:=fz_set (H:=H) (a:=a) (y:= .lv (.inst C (fset fs n y))) (fun o=>neo hH rfl)
  have g:Grow H (H.set a (.lv (.inst C (fset fs n y)))):=Grow.setLv hH
  refine ⟨H.set a (.lv (.inst C (fset fs n y))),_,(),g,S.updLv hH (fun c o hc h4 h5 e => ?_) (fun d hd => ?_) ?_,trivial,⟨_,_,rfl⟩,h3⟩
  ·have hcd:c≠dx:=fun q=>h5 (q▸i2)
   exact (Heap.get?_update_ne _ _ _ _ hcd).trans e
  ·obtain ⟨o,e⟩:=S.heap.sub d a hd
   by_cases q:d=dx
   ·subst q;exact ⟨_,Heap.get?_update_self _ i3 (by rw [putName_dict];rfl)⟩
   ·exact ⟨o,(Heap.get?_update_ne _ _ _ _ q).trans e⟩
  ·refine ⟨dx,_,_,(Heap.get?_update_ne _ _ _ _ (Ne.symm hda)).trans i1,(Hm.set_ne _ _ hda).trans i2,(Heap.get?_update_self _ i3 (by rw [putName_dict];rfl)).trans (by rw [putName_dict]),?_⟩
   exact (i4.putL n hy _).mono hm
theorem tri_meth {K:Frag} {mt:Addr→Str→Option Addr} {Γ:Value→PC} {o:Expr} {n:Str} {apos pos:Pos} {es:List Expr} {P:PT V} {P2:PT (List V)} (hmt:∀ C n f,mt C n=some f→methK K C n f=true∧CallOk prog w h₀ b (.ref f) (Γ (.ref f))) (X:K.In h₀)
  (ho:attrPlain o=true) (hs:noStar es=true) (hn:es.length<30) (hl:(apos.endLine == pos.line)=true)
  (h1:Tri prog w h₀ b sc env RV (eval o env) P) (h2:Tri prog w h₀ b sc env RVs (spliced (evs es env)) P2) :
  Tri prog w h₀ b sc env RV (eval (.Call (.Attribute o n apos) es [] pos) env)
   (fun σ Q=>P σ (MethP mt Γ n P2 Q)):=fun A hA σ Q s H hP S=>by
 refine wp_methodCall ho hs hn hl (h1.use hA hP S fun u x σ1 s1 H1 g1 e1 r1 q1 S1 pl => ?_)
 obtain ⟨a,C,fs,f,rfl,ha,hf,hm,q1⟩:=q1
 cases r1
 obtain ⟨hk,hC⟩:=hmt C n f hm
 simp only [methK,Bool.and_eq_true,beq_iff_eq] at hk
 obtain ⟨⟨⟨k1,k2⟩,k3⟩,k4⟩:=hk
 obtain ⟨dx,es',m,i1,i2,i3,i4,I⟩:=live_inst S1 ha
 refine method_fn (X.keeps S1.heap.stays) I (plainGet_of k1).1 (plainGet_of k1).2 k2 k3 ?_ ?_
 ·rcases i4.getL n with ⟨_,q⟩ | ⟨_,_,q,_,_⟩
  ·show (lookIn n (W.dictOf es' m)).map _=_
   rw [lookIn_dict,q];rfl
  ·replace q:=hf.symm.trans q;cases q
 ·refine wp_callWith h2 (keep_K X k4) hA q1 S1 fun us xs σ2 s2 H2 g2 e2 r2 q2 S2 => ?_
  exact wp_from (g1.trans g2) (e1.trans e2) (wpAny_call (hC sc env A hA σ2 Q s2 H2 (.ref a::xs) (.ref a::us) S2 (.cons (.ref a) r2) q2))
theorem callOk_cls {K:Frag} {C f:Addr} {Ci:PC} (hk:classK K C f=true) (X:K.In h₀) (hC:CallOk prog w h₀ b (.ref f) Ci) :
  CallOk prog w h₀ (b+1) (.ref C) (fun l lv Q=>∀ a,lv a=none→Ci (.ref a::l) (updL lv a (some (.inst C []))) fun v lv'=>v= .none∧Q (.ref a) lv'):=by
 intro sc env A hA σ Q s H l us S hl hP
 simp only [classK,Bool.and_eq_true,beq_iff_eq] at hk
 obtain ⟨⟨k1,k2⟩,k3⟩:=hk
 have X':=X.keeps S.heap.stays
 obtain ⟨h,g,d,t,os⟩:=s
 refine make_core (makes_of X' k1) (looks_findIn X' k2) (fun self=>bind_fn X' self k3) (.inl rfl) ?_
 let x:=h.objs.size+1
 let dx:=h.objs.size
 have S:St prog w h₀ sc env H σ h:=S
 have hdx:H dx= .out:=S.heap.out_ge (Nat.le_refl _)
 have hx:H x= .out:=S.heap.out_ge (Nat.le_succ _)
 have hne:x≠dx:=Nat.succ_ne_self _
 have S1:St prog w h₀ sc env H σ ((h.push emptyDict).push (instObj C h.objs.size)):=(S.push emptyDict).push _
 have gx:((h.push emptyDict).push (instObj C h.objs.size)).get? x=some (instObj C dx):=by
  have:=Heap.get?_push_size (h.push emptyDict) (o:=instObj C h.objs.size) rfl
  rwa [Heap.size_push] at this
 have gd:((h.push emptyDict).push (instObj C h.objs.size)).get? dx=some (W.dictOf [] 0):=Heap.get?_push_of_some _ (Heap.get?_push_size _ rfl)
 have hn:σ.lv x=none:=by
  cases e:σ.lv x with
  | none=>rfl
  | some y=>have:=S.live x y e;replace this:=hx.symm.trans this;cases this
 let H1:=H.set dx (.sub x)
 let H2:=H1.set x (.lv (.inst C []))
 have k1':∀ a,H a≠ .out→H2 a=H a:=fun a q=>by
  have h1:a≠x:=fun e=>q (e▸hx)
  have h2:a≠dx:=fun e=>q (e▸hdx)
  show Hm.set (Hm.set H dx _) x _ a=H a
  rw [Hm.set_ne _ _ h1,Hm.set_ne _ _ h2]
 have k2':∀ a y,H2 a=y→(∀ z,y≠ .lv z)→(∀ z,y≠ .sub z)→H a=y:=fun a y e q1 q2=>by
  by_cases h1:a=x
  ·subst h1;replace e:=(show H2 x=_ from Hm.set_self ..).symm.trans e;exact absurd e.symm (q1 _)
  ·by_cases h2:a=dx
   ·subst h2
    have:H2 dx= .sub x:=by show Hm.set (Hm.set H dx _) x _ dx=_;rw [Hm.set_ne _ _ (Ne.symm hne),Hm.set_self]
    replace e:=this.symm.trans e;exact absurd e.symm (q2 _)
   ·have:H2 a=H a:=by show Hm.set (Hm.set H dx _) x _ a=H a;rw [Hm.set_ne _ _ h1,Hm.set_ne _ _ h2]
    exact this.symm.trans e
 have hfz:∀ a o,H a= .fz o→H2 a= .fz o:=fun a o e=>(k1' a (by rw [e];exact Slot.noConfusion)).trans e
 have hd2:H2 dx= .sub x:=by show Hm.set (Hm.set H dx _) x _ dx=_;rw [Hm.set_ne _ _ (Ne.symm hne),Hm.set_self]
 have hx2:H2 x= .lv (.inst C []):=Hm.set_self ..
 have G:Grow H H2:=⟨hfz,fun a o e=>(k1' a (by rw [e];exact Slot.noConfusion)).trans e,fun a e=>(k1' a (by rw [e];exact Slot.noConfusion)).trans e⟩
 have S2:St prog w h₀ sc env H2 {σ with lv:=updL σ.lv x (some (.inst C []))} ((h.push emptyDict).push (instObj C h.objs.size)):=by
  refine ⟨⟨fun a o e=>hfz a o (S1.heap.base a o e),fun a o e=>S1.heap.fz a o (k2' a _ e (fun _=>Slot.noConfusion) fun _=>Slot.noConfusion),fun a o e=>S1.heap.pin a o (k2' a _ e (fun _=>Slot.noConfusion) fun _=>Slot.noConfusion),fun a y e => ?_,
   fun a e=>S1.heap.own a (k2' a _ e (fun _=>Slot.noConfusion) fun _=>Slot.noConfusion),fun a c e => ?_⟩,fun a y e => ?_,?_⟩
  ·by_cases h1:a=x
   ·subst h1;replace e:=hx2.symm.trans e;cases e
    exact ⟨dx,[],0,gx,hd2,gd,.nil⟩
   ·have ea:H a= .lv y:=by
     by_cases h2:a=dx
     ·subst h2;replace e:=hd2.symm.trans e;cases e
     ·have:H2 a=H a:=by show Hm.set (Hm.set H dx _) x _ a=H a;rw [Hm.set_ne _ _ h1,Hm.set_ne _ _ h2]
      exact this.symm.trans e
    exact (S1.heap.lv a y ea).mono hfz fun d hd=>(k1' d (by rw [hd];exact Slot.noConfusion)).trans hd
  ·by_cases h2:a=dx
   ·subst h2;exact ⟨_,gd⟩
   ·by_cases h1:a=x
    ·subst h1;exact ⟨_,gx⟩
    ·have:H2 a=H a:=by show Hm.set (Hm.set H dx _) x _ a=H a;rw [Hm.set_ne _ _ h1,Hm.set_ne _ _ h2]
     exact S1.heap.sub a c (this.symm.trans e)
  ·dsimp only at e
   by_cases h1:a=x
   ·subst h1;rw [updL_self] at e;cases e;exact hx2
   ·replace e:=(updL_ne _ _ h1).symm.trans e
    have:=S.live a y e
    exact (k1' a (by rw [this];exact Slot.noConfusion)).trans this
  ·have F:=S1.fr
   refine ⟨(k1' _ (by rw [F.L];exact Slot.noConfusion)).trans F.L,F.ns,fun i v e => ?_,fun n e => ?_,fun n c e => ?_⟩
   ·obtain ⟨n,kd,u,h1,h2,h3⟩:=F.loc i v e
    refine ⟨n,kd,u,h1,?_,h3.mono hfz⟩
    rcases h2 with h2 | ⟨h2,c,h4,h5,h6⟩
    ·exact .inl h2
    ·refine .inr ⟨h2,c,h4,h5,?_⟩
     rcases h6 with h6 | ⟨o,h6⟩
     ·exact .inl ((k1' c (by rw [h6];exact Slot.noConfusion)).trans h6)
     ·exact .inr ⟨o,(k1' c (by rw [h6];exact Slot.noConfusion)).trans h6⟩
   ·obtain ⟨c,v,h1,h2,h3⟩:=F.cell n e
    exact ⟨c,v,h1,(k1' c (by rw [h2];exact Slot.noConfusion)).trans h2,h3⟩
   ·rcases F.cls n c e with e' | ⟨o,v,e',r⟩
    ·exact .inl e'
    ·exact .inr ⟨o,v,(k1' c (by rw [e'];exact Slot.noConfusion)).trans e',r⟩
 have hA':AOk b (A.under (.builtin "type.__call__" ⟨.ref C::us,[]⟩)) :=
  ⟨hA.1,by rw [depth_under_make];have:=hA.2.1;exact zq2 this,by rw [units_under_make];have:=hA.2.2;exact zq1 this⟩
 have:=hC sc env _ hA' _ (fun v σ'=>v= .none∧Q (.ref x) σ') ⟨(h.push emptyDict).push (instObj C h.objs.size),g,d,t,os⟩ H2 (.ref x::l) (.ref x::us) S2 (.cons (.ref x) (hl.mono hfz)) (hP x hn)
 refine codeAny_mono this fun r s' z => ?_
 rcases r with e | (v | _ | _ | _)
 ·exact z
 ·exact z
 ·exact z
 ·exact z
 ·obtain ⟨H3,σ3,y,g3,S3,r3,e3,rfl,q3⟩:=z
  cases r3
  exact ⟨rfl,H3,σ3,.ref x,G.trans g3,S3,.ref x,Same.trans (.mk ⟨h,g,d,t,os⟩ _ t) e3,q3⟩
end
end Mine
namespace Mine
inductive Bi where
 | len | range | sorted | tuple | list | any | abs | int
noncomputable def Bi.name:Bi→Str
 | .len => "len" | .range => "range" | .sorted => "sorted" | .tuple => "tuple" | .list => "list" | .any => "any" | .abs => "abs" | .int => "int"
noncomputable def Bi.val:Bi→Value
 | .len=> .builtin "len" | .range=> .type "range" | .sorted=> .builtin "sorted" | .tuple=> .type "tuple" | .list=> .type "list" | .any=> .builtin "any" | .abs=> .builtin "abs" | .int=> .type "int"
inductive ExS (f:V→Option (List V)) (x:V) (k:List V→Prop):Prop
 | mk (l:List V) (h1:f x=some l) (h2:l.length≤lim) (h:k l):ExS f x k
noncomputable def int1 (k:Int→Prop):V→Prop
 | .int n=>k n
 | _=>False
theorem int1_inv {k:Int→Prop} {v:V} (h:int1 k v):∃ n,v= .int n∧k n:=by
 cases v with
 | int n=>exact ⟨n,rfl,h⟩
 | _=>exact h.elim
noncomputable def rngK (Q:Int→Int→Prop):List V→Prop
 | [x]=>int1 (Q 0) x
 | [x,y]=>int1 (fun a=>int1 (Q a) y) x
 | _=>False
theorem rngK_inv {Q:Int→Int→Prop}:∀ {xs:List V},rngK Q xs→(∃ n,xs=[.int n]∧Q 0 n)∨∃ a c,xs=[.int a,.int c]∧Q a c
 | [x],h=>let ⟨n,e,h⟩:=int1_inv h;.inl ⟨n,congrArg (fun v=>[v]) e,h⟩
 | [x,y],h=>let ⟨a,e,h⟩:=int1_inv h;let ⟨c,e',h⟩:=int1_inv h;.inr ⟨a,c,e▸e'▸rfl,h⟩
inductive SrtK (m:Bool) (x:V) (σ:MS) (Q:V→MS→Prop):Prop
 | mk (kvs:List (Int×V)) (h1:dictOf? σ x=some kvs) (h2:kvs.length<64) (h:∀ ns:List Int,ns.Perm (kvs.map (·.1))→ns.Pairwise (·≤·)→mkL m (ns.map V.int) σ Q):SrtK m x σ Q
inductive AnyK (x:V) (σ:MS) (Q:V→MS→Prop):Prop
 | mk (bs:List Bool) (h1:listOf σ x=some (bs.map V.bool)) (h2:bs.length≤lim) (h:Q (.bool (bs.any id)) σ):AnyK x σ Q
noncomputable def biP (B:Bi) (m:Bool) (xs:List V):PT V:=fun σ Q =>
 match B with
 | .len=>one (fun x=>ExS (seqOf σ) x fun l=>Q (.int l.length) σ) xs
 | .range=>rngK (fun a c=>Q (.rng a c) σ) xs
 | .sorted=>one (fun x=>SrtK m x σ Q) xs
 | .tuple=>one (fun x=>ExS (listOf σ) x fun l=>Q (.tup l) σ) xs
 | .list=>one (fun x=>ExS (seqOf σ) x fun l=>mkL m l σ Q) xs
 | .any=>one (fun x=>AnyK x σ Q) xs
 | .abs=>one (int1 fun i=>Q (.int (if i<0 then -i else i)) σ) xs
 | .int=>one (int1 fun i=>Q (.int i) σ) xs
section
variable {prog:Program} {w:World} {h₀:Heap} {sc:Scope} {env:Env} {b:Nat} {A:Around} {H H':Hm} {s s':Shared} {σ:MS}
theorem keysInts {ps:List (Int×Value)}:∀ {vs:List Value},vs.length=ps.length→(∀ (j:Nat) (v:Value),vs[j]?=some v→∃ k x,ps[j]?=some (k,x)∧(intKind prog w).is k v=true)→IntsAre vs (ps.map (·.1)):=by
 induction ps with
 | nil=>intro vs h _;cases vs with | nil=>exact .nil | cons=>cases h
 | cons p r ih =>
  intro vs h hv
  cases vs with
  | nil=>cases h
  | cons v t =>
   obtain ⟨k,x,e1,e2⟩:=hv 0 v rfl
   simp only [List.getElem?_cons_zero,Option.some.injEq] at e1
   subst e1
   obtain ⟨tk,rfl⟩:=Value.isInt_shape e2
   exact .cons k tk (ih (by simpa using h) fun j v e=>hv (j+1) v (by simpa using e))
theorem IntsAre.allIs {vs:List Value} {ns:List Int} (h:IntsAre vs ns):AllIs H (ns.map V.int) vs:=by
 induction h with
 | nil=>exact .nil
 | cons n t _ ih=>exact .cons (.int n t) ih
theorem wp_sorted {m:Bool} {x:V} {u:Value} {Q:V→MS→Prop} (hb:∃ o,h₀.get? sysModules=some o) (hA:AOk b A) (S:St prog w h₀ sc env H σ s.heap) (hx:ValIs H x u) (hQ:biP .sorted m [x] σ Q) :
  wpAny (model prog w) A (call (.builtin "sorted") [u]) (Post prog w h₀ sc env RV H s Q) noE s:=by
 obtain ⟨kvs,h1,h2,h3⟩:=hQ
 obtain ⟨a,ps,rfl,rfl,h4,h5,h6⟩:=dictOf_is S hx h1
 obtain ⟨ep,hat⟩:=h5.dictAt
 have hn:ps.length<64:=by rw [←h6.length];exact h2
 have e:sizeLine=16777216:=by decide
 refine call_function_entry kind_sorted plain_sorted entry_sorted (args_sorted1 _) ?_
 unfold Builtin.«sorted»
 refine wpAny_bind (m:=checkCount "sorted" 1 1 _) (wpAny_pure ?_)
 refine wpAny_bind (kdu_collect (A:=A.in1) (kdl_dict (knd:=intKind prog w) (kvs:=ps) (ep:=ep) (not_sys hb S.heap h4)) hA.1 hat (by rw [e];exact zk1 hn rfl) fun h' tk acc hk hacc => ?_)
 have hl:acc.toList.length=ps.length:=by rw [Array.length_toList];exact hacc.1
 have hI:IntsAre acc.toList (ps.map (·.1)):=keysInts hl fun j v e=>hacc.2 j v (by rw [←Array.getElem?_toList];exact e)
 refine wpAny_bind (wpAny_newList ?_ (by rw [hl,e];exact zk1 hn rfl))
 have hoL:(h'.push (seqObj "list" acc.toList.toArray 0)).get? h'.objs.size=some (seqObj "list" acc.toList.toArray 0):=Heap.get?_push_size _ rfl
 refine wpAny_bind (wpAny_holding (PySem.wpAny_call_entry slot_list_sort ⟨_,hoL,rfl⟩ entry_list_sort (list_sort_tree hoL hI (by rw [hl];exact hn) fun out ns' a1 a2 a3=>⟨_,rfl,?_⟩) (args_list_sort _)))
 refine wpAny_pure ⟨_,rfl,?_⟩
 obtain ⟨n',he⟩:=sortedHeap_at (out:=out) hoL
 have kept:∀ c o,s.heap.get? c=some o→(sortedHeap (h'.push (seqObj "list" acc.toList.toArray 0)) h'.objs.size acc.toList out).get? c=some o:=fun c o ec=>by
  have e1:=hk c o ec
  have lt:=Heap.lt_size e1
  rw [sortedHeap_old (Nat.ne_of_lt lt) (Nat.lt_of_lt_of_le lt (by rw [Heap.size_push];exact Nat.le_succ _))]
  exact Heap.get?_push_of_some _ e1
 have ho:H h'.objs.size= .out:=S.heap.out_of_none (by
  cases q:s.heap.get? h'.objs.size with
  | none=>rfl
  | some o=>exact absurd (Heap.lt_size (hk _ _ q)) (Nat.lt_irrefl _))
 have:=fin_mkL (s:={s with heap:=sortedHeap (h'.push (seqObj "list" acc.toList.toArray 0)) h'.objs.size acc.toList out,toks:=tk}) (m:=m) (Q:=Q) (l:=ns'.map V.int) (S.keeps kept) he ho (Mine.IntsAre.allIs a1)
  (h3 ns' (by rw [←h6.keys];exact a2) a3)
 exact this.from (.refl H) (.mk s _ _)
theorem boolsTruth {items:Array Value} {bs:List Bool} (h:AllIs H (bs.map V.bool) items.toList) (A:Around):TruthOf prog w A (fun i v=>items[i]?=some v) (fun i=>bs.getD i false):=by
 intro i v E s Q hv hq
 replace hv:=(Array.getElem?_toList).trans hv
 obtain ⟨x,e1,e2⟩:=h.get' hv
 replace e1:=(List.getElem?_map).symm.trans e1
 cases e3:bs[i]? with
 | none=>rw [e3] at e1;cases e1
 | some t =>
  rw [e3] at e1
  cases e1
  cases e2
  have:bs.getD i false=t:=by rw [List.getD_eq_getElem?_getD,e3];rfl
  dsimp only at hq
  rw [this] at hq
  exact wpAny_truthy_bool hq
theorem any_range (bs:List Bool):(List.range bs.length).any (fun i=>bs.getD i false)=bs.any id:=by
 rw [Bool.eq_iff_iff]
 simp only [List.any_eq_true,List.mem_range,id]
 constructor
 ·rintro ⟨i,hi,h⟩
  refine ⟨bs[i],List.getElem_mem hi,?_⟩
  rwa [List.getD_eq_getElem?_getD,List.getElem?_eq_getElem hi] at h
 ·rintro ⟨x,hx,h⟩
  obtain ⟨i,hi,rfl⟩:=List.getElem_of_mem hx
  exact ⟨i,hi,by rw [List.getD_eq_getElem?_getD,List.getElem?_eq_getElem hi];exact h⟩
theorem wp_any {x:V} {u:Value} {Q:V→MS→Prop} (hA:AOk b A) (S:St prog w h₀ sc env H σ s.heap) (hx:ValIs H x u) (hQ:AnyK x σ Q) :
  wpAny (model prog w) A (call (.builtin "any") [u]) (Post prog w h₀ sc env RV H s Q) noE s:=by
 obtain ⟨bs,h1,h2,h3⟩:=hQ
 obtain ⟨a,it,n,rfl,i1,a1,z1⟩:=listOf_len S hx h1
 refine call_any_walk (wpAny_pyIter_list (IsL.isList i1) ?_)
 have hne:a≠s.heap.objs.size:=Nat.ne_of_lt (Heap.lt_size i1)
 refine ⟨s.heap.objs.size,_,_,_,_,_,_,rfl,Walks.list (A:=A.in1) hA.1 s.heap.objs.size a hne it,⟨⟨_,Heap.get?_push_size _ rfl,rfl,rfl⟩,(IsL.isList i1).push _⟩,boolsTruth a1 _,fun h' tk hk => ?_⟩
 have:it.size=bs.length:=by rw [z1,List.length_map]
 rw [this,any_range]
 exact ⟨H,σ,_,.refl H,S.keeps fun c o e=>hk c o (fun q=>absurd (Heap.lt_size e) (by rw [List.mem_singleton.mp q];exact Nat.lt_irrefl _)) (Heap.get?_push_of_some _ e),.bool _,⟨_,_,rfl⟩,h3⟩
theorem wp_bi {B:Bi} {m:Bool} {xs:List V} {us:List Value} {Q:V→MS→Prop} (hb:∃ o,h₀.get? sysModules=some o) (hA:AOk b A) (S:St prog w h₀ sc env H σ s.heap) (hx:AllIs H xs us) (hQ:biP B m xs σ Q) :
  wpAny (model prog w) A (call B.val us) (Post prog w h₀ sc env RV H s Q) noE s:=by
 have e:sizeLine=16777216:=by decide
 have e':lim=1000000:=rfl
 have inv:∀ {k:V→Prop},one k xs→∃ x u,us=[u]∧ValIs H x u∧k x:=fun {k} h=>by
  obtain ⟨x,rfl,h⟩:=one_inv h
  cases hx with | cons h1 hx =>
  cases hx
  exact ⟨x,_,rfl,h1,h⟩
 have inI:∀ {k:Int→Prop},one (int1 k) xs→∃ n t,us=[.int n t]∧k n:=fun {k} h=>by
  obtain ⟨x,u,rfl,h1,h⟩:=inv h
  obtain ⟨n,rfl,h⟩:=int1_inv h
  cases h1 with | int _ t=>exact ⟨n,t,rfl,h⟩
 cases B
 ·obtain ⟨x,u,rfl,h1,l,h2,h3,h4⟩:=inv hQ
  obtain ⟨a,it,n,rfl,h5,h6⟩:=seqOf_is S h1 h2
  have hl:it.size=l.length:=by rw [h6.length,Array.length_toList]
  rcases h5 with h5 | h5
  ·exact Calls.call_len_list (IsL.isList h5) (by rw [hl];exact lim_fit h3) ⟨H,σ,_,.refl H,S,by rw [hl];exact .int _ _,⟨_,_,rfl⟩,h4⟩
  ·exact PyProof.Rows.len_tuple (IsTup.mk' h5) (by rw [hl];exact lim_fit h3) ⟨H,σ,_,.refl H,S,by rw [hl];exact .int _ _,⟨_,_,rfl⟩,h4⟩
 ·have ho:=S.outSize
  have hQ:rngK (fun a c=>Q (.rng a c) σ) xs:=hQ
  rcases rngK_inv hQ with ⟨n,rfl,hQ⟩ | ⟨a,c,rfl,hQ⟩
  ·cases hx with | cons h1 hx =>
   cases hx
   cases h1 with | int _ t =>
   refine call_range_1 ?_
   exact ⟨H.set s.heap.objs.size (.fz {cls:= .type "range",data:= .fields #[.int 0 s.toks,.int n t,.int 1 (s.toks+1)]}),σ,.rng 0 n,.set ho,(S.push _).newFz ho (Heap.get?_push_size _ rfl),.rng (Hm.set_self ..),⟨_,_,rfl⟩,hQ⟩
  ·cases hx with | cons h1 hx =>
   cases hx with | cons h2 hx =>
   cases hx
   cases h1 with | int _ t =>
   cases h2 with | int _ t' =>
   refine call_range_2 ?_
   exact ⟨H.set s.heap.objs.size (.fz {cls:= .type "range",data:= .fields #[.int a t,.int c t',.int 1 s.toks]}),σ,.rng a c,.set ho,(S.push _).newFz ho (Heap.get?_push_size _ rfl),.rng (Hm.set_self ..),⟨_,_,rfl⟩,hQ⟩
 ·obtain ⟨x,u,rfl,h1,hQ⟩:=inv hQ
  exact wp_sorted hb hA S h1 hQ
 ·obtain ⟨x,u,rfl,h1,l,h2,h3,h4⟩:=inv hQ
  obtain ⟨a,it,n,rfl,h5,h6,h7⟩:=listOf_len S h1 h2
  refine call_tuple_list (IsL.isList h5) (fun h' hk => ?_) (by exact zh30 e' e h7 h3)
  have ho:H h'.objs.size= .out:=S.heap.out_of_none (by
   cases q:s.heap.get? h'.objs.size with
   | none=>rfl
   | some o=>exact absurd (Heap.lt_size (hk _ _ q)) (Nat.lt_irrefl _))
  have:=fin_tup (s:={s with heap:=h'.push {cls:= .type "tuple",data:= .seq it}}) (Q:=Q) (l:=l) ((S.keeps hk).push _) (Heap.get?_push_size _ rfl) ho h6 h4
  exact this.from (.refl H) (.mk s _ _)
 ·obtain ⟨x,u,rfl,h1,l,h2,h3,h4⟩:=inv hQ
  obtain ⟨a,it,n,rfl,h5,h6⟩:=seqOf_is S h1 h2
  have hl:it.size=l.length:=by rw [h6.length,Array.length_toList]
  have fin:∀ h' c',(∀ b o',s.heap.get? b=some o'→h'.get? b=some o')→h'.get? s.heap.objs.size=some (lobj "list" it c')→Post prog w h₀ sc env RV H s Q (.ref s.heap.objs.size) {s with heap:=h'}:=fun h' c' hk ho =>
   Post.from (.refl H) (.mk s _ _) (fin_mkL (s:={s with heap:=h'}) (m:=m) (Q:=Q) (l:=l) (S.keeps hk) ho S.outSize h6 h4)
  rcases h5 with h5 | h5
  ·exact call_list_seq a (.inl rfl) h5 rfl rfl fin (by exact zh30 e' e hl h3)
  ·exact call_list_seq a (.inr rfl) h5 rfl rfl fin (by exact zh30 e' e hl h3)
 ·obtain ⟨x,u,rfl,h1,hQ⟩:=inv hQ
  exact wp_any hA S h1 hQ
 ·obtain ⟨i,t,rfl,hQ⟩:=inI hQ
  exact call_abs_int fun u tk=>⟨H,σ,_,.refl H,S,.int _ _,⟨_,_,rfl⟩,hQ⟩
 ·obtain ⟨i,t,rfl,hQ⟩:=inI hQ
  exact call_int_int ⟨H,σ,_,.refl H,S,.int _ _,.refl s,hQ⟩
theorem tri_bi {B:Bi} {m:Bool} {px pos:Pos} {es:List Expr} {P:PT (List V)} (hb:∃ o,h₀.get? sysModules=some o) (E:EnvOk sc env) (hx:sc.names.lookup B.name=some .globalImplicit) (G:GV h₀ B.name B.val)
  (hs:noStar es=true) (h:Tri prog w h₀ b sc env RVs (spliced (evs es env)) P) :
  Tri prog w h₀ b sc env RV (eval (.Call (.Name B.name px) es [] pos) env) (fun σ Q=>P σ fun l σ1=>biP B m l σ1 Q):=fun A hA σ Q s H hP S =>
 wp_nameCall E hx (by cases B<;>decide) G hs h (by cases B<;>first | exact keep_builtin _ | exact keep_type _) hA hP S fun us l σ1 s1 H1 g1 e1 r1 q1 S1=>wp_from g1 e1 (wp_bi hb hA S1 r1 q1)
end
end Mine
namespace Mine
set_option genCtorIdx false in
inductive MT where
 | var (i:Nat)
 | two (a b:MT)
 | three (a b c:MT)
noncomputable def MT.ctorIdx (t:MT):Nat := @MT.casesOn (fun _=>Nat) t (fun _=>0) (fun _ _=>1) (fun _ _ _=>2)
noncomputable def vtup:V→List V
 | .tup l=>l
 | _=>[]
noncomputable def v2 (f:V→V→Option MS):List V→Option MS
 | [x,y]=>f x y
 | _=>none
noncomputable def v3 (f:V→V→V→Option MS):List V→Option MS
 | [x,y,z]=>f x y z
 | _=>none
noncomputable def asgV:MT→V→MS→Option MS
 | .var i=>fun v σ=>some ⟨setV σ.loc i v,σ.lv⟩
 | .two a b=>fun v σ=>v2 (fun x y=>(asgV a x σ).bind (asgV b y)) (vtup v)
 | .three a b c=>fun v σ=>v3 (fun x y z=>((asgV a x σ).bind (asgV b y)).bind (asgV c z)) (vtup v)
theorem v2_ok {f:V→V→Option MS} {σ:MS}:∀ {l:List V},v2 f l=some σ→∃ x y,l=[x,y]∧f x y=some σ
 | [x,y],h=>⟨x,y,rfl,h⟩
theorem v3_ok {f:V→V→V→Option MS} {σ:MS}:∀ {l:List V},v3 f l=some σ→E3 fun x y z=>l=[x,y,z]∧f x y z=some σ
 | [x,y,z],h=>⟨x,y,z,rfl,h⟩
theorem vtup_ok {v:V} {x:V} {l:List V} (h:vtup v=x::l):v= .tup (x::l):=by
 cases v with
 | tup=>exact congrArg V.tup h
 | _=>cases h
theorem AllIs.inv {H:Hm} {x:V} {l:List V} {us:List Value} (h:AllIs H (x::l) us):E2 fun u us'=>A3 (us=u::us') (ValIs H x u) (AllIs H l us'):=by
 cases h with | cons h1 h2=>exact ⟨_,_,rfl,h1,h2⟩
theorem all1 {H:Hm} {x:V} {us:List Value} (h:AllIs H [x] us):∃ u,us=[u]∧ValIs H x u:=by
 obtain ⟨u,r,rfl,h1,h2⟩:=h.inv
 cases h2;exact ⟨u,rfl,h1⟩
theorem all2 {H:Hm} {x y:V} {us:List Value} (h:AllIs H [x,y] us):E2 fun u v=>A3 (us=[u,v]) (ValIs H x u) (ValIs H y v):=by
 obtain ⟨u,r,rfl,h1,h2⟩:=h.inv
 obtain ⟨v,rfl,h3⟩:=all1 h2
 exact ⟨u,v,rfl,h1,h3⟩
theorem all3 {H:Hm} {x y z:V} {us:List Value} (h:AllIs H [x,y,z] us):E3 fun u v w=>A4 (us=[u,v,w]) (ValIs H x u) (ValIs H y v) (ValIs H z w):=by
 obtain ⟨u,r,rfl,h1,h2⟩:=h.inv
 obtain ⟨v,w,rfl,h3,h4⟩:=all2 h2
 exact ⟨u,v,w,rfl,h1,h3,h4⟩
inductive TgtOk (sc:Scope):MT→Expr→Prop
 | var {i:Nat} {x:Str} {k:NameKind} {pos:Pos}:sc.names[i]?=some (x,k)→(k= .local∨k= .cell)→TgtOk sc (.var i) (.Name x pos)
 | two {a b:MT} {e1 e2:Expr} {k:Nat} {pos:Pos}:TgtOk sc a e1→TgtOk sc b e2→TgtOk sc (.two a b) (.Tuple [e1,e2] k pos)
 | three {a b c:MT} {e1 e2 e3:Expr} {k:Nat} {pos:Pos}:TgtOk sc a e1→TgtOk sc b e2→TgtOk sc c e3→TgtOk sc (.three a b c) (.Tuple [e1,e2,e3] k pos)
theorem TgtOk.each {sc:Scope} {t:MT} {e:Expr} (h:TgtOk sc t e) (env:Env) (r:List Expr):assignEach (e::r) env=(false,assign e env)::assignEach r env:=by
 cases h<;>rfl
section
variable {prog:Program} {w:World} {h₀:Heap} {sc:Scope} {env:Env} {b:Nat} {A:Around} {H H':Hm} {s s':Shared} {σ:MS}
theorem wp_assign (E:EnvOk sc env) (hA:AOk b A) {t:MT} {e:Expr} (ht:TgtOk sc t e):∀ {v:V} {u:Value} {σ σ':MS} {s:Shared} {H:Hm} {Q:Unit→MS→Prop},St prog w h₀ sc env H σ s.heap→ValIs H v u→asgV t v σ=some σ'→Q () σ' →
  wpAny (model prog w) A (assign e env u) (Post prog w h₀ sc env RU H s Q) noE s:=by
 induction ht with
 | var hi hk =>
  intro v u σ σ' s H Q S hv ha hQ
  cases ha
  exact wpAny_bind (wpAny_standAt (tri_bind E hi hk S hv hQ))
 | @two a c e1 e2 k pos h1 h2 ih1 ih2 =>
  intro v u σ σ' s H Q S hv ha hQ
  obtain ⟨x,y,hv',ha⟩:=v2_ok ha
  cases vtup_ok hv'
  obtain ⟨σ1,q1,q2⟩:=Option.bind_eq_some_iff.mp ha
  cases hv with | @tup ad items n _ g1 g2 =>
  have hT:IsTup s.heap ad items:=IsTup.mk' (S.heap.fz _ _ g1)
  have hl:items.size=2:=by rw [←Array.length_toList,←g2.length];rfl
  have he:assignEach [e1,e2] env=[(false,assign e1 env),(false,assign e2 env)]:=by rw [h1.each,h2.each];rfl
  refine assign_Tuple_tuple hA.1 hT (by rw [he,hl];rfl) (by rw [he];rfl) fun h' hk' => ?_
  rw [he]
  obtain ⟨u1,u2,hu,p1,p2⟩:=all2 g2
  rw [hu]
  have S':St prog w h₀ sc env H σ h':=S.keeps fun c o ec=>hk' c o (Nat.ne_of_lt (Heap.lt_size ec)) ec
  refine assignInOrder_cons (wpAny_mono (ih1 (s:={s with heap:=h'}) (Q:=fun _ σ'=>σ'=σ1) S' p1 q1 rfl) (fun _ s2 p => ?_) fun _ _ x=>x)
  obtain ⟨H2,σ2,_,G2,S2,_,e2,rfl⟩:=p
  refine assignInOrder_cons (wpAny_mono (ih2 S2 (p2.mono G2.fz) q2 hQ) (fun _ s3 p => ?_) fun _ _ x=>x)
  exact assignInOrder_nil (p.from G2 (Same.trans (.mk s _ _) e2))
 | @three a c d e1 e2 e3 k pos h1 h2 h3 ih1 ih2 ih3 =>
  intro v u σ σ' s H Q S hv ha hQ
  obtain ⟨x,y,z,hv',ha⟩:=v3_ok ha
  cases vtup_ok hv'
  obtain ⟨σ2',q12,q3⟩:=Option.bind_eq_some_iff.mp ha
  obtain ⟨σ1,q1,q2⟩:=Option.bind_eq_some_iff.mp q12
  cases hv with | @tup ad items n _ g1 g2 =>
  have hT:IsTup s.heap ad items:=IsTup.mk' (S.heap.fz _ _ g1)
  have hl:items.size=3:=by rw [←Array.length_toList,←g2.length];rfl
  have he:assignEach [e1,e2,e3] env=[(false,assign e1 env),(false,assign e2 env),(false,assign e3 env)]:=by rw [h1.each,h2.each,h3.each];rfl
  refine assign_Tuple_tuple hA.1 hT (by rw [he,hl];rfl) (by rw [he];rfl) fun h' hk' => ?_
  rw [he]
  obtain ⟨u1,u2,u3,hu,p1,p2,p3⟩:=all3 g2
  rw [hu]
  have S':St prog w h₀ sc env H σ h':=S.keeps fun c o ec=>hk' c o (Nat.ne_of_lt (Heap.lt_size ec)) ec
  refine assignInOrder_cons (wpAny_mono (ih1 (s:={s with heap:=h'}) (Q:=fun _ σ'=>σ'=σ1) S' p1 q1 rfl) (fun _ s2 p => ?_) fun _ _ x=>x)
  obtain ⟨H2,σ2,_,G2,S2,_,e2,rfl⟩:=p
  refine assignInOrder_cons (wpAny_mono (ih2 (Q:=fun _ σ'=>σ'=σ2') S2 (p2.mono G2.fz) q2 rfl) (fun _ s3 p => ?_) fun _ _ x=>x)
  obtain ⟨H3,σ3,_,G3,S3,_,e3,rfl⟩:=p
  refine assignInOrder_cons (wpAny_mono (ih3 S3 ((p3.mono G2.fz).mono G3.fz) q3 hQ) (fun _ s4 p => ?_) fun _ _ x=>x)
  exact assignInOrder_nil (p.from (G2.trans G3) (Same.trans (.mk s _ _) (Same.trans e2 e3)))
open Classical in
noncomputable def pinAll (H:Hm) (ads:List Addr) (h:Heap):Hm:=fun a=>if a∈ads then .pin ((h.get? a).getD default) else H a
open Classical in
noncomputable def unpin (H:Hm) (ads:List Addr):Hm:=fun a=>if a∈ads then .out else H a
theorem St.pinAll {h:Heap} {ads:List Addr} (S:St prog w h₀ sc env H σ h) (ho:∀ a∈ads,H a= .out∧∃ o,h.get? a=some o):A3 (St prog w h₀ sc env (Mine.pinAll H ads h) σ h) (Grow H (Mine.pinAll H ads h)) (∀ a∈ads,∀ o,h.get? a=some o→Mine.pinAll H ads h a= .pin o):=by
 have k:∀ a,H a≠ .out→Mine.pinAll H ads h a=H a:=fun a q=>by unfold Mine.pinAll;rw [if_neg fun m=>q (ho a m).1]
 have p:∀ a∈ads,∀ o,h.get? a=some o→Mine.pinAll H ads h a= .pin o:=fun a m o e=>by unfold Mine.pinAll;rw [if_pos m,e];rfl
 have k':∀ a y,Mine.pinAll H ads h a=y→(∀ o,y≠ .pin o)→H a=y:=fun a y e q=>by
  unfold Mine.pinAll at e
  split at e
  ·exact absurd e.symm (q _)
  ·exact e
 have hfz:∀ a o,H a= .fz o→Mine.pinAll H ads h a= .fz o:=fun a o e=>(k a (by rw [e];exact Slot.noConfusion)).trans e
 refine ⟨⟨⟨fun a o e=>hfz a o (S.heap.base a o e),fun a o e=>S.heap.fz a o (k' a _ e fun _=>Slot.noConfusion),fun a o e => ?_,fun a y e => ?_,fun a e=>S.heap.own a (k' a _ e fun _=>Slot.noConfusion),
  fun a c e=>S.heap.sub a c (k' a _ e fun _=>Slot.noConfusion)⟩,fun a y e=>by have:=S.live a y e;rw [k a (neo this rfl)];exact this,?_⟩,⟨hfz,fun a o e=>(k a (by rw [e];exact Slot.noConfusion)).trans e,fun a e=>(k a (by rw [e];exact Slot.noConfusion)).trans e⟩,p⟩
 ·by_cases m:a∈ads
  ·obtain ⟨o',e'⟩:=(ho a m).2
   replace e:=(p a m o' e').symm.trans e;cases e;exact e'
  ·have:Mine.pinAll H ads h a=H a:=by unfold Mine.pinAll;rw [if_neg m]
   replace e:=this.symm.trans e;exact S.heap.pin a o e
 ·exact (S.heap.lv a y (k' a _ e fun _=>Slot.noConfusion)).mono hfz fun d q=>(k d (by rw [q];exact Slot.noConfusion)).trans q
 ·have F:=S.fr
  refine ⟨(k _ (by rw [F.L];exact Slot.noConfusion)).trans F.L,F.ns,fun i v e => ?_,fun n e => ?_,fun n c e => ?_⟩
  ·obtain ⟨n,kd,u,h1,h2,h3⟩:=F.loc i v e
   refine ⟨n,kd,u,h1,?_,h3.mono hfz⟩
   rcases h2 with h2 | ⟨h2,c,h4,h5,h6⟩
   ·exact .inl h2
   ·refine .inr ⟨h2,c,h4,h5,?_⟩
    rcases h6 with h6 | ⟨o,h6⟩
    ·exact .inl ((k c (by rw [h6];exact Slot.noConfusion)).trans h6)
    ·exact .inr ⟨o,(k c (by rw [h6];exact Slot.noConfusion)).trans h6⟩
  ·obtain ⟨c,v,h1,h2,h3⟩:=F.cell n e
   exact ⟨c,v,h1,(k c (by rw [h2];exact Slot.noConfusion)).trans h2,h3⟩
  ·rcases F.cls n c e with e' | ⟨o,v,e',r⟩
   ·exact .inl e'
   ·exact .inr ⟨o,v,(k c (by rw [e'];exact Slot.noConfusion)).trans e',r⟩
theorem St.unpin {h:Heap} {ads:List Addr} (S:St prog w h₀ sc env H σ h) (ho:∀ a∈ads,∃ o,H a= .pin o∧∀ v,o.data≠ .cell v):A3 (St prog w h₀ sc env (Mine.unpin H ads) σ h) (∀ a o,H a= .fz o→Mine.unpin H ads a= .fz o) (∀ a∈ads,Mine.unpin H ads a= .out):=by
 have k:∀ a,(∀ o,H a≠ .pin o)→Mine.unpin H ads a=H a:=fun a q=>by unfold Mine.unpin;rw [if_neg fun m=>let ⟨o,e,_⟩:=ho a m;q o e]
 have kn:∀ a,a∉ads→Mine.unpin H ads a=H a:=fun a q=>by unfold Mine.unpin;rw [if_neg q]
 have out:∀ a∈ads,Mine.unpin H ads a= .out:=fun a m=>by unfold Mine.unpin;rw [if_pos m]
 have k':∀ a y,Mine.unpin H ads a=y→y≠ .out→H a=y:=fun a y e q=>by
  by_cases m:a∈ads
  ·replace e:=(out a m).symm.trans e;exact absurd e.symm q
  ·replace e:=(kn a m).symm.trans e;exact e
 have hfz:∀ a o,H a= .fz o→Mine.unpin H ads a= .fz o:=fun a o e=>(k a (by rw [e];exact fun _=>Slot.noConfusion)).trans e
 refine ⟨⟨⟨fun a o e=>hfz a o (S.heap.base a o e),fun a o e=>S.heap.fz a o (k' a _ e Slot.noConfusion),fun a o e=>S.heap.pin a o (k' a _ e Slot.noConfusion),fun a y e => ?_,fun a e=>S.heap.own a (k' a _ e Slot.noConfusion),
  fun a c e=>S.heap.sub a c (k' a _ e Slot.noConfusion)⟩,fun a y e=>by have:=S.live a y e;rw [k a (by rw [this];exact fun _=>Slot.noConfusion)];exact this,?_⟩,hfz,out⟩
 ·exact (S.heap.lv a y (k' a _ e Slot.noConfusion)).mono hfz fun d q=>(k d (by rw [q];exact fun _=>Slot.noConfusion)).trans q
 ·have F:=S.fr
  refine ⟨(k _ (by rw [F.L];exact fun _=>Slot.noConfusion)).trans F.L,F.ns,fun i v e => ?_,fun n e => ?_,fun n c e => ?_⟩
  ·obtain ⟨n,kd,u,h1,h2,h3⟩:=F.loc i v e
   refine ⟨n,kd,u,h1,?_,h3.mono hfz⟩
   rcases h2 with h2 | ⟨h2,c,h4,h5,h6⟩
   ·exact .inl h2
   ·refine .inr ⟨h2,c,h4,h5,?_⟩
    rcases h6 with h6 | ⟨o,h6⟩
    ·exact .inl ((k c (by rw [h6];exact fun _=>Slot.noConfusion)).trans h6)
    ·refine .inr ⟨o,?_⟩
     rw [kn c fun m => ?_]
     ·exact h6
     ·obtain ⟨o',e1,e2⟩:=ho c m
      replace e1:=h6.symm.trans e1;cases e1
      obtain ⟨o'',e3,e4⟩:=h5
      have:=S.heap.pin c o h6
      replace this:=e3.symm.trans this;cases this
      exact e2 _ e4
  ·obtain ⟨c,v,h1,h2,h3⟩:=F.cell n e
   exact ⟨c,v,h1,(k c (by rw [h2];exact fun _=>Slot.noConfusion)).trans h2,h3⟩
  ·rcases F.cls n c e with e' | ⟨o,v,e',r⟩
   ·exact .inl e'
   ·refine .inr ⟨o,v,?_,r⟩
    rw [kn c fun m => ?_]
    ·exact e'
    ·obtain ⟨o',e1,e2⟩:=ho c m
     replace e1:=e'.symm.trans e1;cases e1
     exact e2 _ r
inductive NxOk (prog:Program) (w:World) (h₀:Heap) (sc:Scope) (env:Env) (H:Hm) (σ:MS) (x:V) (u:Value) (Cur:Heap→Nat→Prop) (i:Nat) (ads:List Addr) (s s':Shared):Prop
 | mk (H':Hm) (g:Grow H H') (S:St prog w h₀ sc env H' σ s'.heap) (v:ValIs H' x u) (c:Cur s'.heap i) (o:∀ a∈ads,H' a= .out) (e:Same s s'):NxOk prog w h₀ sc env H σ x u Cur i ads s s'
structure Src (prog:Program) (w:World) (h₀:Heap) (A:Around) (H₀:Hm) (it:Value) (target:Expr) (ads:List Addr) (Cur:Heap→Nat→Prop) (ok:MS→Prop) (items:List V):Prop where
 cur:∀ h h' i,Cur h i→(∀ a∈ads,∀ o,h.get? a=some o→h'.get? a=some o)→Cur h' i
 obj:∀ h i,Cur h i→∀ a∈ads,∃ o,h.get? a=some o∧∀ v,o.data≠ .cell v
 next:∀ sc env i s H σ x,(∀ a o,H₀ a= .fz o→H a= .fz o)→St prog w h₀ sc env H σ s.heap→ok σ→Cur s.heap i→(∀ a∈ads,H a= .out)→items[i]?=some x →
  wpAny (model prog w) A (pyNext it) (fun r s'=>∃ u,r=some u∧wpAny (model prog w) A (letOwnedTupleGo target it u) (fun _=>NxOk prog w h₀ sc env H σ x u Cur (i+1) ads s) noE s') noE s
 stop:∀ sc env s H σ,(∀ a o,H₀ a= .fz o→H a= .fz o)→St prog w h₀ sc env H σ s.heap→ok σ→Cur s.heap items.length→(∀ a∈ads,H a= .out) →
  wpAny (model prog w) A (pyNext it) (fun r s'=>A3 (r=none) (St prog w h₀ sc env H σ s'.heap) (Same s s')) noE s
 self:∀ i s Q,Cur s.heap i→Q it s→wpAny (model prog w) A (pyIter it) Q noE s
inductive AsgC (p:Prop) (t:MT) (x:V) (σ:MS) (k:MS→Prop):Prop
 | mk (h:p) (σ1:MS) (e:asgV t x σ=some σ1) (q:k σ1):AsgC p t x σ k
noncomputable def forC (R:PT Fl) (Q:Fl→MS→Prop) (fl:Fl) (σ2:MS):Prop:=match fl with
 | .next=>R σ2 Q
 | .cont=>R σ2 Q
 | .brk=>Q .next σ2
 | .ret v=>Q (.ret v) σ2
noncomputable def forP (t:MT) (ok:MS→Prop) (body:PT Fl):List V→PT Fl
 | []=>fun σ Q=>ok σ∧Q .next σ
 | x::r=>fun σ Q=>AsgC (ok σ) t x σ fun σ1=>body σ1 (forC (forP t ok body r) Q)
inductive ForI (prog:Program) (w:World) (h₀:Heap) (sc:Scope) (env:Env) (H:Hm) (s:Shared) (items:List V) (Cur:Heap→Nat→Prop) (ads:List Addr) (t:MT) (ok:MS→Prop) (P:PT Fl) (Q:Fl→MS→Prop) (n:Nat) (s':Shared):Prop
 | mk (i:Nat) (H':Hm) (σ':MS) (h1:n=items.length - i) (h2:i≤items.length) (g:Grow H H') (e:Same s s') (S:St prog w h₀ sc env H' σ' s'.heap) (c:Cur s'.heap i) (o:∀ a∈ads,H' a= .out) (h:forP t ok P (items.drop i) σ' Q):ForI prog w h₀ sc env H s items Cur ads t ok P Q n s'
theorem wp_forLoop {it:Value} {target:Expr} {ads:List Addr} {Cur:Heap→Nat→Prop} {ok:MS→Prop} {items:List V} {t:MT} {bd:List Stmt} {P:PT Fl} {Q:Fl→MS→Prop} (E:EnvOk sc env) (hA:AOk b A)
  (X:Src prog w h₀ A H it target ads Cur ok items) (ht:TgtOk sc t target) (hb:Tri prog w h₀ b sc env FlIs (execs bd env) P)
  (S:St prog w h₀ sc env H σ s.heap) (hc:Cur s.heap 0) (ho:∀ a∈ads,H a= .out) (hP:forP t ok P items σ Q) :
  codeAny (model prog w) A (.forLoop target it bd [] env) (fun r s'=>match r with | .ok f=>Post prog w h₀ sc env FlIs H s Q f s' | .error e=>noE e s') s:=by
 refine codeAny_forLoop_any (ForI prog w h₀ sc env H s items Cur ads t ok P Q) ?_ (items.length - 0)
  ⟨0,H,σ,rfl,Nat.zero_le _,.refl H,.refl s,S,hc,ho,by simpa using hP⟩
 rintro n s' ⟨i,H',σ',rfl,hi,g,sm,S',hc',ho',hP'⟩
 by_cases hlt:i<items.length
 ·have hx:items[i]?=some items[i]:=List.getElem?_eq_getElem hlt
  rw [List.drop_eq_getElem_cons hlt] at hP'
  obtain ⟨hok,σ1,ha,hbody⟩:=hP'
  refine wpAny_mono (X.next sc env i s' H' σ' _ g.fz S' hok hc' ho' hx) (fun r s1 p => ?_) fun _ _ x=>x.elim
  obtain ⟨u,rfl,p⟩:=p
  refine wpAny_mono p (fun _ s2 p => ?_) fun _ _ x=>x.elim
  obtain ⟨H2,g2,S2,hv,hc2,ho2,sm2⟩:=p
  obtain ⟨S3,g3,p3⟩:=S2.pinAll (ads:=ads) fun a m=>⟨ho2 a m,let ⟨o,e,_⟩:=X.obj _ _ hc2 a m;⟨o,e⟩⟩
  refine wpAny_mono (wp_assign E hA ht S3 (hv.mono g3.fz) ha (Q:=fun _ σ''=>σ''=σ1) rfl) (fun _ s3 p => ?_) fun _ _ x=>x.elim
  obtain ⟨H4,σ4,_,g4,S4,_,sm4,rfl⟩:=p
  refine wpAny_mono (hb A hA σ4 _ s3 H4 hbody S4) (fun fl s5 p => ?_) fun _ _ x=>x.elim
  obtain ⟨H5,σ5,y,g5,S5,r5,sm5,q5⟩:=p
  have pin5:∀ a∈ads,∃ o,H5 a= .pin o∧s2.heap.get? a=some o∧∀ v,o.data≠ .cell v:=fun a m=>by
   obtain ⟨o,e,nc⟩:=X.obj _ _ hc2 a m
   exact ⟨o,g5.pin a o (g4.pin a o (p3 a m o e)),e,nc⟩
  obtain ⟨S6,f6,o6⟩:=S5.unpin (ads:=ads) fun a m=>let ⟨o,e,_,nc⟩:=pin5 a m;⟨o,e,nc⟩
  have g6:Grow H2 (Mine.unpin H5 ads):=by
   have gg:=(g3.trans g4).trans g5
   have no:∀ a,H2 a≠ .out→Mine.unpin H5 ads a=H5 a:=fun a q=>by unfold Mine.unpin;rw [if_neg fun m=>q (ho2 a m)]
   exact ⟨fun a o e=>by rw [no a (by rw [e];exact Slot.noConfusion)];exact gg.fz a o e,fun a o e=>by rw [no a (by rw [e];exact Slot.noConfusion)];exact gg.pin a o e,fun a e=>by rw [no a (by rw [e];exact Slot.noConfusion)];exact gg.own a e⟩
  have sm6:Same s s5:=sm.trans (sm2.trans (sm4.trans sm5))
  have hc6:Cur s5.heap (i+1):=X.cur _ _ _ hc2 fun a m o e=>by
   obtain ⟨o',e1,e2,_⟩:=pin5 a m
   replace e2:=e.symm.trans e2;cases e2
   exact S5.heap.pin a o e1
  cases r5 with
  | next=>exact ⟨items.length - (i+1),by exact zh35 hlt,i+1,_,σ5,rfl,hlt,g.trans (g2.trans g6),sm6,S6,hc6,o6,q5⟩
  | cont=>exact ⟨items.length - (i+1),by exact zh35 hlt,i+1,_,σ5,rfl,hlt,g.trans (g2.trans g6),sm6,S6,hc6,o6,q5⟩
  | brk=>exact ⟨_,σ5,.next,g.trans (g2.trans g6),S6,.next,sm6,q5⟩
  | ret r=>exact ⟨_,σ5,_,g.trans (g2.trans g6),S6,.ret (r.mono f6),sm6,q5⟩
 ·have:i=items.length:=by exact zh36 hi hlt
  subst this
  rw [List.drop_length] at hP'
  refine wpAny_mono (X.stop sc env s' H' σ' g.fz S' hP'.1 hc' ho') (fun r s1 p => ?_) fun _ _ x=>x.elim
  obtain ⟨rfl,S1,sm1⟩:=p
  exact wpAny_execs_nil ⟨H',σ',.next,g,S1,.next,sm.trans sm1,hP'.2⟩
end
end Mine
namespace Mine
noncomputable def rngL (a c:Int):List V:=(List.range (c - a).toNat).map fun (i:Nat)=>V.int (a+i)
noncomputable def itemsOf (σ:MS):V→Option (List V)
 | .tup l=>some l
 | .rng a c=>some (rngL a c)
 | v=>listOf σ v
noncomputable def rngOk:V→Prop
 | .rng a c => -(lim:Int)≤a∧a≤lim ∧ -(lim:Int)≤c∧c≤lim
 | _=>True
section
variable {prog:Program} {w:World} {h₀:Heap} {sc:Scope} {env:Env} {b:Nat} {A:Around} {H H':Hm} {s s':Shared} {σ:MS}
theorem wp_noOwned {target:Expr} {I:Addr} {u:Value} {T:String} {o:Obj} {Q:Unit→Shared→Prop} {E:Value→Shared→Prop} (ho:s.heap.get? I=some o) (hc:o.cls= .type T)
  (hn:(["enumerate", "zip", "dict_itemiterator", "dict_reverseitemiterator", "odict_iterator", "itertools.zip_longest", "itertools.pairwise"]:List String).contains T=false) (h:Q () s) :
  wpAny (model prog w) A (letOwnedTupleGo target (.ref I) u) Q E s:=by
 have fin:wpAny (model prog w) A (do
   let (.ref r,.ref a):=((.ref I:Value),u) | return
   let o ←load r
   match o.cls,o.data with
   | .type n,.fields vs =>
    if ["enumerate", "zip", "dict_itemiterator", "dict_reverseitemiterator", "odict_iterator", "itertools.zip_longest", "itertools.pairwise"].contains n && vs[0]? == some (rawInt a) then
     rule "for.unpacks-the-owned-tuple"
     updateField r 0 .none
   | _,_=>pure ()) Q E s:=by
  cases u with
  | ref a =>
   refine wpAny_bind (wpAny_load ho ?_)
   rw [hc]
   cases hd:o.data with
   | fields vs =>
    dsimp only
    rw [hn]
    exact wpAny_pure h
   | _=>exact wpAny_pure h
  | _=>exact wpAny_pure h
 cases target with
 | Tuple=>exact fin
 | List=>exact fin
 | _=>exact wpAny_pure h
theorem noCell_fields {o:Obj} {vs:Array Value} (h:o.data= .fields vs):∀ v,o.data≠ .cell v:=fun v e=>by replace e:=h.symm.trans e;cases e
inductive SrcAt (prog:Program) (w:World) (h₀:Heap) (A:Around) (sc:Scope) (env:Env) (H:Hm) (σ:MS) (it:Value) (target:Expr) (ok:MS→Prop) (items:List V) (s s':Shared):Prop
 | mk (ads:List Addr) (Cur:Heap→Nat→Prop) (X:Src prog w h₀ A H it target ads Cur ok items) (c:Cur s'.heap 0) (o:∀ a∈ads,H a= .out) (S:St prog w h₀ sc env H σ s'.heap) (e:Same s s'):SrcAt prog w h₀ A sc env H σ it target ok items s s'
theorem SrcAt.weak {it:Value} {target:Expr} {ok ok':MS→Prop} {items:List V} (q:SrcAt prog w h₀ A sc env H σ it target ok items s s') (k:∀ {it ads Cur},Src prog w h₀ A H it target ads Cur ok items→Src prog w h₀ A H it target ads Cur ok' items):SrcAt prog w h₀ A sc env H σ it target ok' items s s':=by
 obtain ⟨ads,Cur,X,c,o,S,e⟩:=q
 exact ⟨ads,Cur,k X,c,o,S,e⟩
theorem src_list {v:V} {u:Value} {items:List V} {target:Expr} {l0:List V} (hA:AOk b A) (S:St prog w h₀ sc env H σ s.heap) (hv:ValIs H v u) (hi:listOf σ v=some items) :
  wpAny (model prog w) A (pyIter u) (fun it=>SrcAt prog w h₀ A sc env H σ it target (fun σ=>listOf σ v=some items) items s) noE s:=by
 obtain ⟨l,it0,n0,rfl,i0,a0,z0⟩:=listOf_len S hv hi
 refine wpAny_pyIter_list (IsL.isList i0) ?_
 refine ⟨[s.heap.objs.size],fun h i=>h.IsListIter s.heap.objs.size l i,⟨fun h h' i x k=>x.at fun o e=>k _ (List.mem_singleton.mpr rfl) o e,fun h i x a m => ?_,fun sc1 env1 i s1 H1 σ1 x g S1 hok hc ho hx => ?_,fun sc1 env1 s1 H1 σ1 g S1 hok hc ho => ?_,fun i s1 Q hc hq=>wpAny_pyIter_listiter hc hq⟩,
  ⟨_,Heap.get?_push_size _ rfl,rfl,rfl⟩,fun a m=>by rw [List.mem_singleton.mp m];exact S.outSize,S.push _,.mk s _ _⟩
 ·rw [List.mem_singleton.mp m]
  obtain ⟨o,e,_,ed⟩:=x
  exact ⟨o,e,noCell_fields ed⟩
 ·obtain ⟨l',it1,n1,e,i1,a1,z1⟩:=listOf_len S1 (hv.mono g) hok
  cases e
  obtain ⟨u,e1,e2⟩:=a1.get hx
  replace e1:=(Array.getElem?_toList).symm.trans e1
  refine wpAny_pyNext_list_item hc (IsL.isList i1) e1 fun h' hit hs=>⟨u,rfl,?_⟩
  have S2:=S1.sameBut (ho _ (List.mem_singleton.mpr rfl)) hs
  obtain ⟨o,eo,ec,ed⟩:=id hit
  exact wp_noOwned (s:={s1 with heap:=h'}) eo ec (by decide) ⟨H1,.refl H1,S2,e2,hit,ho,.mk s1 _ _⟩
 ·obtain ⟨l',it1,n1,e,i1,a1,z1⟩:=listOf_len S1 (hv.mono g) hok
  cases e
  refine wpAny_pyNext_list_end hA.1 hc (IsL.isList i1) (by rw [←z1];simp) fun h' he=>⟨rfl,S1.agree fun c o hco e=>he c o (fun q=>hco (q▸ho _ (List.mem_singleton.mpr rfl))) e,.mk s1 _ _⟩
theorem src_tup {u:Value} {items:List V} {target:Expr} (hA:AOk b A) (S:St prog w h₀ sc env H σ s.heap) (hv:ValIs H (.tup items) u) :
  wpAny (model prog w) A (pyIter u) (fun it=>SrcAt prog w h₀ A sc env H σ it target (fun σ=>True) items s) noE s:=by
 cases hv with | @tup t its n _ h1 h2 =>
 have hT:∀ {H1:Hm} {h:Heap},(∀ a o,H a= .fz o→H1 a= .fz o)→HeapOk prog w h₀ H1 h→IsTup h t its:=fun g X=>IsTup.mk' (X.fz _ _ (g _ _ h1))
 refine iter_tuple (hT (fun _ _ e=>e) S.heap) ?_
 refine ⟨[s.heap.objs.size],fun h i=>IsTupIter h s.heap.objs.size t i,⟨fun h h' i x k=>let ⟨o,e,r⟩:=x;⟨o,k _ (List.mem_singleton.mpr rfl) o e,r⟩,fun h i x a m => ?_,fun sc1 env1 i s1 H1 σ1 x g S1 hok hc ho hx => ?_,fun sc1 env1 s1 H1 σ1 g S1 hok hc ho => ?_,fun i s1 Q hc hq=>wpAny_pyIter_tupleiter hc hq⟩,
  ⟨_,Heap.get?_push_size _ rfl,rfl,rfl⟩,fun a m=>by rw [List.mem_singleton.mp m];exact S.outSize,S.push _,.mk s _ _⟩
 ·rw [List.mem_singleton.mp m]
  obtain ⟨o,e,_,ed⟩:=x
  exact ⟨o,e,noCell_fields ed⟩
 ·obtain ⟨u,e1,e2⟩:=h2.get hx
  replace e1:=(Array.getElem?_toList).symm.trans e1
  refine next_tuple_item hc (hT g S1.heap) e1 fun h' hit hs=>⟨u,rfl,?_⟩
  have S2:=S1.sameBut (ho _ (List.mem_singleton.mpr rfl)) hs
  obtain ⟨o,eo,ec,ed⟩:=id hit
  exact wp_noOwned (s:={s1 with heap:=h'}) eo ec (by decide) ⟨H1,.refl H1,S2,e2.mono g,hit,ho,.mk s1 _ _⟩
 ·refine next_tuple_end hA.1 hc (hT g S1.heap) (by rw [←Array.getElem?_toList,List.getElem?_eq_none_iff,←h2.length];exact Nat.le_refl _) fun h' he=>⟨rfl,S1.agree fun c o hco e=>he c o (fun q=>hco (q▸ho _ (List.mem_singleton.mpr rfl))) e,.mk s1 _ _⟩
theorem rngL_get {a c:Int} {i:Nat} {x:V} (h:(rngL a c)[i]?=some x):x= .int (a+i)∧i<(c - a).toNat:=by
 unfold rngL at h
 replace h:=(List.getElem?_map).symm.trans h
 cases e:(List.range (c - a).toNat)[i]? with
 | none=>rw [e] at h;cases h
 | some j =>
  rw [e] at h
  have hlt:=(List.getElem?_eq_some_iff.mp e).1
  rw [List.length_range] at hlt
  have:j=i:=by
   have:=(List.getElem?_eq_some_iff.mp e).2
   simpa using this.symm
  subst this
  cases h
  exact ⟨rfl,hlt⟩
theorem rngL_length (a c:Int):(rngL a c).length=(c - a).toNat:=by simp [rngL]
theorem small_ok {a c:Int} (h:rngOk (.rng a c)):Builtin.Range.small a c 1=true:=by
 obtain ⟨h1,h2,h3,h4⟩:=h
 have e:(lim:Int)=1000000:=rfl
 rw [e] at h1 h2 h3 h4
 unfold Builtin.Range.small Builtin.Range.rangeFitsLong
 rw [rangeSize_one]
 simp only [Bool.and_eq_true,Bool.or_eq_true,decide_eq_true_eq,beq_iff_eq]
 split<;>(simp;omega)
theorem src_rng {u:Value} {a c:Int} {target:Expr} (hA:AOk b A) (S:St prog w h₀ sc env H σ s.heap) (hv:ValIs H (.rng a c) u) (hr:rngOk (.rng a c)) :
  wpAny (model prog w) A (pyIter u) (fun it=>SrcAt prog w h₀ A sc env H σ it target (fun σ=>True) (rngL a c) s) noE s:=by
 cases hv with | @rng r _ _ t u' v' h1 =>
 refine wpAny_pyIter_range (S.heap.fz _ _ h1) (small_ok hr) ?_
 refine ⟨[s.heap.objs.size],fun h i=>IsRangeIter h s.heap.objs.size (a+i) (Builtin.Range.rangeSize a c 1 - i) 1,⟨fun h h' i x k=>k _ (List.mem_singleton.mpr rfl) _ x,fun h i x a m => ?_,fun sc1 env1 i s1 H1 σ1 x g S1 hok hc ho hx => ?_,fun sc1 env1 s1 H1 σ1 g S1 hok hc ho => ?_,fun i s1 Q hc hq=>wpAny_pyIter_rangeiter hc hq⟩,
  ?_,fun a m=>by rw [List.mem_singleton.mp m];exact S.outSize,S.push _,.mk s _ _⟩
 ·rw [List.mem_singleton.mp m]
  exact ⟨_,x,noCell_fields rfl⟩
 ·obtain ⟨rfl,hlt⟩:=rngL_get hx
  have hsz:Builtin.Range.rangeSize a c 1=c - a:=by rw [rangeSize_one];split<;>omega
  refine wpAny_pyNext_range_item hc (by rw [hsz];exact zh37 hlt) fun h' hit hs=>⟨_,rfl,?_⟩
  have S2:=S1.sameBut (ho _ (List.mem_singleton.mpr rfl)) hs
  refine wp_noOwned (s:={s1 with heap:=h',toks:=s1.toks+1}) hit rfl (by decide) ⟨H1,.refl H1,S2,.int _ _,?_,ho,.mk s1 _ _⟩
  have e1:a+(i:Int)+1=a+((i+1:Nat):Int):=by exact zh38
  have e2:Builtin.Range.rangeSize a c 1 - (i:Int) - 1=Builtin.Range.rangeSize a c 1 - ((i+1:Nat):Int):=by exact zq7
  rw [e1,e2] at hit
  exact hit
 ·refine wpAny_pyNext_range_end hA.1 hc (by rw [rngL_length,rangeSize_one];split<;>omega) fun h' he=>⟨rfl,S1.agree fun c o hco e=>he c o (fun q=>hco (q▸ho _ (List.mem_singleton.mpr rfl))) e,.mk s1 _ _⟩
 ·have:=Heap.get?_push_size s.heap (o:={cls:= .type "range_iterator",data:= .fields #[rawInt a,rawInt (Builtin.Range.rangeSize a c 1),rawInt 1]}) rfl
  simpa using this
theorem src_any {v:V} {u:Value} {items:List V} {target:Expr} (hA:AOk b A) (S:St prog w h₀ sc env H σ s.heap) (hv:ValIs H v u) (hi:itemsOf σ v=some items) (hr:rngOk v) :
  wpAny (model prog w) A (pyIter u) (fun it=>SrcAt prog w h₀ A sc env H σ it target (fun σ=>itemsOf σ v=some items) items s) noE s:=by
 have weak:∀ {it ads Cur},Src prog w h₀ A H it target ads Cur (fun σ=>True) items→Src prog w h₀ A H it target ads Cur (fun σ=>itemsOf σ v=some items) items:=fun X =>
  ⟨X.cur,X.obj,fun sc env i s H σ x g S _=>X.next sc env i s H σ x g S trivial,fun sc env s H σ g S _=>X.stop sc env s H σ g S trivial,X.self⟩
 cases v with
 | tup l =>
  cases hi
  exact wpAny_mono (src_tup hA S hv) (fun it s' q=>q.weak weak) fun _ _ x=>x
 | rng a c =>
  cases hi
  exact wpAny_mono (src_rng hA S hv hr) (fun it s' q=>q.weak weak) fun _ _ x=>x
 | lst l=>exact src_list (l0:=[]) hA S hv hi
 | ref a=>exact src_list (l0:=[]) hA S hv hi
 | none=>cases hi
 | bool=>cases hi
 | int=>cases hi
end
end Mine
namespace Mine
noncomputable def Gh (σ σ':MS):Prop:=∀ (prog:Program) (w:World) (h₀:Heap) (sc:Scope) (env:Env) (H:Hm) (h:Heap),St prog w h₀ sc env H σ h→∃ H',Grow H H'∧St prog w h₀ sc env H' σ' h
noncomputable def GhV (v:V) (σ:MS) (v':V) (σ':MS):Prop:=∀ (prog:Program) (w:World) (h₀:Heap) (sc:Scope) (env:Env) (H:Hm) (h:Heap) (u:Value),St prog w h₀ sc env H σ h→ValIs H v u→∃ H',Grow H H'∧St prog w h₀ sc env H' σ' h∧ValIs H' v' u
theorem Gh.refl (σ:MS):Gh σ σ:=fun _ _ _ _ _ H _ S=>⟨H,.refl H,S⟩
theorem Gh.trans {a b c:MS} (x:Gh a b) (y:Gh b c):Gh a c:=fun prog w h₀ sc env H h S =>
 let ⟨H1,g1,S1⟩:=x prog w h₀ sc env H h S
 let ⟨H2,g2,S2⟩:=y prog w h₀ sc env H1 h S1
 ⟨H2,g1.trans g2,S2⟩
theorem Gh.thenV {a b c:MS} {v v':V} (x:Gh a b) (y:GhV v b v' c):GhV v a v' c:=fun prog w h₀ sc env H h u S hv =>
 let ⟨H1,g1,S1⟩:=x prog w h₀ sc env H h S
 let ⟨H2,g2,S2,hv2⟩:=y prog w h₀ sc env H1 h u S1 (hv.mono g1.fz)
 ⟨H2,g1.trans g2,S2,hv2⟩
noncomputable def seqP (P1 P2:PT Fl):PT Fl:=fun σ Q=>P1 σ fun fl σ1=>match fl with
 | .next=>∃ σ2,Gh σ1 σ2∧P2 σ2 Q
 | fl=>Q fl σ1
noncomputable def whileP (T:PT Bool) (B:PT Fl):Nat→PT Fl
 | 0=>fun _ _=>False
 | n+1=>fun σ Q=>T σ fun t σ1=>(t=true→B σ1 fun fl σ2=>match fl with
   | .next=>whileP T B n σ2 Q
   | .cont=>whileP T B n σ2 Q
   | .brk=>Q .next σ2
   | .ret v=>Q (.ret v) σ2)∧(t=false→Q .next σ1)
noncomputable def flat:V→Bool
 | .none=>true
 | .bool _=>true
 | .int _=>true
 | _=>false
noncomputable def notComp (e:Expr):Bool:=e.ctorIdx != 8 && e.ctorIdx != 9 && e.ctorIdx != 10
theorem swaps_notComp {e:Expr} {t:Option Expr} {l:Nat} {env:Env} (h:notComp e=true):swapsWith e t l env=pure false:=by
 cases e<;>first | rfl | exact (Bool.false_ne_true h).elim
noncomputable def notSet (e:Expr):Bool:=e.ctorIdx != 7
theorem folded_notSet {e:Expr} {env:Env} (h:notSet e=true) (x:Value):foldedSetIterable e env x=pure x:=by
 cases e<;>first | rfl | exact (Bool.false_ne_true h).elim
noncomputable def notTup (e:Expr):Bool:=e.ctorIdx != 25
section
variable {prog:Program} {w:World} {h₀:Heap} {sc:Scope} {env:Env} {b:Nat} {A:Around} {H H':Hm} {s s':Shared} {σ:MS}
theorem tri_nil:Tri prog w h₀ b sc env FlIs (execs [] env) (fun σ Q=>Q .next σ):=fun _ _ _ _ _ _ hP S=>wpAny_execs_nil (Post.here S .next hP)
theorem tri_cons {st:Stmt} {r:List Stmt} {P1 P2:PT Fl} (h1:Tri prog w h₀ b sc env FlIs (exec st env) P1) (h2:Tri prog w h₀ b sc env FlIs (execs r env) P2) :
  Tri prog w h₀ b sc env FlIs (execs (st::r) env) (seqP P1 P2):=fun A hA σ Q s H hP S=>by
 refine wpAny_execs_cons (h1.use hA hP S fun f fl σ1 s1 H1 g1 e1 r1 q1 S1 => ?_)
 cases r1 with
 | next =>
  obtain ⟨σ2,gh,q⟩:=q1
  obtain ⟨H2,g2,S2⟩:=gh _ _ _ _ _ _ _ S1
  exact wp_from (g1.trans g2) e1 (h2 A hA σ2 Q s1 H2 q S2)
 | brk=>exact (Post.here (R:=FlIs) S1 .brk q1).from g1 e1
 | cont=>exact (Post.here (R:=FlIs) S1 .cont q1).from g1 e1
 | ret r=>exact (Post.here (R:=FlIs) S1 (.ret r) q1).from g1 e1
theorem tri_expr {e:Expr} {pos:Pos} {P:PT V} (E:EnvOk sc env) (hc:notComp e=true) (h:Tri prog w h₀ b sc env RV (eval e env) P) :
  Tri prog w h₀ b sc env FlIs (exec (.Expr e pos) env) (fun σ Q=>P σ fun v σ1=>flat v=true∧Q .next σ1):=fun A hA σ Q s H hP S=>by
 refine wpAny_Expr (h.use hA hP S fun u v σ1 s1 H1 g1 e1 r1 q1 S1 => ?_) (by unfold interactive;rw [E.kind];rfl) (swaps_notComp hc)
 have fin:Post prog w h₀ sc env FlIs H s Q .next s1:=(Post.here (R:=FlIs) S1 .next q1.2).from g1 e1
 cases r1 with
 | none=>exact fin
 | bool=>exact fin
 | int=>exact fin
 | _=>cases q1.1
inductive RetP (Q:Fl→MS→Prop) (v:V) (σ:MS):Prop
 | mk (v':V) (σ':MS) (g:GhV v σ v' σ') (k:Q (.ret v') σ'):RetP Q v σ
theorem tri_ret {e:Expr} {pos:Pos} {P:PT V} (h:Tri prog w h₀ b sc env RV (eval e env) P) :
  Tri prog w h₀ b sc env FlIs (exec (.Return (some e) pos) env) (fun σ Q=>P σ (RetP Q)):=fun A hA σ Q s H hP S=>by
 refine wpAny_Return_some (h.use hA hP S fun u v σ1 s1 H1 g1 e1 r1 q1 S1 => ?_)
 obtain ⟨v',σ2,gh,q⟩:=q1
 obtain ⟨H2,g2,S2,hv⟩:=gh _ _ _ _ _ _ _ _ S1 r1
 exact ⟨H2,σ2,.ret v',g1.trans g2,S2,.ret hv,e1,q⟩
theorem tri_if {c:Expr} {t f:List Stmt} {pos:Pos} {P:PT Bool} {P1 P2:PT Fl} (h:Tri prog w h₀ b sc env RB (isTrue c env (eval c env)) P) (h1:Tri prog w h₀ b sc env FlIs (execs t env) P1) (h2:Tri prog w h₀ b sc env FlIs (execs f env) P2) :
  Tri prog w h₀ b sc env FlIs (exec (.If c t f pos) env) (fun σ Q=>P σ fun v σ1=>(v=true→P1 σ1 Q)∧(v=false→P2 σ1 Q)):=fun A hA σ Q s H hP S=>by
 refine wpAny_If (h.use hA hP S fun u v σ1 s1 H1 g1 e1 r1 q1 S1 => ?_)
 cases r1
 cases u with
 | true=>exact wp_from g1 e1 (h1 A hA σ1 Q s1 H1 (q1.1 rfl) S1)
 | false=>exact wp_from g1 e1 (h2 A hA σ1 Q s1 H1 (q1.2 rfl) S1)
theorem tri_continue {pos:Pos}:Tri prog w h₀ b sc env FlIs (exec (.Continue pos) env) (fun σ Q=>Q .cont σ):=fun _ _ _ _ _ _ hP S=>wpAny_Continue (Post.here S .cont hP)
theorem tri_for {target iter:Expr} {bd:List Stmt} {pos:Pos} {t:MT} {P:PT V} {PB:PT Fl} (E:EnvOk sc env) (ht:TgtOk sc t target) (hs:notSet iter=true) (h:Tri prog w h₀ b sc env RV (eval iter env) P) (hb:Tri prog w h₀ b sc env FlIs (execs bd env) PB) :
  Tri prog w h₀ b sc env FlIs (exec (.For target iter bd [] pos) env) (fun σ Q=>P σ fun v σ1=>∃ items,A3 (itemsOf σ1 v=some items) (rngOk v) (forP t (fun σ=>itemsOf σ v=some items) PB items σ1 Q)):=fun A hA σ Q s H hP S=>by
 refine wpAny_For (h.use hA hP S fun u v σ1 s1 H1 g1 e1 r1 q1 S1 => ?_) (folded_notSet hs)
 obtain ⟨items,hi,hr,hf⟩:=q1
 refine wpAny_mono (src_any (target:=target) hA S1 r1 hi hr) (fun it s2 ⟨ads,Cur,X,hc,ho,S2,e2⟩ => ?_) fun _ _ x=>x
 refine codeAny_mono (wp_forLoop E hA X ht hb S2 hc ho hf) fun r s3 z => ?_
 cases r with
 | ok f=>exact z.from g1 (e1.trans e2)
 | error e=>exact z.elim
theorem tri_while {c:Expr} {bd:List Stmt} {pos:Pos} {P:PT Bool} {PB:PT Fl} (h:Tri prog w h₀ b sc env RB (isTrue c env (eval c env)) P) (hb:Tri prog w h₀ b sc env FlIs (execs bd env) PB) :
  Tri prog w h₀ b sc env FlIs (exec (.While c bd [] pos) env) (fun σ Q=>∃ n,whileP P PB n σ Q):=fun A hA σ Q s H ⟨n,hP⟩ S=>by
 refine wpAny_While (codeAny_whileLoop (fun n s'=>∃ H' σ',Grow H H'∧Same s s'∧St prog w h₀ sc env H' σ' s'.heap∧whileP P PB n σ' Q) ?_ n ⟨H,σ,.refl H,.refl s,S,hP⟩)
 rintro n s' ⟨H',σ',g,sm,S',hP'⟩
 cases n with
 | zero=>exact hP'.elim
 | succ n =>
  refine wpAny_mono (h A hA σ' _ s' H' hP' S') (fun u s1 p => ?_) fun _ _ x=>x.elim
  obtain ⟨H1,σ1,v,g1,S1,r1,e1,q1⟩:=p
  cases r1
  cases u with
  | true =>
   refine wpAny_mono (hb A hA σ1 _ s1 H1 (q1.1 rfl) S1) (fun f s2 p => ?_) fun _ _ x=>x.elim
   obtain ⟨H2,σ2,y,g2,S2,r2,e2,q2⟩:=p
   cases r2 with
   | next=>exact ⟨n,Nat.lt_succ_self n,H2,σ2,g.trans (g1.trans g2),sm.trans (e1.trans e2),S2,q2⟩
   | cont=>exact ⟨n,Nat.lt_succ_self n,H2,σ2,g.trans (g1.trans g2),sm.trans (e1.trans e2),S2,q2⟩
   | brk=>exact ⟨H2,σ2,.next,g.trans (g1.trans g2),S2,.next,sm.trans (e1.trans e2),q2⟩
   | ret r=>exact ⟨H2,σ2,_,g.trans (g1.trans g2),S2,.ret r,sm.trans (e1.trans e2),q2⟩
  | false=>exact wpAny_execs_nil ⟨H1,σ1,.next,g.trans g1,S1,.next,sm.trans e1,q1.2 rfl⟩
theorem tri_asgName {x:Str} {px pos:Pos} {value:Expr} {i:Nat} {k:NameKind} {P:PT V} (E:EnvOk sc env) (hi:sc.names[i]?=some (x,k)) (hk:k= .local∨k= .cell) (hs:swapsWith value (some (.Name x px)) pos.line env=pure false)
  (h:Tri prog w h₀ b sc env RV (eval value env) P) :
  Tri prog w h₀ b sc env FlIs (exec (.Assign [.Name x px] value pos) env) (fun σ Q=>P σ fun v σ1=>Q .next {σ1 with loc:=setV σ1.loc i v}):=fun A hA σ Q s H hP S=>by
 rw [exec_Assign_Name env x px value pos hs]
 refine wpAny_bind (wpAny_standAt (wpAny_bind (h.use hA hP S fun u v σ1 s1 H1 g1 e1 r1 q1 S1=>wpAny_bind (wpAny_standAt (wpAny_bind ?_)))))
 refine wpAny_mono (tri_bind E hi hk S1 r1 (Q:=fun _ σ'=>Q .next σ') q1) (fun _ s2 p => ?_) fun _ _ x=>x
 obtain ⟨H2,σ2,_,g2,S2,_,e2,q2⟩:=p
 exact wpAny_pure ⟨H2,σ2,.next,g1.trans g2,S2,.next,e1.trans e2,q2⟩
theorem tri_asgTup {elts:List Expr} {k:Nat} {tpos pos:Pos} {value:Expr} {t:MT} {P:PT V} (E:EnvOk sc env) (ht:TgtOk sc t (.Tuple elts k tpos)) (hc:notComp value=true) (hv:notTup value=true)
  (h:Tri prog w h₀ b sc env RV (eval value env) P) :
  Tri prog w h₀ b sc env FlIs (exec (.Assign [.Tuple elts k tpos] value pos) env) (fun σ Q=>P σ fun v σ1=>∃ σ2,asgV t v σ1=some σ2∧Q .next σ2):=fun A hA σ Q s H hP S=>by
 refine Assign_Tuple (h.use hA hP S fun u v σ1 s1 H1 g1 e1 r1 q1 S1 => ?_) (by show swapsWith value (some (Expr.Tuple elts k tpos)) pos.line env=pure false;exact swaps_notComp hc) (by cases value<;>first | rfl | exact (Bool.false_ne_true hv).elim)
 obtain ⟨σ2,ha,q⟩:=q1
 refine wpAny_mono (wp_assign E hA ht S1 r1 ha (Q:=fun _ σ'=>Q .next σ') q) (fun _ s2 p => ?_) fun _ _ x=>x
 obtain ⟨H2,σ3,_,g2,S2,_,e2,q2⟩:=p
 exact ⟨H2,σ3,.next,g1.trans g2,S2,.next,e1.trans e2,q2⟩
theorem tri_asgSub {o i value:Expr} {pos' pos:Pos} {P P1 P2:PT V} (hc:notComp value=true) (h:Tri prog w h₀ b sc env RV (eval value env) P) (h1:Tri prog w h₀ b sc env RV (eval o env) P1) (h2:Tri prog w h₀ b sc env RV (eval i env) P2) :
  Tri prog w h₀ b sc env FlIs (exec (.Assign [.Subscript o i pos'] value pos) env) (fun σ Q=>P σ fun v σ1=>P1 σ1 fun ov σ2=>P2 σ2 fun iv σ3=>putP ov iv v σ3 fun _ σ4=>Q .next σ4):=fun A hA σ Q s H hP S=>by
 refine wpAny_Assign_Subscript (h.use hA hP S fun u v σ1 s1 H1 g1 e1 r1 q1 S1=>h1.use hA q1 S1 fun ou ov σ2 s2 H2 g2 e2 r2 q2 S2=>h2.use hA q2 S2 fun iu iv σ3 s3 H3 g3 e3 r3 q3 S3 => ?_) (swaps_notComp hc)
 refine wpAny_mono (wp_put S3 (r2.mono g3.fz) r3 ((r1.mono g2.fz).mono g3.fz) q3) (fun _ s4 p => ?_) fun _ _ x=>x
 obtain ⟨H4,σ4,_,g4,S4,_,e4,q4⟩:=p
 exact ⟨H4,σ4,.next,((g1.trans g2).trans g3).trans g4,S4,.next,((e1.trans e2).trans e3).trans e4,q4⟩
theorem tri_asgAttr {K:Frag} {ok:Addr→Str→Bool} {o value:Expr} {n:Str} {pos' pos:Pos} {P P1:PT V} (hok:∀ C n,ok C n=true→attrK K C n=true) (X:K.In h₀) (hc:notComp value=true) (h:Tri prog w h₀ b sc env RV (eval value env) P) (h1:Tri prog w h₀ b sc env RV (eval o env) P1) :
  Tri prog w h₀ b sc env FlIs (exec (.Assign [.Attribute o n pos'] value pos) env) (fun σ Q=>P σ fun v σ1=>P1 σ1 fun ov σ2=>setAttrP ok n ov v σ2 fun _ σ3=>Q .next σ3):=fun A hA σ Q s H hP S=>by
 refine plainObj_wpAny_Assign_Attribute (h.use hA hP S fun u v σ1 s1 H1 g1 e1 r1 q1 S1=>h1.use hA q1 S1 fun ou ov σ2 s2 H2 g2 e2 r2 q2 S2 => ?_) (swaps_notComp hc)
 refine wpAny_mono (wp_setAttr hok X S2 r2 (r1.mono g2.fz) q2) (fun _ s4 p => ?_) fun _ _ x=>x
 obtain ⟨H4,σ4,_,g4,S4,_,e4,q4⟩:=p
 exact ⟨H4,σ4,.next,(g1.trans g2).trans g4,S4,.next,(e1.trans e2).trans e4,q4⟩
theorem tri_augOr {x:Str} {px pos:Pos} {value:Expr} {i:Nat} {k:NameKind} {P:PT V} (E:EnvOk sc env) (hi:sc.names[i]?=some (x,k)) (hk:k= .local) (h:Tri prog w h₀ b sc env RV (eval value env) P) :
  Tri prog w h₀ b sc env FlIs (exec (.AugAssign (.Name x px) .BitOr value pos) env)
   (fun σ Q=>∃ c,σ.loc i=some (.int c)∧P σ fun v σ1=>∃ d,v= .int d∧Q .next {σ1 with loc:=setV σ1.loc i (.int (Builtin.bitOr c d))}):=fun A hA σ Q s H ⟨c,hc,hP⟩ S=>by
 subst hk
 obtain ⟨x',k',u,e1,e2,e3⟩:=S.fr.loc i _ hc
 replace e1:=hi.symm.trans e1
 cases e1
 cases e3 with | int _ t =>
 refine wpAny_AugAssign_Name ?_
 have hl:=lookup_of_get E.nodup hi
 have hkl:env.kindOf x=some .local:=by rcases E.knd x _ hl with e | ⟨e,_⟩;exact e;cases e
 rcases e2 with ⟨l1,m,l2,l3⟩ | ⟨l1,_⟩
 ·refine wpAny_loadName_local E.kind hkl l2 l3 (h.use hA hP S fun u v σ1 s1 H1 g1 e1 r1 q1 S1 => ?_)
  obtain ⟨d,rfl,q⟩:=q1
  cases r1 with | int _ t' =>
  refine PyProof.Rows.ior_int ?_
  have:=wp_store (A:=A) (s:={s1 with toks:=s1.toks+1}) E hi (.inl rfl) S1 (.int (Builtin.bitOr c d) s1.toks) (Q:=fun _ σ'=>Q .next σ') q
  refine wpAny_mono this (fun _ s2 p => ?_) fun _ _ x=>x
  obtain ⟨H2,σ2,_,g2,S2,_,e2,q2⟩:=p
  exact ⟨H2,σ2,.next,g1.trans g2,S2,.next,e1.trans (Same.trans (.mk _ _ _) e2),q2⟩
 ·rcases l1 with l1 | l1<;>(replace l1:=hkl.symm.trans l1;cases l1)
end
end Mine
namespace Mine
noncomputable def clOf (env:Env):List (Str×NameKind)→List (Str×Addr)→List (Str×Addr)
 | [],acc=>acc
 | (n,k)::r,acc=>if k == NameKind.free then clOf env r ((n,(env.cells.lookup n).getD 0)::acc) else clOf env r acc
theorem cellOf_eq {env:Env} {n:Str} {c:Addr} (h:env.cells.lookup n=some c):cellOf env n=pure c:=by unfold cellOf;rw [h]
theorem closure_go {env:Env} (f:Str×NameKind→List (Str×Addr)→Sem (ForInStep (List (Str×Addr))))
  (hf:∀ n k cs,f (n,k) cs=if k == NameKind.free then (cellOf env n >>= fun a=>pure (.yield ((n,a)::cs))) else pure (.yield cs)) :
  ∀ (names:List (Str×NameKind)) (acc:List (Str×Addr)),(∀ x∈names,x.2= .free→∃ c,env.cells.lookup x.1=some c)→forIn names acc f=pure (clOf env names acc)
 | [],acc,_=>rfl
 | (n,k)::r,acc,h=>by
  rw [List.forIn_cons,hf]
  unfold clOf
  by_cases e:(k == NameKind.free)=true
  ·rw [if_pos e,if_pos e]
   obtain ⟨c,hc⟩:=h (n,k) List.mem_cons_self (beq_iff_eq.mp e)
   rw [cellOf_eq hc,hc]
   show (pure c >>= _:Sem _) >>= _=_
   simp only [pure_bind]
   exact closure_go f hf r _ fun x hx=>h x (List.mem_cons_of_mem _ hx)
  ·rw [if_neg e,if_neg e]
   simp only [pure_bind]
   exact closure_go f hf r _ fun x hx=>h x (List.mem_cons_of_mem _ hx)
theorem closureFor_eq {scope:Scope} {env:Env} (h:∀ x∈scope.names,x.2= .free→∃ c,env.cells.lookup x.1=some c):closureFor scope env=pure (clOf env scope.names []):=by
 unfold closureFor
 have:=closure_go (env:=env) (fun x cs=>match x with | (n,k)=>if k == NameKind.free then (cellOf env n >>= fun a=>pure (.yield ((n,a)::cs))) else pure (.yield cs)) (fun n k cs=>rfl) scope.names [] h
 simp only [bind_pure]
 rw [←this]
theorem clOf_free {env:Env} {x:Str} {c:Addr} (hc:env.cells.lookup x=some c):∀ (names:List (Str×NameKind)) (acc:List (Str×Addr)),((x,NameKind.free)∈names∨acc.lookup x=some c)→(clOf env names acc).lookup x=some c
 | [],acc,h=>h.elim (fun h=>nomatch h) id
 | (n,k)::r,acc,h=>by
  unfold clOf
  by_cases e:(k == NameKind.free)=true
  ·rw [if_pos e]
   refine clOf_free hc r _ ?_
   by_cases hn:(x == n)=true
   ·refine .inr ?_
    rw [List.lookup_cons,hn,←beq_iff_eq.mp hn,hc];rfl
   ·refine h.imp (fun m => ?_) fun m => ?_
    ·rcases List.mem_cons.mp m with q | m
     ·cases q;simp at hn
     ·exact m
    ·rw [List.lookup_cons];simp only [hn];exact m
  ·rw [if_neg e]
   refine clOf_free hc r _ (h.imp (fun m => ?_) id)
   rcases List.mem_cons.mp m with q | m
   ·cases q;simp at e
   ·exact m
theorem clOf_sub {env:Env} {x:Str} {c:Addr}:∀ (names:List (Str×NameKind)) (acc:List (Str×Addr)),(∀ y∈names,y.2= .free→∃ c,env.cells.lookup y.1=some c)→(clOf env names acc).lookup x=some c→acc.lookup x=some c∨env.cells.lookup x=some c
 | [],acc,_,h=> .inl h
 | (n,k)::r,acc,hh,h=>by
  unfold clOf at h
  have hh':∀ y∈r,y.2=NameKind.free→∃ c,env.cells.lookup y.1=some c:=fun y hy=>hh y (List.mem_cons_of_mem _ hy)
  by_cases e:(k == NameKind.free)=true
  ·rw [if_pos e] at h
   obtain ⟨c',hc'⟩:=hh (n,k) List.mem_cons_self (beq_iff_eq.mp e)
   rcases clOf_sub r _ hh' h with q | q
   ·replace q:=List.lookup_cons.symm.trans q
    by_cases hn:(x == n)=true
    ·rw [hn] at q
     simp only [Option.some.injEq] at q
     right;rw [beq_iff_eq.mp hn,hc'];rw [hc'] at q;simpa using q
    ·simp only [hn] at q;exact .inl q
   ·exact .inr q
  ·rw [if_neg e] at h;exact clOf_sub r _ hh' h
theorem clOf_mem {env:Env} {x:Str} {c:Addr}:∀ (names:List (Str×NameKind)) (acc:List (Str×Addr)),(clOf env names acc).lookup x=some c→(x,NameKind.free)∈names∨acc.lookup x=some c
 | [],_,h=> .inr h
 | (n,k)::r,acc,h=>by
  unfold clOf at h
  by_cases e:(k == NameKind.free)=true
  ·rw [if_pos e] at h
   rcases clOf_mem r _ h with q | q
   ·exact .inl (List.mem_cons_of_mem _ q)
   ·replace q:=List.lookup_cons.symm.trans q
    by_cases hn:(x == n)=true
    ·left;rw [beq_iff_eq.mp hn,←beq_iff_eq.mp e];exact List.mem_cons_self
    ·simp only [hn] at q;exact .inr q
  ·rw [if_neg e] at h
   rcases clOf_mem r _ h with q | q
   ·exact .inl (List.mem_cons_of_mem _ q)
   ·exact .inr q
theorem cellsFrom_other {x:Str}:∀ (names:List (Str×NameKind)) (n:Nat) (acc:List (Str×Addr)),(∀ k,(x,k)∈names→k≠NameKind.cell)→(cellsFrom n names acc).lookup x=acc.lookup x
 | [],_,_,_=>rfl
 | (y,k)::r,n,acc,h=>by
  unfold cellsFrom
  have hr:∀ k,(x,k)∈r→k≠NameKind.cell:=fun k m=>h k (List.mem_cons_of_mem _ m)
  by_cases e:(k == NameKind.cell)=true
  ·rw [if_pos e,cellsFrom_other r _ _ hr,List.lookup_cons]
   have:(x == y)=false:=by
    cases q:x == y with
    | false=>rfl
    | true=>exact absurd (beq_iff_eq.mp e) (h k (by rw [beq_iff_eq.mp q];exact List.mem_cons_self))
   rw [this]
  ·rw [if_neg e];exact cellsFrom_other r _ _ hr
theorem cellsFrom_laid:∀ (names:List (Str×NameKind)) (h:Heap) (acc:List (Str×Addr)) (x:Str) (c:Addr),h.objs.size≤c→(∀ x c,acc.lookup x=some c→h.objs.size≤c→h.IsCell c none)→(cellsFrom h.objs.size names acc).lookup x=some c→(pushCells h names).IsCell c none
 | [],h,acc,x,c,hc,ha,e=>ha x c e hc
 | (z,k)::r,h,acc,x,c,hc,ha,e=>by
  unfold cellsFrom at e
  unfold pushCells
  by_cases q:(k == NameKind.cell)=true
  ·rw [if_pos q] at e ⊢
   have hs:(h.push {cls:= .type "cell",data:= .cell none}).objs.size=h.objs.size+1:=Heap.size_push ..
   rw [←hs] at e
   by_cases hc':c=h.objs.size
   ·subst hc'
    exact Heap.IsCell.keeps ⟨_,Heap.get?_push_size _ rfl,rfl⟩ (pushCells_keeps _ _)
   ·refine cellsFrom_laid r _ _ x c (by rw [hs];exact Nat.lt_of_le_of_ne hc (Ne.symm hc')) (fun y d e1 e2 => ?_) e
    replace e1:=List.lookup_cons.symm.trans e1
    by_cases q':(y == z)=true
    ·rw [q'] at e1;cases e1;rw [hs] at e2;exact absurd e2 (Nat.not_succ_le_self _)
    ·simp only [q'] at e1
     exact (ha y d e1 (Nat.le_of_succ_le (by rw [hs] at e2;exact e2))).keeps fun _ _ e=>Heap.get?_push_of_some _ e
  ·rw [if_neg q] at e ⊢;exact cellsFrom_laid r h acc x c hc ha e
theorem lookup_map2 {f:Str×NameKind→Str×NameKind} (hf:∀ p,f p=p∨(p.2= .free∧f p=(p.1,.cell))) {x:Str} {names:List (Str×NameKind)} {k:NameKind} (h:names.lookup x=some k):(names.map f).lookup x=some k∨(k= .free∧(names.map f).lookup x=some .cell):=by
 induction names with
 | nil=>cases h
 | cons p r ih =>
  obtain ⟨n,k'⟩:=p
  rw [List.map_cons]
  cases q:x == n with
  | true=>cases (lk_t q).symm.trans h;exact (hf _).imp (fun e=>by rw [e];exact lk_t q) fun e=>⟨e.1,by rw [e.2];exact lk_t q⟩
  | false =>
   have e:∃ k'',f (n,k')=(n,k''):=(hf (n,k')).elim (fun e=>⟨_,e⟩) fun e=>⟨_,e.2⟩
   obtain ⟨k'',e⟩:=e
   rw [e,lk_f q]
   exact ih ((lk_f q).symm.trans h)
theorem lookup_relabel {scope:Scope} {env:Env} {x:Str} {names:List (Str×NameKind)} {k:NameKind} (h:names.lookup x=some k) :
  (names.map fun (n,k)=>if (k == .free && env.scope.kind == .function && env.kindOf n == some .cell) then (n,NameKind.cell) else (n,k)).lookup x=some k ∨
  (k= .free∧(names.map fun (n,k)=>if (k == .free && env.scope.kind == .function && env.kindOf n == some .cell) then (n,NameKind.cell) else (n,k)).lookup x=some .cell) :=
 lookup_map2 (fun ⟨n,k⟩=>by
  by_cases c:(k == NameKind.free && env.scope.kind == .function && env.kindOf n == some .cell)=true
  ·exact .inr ⟨by simp only [Bool.and_eq_true,beq_iff_eq] at c;exact c.1.1,if_pos c⟩
  ·exact .inl (if_neg c)) h
noncomputable def cenvOf (scope:Scope) (env:Env) (C:Addr):Env :=
 {scope:=relabel scope env,locals:=C,globals:=env.globals,cells:=cellsFrom (C+1) scope.names (clOf env scope.names []),qual:=env.qual,func:=none,code:=env.code,frame:=env.frame,builtins:=env.builtins}
section
variable {prog:Program} {w:World} {h₀:Heap} {sc:Scope} {env:Env} {b:Nat} {A:Around} {H H':Hm} {s s':Shared} {σ:MS}
theorem wp_newCompEnv {M:Model} {scope:Scope} {globals:Addr} {cl:List (Str×Addr)} {qual:Str} {Q:Env→Shared→Prop} {E:Value→Shared→Prop}
  (hQ:Q {scope:=scope,locals:=s.heap.objs.size,globals:=globals,cells:=cellsFrom (s.heap.objs.size+1) scope.names cl,qual:=qual,func:=none,code:=env.code,frame:=env.frame,builtins:=env.builtins}
   {s with heap:=pushCells (s.heap.push {cls:= .type "dict",data:= .dict #[]}) scope.names}) :
  wpAny M A (newFunctionEnv scope globals cl [] qual none .none (some env)) Q E s:=by
 simp only [newFunctionEnv,Option.isSome_some,if_true]
 refine wpAny_bind (wpAny_alloc ?_)
 refine wpAny_bind (wpAny_layCells _ (fun name kind cells=>by cases hkc:kind == NameKind.cell<;>simp [hkc]) _ _ _ _ ?_)
 rw [show ({s with heap:=s.heap.push {cls:= .type "dict",data:= .dict #[]}}:Shared).heap.objs.size=s.heap.objs.size+1 from Heap.size_push ..]
 exact wpAny_pure hQ
noncomputable def frLoc (fr:List (Nat×Nat)) (loc:Loc):Loc:=fun i=>(fr.lookup i).bind loc
structure FrOk2 (sc scope:Scope) (fr:List (Nat×Nat)):Prop where
 ok:∀ i j,fr.lookup i=some j→∃ x k,scope.names[i]?=some (x,.free)∧sc.names[j]?=some (x,k)∧(k= .free∨k= .cell)
 kind:scope.kind= .function
 nodup:(scope.names.map (·.1)).Nodup
 all:∀ x,(x,NameKind.free)∈scope.names→∃ k,(x,k)∈sc.names∧(k=NameKind.free∨k= .cell)
theorem FrOk2.cells {scope:Scope} {fr:List (Nat×Nat)} (E:EnvOk sc env) (F:FrOk2 sc scope fr):∀ x∈scope.names,x.2= .free→∃ c,env.cells.lookup x.1=some c:=fun x m e=>by
 obtain ⟨y,k⟩:=x
 cases e
 obtain ⟨k,m',hk⟩:=F.all y m
 exact E.fre y k m' hk
theorem envOk_comp {scope:Scope} {fr:List (Nat×Nat)} {C:Addr} (E:EnvOk sc env) (F:FrOk2 sc scope fr)
  (hlt:∀ x c,env.cells.lookup x=some c→c<C):EnvOk scope (cenvOf scope env C):=by
 have hfree:=F.cells E
 have h1:∀ x c,(clOf env scope.names []).lookup x=some c→env.cells.lookup x=some c:=fun x c h=>(clOf_sub _ _ hfree h).resolve_left (by simp)
 have sp:=cellsFrom_spec scope.names (C+1) (clOf env scope.names []) (fun x c h=>Nat.lt_succ_of_lt (hlt x c (h1 x c h))) fun x y c hx hy=>E.inj x y c (h1 x c hx) (h1 y c hy)
 refine ⟨F.kind,E.glb,E.bts,fun x k e=>lookup_relabel (scope:=scope) e,sp.2,fun x c e => ?_,F.nodup,fun x k m hk => ?_⟩
 ·rcases sp.1 x c e with ⟨a,_⟩ | a
  ·exact Nat.ne_of_gt a
  ·exact Nat.ne_of_lt (hlt x c (h1 x c a))
 ·rcases hk with rfl | rfl
  ·obtain ⟨c,hc⟩:=hfree _ m rfl
   refine ⟨c,?_⟩
   show (cellsFrom (C+1) scope.names (clOf env scope.names [])).lookup x=some c
   rw [cellsFrom_other _ _ _ fun k' m' => ?_]
   ·exact clOf_free hc _ _ (.inl m)
   ·obtain ⟨i,hi⟩:=List.mem_iff_getElem?.mp m
    obtain ⟨j,hj⟩:=List.mem_iff_getElem?.mp m'
    have:=names_inj F.nodup hi hj
    subst this
    replace hj:=hi.symm.trans hj;cases hj
    exact fun q=>nomatch q
  ·obtain ⟨i,hi⟩:=List.mem_iff_getElem?.mp m
   exact Option.isSome_iff_exists.mp (cellsFrom_some scope.names (C+1) _ (.inl (lookup_of_get F.nodup hi)))
theorem St.comp {scope:Scope} {fr:List (Nat×Nat)} (S:St prog w h₀ sc env H σ s.heap) (E:EnvOk sc env) (F:FrOk2 sc scope fr) {h:Heap} (kp:∀ a o,s.heap.get? a=some o→h.get? a=some o) :
  EnvOk scope (cenvOf scope env h.objs.size)∧∃ H1,St prog w h₀ scope (cenvOf scope env h.objs.size) H1 ⟨frLoc fr σ.loc,σ.lv⟩ (pushCells (h.push {cls:= .type "dict",data:= .dict #[]}) scope.names) ∧
   (∀ a,a<h.objs.size→H1 a=enterH H s.heap a)∧(∀ a,enterH H s.heap a≠ .out→H1 a=enterH H s.heap a)∧H1 h.objs.size= .own:=by
 let C:=h.objs.size
 have hcl:∀ x c,env.cells.lookup x=some c→c<C:=fun x c e=>by
  have:H c≠ .out:=by
   rcases S.fr.cls x c e with q | ⟨_,_,q,_⟩
   ·obtain ⟨c',v,e',g1,_⟩:=S.fr.cell x q
    rw [e] at e';cases e'
    rw [g1];exact Slot.noConfusion
   ·rw [q];exact Slot.noConfusion
  obtain ⟨o,q⟩:=S.heap.someObj this
  exact Heap.lt_size (kp _ _ q)
 have E':=envOk_comp (C:=C) E F hcl
 refine ⟨E',?_⟩
 have hfree:=F.cells E
 have h1:∀ x c,(clOf env scope.names []).lookup x=some c→env.cells.lookup x=some c:=fun x c h=>(clOf_sub _ _ hfree h).resolve_left (by simp)
 have sp:=cellsFrom_spec scope.names (C+1) (clOf env scope.names []) (fun x c h=>Nat.lt_succ_of_lt (hcl x c (h1 x c h))) fun x y c hx hy=>E.inj x y c (h1 x c hx) (h1 y c hy)
 have hsz:(h.push {cls:= .type "dict",data:= .dict #[]}).objs.size=C+1:=Heap.size_push ..
 generalize hh2:pushCells (h.push {cls:= .type "dict",data:= .dict #[]}) scope.names=h2
 have k2:∀ a o,h.get? a=some o→h2.get? a=some o:=fun a o e=>by rw [←hh2];exact pushCells_keeps _ _ _ _ (Heap.get?_push_of_some _ e)
 have laid:∀ x c,(cenvOf scope env C).cells.lookup x=some c→C+1≤c→h2.IsCell c none:=fun x c e hc=>by
  rw [←hh2]
  refine cellsFrom_laid scope.names _ (clOf env scope.names []) x c (by rw [hsz];exact hc) (fun y d e1 e2 => ?_) (by rw [hsz];exact e)
  rw [hsz] at e2
  exact absurd (hcl y d (h1 y d e1)) (Nat.not_lt.mpr (Nat.le_of_succ_le e2))
 let as:Addr→Prop:=fun a=>a=C∨(C+1≤a∧∃ n,(cenvOf scope env C).cells.lookup n=some a)
 have hout:∀ a,C≤a→H a= .out:=fun a ha=>by
  cases e:H a with
  | out=>rfl
  | _ =>
   obtain ⟨o,q⟩:=S.heap.someObj (a:=a) (neo e rfl)
   exact absurd (Heap.lt_size (kp _ _ q)) (Nat.not_lt.mpr ha)
 have nsC:h2.Ns C fun _=>none:=by
  rw [←hh2]
  refine Heap.Ns.keeps ?_ (pushCells_keeps _ _)
  exact Heap.Ns.new h _
 have hmem:∀ a,as a→enterH H s.heap a= .out∧∃ o,h2.get? a=some o:=fun a ha=>by
  rcases ha with rfl | ⟨hlt,n,ha⟩
  ·obtain ⟨o,_,_,e,_⟩:=nsC
   exact ⟨enterH_out.mpr (hout _ (Nat.le_refl _)),o,e⟩
  ·obtain ⟨o,e,_⟩:=laid n a ha hlt
   exact ⟨enterH_out.mpr (hout _ (Nat.le_of_succ_le hlt)),o,e⟩
 have HB:=(S.heap.enter.agree fun a o _ e=>k2 a o (kp a o e)).ownAll hmem
 have kpp:∀ {a},enterH H s.heap a≠ .out→ownAll (enterH H s.heap) as a=enterH H s.heap a:=fun q=>ownAll_keep (fun a ha=>(hmem a ha).1) q
 have hown:∀ a,as a→ownAll (enterH H s.heap) as a= .own:=fun a ha=>by unfold ownAll;rw [if_pos ha]
 have hfz:∀ a o,H a= .fz o→ownAll (enterH H s.heap) as a= .fz o:=fun a o e=>by
  have:=enterH_fz (h:=s.heap).mpr e
  exact (kpp (by rw [this];exact Slot.noConfusion)).trans this
 have hpin:∀ x c,env.cells.lookup x=some c→∃ o v,s.heap.get? c=some o∧o.data= .cell v∧ownAll (enterH H s.heap) as c= .pin o:=fun x c e=>by
  rcases S.fr.cls x c e with q | ⟨o,v,q,r⟩
  ·obtain ⟨c',v,e',g1,o,g2,g3⟩:=S.fr.cell x q
   replace e':=e.symm.trans e';cases e'
   have e1:enterH H s.heap c= .pin o:=by unfold enterH;rw [g1,g2];rfl
   exact ⟨o,v,g2,g3,(kpp (by rw [e1];exact Slot.noConfusion)).trans e1⟩
  ·have e1:enterH H s.heap c= .pin o:=enterH_pin q
   exact ⟨o,v,S.heap.pin c o q,r,(kpp (by rw [e1];exact Slot.noConfusion)).trans e1⟩
 refine ⟨ownAll (enterH H s.heap) as,⟨HB,fun a x e => ?_,hown _ (.inl rfl),⟨_,nsC⟩,fun i v e => ?_,fun x e => ?_,fun x c e => ?_⟩,fun a ha => ?_,fun a q=>kpp q,hown _ (.inl rfl)⟩
 ·have:=enterH_lv (h:=s.heap).mpr (S.live a x e)
  exact (kpp (by rw [this];exact Slot.noConfusion)).trans this
 ·have e:(fr.lookup i).bind σ.loc=some v:=e
  obtain ⟨j,e1,e2⟩:=Option.bind_eq_some_iff.mp e
  obtain ⟨x,k,n1,n2,hk⟩:=F.ok i j e1
  obtain ⟨x',k',u,n3,h2',h3⟩:=S.fr.loc j v e2
  replace n3:=n2.symm.trans n3;cases n3
  have hx:=lookup_of_get F.nodup n1
  refine ⟨x,.free,u,n1,?_,h3.mono hfz⟩
  have hk':(cenvOf scope env C).kindOf x=some .cell∨(cenvOf scope env C).kindOf x=some .free:=by
   rcases lookup_relabel (scope:=scope) (env:=env) hx with q | ⟨_,q⟩
   ·exact .inr q
   ·exact .inl q
  have hnl:env.kindOf x≠some .local:=by
   have:=E.knd x k (lookup_of_get E.nodup n2)
   rcases this with q | ⟨_,q⟩
   ·rw [q];rcases hk with rfl | rfl<;>exact fun q=>nomatch q
   ·rw [q];exact fun q=>nomatch q
  rcases h2' with ⟨q,_⟩ | ⟨_,c,l1,⟨o,l2,l3⟩,_⟩
  ·exact absurd q hnl
  ·obtain ⟨o',v',m1,m2,m3⟩:=hpin x c l1
   replace m1:=l2.symm.trans m1;cases m1
   have hc:(cenvOf scope env C).cells.lookup x=some c:=by
    show (cellsFrom (C+1) scope.names (clOf env scope.names [])).lookup x=some c
    have m:=List.mem_of_getElem? n1
    rw [cellsFrom_other _ _ _ fun k' m' => ?_]
    ·exact clOf_free l1 _ _ (.inl m)
    ·obtain ⟨i',hi'⟩:=List.mem_iff_getElem?.mp m'
     have:=names_inj F.nodup n1 hi'
     subst this
     replace hi':=n1.symm.trans hi';cases hi'
     exact fun q=>nomatch q
   exact .inr ⟨hk',c,hc,⟨o,k2 _ _ (kp _ _ l2),l3⟩,.inr ⟨o,m3⟩⟩
 ·obtain ⟨c,hc⟩:=Option.isSome_iff_exists.mp (cellsFrom_some scope.names (C+1) (clOf env scope.names []) (.inl e))
  have hc':C+1≤c:=by
   rcases sp.1 x c hc with ⟨q,_⟩ | q
   ·exact q
   ·
    obtain ⟨i,hi⟩:∃ i,scope.names[i]?=some (x,NameKind.cell):=List.mem_iff_getElem?.mp (PySem.mem_of_lookup e)
    obtain ⟨j,hj⟩:=List.mem_iff_getElem?.mp ((clOf_mem _ _ q).resolve_right (by simp))
    have:=names_inj F.nodup hi hj
    subst this
    replace hj:=hi.symm.trans hj;cases hj
  exact ⟨c,_,hc,hown c (.inr ⟨hc',x,hc⟩),laid x c hc hc'⟩
 ·rcases sp.1 x c e with ⟨q,m⟩ | q
  ·obtain ⟨i,hi⟩:=List.mem_iff_getElem?.mp m
   exact .inl (lookup_of_get F.nodup hi)
  ·obtain ⟨o,v,_,m2,m3⟩:=hpin x c (h1 x c q)
   exact .inr ⟨o,v,m3,m2⟩
 ·unfold ownAll
  rw [if_neg]
  rintro (rfl | ⟨q,_⟩)
  ·exact Nat.lt_irrefl _ ha
  ·exact Nat.lt_irrefl _ (Nat.lt_trans ha q)
end
end Mine
namespace Mine
noncomputable def compP (t:MT) (ok:MS→Prop) (T:PT Bool) (P:PT V):List V→List V→PT (List V)
 | [],acc=>fun σ Q=>ok σ∧Q acc σ
 | x::r,acc=>fun σ Q=>AsgC (ok σ) t x σ fun σ1=>T σ1 fun b σ2=>(b=true→P σ2 fun v σ3=>compP t ok T P r (acc++[v]) σ3 Q)∧(b=false→compP t ok T P r acc σ2 Q)
theorem Grow.unpin {H H5:Hm} {ads:List Addr} (g:Grow H H5) (ho:∀ a∈ads,H a= .out):Grow H (Mine.unpin H5 ads):=by
 have no:∀ a,H a≠ .out→Mine.unpin H5 ads a=H5 a:=fun a q=>by unfold Mine.unpin;rw [if_neg fun m=>q (ho a m)]
 exact ⟨fun a o e=>by rw [no a (by rw [e];exact Slot.noConfusion)];exact g.fz a o e,fun a o e=>by rw [no a (by rw [e];exact Slot.noConfusion)];exact g.pin a o e,fun a e=>by rw [no a (by rw [e];exact Slot.noConfusion)];exact g.own a e⟩
theorem not_single {a D:Addr} {ads:List Addr} (h:D∉ads) (m:a∈ads):a∉[D]:=fun q=>by
 rw [List.mem_singleton.mp q] at m;exact h m
theorem unpin_ne {H:Hm} {ads:List Addr} {a:Addr} (h:a∉ads):Mine.unpin H ads a=H a:=by unfold Mine.unpin;rw [if_neg h]
theorem pinAll_ne {H:Hm} {ads:List Addr} {h:Heap} {a:Addr} (q:a∉ads):Mine.pinAll H ads h a=H a:=by unfold Mine.pinAll;rw [if_neg q]
section
variable {prog:Program} {w:World} {h₀:Heap} {sc:Scope} {env:Env} {b:Nat} {A:Around} {H H':Hm} {s s':Shared} {σ:MS}
abbrev ifsT (ifs:List Expr) (env:Env):Sem Bool:=forIn ifs true fun c r=>if r=true then do let ok ←isTrue c env (eval c env);pure (ForInStep.yield ok) else pure (ForInStep.yield r)
theorem tri_ifs0:Tri prog w h₀ b sc env RB (ifsT [] env) (fun σ Q=>Q true σ):=fun _ _ _ _ _ _ hP S=>wpAny_tests_nil (Post.here S rfl hP)
theorem tri_ifs1 {c:Expr} {P:PT Bool} (h:Tri prog w h₀ b sc env RB (isTrue c env (eval c env)) P):Tri prog w h₀ b sc env RB (ifsT [c] env) P:=fun A hA σ Q s H hP S=>wpAny_tests_one (h A hA σ Q s H hP S)
noncomputable def Less (I:Nat→Shared→Prop) (n:Nat) (s:Shared):Prop:=∃ m,m<n∧I m s
noncomputable def TurnR (prog:Program) (w:World) (A:Around) (target:Expr) (it:Value) (env:Env) (K R:Shared→Prop) (r:Option Value) (s:Shared):Prop:=match r with
 | none=>R s
 | some v=>wpAny (model prog w) A (letOwnedTupleGo target it v) (fun _=>wpAny (model prog w) A (assign target env v) (fun _=>K) noE) noE s
noncomputable def CompT (prog:Program) (w:World) (A:Around) (ifs:List Expr) (elt:Expr) (env:Env) (acc:Value) (K:Shared→Prop) (s:Shared):Prop :=
 wpAny (model prog w) A (ifsT ifs env) (fun ok s₃=>if ok=true then wpAny (model prog w) A (eval elt env) (fun x=>wpAny (model prog w) A (call (.builtin "list.append") [acc,x]) (fun _=>K) noE) noE s₃ else K s₃) noE s
theorem codeAny_compLoop_any {elt target iter:Expr} {ifs:List Expr} {scope:Scope} {pos:Pos} {it acc:Value} {R:Result→Shared→Prop} (I:Nat→Shared→Prop)
  (turn:∀ n s,I n s→wpAny (model prog w) A (pyNext it) (TurnR prog w A target it env (CompT prog w A ifs elt env acc (Less I n)) (R (.ok .next))) noE s)
  (n:Nat) (h:I n s) :
  codeAny (model prog w) A (.compLoop (.ListComp elt [⟨target,iter,ifs,0⟩] scope pos) 0 it acc env) R s:=by
 refine codeAny_loop rfl I (fun n s hI => ?_) n h
 show wpAny _ A ((compTurn (.ListComp elt [⟨target,iter,ifs,0⟩] scope pos) 0 it acc env).onRaise (fun x=>do noteFrame x env;theTreesLotGoes x)) _ _ s
 refine wpAny_noted ?_
 rw [compTurn_list]
 refine wpAny_bind (wpAny_standAt (wpAny_bind (wpAny_mono (turn n s hI) (fun r s₁ h₁ => ?_) fun _ _ h'=>h'.elim)))
 cases r with
 | none=>exact wpAny_pure h₁
 | some v =>
  refine wpAny_bind (wpAny_mono h₁ (fun _ s₁' h₁' => ?_) fun _ _ h'=>h'.elim)
  refine wpAny_bind (wpAny_mono h₁' (fun _ s₂ h₂=>wpAny_bind (wpAny_mono h₂ (fun ok s₃ h₃ => ?_) fun _ _ h'=>h'.elim)) fun _ _ h'=>h'.elim)
  cases ok with
  | false=>exact wpAny_pure ⟨rfl,h₃⟩
  | true =>
   exact wpAny_bind (wpAny_bind (wpAny_mono h₃ (fun x s₄ h₄=>wpAny_bind (wpAny_mono h₄ (fun _ s₅ h₅=>wpAny_pure (wpAny_pure ⟨rfl,h₅⟩)) fun _ _ h'=>h'.elim)) fun _ _ h'=>h'.elim))
theorem noCell_list {items:Array Value} {n:Nat}:∀ v,(lobj "list" items n).data≠ .cell v:=fun v e=>nomatch e
inductive CompR (prog:Program) (w:World) (h₀:Heap) (sc:Scope) (env:Env) (H:Hm) (s:Shared) (D:Addr) (N:Nat) (Q:List V→MS→Prop) (s':Shared):Prop
 | mk (H':Hm) (σ':MS) (acc:List V) (ys:Array Value) (n:Nat) (g:Grow H H') (e:Same s s') (S:St prog w h₀ sc env H' σ' s'.heap) (hD:H' D= .out) (hl:IsL s'.heap D ys n) (ha:AllIs H' acc ys.toList) (hn:acc.length≤N) (q:Q acc σ'):CompR prog w h₀ sc env H s D N Q s'
noncomputable def okR (K:Shared→Prop) (r:Result) (s':Shared):Prop:=match r with
 | .ok _=>K s'
 | .error _=>False
inductive CompI (prog:Program) (w:World) (h₀:Heap) (sc:Scope) (env:Env) (H:Hm) (s:Shared) (D:Addr) (items:List V) (Cur:Heap→Nat→Prop) (ads:List Addr) (R:List V→List V→MS→Prop) (n:Nat) (s':Shared):Prop
 | mk (i:Nat) (H':Hm) (σ':MS) (acc:List V) (ys:Array Value) (nn:Nat) (h1:n=items.length - i) (h2:i≤items.length) (g:Grow H H') (e:Same s s') (S:St prog w h₀ sc env H' σ' s'.heap) (c:Cur s'.heap i) (o:∀ a∈ads,H' a= .out)
  (hD:H' D= .pin (lobj "list" ys nn)) (ha:AllIs H' acc ys.toList) (hn:acc.length≤i) (q:R (items.drop i) acc σ'):CompI prog w h₀ sc env H s D items Cur ads R n s'
theorem wp_compLoop {elt target iter:Expr} {ifs:List Expr} {scope:Scope} {pos:Pos} {it:Value} {D:Addr} {n₀:Nat} {ads:List Addr} {Cur:Heap→Nat→Prop} {ok:MS→Prop} {items:List V} {t:MT} {T:PT Bool} {P:PT V} {Q:List V→MS→Prop} {H₀:Hm}
  (E:EnvOk sc env) (hA:AOk b A) (X:Src prog w h₀ A H₀ it target ads Cur ok items) (g₀:∀ a o,H₀ a= .fz o→H a= .fz o) (ht:TgtOk sc t target)
  (hT:Tri prog w h₀ b sc env RB (ifsT ifs env) T) (hE:Tri prog w h₀ b sc env RV (eval elt env) P)
  (S:St prog w h₀ sc env H σ s.heap) (hc:Cur s.heap 0) (ho:∀ a∈ads,H a= .out) (hD:H D= .out) (hDa:D∉ads) (hl:IsL s.heap D #[] n₀) (hlim:items.length≤lim) (hP:compP t ok T P items [] σ Q) :
  codeAny (model prog w) A (.compLoop (.ListComp elt [⟨target,iter,ifs,0⟩] scope pos) 0 it (.ref D) env)
   (okR (CompR prog w h₀ sc env H s D items.length Q)) s:=by
 obtain ⟨S0,G0,p0⟩:=S.pinAll (ads:=[D]) fun a m=>by rw [List.mem_singleton.mp m];exact ⟨hD,_,hl⟩
 refine codeAny_compLoop_any (CompI prog w h₀ sc env H s D items Cur ads fun r acc σ=>compP t ok T P r acc σ Q) ?_ (items.length - 0)
  ⟨0,_,σ,[],#[],n₀,rfl,Nat.zero_le _,G0,.refl s,S0,hc,fun a m=>by rw [pinAll_ne (not_single hDa m)];exact ho a m,p0 D (List.mem_singleton.mpr rfl) _ hl,.nil,Nat.le_refl _,by simpa using hP⟩
 rintro n s' ⟨i,H',σ',acc,ys,nn,rfl,hi,g,sm,S',hc',ho',hD',hacc,hal,hP'⟩
 by_cases hlt:i<items.length
 ·have hx:items[i]?=some items[i]:=List.getElem?_eq_getElem hlt
  rw [List.drop_eq_getElem_cons hlt] at hP'
  obtain ⟨hok,σ1,ha,hbody⟩:=hP'
  refine wpAny_mono (X.next sc env i s' H' σ' _ (fun a o e=>g.fz a o (g₀ a o e)) S' hok hc' ho' hx) (fun r s1 p => ?_) fun _ _ x=>x
  obtain ⟨u,rfl,p⟩:=p
  refine wpAny_mono p (fun _ s2 p => ?_) fun _ _ x=>x
  obtain ⟨H2,g2,S2,hv,hc2,ho2,sm2⟩:=p
  obtain ⟨S3,g3,p3⟩:=S2.pinAll (ads:=ads) fun a m=>⟨ho2 a m,let ⟨o,e,_⟩:=X.obj _ _ hc2 a m;⟨o,e⟩⟩
  refine wpAny_mono (wp_assign E hA ht S3 (hv.mono g3.fz) ha (Q:=fun _ σ''=>σ''=σ1) rfl) (fun _ s3 p => ?_) fun _ _ x=>x
  obtain ⟨H4,σ4,_,g4,S4,_,sm4,rfl⟩:=p
  refine wpAny_mono (hT A hA σ4 _ s3 H4 hbody S4) (fun bb s5 p => ?_) fun _ _ x=>x
  obtain ⟨H5,σ5,y,g5,S5,r5,sm5,q5⟩:=p
  cases r5
  have gg5:Grow H' H5:=g2.trans (g3.trans (g4.trans g5))
  have pin5:∀ a∈ads,∃ o,H5 a= .pin o∧s2.heap.get? a=some o∧∀ v,o.data≠ .cell v:=fun a m=>by
   obtain ⟨o,e,nc⟩:=X.obj _ _ hc2 a m
   exact ⟨o,g5.pin a o (g4.pin a o (p3 a m o e)),e,nc⟩
  cases bb with
  | false =>
   obtain ⟨S6,f6,o6⟩:=S5.unpin (ads:=ads) fun a m=>let ⟨o,e,_,nc⟩:=pin5 a m;⟨o,e,nc⟩
   have hc6:Cur s5.heap (i+1):=X.cur _ _ _ hc2 fun a m o e=>by
    obtain ⟨o',e1,e2,_⟩:=pin5 a m
    replace e2:=e.symm.trans e2;cases e2
    exact S5.heap.pin a o e1
   refine ⟨items.length - (i+1),by exact zh35 hlt,i+1,_,σ5,acc,ys,nn,rfl,hlt,g.trans (gg5.unpin ho'),sm.trans (sm2.trans (sm4.trans sm5)),S6,hc6,o6,?_,(hacc.mono gg5.fz).mono f6,Nat.le_succ_of_le hal,q5.2 rfl⟩
   rw [unpin_ne hDa];exact gg5.pin D _ hD'
  | true =>
   refine wpAny_mono (hE A hA σ5 _ s5 H5 (q5.1 rfl) S5) (fun uv s6 p => ?_) fun _ _ x=>x
   obtain ⟨H6,σ6,v6,g6,S6,r6,sm6,q6⟩:=p
   have gg6:=gg5.trans g6
   have pD:H6 D= .pin (lobj "list" ys nn):=gg6.pin D _ hD'
   have pin6:∀ a∈D::ads,∃ o,H6 a= .pin o∧∀ v,o.data≠ .cell v:=fun a m=>by
    rcases List.mem_cons.mp m with rfl | m
    ·exact ⟨_,pD,noCell_list⟩
    ·obtain ⟨o,e,_,nc⟩:=pin5 a m
     exact ⟨o,g6.pin a o e,nc⟩
   obtain ⟨S7,f7,o7⟩:=S6.unpin (ads:=D::ads) pin6
   have hc7:Cur s6.heap (i+1):=X.cur _ _ _ hc2 fun a m o e=>by
    obtain ⟨o',e1,e2,_⟩:=pin5 a m
    replace e2:=e.symm.trans e2;cases e2
    exact S6.heap.pin a o (g6.pin a o e1)
   have hys:ys.size≤sizeLine:=by
    have e1:acc.length=ys.size:=by rw [hacc.length,Array.length_toList]
    have:=lim_le
    exact Nat.le_trans (Nat.le_trans (Nat.le_trans (Nat.le_trans (Nat.le_of_eq e1.symm) hal) (Nat.le_of_lt hlt)) hlim) this
   refine wpAny_list_append_plain (hsz:=hys) (l:=D) (items:=ys) ⟨nn,S6.heap.pin D _ pD⟩ fun h' hp hs => ?_
   obtain ⟨n8,hp⟩:=hp
   have S8:St prog w h₀ sc env (Mine.unpin H6 (D::ads)) σ6 h':=S7.sameBut (o7 D List.mem_cons_self) hs
   obtain ⟨S9,g9,p9⟩:=S8.pinAll (ads:=[D]) fun a m=>by rw [List.mem_singleton.mp m];exact ⟨o7 D List.mem_cons_self,_,hp⟩
   have g7:Grow H (Mine.unpin H6 (D::ads)):=(g.trans gg6).unpin fun a m=>by
    rcases List.mem_cons.mp m with rfl | m
    ·exact hD
    ·exact ho a m
   refine ⟨items.length - (i+1),by exact zh35 hlt,i+1,_,σ6,acc++[v6],ys.push uv,n8,rfl,hlt,g7.trans g9,sm.trans (sm2.trans (sm4.trans (sm5.trans (sm6.trans (.mk s6 _ _))))),S9,?_,fun a m => ?_,p9 D (List.mem_singleton.mpr rfl) _ hp,?_,?_,q6⟩
   ·exact X.cur _ _ _ hc7 fun a m o e=>(hs.2 a fun q=>hDa (q▸m)).trans e
   ·rw [pinAll_ne (not_single hDa m)]
    exact o7 a (List.mem_cons_of_mem _ m)
   ·rw [Array.toList_push]
    exact ((((hacc.mono gg6.fz)).append (.cons r6 .nil)).mono f7).mono g9.fz
   ·rw [List.length_append];simp;exact hal
 ·have hi':i=items.length:=by exact zh36 hi hlt
  subst hi'
  rw [List.drop_length] at hP'
  refine wpAny_mono (X.stop sc env s' H' σ' (fun a o e=>g.fz a o (g₀ a o e)) S' hP'.1 hc' ho') (fun r s1 p => ?_) fun _ _ x=>x
  obtain ⟨rfl,S1,sm1⟩:=p
  obtain ⟨S2,f2,o2⟩:=S1.unpin (ads:=[D]) fun a m=>by rw [List.mem_singleton.mp m];exact ⟨_,hD',noCell_list⟩
  exact ⟨_,σ',acc,ys,nn,g.unpin (fun a m=>by rw [List.mem_singleton.mp m];exact hD),sm.trans sm1,S2,o2 D (List.mem_singleton.mpr rfl),S1.heap.pin D _ hD',hacc.mono f2,hal,hP'.2⟩
end
end Mine
namespace Mine
noncomputable def swapB (scope:Scope) (k:NameKind) (t:Str) (tl vl:Nat):Bool:=k == .local && tl == vl && !(scope.names.any fun (n,k)=>n == t && (k == .local || k == .cell))
section
variable {prog:Program} {w:World} {h₀:Heap} {sc:Scope} {env:Env} {b:Nat} {A:Around} {H H':Hm} {s s':Shared} {σ:MS}
theorem noCell_ns {h:Heap} {C:Addr} {m:Str→Option Value} (x:h.Ns C m):∃ o,h.get? C=some o∧∀ v,o.data≠ .cell v:=by
 obtain ⟨o,es,ep,e,hd,_⟩:=x
 exact ⟨o,e,fun v q=>by replace q:=hd.symm.trans q;cases q⟩
theorem leave_out {a:Addr} (h1:H a= .out) (h2:H' a= .own∨H' a= .out):leaveH H H' a= .out:=by
 unfold leaveH
 rw [h1]
 rcases h2 with e | e<;>rw [e]
theorem wp_compCore {elt target iter:Expr} {ifs:List Expr} {scope:Scope} {fr:List (Nat×Nat)} {pos:Pos} {it:Value} {ads:List Addr} {Cur:Heap→Nat→Prop} {ok:MS→Prop} {items:List V} {t:MT} {T:PT Bool} {P:PT V}
  {Q:List V→MS→Prop} {R:Value→Addr→Result→Shared→Prop} {Er:Value→Shared→Prop}
  (E:EnvOk sc env) (F:FrOk2 sc scope fr) (hA:AOk b A) (X:Src prog w h₀ A H it target ads Cur ok items) (ht:TgtOk scope t target)
  (hT:∀ cenv,EnvOk scope cenv→Tri prog w h₀ b scope cenv RB (ifsT ifs cenv) T) (hE:∀ cenv,EnvOk scope cenv→Tri prog w h₀ b scope cenv RV (eval elt cenv) P)
  (S:St prog w h₀ sc env H σ s.heap) (hc:Cur s.heap 0) (ho:∀ a∈ads,H a= .out) (hlim:items.length≤lim) (hP:compP t ok T P items [] ⟨frLoc fr σ.loc,σ.lv⟩ Q)
  (hR:∀ D C f s' H' σ' acc ys n m,Grow H H'→Same s s'→St prog w h₀ sc env H' {σ with lv:=σ'.lv} s'.heap→H' C= .out→s'.heap.Ns C m→H' D= .out→IsL s'.heap D ys n→D≠C→AllIs H' acc ys.toList→Q acc σ'→R (.ref D) C (.ok f) s') :
  wpAny (model prog w) A (newList []) (fun acc s₃=>wpAny (model prog w) A (newFunctionEnv scope env.globals (clOf env scope.names []) [] env.qual none .none (some env)) (fun cenv s₄ =>
   codeAny (model prog w) A (.compStart (.ListComp elt [⟨target,iter,ifs,0⟩] scope pos) 0 it acc {cenv with scope:=relabel scope env}) (R acc cenv.locals) s₄) Er s₃) Er s:=by
 refine wpAny_newObj_type (wp_newCompEnv ?_) (Nat.zero_le _)
 dsimp only
 generalize hh:s.heap.push {cls:= .type "list",dict:=none,data:= .seq ([]:List Value).toArray}=h
 have kp:∀ a o,s.heap.get? a=some o→h.get? a=some o:=fun a o e=>by rw [←hh];exact Heap.get?_push_of_some _ e
 have hl0:IsL h s.heap.objs.size #[] 0:=by rw [←hh];exact IsL.new s.heap #[]
 have hsz:h.objs.size=s.heap.objs.size+1:=by rw [←hh];exact Heap.size_push ..
 obtain ⟨E',H1,S1,k1,k2,kC⟩:=S.comp E F kp
 generalize hh2:pushCells (h.push {cls:= .type "dict",data:= .dict #[]}) scope.names=h2 at S1
 have kk:∀ a o,h.get? a=some o→h2.get? a=some o:=fun a o e=>by rw [←hh2];exact pushCells_keeps _ _ _ _ (Heap.get?_push_of_some _ e)
 have lt1:∀ a∈ads,a<s.heap.objs.size:=fun a m=>let ⟨o,e,_⟩:=X.obj _ _ hc a m;Heap.lt_size e
 have hDo:H s.heap.objs.size= .out:=S.outSize
 have hCo:H h.objs.size= .out:=S.heap.out_ge (by rw [hsz];exact Nat.le_succ _)
 have hDC:s.heap.objs.size≠h.objs.size:=by rw [hsz];exact Nat.ne_of_lt (Nat.lt_succ_self _)
 have loop:codeAny (model prog w) A (.compLoop (.ListComp elt [⟨target,iter,ifs,0⟩] scope pos) 0 it (.ref s.heap.objs.size) (cenvOf scope env h.objs.size)) (R (.ref s.heap.objs.size) h.objs.size) {s with heap:=h2}:=by
  refine codeAny_mono (wp_compLoop (s:={s with heap:=h2}) (Q:=Q) (H:=H1) (D:=s.heap.objs.size) E' hA X (fun a o e => ?_) ht (hT _ E') (hE _ E') S1 ?_ (fun a m => ?_) ?_ (fun m=>Nat.lt_irrefl _ (lt1 _ m)) (kk _ _ hl0) hlim hP) fun r s' p => ?_
  ·have:=enterH_fz (h:=s.heap).mpr e
   exact (k2 a (by rw [this];exact Slot.noConfusion)).trans this
  ·exact X.cur _ _ _ hc fun a m o e=>kk _ _ (kp _ _ e)
  ·rw [k1 a (Nat.lt_trans (lt1 a m) (by rw [hsz];exact Nat.lt_succ_self _))]
   exact enterH_out.mpr (ho a m)
  ·rw [k1 _ (by rw [hsz];exact Nat.lt_succ_self _)]
   exact enterH_out.mpr hDo
  ·cases r with
   | error e=>exact p.elim
   | ok f =>
    obtain ⟨H',σ',acc,ys,n,g,sm,S',hD',hl',ha',_,hQ⟩:=p
    obtain ⟨g3,S3,f3⟩:=S.leave (lv':=σ'.lv) S'.heap g k2 S'.live
    obtain ⟨m,hm⟩:=S'.fr.ns
    exact hR _ _ f s' _ σ' acc ys n m g3 (Same.trans (.mk s h2 s.toks) sm) S3 (leave_out hCo (.inl (g.own _ kC))) hm (leave_out hDo (.inr hD')) hl' hDC (ha'.mono f3) hQ
 exact codeAny_compStart_list loop (wpAny_mono (X.self 0 _ (fun it' s'=>it'=it∧s'={s with heap:=h2}) (X.cur _ _ _ hc fun a m o e=>kk _ _ (kp _ _ e)) ⟨rfl,rfl⟩) (fun it' s' q=>by rw [q.1,q.2];exact loop) fun _ _ x=>x.elim)
noncomputable def compOf (g:MS→V→Option (List V)) (fr:List (Nat×Nat)) (t:MT) (T:PT Bool) (P PI:PT V) (m:Bool):PT V:=fun σ Q=>PI σ fun v σ1=>∃ items,g σ1 v=some items∧rngOk v∧items.length≤lim ∧
 compP t (fun σ=>g σ v=some items) T P items [] ⟨frLoc fr σ1.loc,σ1.lv⟩ fun l σ2=>mkL m l ⟨σ1.loc,σ2.lv⟩ Q
inductive ItOk (prog:Program) (w:World) (h₀:Heap) (A:Around) (sc:Scope) (env:Env) (H:Hm) (it:Value) (target:Expr) (g:MS→V→Option (List V)) (Q:V→List V→MS→Prop) (s s2:Shared):Prop
 | mk (H1:Hm) (σ1:MS) (v:V) (items:List V) (ads:List Addr) (Cur:Heap→Nat→Prop) (g1:Grow H H1) (e:Same s s2) (S:St prog w h₀ sc env H1 σ1 s2.heap) (X:Src prog w h₀ A H1 it target ads Cur (fun σ=>g σ v=some items) items)
  (c:Cur s2.heap 0) (o:∀ a∈ads,H1 a= .out) (q:Q v items σ1):ItOk prog w h₀ A sc env H it target g Q s s2
noncomputable def IterOk (prog:Program) (w:World) (h₀:Heap) (b:Nat) (sc:Scope) (env:Env) (iter target:Expr) (g:MS→V→Option (List V)) (PI:PT V):Prop :=
 ∀ A,AOk b A→∀ σ (Q:V→List V→MS→Prop) s H,PI σ (fun v σ1=>∃ items,g σ1 v=some items∧rngOk v∧Q v items σ1)→St prog w h₀ sc env H σ s.heap →
  wpAny (model prog w) A (eval iter env) (fun u s1=>wpAny (model prog w) A (pyIter u) (fun it=>ItOk prog w h₀ A sc env H it target g Q s) noE s1) noE s
theorem iterOk_any {iter target:Expr} {PI:PT V} (hI:Tri prog w h₀ b sc env RV (eval iter env) PI):IterOk prog w h₀ b sc env iter target itemsOf PI:=fun A hA σ Q s H hP S=>by
 refine hI.use hA hP S fun u v σ1 s1 H1 g1 e1 r1 q1 S1 => ?_
 obtain ⟨items,hi,hr,hq⟩:=q1
 refine wpAny_mono (src_any (target:=target) hA S1 r1 hi hr) (fun it s2 q => ?_) fun _ _ x=>x
 obtain ⟨ads,Cur,X,hc0,ho,S2,e2⟩:=q
 exact ⟨H1,σ1,v,items,ads,Cur,g1,e1.trans e2,S2,X,hc0,ho,hq⟩
theorem tri_listComp {elt target iter:Expr} {ifs:List Expr} {scope:Scope} {fr:List (Nat×Nat)} {pos:Pos} {t:MT} {T:PT Bool} {P PI:PT V} {m:Bool} {g:MS→V→Option (List V)}
  (E:EnvOk sc env) (F:FrOk2 sc scope fr) (ht:TgtOk scope t target) (hs:notSet iter=true) (hI:IterOk prog w h₀ b sc env iter target g PI)
  (hT:∀ cenv,EnvOk scope cenv→Tri prog w h₀ b scope cenv RB (ifsT ifs cenv) T) (hE:∀ cenv,EnvOk scope cenv→Tri prog w h₀ b scope cenv RV (eval elt cenv) P) :
  Tri prog w h₀ b sc env RV (eval (.ListComp elt [⟨target,iter,ifs,0⟩] scope pos) env) (compOf g fr t T P PI m):=fun A hA σ Q s H hP S=>by
 rw [eval_ListComp]
 refine wpAny_comprehension_free (use:=none) rfl (folded_notSet hs) (closureFor_eq (F.cells E)) F.kind (fun x hx hl => ?_) (wpAny_mono (hI A hA σ _ s H hP S) (fun u s1 p=>wpAny_mono p (fun it s2 p => ?_) fun _ _ x=>x.elim) fun _ _ x=>x.elim)
 ·obtain ⟨i,hi⟩:=List.mem_iff_getElem?.mp hx
  obtain ⟨y,k⟩:=x
  cases hl
  exact lookup_of_get F.nodup hi
 obtain ⟨H1,σ1,v,items,ads,Cur,g1,e2,S2,X,hc0,ho,hlim,hc⟩:=p
 refine wp_compCore E F hA X ht hT hE S2 hc0 ho hlim hc fun D C f s' H' σ' acc ys n m' g3 e3 S3 hC hn hD hl hDC ha hq => ?_
 refine ⟨m',hn,fun h' hs' => ?_⟩
 have S4:=S3.sameBut hC hs'
 have hl':IsL h' D ys n:=(hs'.2 D hDC).trans hl
 exact (fin_mkL (s:={s' with heap:=h'}) S4 hl' hD ha hq).from (g1.trans g3) ((e2.trans (e3.trans (.mk s' _ _))))
theorem swaps_comp {elt:Expr} {gens:List Comprehension} {scope:Scope} {pos px:Pos} {x:Str} {k:NameKind} {line:Nat} (E:EnvOk sc env) (hx:sc.names.lookup x=some k) (hk:k= .local∨k= .cell) :
  swapsWith (.ListComp elt gens scope pos) (some (.Name x px)) line env=pure (swapB scope k x px.line pos.line):=by
 have hb:env.blockKind= .function:=by unfold Env.blockKind;rw [E.kind];rfl
 have hkk:env.kindOf x=some k:=by
  rcases E.knd x k hx with e | ⟨rfl,_⟩
  ·exact e
  ·rcases hk with h | h<;>cases h
 unfold swapsWith
 simp only [hb,hkk,swapB]
 rcases hk with rfl | rfl<;>rfl
theorem tri_asgComp {elt target iter:Expr} {ifs:List Expr} {scope:Scope} {fr:List (Nat×Nat)} {px pos spos:Pos} {x:Str} {i:Nat} {t:MT} {T:PT Bool} {P PI:PT V} {m:Bool} {g:MS→V→Option (List V)}
  (E:EnvOk sc env) (hi:sc.names[i]?=some (x,.local)) (hsw:swapB scope .local x px.line pos.line=true) (F:FrOk2 sc scope fr) (ht:TgtOk scope t target) (hs:notSet iter=true) (hI:IterOk prog w h₀ b sc env iter target g PI)
  (hT:∀ cenv,EnvOk scope cenv→Tri prog w h₀ b scope cenv RB (ifsT ifs cenv) T) (hE:∀ cenv,EnvOk scope cenv→Tri prog w h₀ b scope cenv RV (eval elt cenv) P) :
  Tri prog w h₀ b sc env FlIs (exec (.Assign [.Name x px] (.ListComp elt [⟨target,iter,ifs,0⟩] scope pos) spos) env) (fun σ Q=>compOf g fr t T P PI m σ fun v σ1=>Q .next {σ1 with loc:=setV σ1.loc i v}):=fun A hA σ Q s H hP S=>by
 rw [exec_Assign_Name_used _ _ _ _ (by rw [swaps_comp E (lookup_of_get E.nodup hi) (.inl rfl),hsw])]
 refine wpAny_bind (wpAny_standAt (wpAny_bind ?_))
 show wpAny _ A (do let _ ←comprehension (.ListComp elt [⟨target,iter,ifs,0⟩] scope pos) scope env _ (newList []) false (eval iter env) (some (assign (.Name x px) env))) _ _ s
 refine wpAny_bind (wpAny_mono (wpAny_comprehension_free (use:=some (assign (.Name x px) env)) (Q:=fun _ s'=>Post prog w h₀ sc env FlIs H s Q .next s') rfl (folded_notSet hs) (closureFor_eq (F.cells E)) F.kind (fun x hx hl => ?_) (wpAny_mono (hI A hA σ _ s H hP S) (fun u s1 p=>wpAny_mono p (fun it s2 p => ?_) fun _ _ x=>x.elim) fun _ _ x=>x.elim)) (fun _ s' hq=>wpAny_pure (wpAny_pure hq)) fun _ _ e=>e)
 ·obtain ⟨i,hi⟩:=List.mem_iff_getElem?.mp hx
  obtain ⟨y,k⟩:=x
  cases hl
  exact lookup_of_get F.nodup hi
 obtain ⟨H1,σ1,v,items,ads,Cur,g1,e2,S2,X,hc0,ho,hlim,hc⟩:=p
 refine wp_compCore E F hA X ht hT hE S2 hc0 ho hlim hc fun D C f s' H' σ' acc ys n m' g3 e3 S3 hC hn hD hl hDC ha hq => ?_
 show wpAny _ A (assign (.Name x px) env (.ref D)) _ _ s'
 obtain ⟨oC,eC,ncC⟩:=noCell_ns hn
 obtain ⟨S4,g4,p4⟩:=S3.pinAll (ads:=[C]) fun a m=>by rw [List.mem_singleton.mp m];exact ⟨hC,oC,eC⟩
 have hD4:Mine.pinAll H' [C] s'.heap D= .out:=(pinAll_ne fun q=>hDC (List.mem_singleton.mp q)).trans hD
 obtain ⟨H5,σ5,v5,g5,S5,r5,e5,q5⟩:=fin_mkL S4 hl hD4 (ha.mono g4.fz) hq
 refine wpAny_mono (wp_assign E hA (.var hi (.inl rfl)) S5 r5 rfl (Q:=fun _ σ'=>σ'={σ5 with loc:=setV σ5.loc i v5}) rfl) (fun _ s6 p => ?_) fun _ _ x=>x.elim
 obtain ⟨H6,σ6,_,g6,S6,_,e6,rfl⟩:=p
 have pC:H6 C= .pin oC:=g6.pin _ _ (g5.pin _ _ (p4 C (List.mem_singleton.mpr rfl) _ eC))
 obtain ⟨S7,f7,o7⟩:=S6.unpin (ads:=[C]) fun a m=>by rw [List.mem_singleton.mp m];exact ⟨oC,pC,ncC⟩
 refine ⟨m',hn.at fun o e=>by replace e:=eC.symm.trans e;cases e;exact S6.heap.pin _ _ pC,fun h' hs' => ?_⟩
 exact ⟨_,_,.next,(g1.trans g3).trans ((g4.trans (g5.trans g6)).unpin fun a m=>by rw [List.mem_singleton.mp m];exact hC),S7.sameBut (o7 C (List.mem_singleton.mpr rfl)) hs',.next,
  (e2.trans (e3.trans (e6.trans (.mk s6 _ _)))),q5⟩
end
end Mine
namespace Mine
noncomputable def mkD (l:List (Int×V)):PT V:=fun σ Q=>∀ a,σ.lv a=none→Q (.ref a) {σ with lv:=updL σ.lv a (some (.dict l))}
noncomputable def compDP (t:MT) (ok:MS→Prop) (P1 P2:PT V):List V→List (Int×V)→PT (List (Int×V))
 | [],acc=>fun σ Q=>ok σ∧Q acc σ
 | x::r,acc=>fun σ Q=>AsgC (ok σ) t x σ fun σ1=>P1 σ1 fun kv σ2=>∃ k,kv= .int k∧P2 σ2 fun v σ3=>compDP t ok P1 P2 r (dset acc k v) σ3 Q
theorem dset_length (kvs:List (Int×V)) (k:Int) (v:V):(dset kvs k v).length≤kvs.length+1:=by
 unfold dset
 split<;>simp
section
variable {prog:Program} {w:World} {h₀:Heap} {sc:Scope} {env:Env} {b:Nat} {A:Around} {H H':Hm} {s s':Shared} {σ:MS}
theorem fin_mkD {l:List (Int×V)} {ps:List (Int×Value)} {Q:V→MS→Prop} {a:Addr} (S:St prog w h₀ sc env H σ s.heap) (hl:s.heap.DictOf (intKind prog w) a ps) (ha:H a= .out) (hv:PairsIs H l ps)
  (hQ:mkD l σ Q):Post prog w h₀ sc env RV H s Q (.ref a) s:=by
 have hn:σ.lv a=none:=by
  cases e:σ.lv a with
  | none=>rfl
  | some x=>have:=S.live a x e;replace this:=ha.symm.trans this;cases this
 have hm:=fz_set (H:=H) (a:=a) (y:= .lv (.dict l)) (fun o=>neo ha rfl)
 exact ⟨H.set a (.lv (.dict l)),_,.ref a,.set ha,S.newLv ha ⟨ps,hl,hv.mono hm⟩,.ref a,.refl s,hQ a hn⟩
theorem noCell_dict {h:Heap} {a:Addr} {ps:List (Int×Value)} (x:h.DictOf (intKind prog w) a ps):∃ o,h.get? a=some o∧∀ v,o.data≠ .cell v:=by
 obtain ⟨o,es,ep,ho,hc,hd,_⟩:=x
 exact ⟨o,ho,fun v q=>by replace q:=hd.symm.trans q;cases q⟩
theorem tri_dict0 {pos:Pos}:Tri prog w h₀ b sc env RV (eval (.Dict [] [] pos) env) (mkD []):=fun A hA σ Q s H hP S =>
 wpAny_Dict_empty ((fin_mkD (s:={s with heap:=s.heap.push {cls:= .type "dict",data:= .dict #[]}}) (S.push _) (Heap.DictOf.new s.heap) S.outSize .nil hP).from (.refl H) (.mk s _ _))
theorem tri_dict1 {k v:Expr} {pos:Pos} {P1 P2:PT V} (hk:evalOpt (some k) env=some (eval k env)) (h1:Tri prog w h₀ b sc env RV (eval k env) P1) (h2:Tri prog w h₀ b sc env RV (eval v env) P2) :
  Tri prog w h₀ b sc env RV (eval (.Dict [some k] [v] pos) env) (fun σ Q=>P1 σ fun x σ1=>∃ i,x= .int i∧P2 σ1 fun y σ2=>mkD [(i,y)] σ2 Q):=fun A hA σ Q s H hP S=>by
 let h:=s.heap.push {cls:= .type "dict",data:= .dict #[]}
 have hD:h.DictOf (intKind prog w) s.heap.objs.size []:=Heap.DictOf.new s.heap
 obtain ⟨o,eo,nc⟩:=noCell_dict hD
 obtain ⟨S1,g1,p1⟩:=(S.push {cls:= .type "dict",data:= .dict #[]}).pinAll (ads:=[s.heap.objs.size]) fun a m=>by rw [List.mem_singleton.mp m];exact ⟨S.outSize,o,eo⟩
 have p1:=p1 _ (List.mem_singleton.mpr rfl) o eo
 refine wpAny_Dict_pairs (knd:=intKind prog w) (pairs:=[(eval k env,do let x ←eval v env;standAt pos;pure x)]) ?_ (by simp) (by simp) (evalPairs_cons ?_)
 ·show [(evalOpt (some k) env,_)]=_
  rw [hk];rfl
 refine h1.use hA hP (s:={s with heap:=h}) S1 fun u x σ1 s1 H2 g2 e2 r2 q2 S2 => ?_
 obtain ⟨i,rfl,q2⟩:=q2
 cases r2 with | int _ t =>
 refine wpAny_bind (h2.use hA q2 S2 fun y z σ3 s3 H3 g3 e3 r3 q3 S3=>wpAny_bind (wpAny_standAt (wpAny_pure (evalPairs_nil ?_))))
 have pD:H3 s.heap.objs.size= .pin o:=g3.pin _ _ (g2.pin _ _ p1)
 have hD3:s3.heap.DictOf (intKind prog w) s.heap.objs.size []:=hD.at fun o' e=>by replace e:=eo.symm.trans e;cases e;exact S3.heap.pin _ _ pD
 refine ⟨[(i,y)],⟨by show (i == i)=true;exact beq_self_eq_true i,rfl,trivial⟩,hD3,fun h' hm hs => ?_⟩
 obtain ⟨S4,f4,o4⟩:=S3.unpin (ads:=[s.heap.objs.size]) fun a m=>by rw [List.mem_singleton.mp m];exact ⟨o,pD,nc⟩
 have o4:=o4 _ (List.mem_singleton.mpr rfl)
 have S5:=S4.sameBut o4 hs
 have hm':h'.DictOf (intKind prog w) s.heap.objs.size [(i,y)]:=hm
 exact (fin_mkD (s:={s3 with heap:=h',toks:=s3.toks+1}) S5 hm' o4 (.cons (r3.mono f4) .nil) q3).from ((g1.trans (g2.trans g3)).unpin fun a m=>by rw [List.mem_singleton.mp m];exact S.outSize) (Same.trans (.mk s h s.toks) (e2.trans (e3.trans (.mk s3 _ _))))
noncomputable def CompDT (prog:Program) (w:World) (A:Around) (kx vx:Expr) (env:Env) (D:Addr) (K:Shared→Prop) (s:Shared):Prop :=
 wpAny (model prog w) A (eval kx env) (fun kv=>wpAny (model prog w) A (eval vx env) (fun vv=>wpAny (model prog w) A (dictSet D kv vv) (fun _=>K) noE) noE) noE s
theorem codeAny_compLoop_anyD {kx vx target iter:Expr} {scope:Scope} {pos:Pos} {it:Value} {D:Addr} {R:Result→Shared→Prop} (I:Nat→Shared→Prop)
  (turn:∀ n s,I n s→wpAny (model prog w) A (pyNext it) (TurnR prog w A target it env (CompDT prog w A kx vx env D (Less I n)) (R (.ok .next))) noE s)
  (n:Nat) (h:I n s) :
  codeAny (model prog w) A (.compLoop (.DictComp kx vx [⟨target,iter,[],0⟩] scope pos) 0 it (.ref D) env) R s:=by
 refine codeAny_loop rfl I (fun n s hI => ?_) n h
 show wpAny _ A ((compTurn (.DictComp kx vx [⟨target,iter,[],0⟩] scope pos) 0 it (.ref D) env).onRaise (fun x=>do noteFrame x env;theTreesLotGoes x)) _ _ s
 refine wpAny_noted ?_
 rw [compTurn_dict]
 refine wpAny_bind (wpAny_standAt (wpAny_bind (wpAny_mono (turn n s hI) (fun r s₁ h₁ => ?_) fun _ _ h'=>h'.elim)))
 cases r with
 | none=>exact wpAny_pure h₁
 | some v =>
  refine wpAny_bind (wpAny_mono h₁ (fun _ s₁' h₁' => ?_) fun _ _ h'=>h'.elim)
  refine wpAny_bind (wpAny_mono h₁' (fun _ s₂ h₂=>wpAny_bind (wpAny_tests_nil ?_)) fun _ _ h'=>h'.elim)
  exact wpAny_bind (wpAny_bind (wpAny_mono h₂ (fun kv s₄ h₄=>wpAny_bind (wpAny_holding (wpAny_mono h₄ (fun vv s₅ h₅=>wpAny_bind (wpAny_standAt (wpAny_holding (wpAny_mono h₅ (fun _ s₆ h₆=>wpAny_pure ⟨rfl,h₆⟩) fun _ _ h'=>h'.elim)))) fun _ _ h'=>h'.elim))) fun _ _ h'=>h'.elim))
inductive CompRD (prog:Program) (w:World) (h₀:Heap) (sc:Scope) (env:Env) (H:Hm) (s:Shared) (D:Addr) (Q:List (Int×V)→MS→Prop) (s':Shared):Prop
 | mk (H':Hm) (σ':MS) (acc:List (Int×V)) (ps:List (Int×Value)) (g:Grow H H') (e:Same s s') (S:St prog w h₀ sc env H' σ' s'.heap) (hD:H' D= .out) (hl:s'.heap.DictOf (intKind prog w) D ps) (ha:PairsIs H' acc ps) (q:Q acc σ'):CompRD prog w h₀ sc env H s D Q s'
inductive CompID (prog:Program) (w:World) (h₀:Heap) (sc:Scope) (env:Env) (H:Hm) (s:Shared) (D:Addr) (items:List V) (Cur:Heap→Nat→Prop) (ads:List Addr) (R:List V→List (Int×V)→MS→Prop) (n:Nat) (s':Shared):Prop
 | mk (i:Nat) (H':Hm) (σ':MS) (acc:List (Int×V)) (ps:List (Int×Value)) (o:Obj) (h1:n=items.length - i) (h2:i≤items.length) (g:Grow H H') (e:Same s s') (S:St prog w h₀ sc env H' σ' s'.heap) (c:Cur s'.heap i) (ho:∀ a∈ads,H' a= .out)
  (hD:H' D= .pin o) (hl:s'.heap.DictOf (intKind prog w) D ps) (ha:PairsIs H' acc ps) (hn:acc.length≤i) (q:R (items.drop i) acc σ'):CompID prog w h₀ sc env H s D items Cur ads R n s'
theorem wp_compLoopD {kx vx target iter:Expr} {scope:Scope} {pos:Pos} {it:Value} {D:Addr} {ads:List Addr} {Cur:Heap→Nat→Prop} {ok:MS→Prop} {items:List V} {t:MT} {P1 P2:PT V} {Q:List (Int×V)→MS→Prop} {H₀:Hm}
  (E:EnvOk sc env) (hA:AOk b A) (X:Src prog w h₀ A H₀ it target ads Cur ok items) (g₀:∀ a o,H₀ a= .fz o→H a= .fz o) (ht:TgtOk sc t target)
  (hE1:Tri prog w h₀ b sc env RV (eval kx env) P1) (hE2:Tri prog w h₀ b sc env RV (eval vx env) P2)
  (S:St prog w h₀ sc env H σ s.heap) (hc:Cur s.heap 0) (ho:∀ a∈ads,H a= .out) (hD:H D= .out) (hDa:D∉ads) (hl:s.heap.DictOf (intKind prog w) D []) (hlim:items.length≤lim) (hP:compDP t ok P1 P2 items [] σ Q) :
  codeAny (model prog w) A (.compLoop (.DictComp kx vx [⟨target,iter,[],0⟩] scope pos) 0 it (.ref D) env)
   (okR (CompRD prog w h₀ sc env H s D Q)) s:=by
 obtain ⟨o0,eo0,nc0⟩:=noCell_dict hl
 obtain ⟨S0,G0,p0⟩:=S.pinAll (ads:=[D]) fun a m=>by rw [List.mem_singleton.mp m];exact ⟨hD,_,eo0⟩
 refine codeAny_compLoop_anyD (CompID prog w h₀ sc env H s D items Cur ads fun r acc σ=>compDP t ok P1 P2 r acc σ Q) ?_ (items.length - 0)
  ⟨0,_,σ,[],[],o0,rfl,Nat.zero_le _,G0,.refl s,S0,hc,fun a m=>by rw [pinAll_ne (not_single hDa m)];exact ho a m,p0 D (List.mem_singleton.mpr rfl) _ eo0,hl,.nil,Nat.le_refl _,by simpa using hP⟩
 rintro n s' ⟨i,H',σ',acc,ps,oD,rfl,hi,g,sm,S',hc',ho',hD',hdict,hacc,hal,hP'⟩
 by_cases hlt:i<items.length
 ·have hx:items[i]?=some items[i]:=List.getElem?_eq_getElem hlt
  rw [List.drop_eq_getElem_cons hlt] at hP'
  obtain ⟨hok,σ1,ha,hbody⟩:=hP'
  refine wpAny_mono (X.next sc env i s' H' σ' _ (fun a o e=>g.fz a o (g₀ a o e)) S' hok hc' ho' hx) (fun r s1 p => ?_) fun _ _ x=>x
  obtain ⟨u,rfl,p⟩:=p
  refine wpAny_mono p (fun _ s2 p => ?_) fun _ _ x=>x
  obtain ⟨H2,g2,S2,hv,hc2,ho2,sm2⟩:=p
  obtain ⟨S3,g3,p3⟩:=S2.pinAll (ads:=ads) fun a m=>⟨ho2 a m,let ⟨o,e,_⟩:=X.obj _ _ hc2 a m;⟨o,e⟩⟩
  refine wpAny_mono (wp_assign E hA ht S3 (hv.mono g3.fz) ha (Q:=fun _ σ''=>σ''=σ1) rfl) (fun _ s3 p => ?_) fun _ _ x=>x
  obtain ⟨H4,σ4,_,g4,S4,_,sm4,rfl⟩:=p
  refine wpAny_mono (hE1 A hA σ4 _ s3 H4 hbody S4) (fun ku s5 p => ?_) fun _ _ x=>x
  obtain ⟨H5,σ5,y,g5,S5,r5,sm5,k,rfl,q5⟩:=p
  cases r5 with | int _ tk =>
  refine wpAny_mono (hE2 A hA σ5 _ s5 H5 q5 S5) (fun uv s6 p => ?_) fun _ _ x=>x
  obtain ⟨H6,σ6,v6,g6,S6,r6,sm6,q6⟩:=p
  have gg6:Grow H' H6:=g2.trans (g3.trans (g4.trans (g5.trans g6)))
  have pin5:∀ a∈ads,∃ o,H6 a= .pin o∧s2.heap.get? a=some o∧∀ v,o.data≠ .cell v:=fun a m=>by
   obtain ⟨o,e,nc⟩:=X.obj _ _ hc2 a m
   exact ⟨o,g6.pin a o (g5.pin a o (g4.pin a o (p3 a m o e))),e,nc⟩
  have pD:H6 D= .pin oD:=gg6.pin D _ hD'
  have hd6:s6.heap.DictOf (intKind prog w) D ps:=hdict.at fun o e=>by
   replace e:=(S'.heap.pin D _ hD').symm.trans e;cases e
   exact S6.heap.pin D _ pD
  obtain ⟨o',eo',nc'⟩:=noCell_dict hd6
  replace eo':=(S6.heap.pin D _ pD).symm.trans eo';cases eo'
  have pin6:∀ a∈D::ads,∃ o,H6 a= .pin o∧∀ v,o.data≠ .cell v:=fun a m=>by
   rcases List.mem_cons.mp m with rfl | m
   ·exact ⟨_,pD,nc'⟩
   ·obtain ⟨o,e,_,nc⟩:=pin5 a m
    exact ⟨o,e,nc⟩
  obtain ⟨S7,f7,o7⟩:=S6.unpin (ads:=D::ads) pin6
  have hc7:Cur s6.heap (i+1):=X.cur _ _ _ hc2 fun a m o e=>by
   obtain ⟨o',e1,e2,_⟩:=pin5 a m
   replace e2:=e.symm.trans e2;cases e2
   exact S6.heap.pin a o e1
  have hys:ps.length≤sizeLine:=by
   rw [←hacc.length]
   have:=lim_le
   exact Nat.le_trans (Nat.le_trans (Nat.le_trans hal (Nat.le_of_lt hlt)) hlim) this
  refine wpAny_dictSet_pairs (knd:=intKind prog w) (k:=k) (hsz:=hys) (by show (k == k)=true;exact beq_self_eq_true k) hd6 fun h' hp hs => ?_
  obtain ⟨o8,eo8,nc8⟩:=noCell_dict hp
  have S8:St prog w h₀ sc env (Mine.unpin H6 (D::ads)) σ6 h':=S7.sameBut (o7 D List.mem_cons_self) hs
  obtain ⟨S9,g9,p9⟩:=S8.pinAll (ads:=[D]) fun a m=>by rw [List.mem_singleton.mp m];exact ⟨o7 D List.mem_cons_self,_,eo8⟩
  have g7:Grow H (Mine.unpin H6 (D::ads)):=(g.trans gg6).unpin fun a m=>by
   rcases List.mem_cons.mp m with rfl | m
   ·exact hD
   ·exact ho a m
  refine ⟨items.length - (i+1),by exact zh35 hlt,i+1,_,σ6,dset acc k v6,stored ps k uv,o8,rfl,hlt,g7.trans g9,sm.trans (sm2.trans (sm4.trans (sm5.trans (sm6.trans (.mk s6 _ _))))),S9,?_,fun a m => ?_,p9 D (List.mem_singleton.mpr rfl) _ eo8,hp,?_,?_,q6⟩
  ·exact X.cur _ _ _ hc7 fun a m o e=>(hs.2 a fun q=>hDa (q▸m)).trans e
  ·rw [pinAll_ne (not_single hDa m)]
   exact o7 a (List.mem_cons_of_mem _ m)
  ·exact ((((hacc.mono gg6.fz)).stored k r6).mono f7).mono g9.fz
  ·exact Nat.le_trans (dset_length ..) (Nat.succ_le_succ hal)
 ·have hi':i=items.length:=by exact zh36 hi hlt
  subst hi'
  rw [List.drop_length] at hP'
  refine wpAny_mono (X.stop sc env s' H' σ' (fun a o e=>g.fz a o (g₀ a o e)) S' hP'.1 hc' ho') (fun r s1 p => ?_) fun _ _ x=>x
  obtain ⟨rfl,S1,sm1⟩:=p
  have hd1:s1.heap.DictOf (intKind prog w) D ps:=hdict.at fun o e=>by
   replace e:=(S'.heap.pin D _ hD').symm.trans e;cases e
   exact S1.heap.pin D _ hD'
  obtain ⟨o1,eo1,nc1⟩:=noCell_dict hd1
  replace eo1:=(S1.heap.pin D _ hD').symm.trans eo1;cases eo1
  obtain ⟨S2,f2,o2⟩:=S1.unpin (ads:=[D]) fun a m=>by rw [List.mem_singleton.mp m];exact ⟨_,hD',nc1⟩
  exact ⟨_,σ',acc,ps,g.unpin (fun a m=>by rw [List.mem_singleton.mp m];exact hD),sm.trans sm1,S2,o2 D (List.mem_singleton.mpr rfl),hd1,hacc.mono f2,hP'.2⟩
theorem wp_compCoreD {kx vx target iter:Expr} {scope:Scope} {fr:List (Nat×Nat)} {pos:Pos} {it:Value} {ads:List Addr} {Cur:Heap→Nat→Prop} {ok:MS→Prop} {items:List V} {t:MT} {P1 P2:PT V}
  {Q:List (Int×V)→MS→Prop} {R:Value→Addr→Result→Shared→Prop} {Er:Value→Shared→Prop}
  (E:EnvOk sc env) (F:FrOk2 sc scope fr) (hA:AOk b A) (X:Src prog w h₀ A H it target ads Cur ok items) (ht:TgtOk scope t target)
  (hE1:∀ cenv,EnvOk scope cenv→Tri prog w h₀ b scope cenv RV (eval kx cenv) P1) (hE2:∀ cenv,EnvOk scope cenv→Tri prog w h₀ b scope cenv RV (eval vx cenv) P2)
  (S:St prog w h₀ sc env H σ s.heap) (hc:Cur s.heap 0) (ho:∀ a∈ads,H a= .out) (hlim:items.length≤lim) (hP:compDP t ok P1 P2 items [] ⟨frLoc fr σ.loc,σ.lv⟩ Q)
  (hR:∀ D C f s' H' σ' acc ps m,Grow H H'→Same s s'→St prog w h₀ sc env H' {σ with lv:=σ'.lv} s'.heap→H' C= .out→s'.heap.Ns C m→H' D= .out→s'.heap.DictOf (intKind prog w) D ps→D≠C→PairsIs H' acc ps→Q acc σ'→R (.ref D) C (.ok f) s') :
  wpAny (model prog w) A newDict (fun acc s₃=>wpAny (model prog w) A (newFunctionEnv scope env.globals (clOf env scope.names []) [] env.qual none .none (some env)) (fun cenv s₄ =>
   codeAny (model prog w) A (.compStart (.DictComp kx vx [⟨target,iter,[],0⟩] scope pos) 0 it acc {cenv with scope:=relabel scope env}) (R acc cenv.locals) s₄) Er s₃) Er s:=by
 refine wpAny_newObj_type (wp_newCompEnv ?_) (Nat.zero_le _)
 dsimp only
 generalize hh:s.heap.push {cls:= .type "dict",dict:=none,data:= .dict #[]}=h
 have kp:∀ a o,s.heap.get? a=some o→h.get? a=some o:=fun a o e=>by rw [←hh];exact Heap.get?_push_of_some _ e
 have hl0:h.DictOf (intKind prog w) s.heap.objs.size []:=by rw [←hh];exact Heap.DictOf.new s.heap
 have hsz:h.objs.size=s.heap.objs.size+1:=by rw [←hh];exact Heap.size_push ..
 obtain ⟨E',H1,S1,k1,k2,kC⟩:=S.comp E F kp
 generalize hh2:pushCells (h.push {cls:= .type "dict",data:= .dict #[]}) scope.names=h2 at S1
 have kk:∀ a o,h.get? a=some o→h2.get? a=some o:=fun a o e=>by rw [←hh2];exact pushCells_keeps _ _ _ _ (Heap.get?_push_of_some _ e)
 have lt1:∀ a∈ads,a<s.heap.objs.size:=fun a m=>let ⟨o,e,_⟩:=X.obj _ _ hc a m;Heap.lt_size e
 have hDo:H s.heap.objs.size= .out:=S.outSize
 have hCo:H h.objs.size= .out:=S.heap.out_ge (by rw [hsz];exact Nat.le_succ _)
 have hDC:s.heap.objs.size≠h.objs.size:=by rw [hsz];exact Nat.ne_of_lt (Nat.lt_succ_self _)
 have loop:codeAny (model prog w) A (.compLoop (.DictComp kx vx [⟨target,iter,[],0⟩] scope pos) 0 it (.ref s.heap.objs.size) (cenvOf scope env h.objs.size)) (R (.ref s.heap.objs.size) h.objs.size) {s with heap:=h2}:=by
  refine codeAny_mono (wp_compLoopD (s:={s with heap:=h2}) (Q:=Q) (H:=H1) (D:=s.heap.objs.size) E' hA X (fun a o e => ?_) ht (hE1 _ E') (hE2 _ E') S1 ?_ (fun a m => ?_) ?_ (fun m=>Nat.lt_irrefl _ (lt1 _ m)) (hl0.at fun o e=>kk _ o e) hlim hP) fun r s' p => ?_
  ·have:=enterH_fz (h:=s.heap).mpr e
   exact (k2 a (by rw [this];exact Slot.noConfusion)).trans this
  ·exact X.cur _ _ _ hc fun a m o e=>kk _ _ (kp _ _ e)
  ·rw [k1 a (Nat.lt_trans (lt1 a m) (by rw [hsz];exact Nat.lt_succ_self _))]
   exact enterH_out.mpr (ho a m)
  ·rw [k1 _ (by rw [hsz];exact Nat.lt_succ_self _)]
   exact enterH_out.mpr hDo
  ·cases r with
   | error e=>exact p.elim
   | ok f =>
    obtain ⟨H',σ',acc,ps,g,sm,S',hD',hl',ha',hQ⟩:=p
    obtain ⟨g3,S3,f3⟩:=S.leave (lv':=σ'.lv) S'.heap g k2 S'.live
    obtain ⟨m,hm⟩:=S'.fr.ns
    exact hR _ _ f s' _ σ' acc ps m g3 (Same.trans (.mk s h2 s.toks) sm) S3 (leave_out hCo (.inl (g.own _ kC))) hm (leave_out hDo (.inr hD')) hl' hDC (ha'.mono f3) hQ
 exact codeAny_compStart_dict loop (wpAny_mono (X.self 0 _ (fun it' s'=>it'=it∧s'={s with heap:=h2}) (X.cur _ _ _ hc fun a m o e=>kk _ _ (kp _ _ e)) ⟨rfl,rfl⟩) (fun it' s' q=>by rw [q.1,q.2];exact loop) fun _ _ x=>x.elim)
noncomputable def compDOf (fr:List (Nat×Nat)) (t:MT) (P1 P2 PI:PT V):PT V:=fun σ Q=>PI σ fun v σ1=>∃ items,itemsOf σ1 v=some items∧rngOk v∧items.length≤lim ∧
 compDP t (fun σ=>itemsOf σ v=some items) P1 P2 items [] ⟨frLoc fr σ1.loc,σ1.lv⟩ fun l σ2=>mkD l ⟨σ1.loc,σ2.lv⟩ Q
theorem swaps_compD {kx vx:Expr} {gens:List Comprehension} {scope:Scope} {pos px:Pos} {x:Str} {k:NameKind} {line:Nat} (E:EnvOk sc env) (hx:sc.names.lookup x=some k) (hk:k= .local∨k= .cell) :
  swapsWith (.DictComp kx vx gens scope pos) (some (.Name x px)) line env=pure (swapB scope k x px.line pos.line):=by
 have hb:env.blockKind= .function:=by unfold Env.blockKind;rw [E.kind];rfl
 have hkk:env.kindOf x=some k:=by
  rcases E.knd x k hx with e | ⟨rfl,_⟩
  ·exact e
  ·rcases hk with h | h<;>cases h
 unfold swapsWith
 simp only [hb,hkk,swapB]
 rcases hk with rfl | rfl<;>rfl
theorem tri_asgCompD {kx vx target iter:Expr} {scope:Scope} {fr:List (Nat×Nat)} {px pos spos:Pos} {x:Str} {i:Nat} {t:MT} {P1 P2 PI:PT V}
  (E:EnvOk sc env) (hi:sc.names[i]?=some (x,.local)) (hsw:swapB scope .local x px.line pos.line=true) (F:FrOk2 sc scope fr) (ht:TgtOk scope t target) (hs:notSet iter=true) (hI:Tri prog w h₀ b sc env RV (eval iter env) PI)
  (hE1:∀ cenv,EnvOk scope cenv→Tri prog w h₀ b scope cenv RV (eval kx cenv) P1) (hE2:∀ cenv,EnvOk scope cenv→Tri prog w h₀ b scope cenv RV (eval vx cenv) P2) :
  Tri prog w h₀ b sc env FlIs (exec (.Assign [.Name x px] (.DictComp kx vx [⟨target,iter,[],0⟩] scope pos) spos) env) (fun σ Q=>compDOf fr t P1 P2 PI σ fun v σ1=>Q .next {σ1 with loc:=setV σ1.loc i v}):=fun A hA σ Q s H hP S=>by
 rw [exec_Assign_Name_used _ _ _ _ (by rw [swaps_compD E (lookup_of_get E.nodup hi) (.inl rfl),hsw])]
 refine wpAny_bind (wpAny_standAt (wpAny_bind ?_))
 show wpAny _ A (do let _ ←comprehension (.DictComp kx vx [⟨target,iter,[],0⟩] scope pos) scope env _ newDict false (eval iter env) (some (assign (.Name x px) env))) _ _ s
 refine wpAny_bind (wpAny_mono (wpAny_comprehension_free (use:=some (assign (.Name x px) env)) (Q:=fun _ s'=>Post prog w h₀ sc env FlIs H s Q .next s') rfl (folded_notSet hs) (closureFor_eq (F.cells E)) F.kind (fun x hx hl => ?_) (hI.use hA hP S fun u v σ1 s1 H1 g1 e1 r1 q1 S1 => ?_)) (fun _ s' hq=>wpAny_pure (wpAny_pure hq)) fun _ _ e=>e)
 ·obtain ⟨i,hi⟩:=List.mem_iff_getElem?.mp hx
  obtain ⟨y,k⟩:=x
  cases hl
  exact lookup_of_get F.nodup hi
 obtain ⟨items,hit,hr,hlim,hc⟩:=q1
 refine wpAny_mono (src_any (target:=target) hA S1 r1 hit hr) (fun it s2 ⟨ads,Cur,X,hc0,ho,S2,e2⟩ => ?_) fun _ _ x=>x
 refine wp_compCoreD E F hA X ht hE1 hE2 S2 hc0 ho hlim hc fun D C f s' H' σ' acc ps m' g3 e3 S3 hC hn hD hl hDC ha hq => ?_
 show wpAny _ A (assign (.Name x px) env (.ref D)) _ _ s'
 obtain ⟨oC,eC,ncC⟩:=noCell_ns hn
 obtain ⟨S4,g4,p4⟩:=S3.pinAll (ads:=[C]) fun a m=>by rw [List.mem_singleton.mp m];exact ⟨hC,oC,eC⟩
 have hD4:Mine.pinAll H' [C] s'.heap D= .out:=(pinAll_ne fun q=>hDC (List.mem_singleton.mp q)).trans hD
 obtain ⟨H5,σ5,v5,g5,S5,r5,e5,q5⟩:=fin_mkD S4 hl hD4 (ha.mono g4.fz) hq
 refine wpAny_mono (wp_assign E hA (.var hi (.inl rfl)) S5 r5 rfl (Q:=fun _ σ'=>σ'={σ5 with loc:=setV σ5.loc i v5}) rfl) (fun _ s6 p => ?_) fun _ _ x=>x.elim
 obtain ⟨H6,σ6,_,g6,S6,_,e6,rfl⟩:=p
 have pC:H6 C= .pin oC:=g6.pin _ _ (g5.pin _ _ (p4 C (List.mem_singleton.mpr rfl) _ eC))
 obtain ⟨S7,f7,o7⟩:=S6.unpin (ads:=[C]) fun a m=>by rw [List.mem_singleton.mp m];exact ⟨oC,pC,ncC⟩
 refine ⟨m',hn.at fun o e=>by replace e:=eC.symm.trans e;cases e;exact S6.heap.pin _ _ pC,fun h' hs' => ?_⟩
 exact ⟨_,_,.next,(g1.trans g3).trans ((g4.trans (g5.trans g6)).unpin fun a m=>by rw [List.mem_singleton.mp m];exact hC),S7.sameBut (o7 C (List.mem_singleton.mpr rfl)) hs',.next,
  e1.trans (e2.trans (e3.trans (e6.trans (.mk s6 _ _)))),q5⟩
end
end Mine
namespace Mine
noncomputable def enumL (l:List V):List V:=l.mapIdx fun i x=> .tup [.int i,x]
noncomputable def enumOf (σ:MS) (v:V):Option (List V):=(listOf σ v).map enumL
theorem enumL_get {l:List V} {i:Nat} {x:V} (h:(enumL l)[i]?=some x):∃ y,l[i]?=some y∧x= .tup [.int i,y]:=by
 unfold enumL at h
 replace h:=(List.getElem?_mapIdx).symm.trans h
 cases e:l[i]? with
 | none=>rw [e] at h;cases h
 | some y=>rw [e] at h;cases h;exact ⟨y,rfl,rfl⟩
section
variable {prog:Program} {w:World} {h₀:Heap} {sc:Scope} {env:Env} {b:Nat} {A:Around} {H H':Hm} {s s':Shared} {σ:MS}
theorem src_enum {l e it:Addr} {v:V} {u:Value} {lv:List V} {elts:List Expr} {k:Nat} {pos:Pos} (hA:AOk b A) (hei:e≠it) (hv:ValIs H v u) (hlv:u= .ref l) (he0:H e= .out) (hi0:H it= .out) :
  Src prog w h₀ A H (.ref e) (.Tuple elts k pos) [e,it] (fun h i=>(∃ old,IsEnum h e it i old)∧h.IsListIter it l i) (fun σ=>enumOf σ v=some (enumL lv)) (enumL lv) where
 cur h h' i x k:=⟨let ⟨old,q⟩:=x.1;⟨old,k e (by simp) _ q⟩,x.2.at fun o q=>k it (by simp) o q⟩
 obj h i x a m:=by
  simp at m
  rcases m with rfl | rfl
  ·obtain ⟨⟨old,q⟩,_⟩:=x;exact ⟨_,q,fun v q=>nomatch q⟩
  ·obtain ⟨_,o,q,_,qd⟩:=x;exact ⟨o,q,noCell_fields qd⟩
 next sc1 env1 i s1 H1 σ1 x g S1 hok hc ho hx:=by
  obtain ⟨⟨old,he⟩,hit⟩:=hc
  obtain ⟨l1,h1,h2⟩:=Option.map_eq_some_iff.mp hok
  obtain ⟨a',it1,n1,e',i1,a1,z1⟩:=listOf_len S1 (hv.mono g) h1
  replace e':=hlv.symm.trans e';cases e'
  rw [←h2] at hx
  obtain ⟨y,hy,rfl⟩:=enumL_get hx
  obtain ⟨uy,e1,e2⟩:=a1.get hy
  replace e1:=(Array.getElem?_toList).symm.trans e1
  refine wpAny_pyNext_enum_item he hit (IsL.isList i1) e1 hei fun h' heo hit' hT hz hk=>⟨_,rfl,?_⟩
  have hoe:=ho e (by simp)
  have hoi:=ho it (by simp)
  have S2:St prog w h₀ sc1 env1 H1 σ1 h':=S1.agree fun c o hco q=>hk c o (fun r=>hco (r▸hoe)) (fun r=>hco (r▸hoi)) q
  refine wpAny_letOwnedTupleGo_enum (s:={s1 with heap:=h',toks:=s1.toks+1}) heo fun h2' he2 hs2 => ?_
  have S3:St prog w h₀ sc1 env1 H1 σ1 h2':=S2.sameBut hoe hs2
  have hlt:e<s1.heap.objs.size:=Heap.lt_size he
  have hlti:it<s1.heap.objs.size:=by obtain ⟨o,q,_⟩:=hit;exact Heap.lt_size q
  have hT2:h2'.get? s1.heap.objs.size=some (lobj "tuple" #[.int i s1.toks,uy] 0):=(hs2.2 _ (Nat.ne_of_gt hlt)).trans hT
  have hout:=S1.outSize
  have hm:=fz_set (H:=H1) (a:=s1.heap.objs.size) (y:= .fz (lobj "tuple" #[.int i s1.toks,uy] 0)) (fun o=>neo hout rfl)
  refine ⟨_,.set hout,S3.newFz hout hT2,.tup (Hm.set_self ..) (.cons (.int _ _) (.cons (e2.mono hm) .nil)),⟨⟨_,by simpa using he2⟩,hit'.at fun o q=>(hs2.2 _ (Ne.symm hei)).trans q⟩,fun a m => ?_,.mk s1 _ _⟩
  rw [Hm.set_ne]
  ·exact ho a m
  ·simp at m;rcases m with rfl | rfl
   ·exact Nat.ne_of_lt hlt
   ·exact Nat.ne_of_lt hlti
 stop sc1 env1 s1 H1 σ1 g S1 hok hc ho:=by
  obtain ⟨⟨old,he⟩,hit⟩:=hc
  obtain ⟨l1,h1,h2⟩:=Option.map_eq_some_iff.mp hok
  obtain ⟨a',it1,n1,e',i1,a1,z1⟩:=listOf_len S1 (hv.mono g) h1
  replace e':=hlv.symm.trans e';cases e'
  refine wpAny_pyNext_enum_end hA.1 he hit (IsL.isList i1) (by
   have:(enumL lv).length=it1.size:=by rw [←h2,z1];simp [enumL]
   rw [this];simp) fun h' hx=>⟨rfl,S1.agree fun c o hco q=>hx c o (fun r=>hco (r▸ho it (by simp))) q,.mk s1 _ _⟩
 self i s1 Q hc hq:=let ⟨old,he⟩:=hc.1;wpAny_pyIter_enum he hq
set_option tactic.hygienic true in
theorem iterOk_enum {x:Expr} {px pos tp:Pos} {elts:List Expr} {k:Nat} {PI:PT V} (E:EnvOk sc env) (hx:sc.names.lookup ("enumerate":Str)=some .globalImplicit) (G:GV h₀ ("enumerate":Str) (.type "enumerate")) (hs:noStar [x]=true)
  (hI:Tri prog w h₀ b sc env RV (eval x env) PI):IterOk prog w h₀ b sc env (.Call (.Name "enumerate" px) [x] [] pos) (.Tuple elts k tp) enumOf PI:=fun A hA σ Q s H hP S=>by
 refine wp_nameCall E hx (by decide) G hs (tri_evs_cons hI tri_evs_nil) (keep_type _) hA (Q1:=fun l σ1=>match l with | [v]=>∃ items,enumOf σ1 v=some items∧rngOk v∧Q v items σ1 | _=>False) hP S fun us l σ1 s1 H1 g1 e1 r1 q1 S1 => ?_
 ·cases r1 with
  | nil=>exact q1.elim
  | cons r1 r2 =>
  cases r2 with
  | cons=>exact q1.elim
  | nil =>
  rename_i v uv
  obtain ⟨items,h1,h2,h3⟩:=q1
  obtain ⟨lv,h4,rfl⟩:=Option.map_eq_some_iff.mp h1
  obtain ⟨a,it,n,rfl,i1,a1,z1⟩:=listOf_len S1 r1 h4
  refine call_enumerate_list (IsL.isList i1) fun h' he hit hz hk => ?_
  have hsz:s1.heap.objs.size+1≠s1.heap.objs.size:=Nat.succ_ne_self _
  have o1:H1 (s1.heap.objs.size+1)= .out:=S1.heap.out_ge (Nat.le_succ _)
  refine wpAny_pyIter_enum he ⟨H1,σ1,v,_,_,_,g1,e1.trans (.mk s1 _ _),S1.keeps hk,src_enum hA hsz r1 rfl o1 S1.outSize,⟨⟨_,he⟩,hit⟩,fun a m => ?_,h3⟩
  ·simp at m
   rcases m with rfl | rfl
   ·exact o1
   ·exact S1.outSize
end
end Mine
namespace Mine
mutual
inductive ME where
 | none
 | bool (b:Bool)
 | int (i:Int)
 | neg (i:Int)
 | loc (i:Nat)
 | gint (i:Int)
 | tup (es:MEs)
 | lst (m:Bool) (es:MEs)
 | bin (m:Bool) (op:BOp) (a b:ME)
 | cmp (op:COp) (a b:ME)
 | and2 (a b:ME)
 | or2 (a b:ME)
 | ite (c:MC) (a b:ME)
 | sub (a i:ME)
 | upto (m:Bool) (a i:ME)
 | from_ (m:Bool) (a i:ME)
 | rev (m:Bool) (a:ME)
 | attr (o:ME) (n:Str)
 | dict0
 | dict1 (k v:ME)
 | bi (B:Bi) (m:Bool) (es:MEs)
 | call (f:Value) (es:MEs)
 | meth (o:ME) (n:Str) (es:MEs)
 | lmeth (o:ME) (M:LMeth) (es:MEs)
 | zip3 (m:Bool) (es:MEs)
 | comp (m:Bool) (fr:List (Nat×Nat)) (t:MT) (elt:ME) (c:MC) (en:Bool) (it:ME)
 | dcomp (fr:List (Nat×Nat)) (t:MT) (k v:ME) (it:ME)
inductive MEs where
 | nil
 | cons (e:ME) (r:MEs)
inductive MC where
 | tt
 | cmp (op:COp) (a b:ME)
 | not (c:MC)
 | and (a b:MC)
 | or (a b:MC)
 | val (e:ME)
end
set_option genCtorIdx false in
mutual
inductive MSt where
 | expr (e:ME)
 | ret (e:ME)
 | ife (c:MC) (t f:MSts)
 | cont
 | for_ (t:MT) (it:ME) (bd:MSts)
 | while_ (c:MC) (bd:MSts)
 | asgN (i:Nat) (e:ME)
 | asgT (t:MT) (e:ME)
 | asgSub (o i e:ME)
 | asgAttr (o:ME) (n:Str) (e:ME)
 | augOr (i:Nat) (e:ME)
inductive MSts where
 | nil
 | cons (s:MSt) (r:MSts)
end
noncomputable def MSt.ctorIdx (t:MSt):Nat := @MSt.casesOn (fun _=>Nat) t (fun _=>0) (fun _=>1) (fun _ _ _=>2) 3 (fun _ _ _=>4) (fun _ _=>5) (fun _ _=>6) (fun _ _=>7) (fun _ _ _=>8) (fun _ _ _=>9) (fun _ _=>10)
noncomputable def MSts.ctorIdx (t:MSts):Nat := @MSts.casesOn (fun _=>Nat) t 0 (fun _ _=>1)
structure Info where
 gi:Str→Option Int
 gf:Str→Option Value
 ok:Addr→Str→Bool
 mt:Addr→Str→Option Addr
noncomputable def zip3L:List V→List V→List V→List V
 | x::a,y::b,z::c=> .tup [x,y,z]::zip3L a b c
 | _,_,_=>[]
noncomputable def zipP (m:Bool) (l:List V):PT V:=fun σ Q =>
 match l with
 | [x,y,z]=>E3 fun la lb lc=>A8 (listOf σ x=some la) (listOf σ y=some lb) (listOf σ z=some lc) (lb.length=la.length) (lc.length=la.length) (0<la.length) (la.length≤lim) (mkL m (zip3L la lb lc) σ Q)
 | _=>False
noncomputable def gOf:Bool→MS→V→Option (List V)
 | true=>enumOf
 | false=>itemsOf
section
variable {α β γ:Type}
noncomputable def K1 (R:α→PT β) (Q:β→MS→Prop):α→MS→Prop:=fun x σ=>R x σ Q
noncomputable def K2 (P:PT α) (R:γ→α→PT β) (Q:β→MS→Prop):γ→MS→Prop:=fun x σ=>P σ (K1 (R x) Q)
noncomputable def KB (Q:V→MS→Prop):Bool→MS→Prop:=fun t=>Q (.bool t)
noncomputable def KAt (P:PT V) (Q:V→MS→Prop) (v:V):Bool→MS→Prop:=fun t σ=>(t=true→P σ Q)∧(t=false→Q v σ)
noncomputable def KOt (P:PT V) (Q:V→MS→Prop) (v:V):Bool→MS→Prop:=fun t σ=>(t=true→Q v σ)∧(t=false→P σ Q)
noncomputable def KA (P:PT V) (Q:V→MS→Prop):V→MS→Prop:=fun v σ=>truthP v σ (KAt P Q v)
noncomputable def KO (P:PT V) (Q:V→MS→Prop):V→MS→Prop:=fun v σ=>truthP v σ (KOt P Q v)
noncomputable def KI (P1 P2:PT β) (Q:β→MS→Prop):Bool→MS→Prop:=fun t σ=>(t=true→P1 σ Q)∧(t=false→P2 σ Q)
noncomputable def KCut (m:Bool) (c:Cut) (x y:V):PT V:=fun σ Q=>∃ k,y= .int k∧cutP m c x k σ Q
noncomputable def KD (P:PT V) (Q:V→MS→Prop):V→MS→Prop:=fun x σ=>∃ i,x= .int i∧P σ (K1 (fun y=>mkD [(i,y)]) Q)
noncomputable def KT (Q:V→MS→Prop):List V→MS→Prop:=fun l σ=>l.length≤lim∧Q (.tup l) σ
noncomputable def KL (m:Bool) (Q:V→MS→Prop):List V→MS→Prop:=fun l σ=>l.length≤lim∧mkL m l σ Q
noncomputable def KC (Γ:Value→PC) (f:Value) (Q:V→MS→Prop):List V→MS→Prop:=fun l σ=>Γ f l σ.lv (KR σ.loc Q)
noncomputable def KLM (P:PT (List V)) (M:LMeth) (Q:V→MS→Prop):V→MS→Prop:=fun x σ=>isLiveL x σ∧P σ (K1 (lmethP M x) Q)
noncomputable def KE2 (x:V) (Q:List V→MS→Prop):List V→MS→Prop:=fun xs=>Q (x::xs)
noncomputable def KE (P:PT (List V)) (Q:List V→MS→Prop):V→MS→Prop:=fun x σ=>P σ (KE2 x Q)
noncomputable def KN (Q:Bool→MS→Prop):Bool→MS→Prop:=fun t=>Q (!t)
noncomputable def KAC (P:PT Bool) (Q:Bool→MS→Prop):Bool→MS→Prop:=fun t σ=>(t=true→P σ Q)∧(t=false→Q false σ)
noncomputable def KOC (P:PT Bool) (Q:Bool→MS→Prop):Bool→MS→Prop:=fun t σ=>(t=true→Q true σ)∧(t=false→P σ Q)
noncomputable def KX (Q:Fl→MS→Prop):V→MS→Prop:=fun v σ=>flat v=true∧Q .next σ
noncomputable def KS (i:Nat) (Q:Fl→MS→Prop):V→MS→Prop:=fun v σ=>Q .next ⟨setV σ.loc i v,σ.lv⟩
noncomputable def KTg (t:MT) (Q:Fl→MS→Prop):V→MS→Prop:=fun v σ=>∃ σ',asgV t v σ=some σ'∧Q .next σ'
noncomputable def KU (Q:Fl→MS→Prop):Unit→MS→Prop:=fun _ σ=>Q .next σ
noncomputable def KP3 (v ov:V) (Q:Fl→MS→Prop):V→MS→Prop:=fun iv σ=>putP ov iv v σ (KU Q)
noncomputable def KP2 (P:PT V) (v:V) (Q:Fl→MS→Prop):V→MS→Prop:=fun ov σ=>P σ (KP3 v ov Q)
noncomputable def KP1 (P1 P:PT V) (Q:Fl→MS→Prop):V→MS→Prop:=fun v σ=>P1 σ (KP2 P v Q)
noncomputable def KSa2 (I:Info) (n:Str) (v:V) (Q:Fl→MS→Prop):V→MS→Prop:=fun ov σ=>setAttrP I.ok n ov v σ (KU Q)
noncomputable def KSa1 (I:Info) (P:PT V) (n:Str) (Q:Fl→MS→Prop):V→MS→Prop:=fun v σ=>P σ (KSa2 I n v Q)
noncomputable def KOr (i:Nat) (c:Int) (Q:Fl→MS→Prop):V→MS→Prop:=fun v σ=>∃ d,v= .int d∧Q .next ⟨setV σ.loc i (.int (Builtin.bitOr c d)),σ.lv⟩
noncomputable def KF (t:MT) (B:PT Fl) (Q:Fl→MS→Prop):V→MS→Prop:=fun v σ=>∃ items,A3 (itemsOf σ v=some items) (rngOk v) (forP t (fun σ=>itemsOf σ v=some items) B items σ Q)
end
mutual
noncomputable def denE (I:Info) (Γ:Value→PC):ME→PT V
 | .none=>fun σ Q=>Q .none σ
 | .bool b=>fun σ Q=>Q (.bool b) σ
 | .int i=>fun σ Q=>Q (.int i) σ
 | .neg i=>fun σ Q=>Q (.int (-i)) σ
 | .loc i=>LocP i
 | .gint i=>fun σ Q=>Q (.int i) σ
 | .tup es=>fun σ Q=>denEs I Γ es σ (KT Q)
 | .lst m es=>fun σ Q=>denEs I Γ es σ (KL m Q)
 | .bin m op a b=>fun σ Q=>denE I Γ a σ (K2 (denE I Γ b) (binP m op) Q)
 | .cmp op a b=>fun σ Q=>denE I Γ a σ (K2 (denE I Γ b) (cmpP op) (KB Q))
 | .and2 a b=>fun σ Q=>denE I Γ a σ (KA (denE I Γ b) Q)
 | .or2 a b=>fun σ Q=>denE I Γ a σ (KO (denE I Γ b) Q)
 | .ite c a b=>fun σ Q=>denC I Γ c σ (KI (denE I Γ a) (denE I Γ b) Q)
 | .sub a i=>fun σ Q=>denE I Γ a σ (K2 (denE I Γ i) idxP Q)
 | .upto m a i=>fun σ Q=>denE I Γ a σ (K2 (denE I Γ i) (KCut m .upto) Q)
 | .from_ m a i=>fun σ Q=>denE I Γ a σ (K2 (denE I Γ i) (KCut m .from_) Q)
 | .rev m a=>fun σ Q=>denE I Γ a σ (K1 (fun x=>cutP m .rev x 0) Q)
 | .attr o n=>fun σ Q=>denE I Γ o σ (K1 (attrP I.ok n) Q)
 | .dict0=>mkD []
 | .dict1 k v=>fun σ Q=>denE I Γ k σ (KD (denE I Γ v) Q)
 | .bi B m es=>fun σ Q=>denEs I Γ es σ (K1 (biP B m) Q)
 | .call f es=>fun σ Q=>denEs I Γ es σ (KC Γ f Q)
 | .meth o n es=>fun σ Q=>denE I Γ o σ (MethP I.mt Γ n (denEs I Γ es) Q)
 | .lmeth o M es=>fun σ Q=>denE I Γ o σ (KLM (denEs I Γ es) M Q)
 | .zip3 m es=>fun σ Q=>denEs I Γ es σ (K1 (zipP m) Q)
 | .comp m fr t elt c en it=>compOf (gOf en) fr t (denC I Γ c) (denE I Γ elt) (denE I Γ it) m
 | .dcomp fr t k v it=>compDOf fr t (denE I Γ k) (denE I Γ v) (denE I Γ it)
noncomputable def denEs (I:Info) (Γ:Value→PC):MEs→PT (List V)
 | .nil=>fun σ Q=>Q [] σ
 | .cons e r=>fun σ Q=>denE I Γ e σ (KE (denEs I Γ r) Q)
noncomputable def denC (I:Info) (Γ:Value→PC):MC→PT Bool
 | .tt=>fun σ Q=>Q true σ
 | .cmp op a b=>fun σ Q=>denE I Γ a σ (K2 (denE I Γ b) (cmpP op) Q)
 | .not c=>fun σ Q=>denC I Γ c σ (KN Q)
 | .and a b=>fun σ Q=>denC I Γ a σ (KAC (denC I Γ b) Q)
 | .or a b=>fun σ Q=>denC I Γ a σ (KOC (denC I Γ b) Q)
 | .val e=>fun σ Q=>denE I Γ e σ (K1 truthP Q)
end
mutual
noncomputable def denS (I:Info) (Γ:Value→PC):MSt→PT Fl
 | .expr e=>fun σ Q=>denE I Γ e σ (KX Q)
 | .ret e=>fun σ Q=>denE I Γ e σ (RetP Q)
 | .ife c t f=>fun σ Q=>denC I Γ c σ (KI (denB I Γ t) (denB I Γ f) Q)
 | .cont=>fun σ Q=>Q .cont σ
 | .for_ t it bd=>fun σ Q=>denE I Γ it σ (KF t (denB I Γ bd) Q)
 | .while_ c bd=>fun σ Q=>∃ n,whileP (denC I Γ c) (denB I Γ bd) n σ Q
 | .asgN i e=>fun σ Q=>denE I Γ e σ (KS i Q)
 | .asgT t e=>fun σ Q=>denE I Γ e σ (KTg t Q)
 | .asgSub o i e=>fun σ Q=>denE I Γ e σ (KP1 (denE I Γ o) (denE I Γ i) Q)
 | .asgAttr o n e=>fun σ Q=>denE I Γ e σ (KSa1 I (denE I Γ o) n Q)
 | .augOr i e=>fun σ Q=>∃ c,σ.loc i=some (.int c)∧denE I Γ e σ (KOr i c Q)
noncomputable def denB (I:Info) (Γ:Value→PC):MSts→PT Fl
 | .nil=>fun σ Q=>Q .next σ
 | .cons s r=>seqP (denS I Γ s) (denB I Γ r)
end
section
theorem dite_inv {c:Prop} {i:Decidable c} {f:c→Bool} (h : @dite Bool c i f (fun _=>false)=true):∃ k,f k=true:=by
 cases i with
 | isTrue k=>exact ⟨k,h⟩
 | isFalse k=>exact (Bool.false_ne_true h).elim
noncomputable def goBoolOp (p:BoolOp→(List Expr)→Bool) (e:Expr) (h:e.ctorIdx=0):Bool:=Expr.BoolOp.elim e h fun op values _=>p op values
noncomputable def onBoolOp (p:BoolOp→(List Expr)→Bool) (e:Expr):Bool:=if h:e.ctorIdx=0 then goBoolOp p e h else false
@[elab_as_elim]
theorem byBoolOp {p:BoolOp→(List Expr)→Bool} {M:Expr→Prop} {e:Expr} (h:onBoolOp p e=true) (kk:∀ (op:BoolOp) (values:List Expr) (pos:Pos),p op values=true→M (.BoolOp op values pos)):M e :=
 (dite_inv h).elim fun c=>Expr.BoolOp.elim (motive_1:=fun e=>∀ c,goBoolOp p e c=true→M e) e c (fun op values pos _ h=>kk op values pos h) c
noncomputable def goBinOp (p:Expr→Operator→Expr→Bool) (e:Expr) (h:e.ctorIdx=2):Bool:=Expr.BinOp.elim e h fun left op right _=>p left op right
noncomputable def onBinOp (p:Expr→Operator→Expr→Bool) (e:Expr):Bool:=if h:e.ctorIdx=2 then goBinOp p e h else false
@[elab_as_elim]
theorem byBinOp {p:Expr→Operator→Expr→Bool} {M:Expr→Prop} {e:Expr} (h:onBinOp p e=true) (kk:∀ (left:Expr) (op:Operator) (right:Expr) (pos:Pos),p left op right=true→M (.BinOp left op right pos)):M e :=
 (dite_inv h).elim fun c=>Expr.BinOp.elim (motive_1:=fun e=>∀ c,goBinOp p e c=true→M e) e c (fun left op right pos _ h=>kk left op right pos h) c
noncomputable def goUnaryOp (p:UnaryOp→Expr→Bool) (e:Expr) (h:e.ctorIdx=3):Bool:=Expr.UnaryOp.elim e h fun op operand _=>p op operand
noncomputable def onUnaryOp (p:UnaryOp→Expr→Bool) (e:Expr):Bool:=if h:e.ctorIdx=3 then goUnaryOp p e h else false
@[elab_as_elim]
theorem byUnaryOp {p:UnaryOp→Expr→Bool} {M:Expr→Prop} {e:Expr} (h:onUnaryOp p e=true) (kk:∀ (op:UnaryOp) (operand:Expr) (pos:Pos),p op operand=true→M (.UnaryOp op operand pos)):M e :=
 (dite_inv h).elim fun c=>Expr.UnaryOp.elim (motive_1:=fun e=>∀ c,goUnaryOp p e c=true→M e) e c (fun op operand pos _ h=>kk op operand pos h) c
noncomputable def goIfExp (p:Expr→Expr→Expr→Bool) (e:Expr) (h:e.ctorIdx=5):Bool:=Expr.IfExp.elim e h fun test body orelse _=>p test body orelse
noncomputable def onIfExp (p:Expr→Expr→Expr→Bool) (e:Expr):Bool:=if h:e.ctorIdx=5 then goIfExp p e h else false
@[elab_as_elim]
theorem byIfExp {p:Expr→Expr→Expr→Bool} {M:Expr→Prop} {e:Expr} (h:onIfExp p e=true) (kk:∀ (test:Expr) (body:Expr) (orelse:Expr) (pos:Pos),p test body orelse=true→M (.IfExp test body orelse pos)):M e :=
 (dite_inv h).elim fun c=>Expr.IfExp.elim (motive_1:=fun e=>∀ c,goIfExp p e c=true→M e) e c (fun test body orelse pos _ h=>kk test body orelse pos h) c
noncomputable def goDict (p:(List (Option Expr))→(List Expr)→Bool) (e:Expr) (h:e.ctorIdx=6):Bool:=Expr.Dict.elim e h fun keys values _=>p keys values
noncomputable def onDict (p:(List (Option Expr))→(List Expr)→Bool) (e:Expr):Bool:=if h:e.ctorIdx=6 then goDict p e h else false
@[elab_as_elim]
theorem byDict {p:(List (Option Expr))→(List Expr)→Bool} {M:Expr→Prop} {e:Expr} (h:onDict p e=true) (kk:∀ (keys:List (Option Expr)) (values:List Expr) (pos:Pos),p keys values=true→M (.Dict keys values pos)):M e :=
 (dite_inv h).elim fun c=>Expr.Dict.elim (motive_1:=fun e=>∀ c,goDict p e c=true→M e) e c (fun keys values pos _ h=>kk keys values pos h) c
noncomputable def goListComp (p:Expr→(List Comprehension)→Scope→Pos→Bool) (e:Expr) (h:e.ctorIdx=8):Bool:=Expr.ListComp.elim e h fun elt gens scope pos=>p elt gens scope pos
noncomputable def onListComp (p:Expr→(List Comprehension)→Scope→Pos→Bool) (e:Expr):Bool:=if h:e.ctorIdx=8 then goListComp p e h else false
@[elab_as_elim]
theorem byListComp {p:Expr→(List Comprehension)→Scope→Pos→Bool} {M:Expr→Prop} {e:Expr} (h:onListComp p e=true) (kk:∀ (elt:Expr) (gens:List Comprehension) (scope:Scope) (pos:Pos),p elt gens scope pos=true→M (.ListComp elt gens scope pos)):M e :=
 (dite_inv h).elim fun c=>Expr.ListComp.elim (motive_1:=fun e=>∀ c,goListComp p e c=true→M e) e c (fun elt gens scope pos _ h=>kk elt gens scope pos h) c
noncomputable def goDictComp (p:Expr→Expr→(List Comprehension)→Scope→Pos→Bool) (e:Expr) (h:e.ctorIdx=10):Bool:=Expr.DictComp.elim e h fun key value gens scope pos=>p key value gens scope pos
noncomputable def onDictComp (p:Expr→Expr→(List Comprehension)→Scope→Pos→Bool) (e:Expr):Bool:=if h:e.ctorIdx=10 then goDictComp p e h else false
@[elab_as_elim]
theorem byDictComp {p:Expr→Expr→(List Comprehension)→Scope→Pos→Bool} {M:Expr→Prop} {e:Expr} (h:onDictComp p e=true) (kk:∀ (key:Expr) (value:Expr) (gens:List Comprehension) (scope:Scope) (pos:Pos),p key value gens scope pos=true→M (.DictComp key value gens scope pos)):M e :=
 (dite_inv h).elim fun c=>Expr.DictComp.elim (motive_1:=fun e=>∀ c,goDictComp p e c=true→M e) e c (fun key value gens scope pos _ h=>kk key value gens scope pos h) c
noncomputable def goCompare (p:Expr→(List CmpOp)→(List Expr)→Bool) (e:Expr) (h:e.ctorIdx=15):Bool:=Expr.Compare.elim e h fun left ops rs _=>p left ops rs
noncomputable def onCompare (p:Expr→(List CmpOp)→(List Expr)→Bool) (e:Expr):Bool:=if h:e.ctorIdx=15 then goCompare p e h else false
@[elab_as_elim]
theorem byCompare {p:Expr→(List CmpOp)→(List Expr)→Bool} {M:Expr→Prop} {e:Expr} (h:onCompare p e=true) (kk:∀ (left:Expr) (ops:List CmpOp) (rs:List Expr) (pos:Pos),p left ops rs=true→M (.Compare left ops rs pos)):M e :=
 (dite_inv h).elim fun c=>Expr.Compare.elim (motive_1:=fun e=>∀ c,goCompare p e c=true→M e) e c (fun left ops rs pos _ h=>kk left ops rs pos h) c
noncomputable def goCall (p:Expr→(List Expr)→(List Keyword)→Pos→Bool) (e:Expr) (h:e.ctorIdx=16):Bool:=Expr.Call.elim e h fun func args kw pos=>p func args kw pos
noncomputable def onCall (p:Expr→(List Expr)→(List Keyword)→Pos→Bool) (e:Expr):Bool:=if h:e.ctorIdx=16 then goCall p e h else false
@[elab_as_elim]
theorem byCall {p:Expr→(List Expr)→(List Keyword)→Pos→Bool} {M:Expr→Prop} {e:Expr} (h:onCall p e=true) (kk:∀ (func:Expr) (args:List Expr) (kw:List Keyword) (pos:Pos),p func args kw pos=true→M (.Call func args kw pos)):M e :=
 (dite_inv h).elim fun c=>Expr.Call.elim (motive_1:=fun e=>∀ c,goCall p e c=true→M e) e c (fun func args kw pos _ h=>kk func args kw pos h) c
noncomputable def goConstant (p:Const→Bool) (e:Expr) (h:e.ctorIdx=19):Bool:=Expr.Constant.elim e h fun value _ _=>p value
noncomputable def onConstant (p:Const→Bool) (e:Expr):Bool:=if h:e.ctorIdx=19 then goConstant p e h else false
@[elab_as_elim]
theorem byConstant {p:Const→Bool} {M:Expr→Prop} {e:Expr} (h:onConstant p e=true) (kk:∀ (value:Const) (k:Nat) (pos:Pos),p value=true→M (.Constant value k pos)):M e :=
 (dite_inv h).elim fun c=>Expr.Constant.elim (motive_1:=fun e=>∀ c,goConstant p e c=true→M e) e c (fun value k pos _ h=>kk value k pos h) c
noncomputable def goAttribute (p:Expr→Str→Pos→Bool) (e:Expr) (h:e.ctorIdx=20):Bool:=Expr.Attribute.elim e h fun value attr pos=>p value attr pos
noncomputable def onAttribute (p:Expr→Str→Pos→Bool) (e:Expr):Bool:=if h:e.ctorIdx=20 then goAttribute p e h else false
@[elab_as_elim]
theorem byAttribute {p:Expr→Str→Pos→Bool} {M:Expr→Prop} {e:Expr} (h:onAttribute p e=true) (kk:∀ (value:Expr) (attr:Str) (pos:Pos),p value attr pos=true→M (.Attribute value attr pos)):M e :=
 (dite_inv h).elim fun c=>Expr.Attribute.elim (motive_1:=fun e=>∀ c,goAttribute p e c=true→M e) e c (fun value attr pos _ h=>kk value attr pos h) c
noncomputable def goSubscript (p:Expr→Expr→Bool) (e:Expr) (h:e.ctorIdx=21):Bool:=Expr.Subscript.elim e h fun value slice _=>p value slice
noncomputable def onSubscript (p:Expr→Expr→Bool) (e:Expr):Bool:=if h:e.ctorIdx=21 then goSubscript p e h else false
@[elab_as_elim]
theorem bySubscript {p:Expr→Expr→Bool} {M:Expr→Prop} {e:Expr} (h:onSubscript p e=true) (kk:∀ (value:Expr) (slice:Expr) (pos:Pos),p value slice=true→M (.Subscript value slice pos)):M e :=
 (dite_inv h).elim fun c=>Expr.Subscript.elim (motive_1:=fun e=>∀ c,goSubscript p e c=true→M e) e c (fun value slice pos _ h=>kk value slice pos h) c
noncomputable def goName (p:Str→Pos→Bool) (e:Expr) (h:e.ctorIdx=23):Bool:=Expr.Name.elim e h fun id pos=>p id pos
noncomputable def onName (p:Str→Pos→Bool) (e:Expr):Bool:=if h:e.ctorIdx=23 then goName p e h else false
@[elab_as_elim]
theorem byName {p:Str→Pos→Bool} {M:Expr→Prop} {e:Expr} (h:onName p e=true) (kk:∀ (id:Str) (pos:Pos),p id pos=true→M (.Name id pos)):M e :=
 (dite_inv h).elim fun c=>Expr.Name.elim (motive_1:=fun e=>∀ c,goName p e c=true→M e) e c (fun id pos _ h=>kk id pos h) c
noncomputable def goList (p:(List Expr)→Bool) (e:Expr) (h:e.ctorIdx=24):Bool:=Expr.List.elim e h fun elts _=>p elts
noncomputable def onList (p:(List Expr)→Bool) (e:Expr):Bool:=if h:e.ctorIdx=24 then goList p e h else false
@[elab_as_elim]
theorem byList {p:(List Expr)→Bool} {M:Expr→Prop} {e:Expr} (h:onList p e=true) (kk:∀ (elts:List Expr) (pos:Pos),p elts=true→M (.List elts pos)):M e :=
 (dite_inv h).elim fun c=>Expr.List.elim (motive_1:=fun e=>∀ c,goList p e c=true→M e) e c (fun elts pos _ h=>kk elts pos h) c
noncomputable def goTuple (p:(List Expr)→Bool) (e:Expr) (h:e.ctorIdx=25):Bool:=Expr.Tuple.elim e h fun elts _ _=>p elts
noncomputable def onTuple (p:(List Expr)→Bool) (e:Expr):Bool:=if h:e.ctorIdx=25 then goTuple p e h else false
@[elab_as_elim]
theorem byTuple {p:(List Expr)→Bool} {M:Expr→Prop} {e:Expr} (h:onTuple p e=true) (kk:∀ (elts:List Expr) (k:Nat) (pos:Pos),p elts=true→M (.Tuple elts k pos)):M e :=
 (dite_inv h).elim fun c=>Expr.Tuple.elim (motive_1:=fun e=>∀ c,goTuple p e c=true→M e) e c (fun elts k pos _ h=>kk elts k pos h) c
noncomputable def goSlice (p:(Option Expr)→(Option Expr)→(Option Expr)→Bool) (e:Expr) (h:e.ctorIdx=26):Bool:=Expr.Slice.elim e h fun l u s _=>p l u s
noncomputable def onSlice (p:(Option Expr)→(Option Expr)→(Option Expr)→Bool) (e:Expr):Bool:=if h:e.ctorIdx=26 then goSlice p e h else false
@[elab_as_elim]
theorem bySlice {p:(Option Expr)→(Option Expr)→(Option Expr)→Bool} {M:Expr→Prop} {e:Expr} (h:onSlice p e=true) (kk:∀ (l:Option Expr) (u:Option Expr) (s:Option Expr) (pos:Pos),p l u s=true→M (.Slice l u s pos)):M e :=
 (dite_inv h).elim fun c=>Expr.Slice.elim (motive_1:=fun e=>∀ c,goSlice p e c=true→M e) e c (fun l u s pos _ h=>kk l u s pos h) c
noncomputable def goSReturn (p:(Option Expr)→Bool) (e:Stmt) (h:e.ctorIdx=3):Bool:=Stmt.Return.elim e h fun value _=>p value
noncomputable def onSReturn (p:(Option Expr)→Bool) (e:Stmt):Bool:=if h:e.ctorIdx=3 then goSReturn p e h else false
@[elab_as_elim]
theorem bySReturn {p:(Option Expr)→Bool} {M:Stmt→Prop} {e:Stmt} (h:onSReturn p e=true) (kk:∀ (value:Option Expr) (pos:Pos),p value=true→M (.Return value pos)):M e :=
 (dite_inv h).elim fun c=>Stmt.Return.elim (motive_2:=fun e=>∀ c,goSReturn p e c=true→M e) e c (fun value pos _ h=>kk value pos h) c
noncomputable def goSAssign (p:(List Expr)→Expr→Pos→Bool) (e:Stmt) (h:e.ctorIdx=5):Bool:=Stmt.Assign.elim e h fun targets value pos=>p targets value pos
noncomputable def onSAssign (p:(List Expr)→Expr→Pos→Bool) (e:Stmt):Bool:=if h:e.ctorIdx=5 then goSAssign p e h else false
@[elab_as_elim]
theorem bySAssign {p:(List Expr)→Expr→Pos→Bool} {M:Stmt→Prop} {e:Stmt} (h:onSAssign p e=true) (kk:∀ (targets:List Expr) (value:Expr) (pos:Pos),p targets value pos=true→M (.Assign targets value pos)):M e :=
 (dite_inv h).elim fun c=>Stmt.Assign.elim (motive_2:=fun e=>∀ c,goSAssign p e c=true→M e) e c (fun targets value pos _ h=>kk targets value pos h) c
noncomputable def goSAugAssign (p:Expr→Operator→Expr→Bool) (e:Stmt) (h:e.ctorIdx=7):Bool:=Stmt.AugAssign.elim e h fun target op value _=>p target op value
noncomputable def onSAugAssign (p:Expr→Operator→Expr→Bool) (e:Stmt):Bool:=if h:e.ctorIdx=7 then goSAugAssign p e h else false
@[elab_as_elim]
theorem bySAugAssign {p:Expr→Operator→Expr→Bool} {M:Stmt→Prop} {e:Stmt} (h:onSAugAssign p e=true) (kk:∀ (target:Expr) (op:Operator) (value:Expr) (pos:Pos),p target op value=true→M (.AugAssign target op value pos)):M e :=
 (dite_inv h).elim fun c=>Stmt.AugAssign.elim (motive_2:=fun e=>∀ c,goSAugAssign p e c=true→M e) e c (fun target op value pos _ h=>kk target op value pos h) c
noncomputable def goSFor (p:Expr→Expr→(List Stmt)→(List Stmt)→Bool) (e:Stmt) (h:e.ctorIdx=9):Bool:=Stmt.For.elim e h fun target iter body orelse _=>p target iter body orelse
noncomputable def onSFor (p:Expr→Expr→(List Stmt)→(List Stmt)→Bool) (e:Stmt):Bool:=if h:e.ctorIdx=9 then goSFor p e h else false
@[elab_as_elim]
theorem bySFor {p:Expr→Expr→(List Stmt)→(List Stmt)→Bool} {M:Stmt→Prop} {e:Stmt} (h:onSFor p e=true) (kk:∀ (target:Expr) (iter:Expr) (body:List Stmt) (orelse:List Stmt) (pos:Pos),p target iter body orelse=true→M (.For target iter body orelse pos)):M e :=
 (dite_inv h).elim fun c=>Stmt.For.elim (motive_2:=fun e=>∀ c,goSFor p e c=true→M e) e c (fun target iter body orelse pos _ h=>kk target iter body orelse pos h) c
noncomputable def goSWhile (p:Expr→(List Stmt)→(List Stmt)→Bool) (e:Stmt) (h:e.ctorIdx=11):Bool:=Stmt.While.elim e h fun test body orelse _=>p test body orelse
noncomputable def onSWhile (p:Expr→(List Stmt)→(List Stmt)→Bool) (e:Stmt):Bool:=if h:e.ctorIdx=11 then goSWhile p e h else false
@[elab_as_elim]
theorem bySWhile {p:Expr→(List Stmt)→(List Stmt)→Bool} {M:Stmt→Prop} {e:Stmt} (h:onSWhile p e=true) (kk:∀ (test:Expr) (body:List Stmt) (orelse:List Stmt) (pos:Pos),p test body orelse=true→M (.While test body orelse pos)):M e :=
 (dite_inv h).elim fun c=>Stmt.While.elim (motive_2:=fun e=>∀ c,goSWhile p e c=true→M e) e c (fun test body orelse pos _ h=>kk test body orelse pos h) c
noncomputable def goSIf (p:Expr→(List Stmt)→(List Stmt)→Bool) (e:Stmt) (h:e.ctorIdx=12):Bool:=Stmt.If.elim e h fun test body orelse _=>p test body orelse
noncomputable def onSIf (p:Expr→(List Stmt)→(List Stmt)→Bool) (e:Stmt):Bool:=if h:e.ctorIdx=12 then goSIf p e h else false
@[elab_as_elim]
theorem bySIf {p:Expr→(List Stmt)→(List Stmt)→Bool} {M:Stmt→Prop} {e:Stmt} (h:onSIf p e=true) (kk:∀ (test:Expr) (body:List Stmt) (orelse:List Stmt) (pos:Pos),p test body orelse=true→M (.If test body orelse pos)):M e :=
 (dite_inv h).elim fun c=>Stmt.If.elim (motive_2:=fun e=>∀ c,goSIf p e c=true→M e) e c (fun test body orelse pos _ h=>kk test body orelse pos h) c
noncomputable def goSExpr (p:Expr→Bool) (e:Stmt) (h:e.ctorIdx=24):Bool:=Stmt.Expr.elim e h fun value _=>p value
noncomputable def onSExpr (p:Expr→Bool) (e:Stmt):Bool:=if h:e.ctorIdx=24 then goSExpr p e h else false
@[elab_as_elim]
theorem bySExpr {p:Expr→Bool} {M:Stmt→Prop} {e:Stmt} (h:onSExpr p e=true) (kk:∀ (value:Expr) (pos:Pos),p value=true→M (.Expr value pos)):M e :=
 (dite_inv h).elim fun c=>Stmt.Expr.elim (motive_2:=fun e=>∀ c,goSExpr p e c=true→M e) e c (fun value pos _ h=>kk value pos h) c
noncomputable def goSContinue (p:Bool) (e:Stmt) (h:e.ctorIdx=27):Bool:=Stmt.Continue.elim e h fun _=>p
noncomputable def onSContinue (p:Bool) (e:Stmt):Bool:=if h:e.ctorIdx=27 then goSContinue p e h else false
@[elab_as_elim]
theorem bySContinue {p:Bool} {M:Stmt→Prop} {e:Stmt} (h:onSContinue p e=true) (kk:∀ (pos:Pos),p=true→M (.Continue pos)):M e :=
 (dite_inv h).elim fun c=>Stmt.Continue.elim (motive_2:=fun e=>∀ c,goSContinue p e c=true→M e) e c (fun pos _ h=>kk pos h) c
noncomputable def goCompM (p:Bool→(List (Nat×Nat))→MT→ME→MC→Bool→ME→Bool) (e:ME) (h:e.ctorIdx=25):Bool:=ME.comp.elim e h fun m fr t elt c en it=>p m fr t elt c en it
noncomputable def onCompM (p:Bool→(List (Nat×Nat))→MT→ME→MC→Bool→ME→Bool) (e:ME):Bool:=if h:e.ctorIdx=25 then goCompM p e h else false
@[elab_as_elim]
theorem byCompM {p:Bool→(List (Nat×Nat))→MT→ME→MC→Bool→ME→Bool} {M:ME→Prop} {e:ME} (h:onCompM p e=true) (kk:∀ (m:Bool) (fr:List (Nat×Nat)) (t:MT) (elt:ME) (c:MC) (en:Bool) (it:ME),p m fr t elt c en it=true→M (.comp m fr t elt c en it)):M e :=
 (dite_inv h).elim fun c=>ME.comp.elim (motive_1:=fun e=>∀ c,goCompM p e c=true→M e) e c (fun m fr t elt c en it _ h=>kk m fr t elt c en it h) c
noncomputable def goDcomp (p:(List (Nat×Nat))→MT→ME→ME→ME→Bool) (e:ME) (h:e.ctorIdx=26):Bool:=ME.dcomp.elim e h fun fr t k v it=>p fr t k v it
noncomputable def onDcomp (p:(List (Nat×Nat))→MT→ME→ME→ME→Bool) (e:ME):Bool:=if h:e.ctorIdx=26 then goDcomp p e h else false
@[elab_as_elim]
theorem byDcomp {p:(List (Nat×Nat))→MT→ME→ME→ME→Bool} {M:ME→Prop} {e:ME} (h:onDcomp p e=true) (kk:∀ (fr:List (Nat×Nat)) (t:MT) (k:ME) (v:ME) (it:ME),p fr t k v it=true→M (.dcomp fr t k v it)):M e :=
 (dite_inv h).elim fun c=>ME.dcomp.elim (motive_1:=fun e=>∀ c,goDcomp p e c=true→M e) e c (fun fr t k v it _ h=>kk fr t k v it h) c
noncomputable def on1 {α:Type} (p:α→Bool):List α→Bool
 | [x]=>p x
 | _=>false
@[elab_as_elim]
theorem by1 {α:Type} {p:α→Bool} {M:List α→Prop}:∀ {l:List α},on1 p l=true→(∀ x,p x=true→M [x])→M l
 | [x],h,k=>k x h
noncomputable def on2 {α:Type} (p:α→α→Bool):List α→Bool
 | [x,y]=>p x y
 | _=>false
@[elab_as_elim]
theorem by2 {α:Type} {p:α→α→Bool} {M:List α→Prop}:∀ {l:List α},on2 p l=true→(∀ x y,p x y=true→M [x,y])→M l
 | [x,y],h,k=>k x y h
noncomputable def on3 {α:Type} (p:α→α→α→Bool):List α→Bool
 | [x,y,z]=>p x y z
 | _=>false
@[elab_as_elim]
theorem by3 {α:Type} {p:α→α→α→Bool} {M:List α→Prop}:∀ {l:List α},on3 p l=true→(∀ x y z,p x y z=true→M [x,y,z])→M l
 | [x,y,z],h,k=>k x y z h
noncomputable def on01 {α:Type} (b:Bool) (p:α→Bool):List α→Bool
 | []=>b
 | [x]=>p x
 | _=>false
inductive Is01 {α:Type} (b:Bool) (p:α→Bool):List α→Prop
 | nil (h:b=true):Is01 b p []
 | one (x:α) (h:p x=true):Is01 b p [x]
theorem in01 {α:Type} {b:Bool} {p:α→Bool}:∀ {l:List α},on01 b p l=true→Is01 b p l
 | [],h=> .nil h
 | [x],h=> .one x h
noncomputable def on0 {α:Type} (b:Bool):List α→Bool
 | []=>b
 | _=>false
@[elab_as_elim]
theorem by0 {α:Type} {b:Bool} {M:List α→Prop}:∀ {l:List α},on0 b l=true→(b=true→M [])→M l
 | [],h,k=>k h
noncomputable def onSome {α:Type} (p:α→Bool):Option α→Bool
 | some x=>p x
 | none=>false
@[elab_as_elim]
theorem bySome {α:Type} {p:α→Bool} {M:Option α→Prop}:∀ {l:Option α},onSome p l=true→(∀ x,p x=true→M (some x))→M l
 | some x,h,k=>k x h
noncomputable def onNo {α:Type} (b:Bool):Option α→Bool
 | none=>b
 | _=>false
@[elab_as_elim]
theorem byNo {α:Type} {b:Bool} {M:Option α→Prop}:∀ {l:Option α},onNo b l=true→(b=true→M none)→M l
 | none,h,k=>k h
noncomputable def onCp (p:Expr→Expr→List Expr→Bool) (c:Comprehension):Bool:=c.is_async == 0 && p c.target c.iter c.ifs
theorem a2 {a b:Bool} (h:(a && b)=true):a=true∧b=true:=Bool.and_eq_true_iff.mp h
theorem a3 {a b c:Bool} (h:(a && b && c)=true):A3 (a=true) (b=true) (c=true):=let q:=a2 h;let r:=a2 q.1;⟨r.1,r.2,q.2⟩
theorem a4 {a b c d:Bool} (h:(a && b && c && d)=true):A4 (a=true) (b=true) (c=true) (d=true):=let q:=a2 h;let r:=a3 q.1;⟨r.1,r.2,r.3,q.2⟩
theorem a5 {a b c d e:Bool} (h:(a && b && c && d && e)=true):A5 (a=true) (b=true) (c=true) (d=true) (e=true):=let q:=a2 h;let r:=a4 q.1;⟨r.1,r.2,r.3,r.4,q.2⟩
theorem a6 {a b c d e f:Bool} (h:(a && b && c && d && e && f)=true):A6 (a=true) (b=true) (c=true) (d=true) (e=true) (f=true):=let q:=a2 h;let r:=a5 q.1;⟨r.1,r.2,r.3,r.4,r.5,q.2⟩
theorem a7 {a b c d e f g:Bool} (h:(a && b && c && d && e && f && g)=true):A7 (a=true) (b=true) (c=true) (d=true) (e=true) (f=true) (g=true):=let q:=a2 h;let r:=a6 q.1;⟨r.1,r.2,r.3,r.4,r.5,r.6,q.2⟩
theorem not_t {a:Bool} (h:(!a)=true):a=false:=Bool.not_eq_true' a |>.mp h
theorem or_t {a b:Bool} (h:(a || b)=true):a=true∨b=true:=Bool.or_eq_true_iff.mp h
@[elab_as_elim]
theorem byCp {p:Expr→Expr→List Expr→Bool} {M:Comprehension→Prop} {c:Comprehension} (h:onCp p c=true) (k:∀ t i l,p t i l=true→M ⟨t,i,l,0⟩):M c:=by
 obtain ⟨t,i,l,n⟩:=c
 obtain ⟨h1,h2⟩:=a2 h
 cases (eq_of_beq h1:n=0)
 exact k t i l h2
end
noncomputable def kindIs (sc:Scope) (x:Str) (k:NameKind):Bool:=sc.names.lookup x == some k
noncomputable def nameAt (sc:Scope) (i:Nat) (x:Str) (q:NameKind→Bool):Bool:=onSome (fun y=>y.1 == x && q y.2) sc.names[i]?
noncomputable def lc (k:NameKind):Bool:=k == .local || k == .cell
noncomputable def okT (sc:Scope):MT→Expr→Bool
 | .var i=>onName fun x _=>nameAt sc i x lc
 | .two a b=>onTuple fun l=>on2 (fun e1 e2=>okT sc a e1 && okT sc b e2) l
 | .three a b c=>onTuple fun l=>on3 (fun e1 e2 e3=>okT sc a e1 && okT sc b e2 && okT sc c e3) l
noncomputable def okF (sc scope:Scope) (fr:List (Nat×Nat)):Bool :=
 (fr.all fun p=>onSome (fun y=>y.2 == .free && nameAt sc p.2 y.1 fun k=>k == .free || k == .cell) scope.names[p.1]?) &&
 scope.kind == .function && decide ((scope.names.map (·.1)).Nodup) && scope.names.all fun p=>p.2 != .free || sc.names.any fun q=>q.1 == p.1 && (q.2 == .free || q.2 == .cell)
noncomputable def notSlice (e:Expr):Bool:=e.ctorIdx != 26
noncomputable def plainTest (e:Expr):Bool:=e.ctorIdx != 0 && e.ctorIdx != 5 && e.ctorIdx != 15 && !onUnaryOp (fun op _=>op == .Not) e
noncomputable def MC.isTT:MC→Bool
 | .tt=>true
 | _=>false
noncomputable def nm0 (x:Str):Bool := !(x == ("__debug__":Str))
noncomputable def isTup (e:Expr):Bool:=onTuple (fun _=>true) e
noncomputable def isMinus1:Expr→Bool:=onUnaryOp fun op x=>op == .USub && onConstant (fun c=>c == .int 1) x
mutual
noncomputable def okE (I:Info) (sc:Scope):ME→Expr→Bool
 | .none=>onConstant fun c=>c == .none
 | .bool b=>onConstant fun c=>c == .bool b
 | .int i=>onConstant fun c=>c == .int i
 | .neg i=>onUnaryOp fun op x=>op == .USub && onConstant (fun c=>c == .int i) x
 | .loc i=>onName fun x _=>nameAt sc i x (fun _=>true) && nm0 x && !(x == ("__classdict__":Str))
 | .gint i=>onName fun x _=>kindIs sc x .globalImplicit && nm0 x && I.gi x == some i
 | .tup es=>onTuple fun l=>noStar l && okEs I sc es l
 | .lst _ es=>onList fun l=>noStar l && okEs I sc es l
 | .bin _ op a b=>onBinOp fun l o r=>o == op.op && okE I sc a l && okE I sc b r
 | .cmp op a b=>onCompare fun l os rs=>on1 (fun o=>on1 (fun r=>o == op.op && !behindInMarks op.op r && okE I sc a l && okE I sc b r) rs) os
 | .and2 a b=>onBoolOp fun o l=>o == .And && on2 (fun x y=>okE I sc a x && okE I sc b y) l
 | .or2 a b=>onBoolOp fun o l=>o == .Or && on2 (fun x y=>okE I sc a x && okE I sc b y) l
 | .ite c a b=>onIfExp fun t l r=>okC I sc c t && okE I sc a l && okE I sc b r
 | .sub a i=>onSubscript fun l r=>notSlice r && okE I sc a l && okE I sc i r
 | .upto _ a i=>onSubscript fun l s=>okE I sc a l && onSlice (fun x y z=>onNo (onNo (onSome (okE I sc i) y) z) x) s
 | .from_ _ a i=>onSubscript fun l s=>okE I sc a l && onSlice (fun x y z=>onNo (onNo (onSome (okE I sc i) x) z) y) s
 | .rev _ a=>onSubscript fun l s=>okE I sc a l && onSlice (fun x y z=>onNo (onNo (onSome isMinus1 z) y) x) s
 | .attr o n=>onAttribute fun l m _=>m == n && attrPlain l && okE I sc o l
 | .dict0=>onDict fun ks vs=>on0 (on0 true vs) ks
 | .dict1 k v=>onDict fun ks vs=>on1 (fun l=>onSome (fun l=>on1 (fun r=>okE I sc k l && okE I sc v r) vs) l) ks
 | .bi B _ es=>onCall fun f l kw _=>on0 (onName (fun x _=>x == B.name && kindIs sc x .globalImplicit && noStar l && okEs I sc es l) f) kw
 | .call v es=>onCall fun f l kw _=>on0 (onName (fun x _=>kindIs sc x .globalImplicit && nm0 x && I.gf x == some v && noStar l && okEs I sc es l) f) kw
 | .meth o n es=>onCall fun f l kw p=>on0 (onAttribute (fun q m ap=>m == n && attrPlain q && noStar l && decide (l.length<30) && ap.endLine == p.line && okE I sc o q && okEs I sc es l) f) kw
 | .lmeth o M es=>onCall fun f l kw p=>on0 (onAttribute (fun q m ap=>m == M.name && attrPlain q && noStar l && decide (l.length<30) && ap.endLine == p.line && okE I sc o q && okEs I sc es l) f) kw
 | .zip3 _ es=>onCall fun f l kw _=>on0 (on1 (fun g=>onName (fun x _=>onCall (fun f' l' kw' _=>on0 (onName (fun y _=>x == ("list":Str) && y == ("zip":Str) && kindIs sc x .globalImplicit && kindIs sc y .globalImplicit && noStar l' && okEs I sc es l') f') kw') g) f) l) kw
 | .comp _ fr t elt c en it=>onListComp fun l gens scope _=>on1 (onCp fun target iter ifs=>okF sc scope fr && okT scope t target && notSet iter && okE I scope elt l && on01 c.isTT (okC I scope c) ifs &&
   cond en (isTup target && onCall (fun f l kw _=>on0 (on1 (fun y=>onName (fun x _=>x == ("enumerate":Str) && kindIs sc x .globalImplicit && noStar [y] && okE I sc it y) f) l) kw) iter) (okE I sc it iter)) gens
 | .dcomp ..=>fun _=>false
noncomputable def okEs (I:Info) (sc:Scope):MEs→List Expr→Bool
 | .nil=>on0 true
 | .cons e r=>fun l=>match l with | x::t=>okE I sc e x && okEs I sc r t | []=>false
noncomputable def okC (I:Info) (sc:Scope):MC→Expr→Bool
 | .tt=>fun _=>false
 | .cmp op a b=>onCompare fun l os rs=>on1 (fun o=>on1 (fun r=>o == op.op && !behindInMarks op.op r && okE I sc a l && okE I sc b r) rs) os
 | .not c=>onUnaryOp fun op x=>op == .Not && okC I sc c x
 | .and a b=>onBoolOp fun o l=>o == .And && on2 (fun x y=>okC I sc a x && okC I sc b y) l
 | .or a b=>onBoolOp fun o l=>o == .Or && on2 (fun x y=>okC I sc a x && okC I sc b y) l
 | .val m=>fun e=>plainTest e && okE I sc m e
end
noncomputable def okSwap (sc:Scope) (x:Str) (tl:Nat) (v:Expr):Bool:=notComp v || onListComp (fun _ _ scope p=>onSome (fun k => !swapB scope k x tl p.line && lc k) (sc.names.lookup x)) v
noncomputable def okN (I:Info) (sc:Scope) (m:ME) (x:Str) (tl:Nat) (v:Expr):Bool :=
 onDcomp (fun fr t k u it=>onDictComp (fun kx vx gens scope q=>on1 (onCp fun target iter ifs=>on0 (okF sc scope fr && okT scope t target && notSet iter && okE I scope k kx && okE I scope u vx && okE I sc it iter && (swapB scope .local x tl q.line && kindIs sc x .local)) ifs) gens) v) m ||
 (onCompM (fun m' fr t elt c en it=>okE I sc (.comp m' fr t elt c en it) v && onListComp (fun _ _ scope q=>swapB scope .local x tl q.line && kindIs sc x .local) v) m || okE I sc m v && okSwap sc x tl v)
mutual
noncomputable def okS (I:Info) (sc:Scope):MSt→Stmt→Bool
 | .expr m=>onSExpr fun e=>notComp e && okE I sc m e
 | .ret m=>onSReturn fun e=>onSome (okE I sc m) e
 | .ife c t f=>onSIf fun e a b=>okC I sc c e && okB I sc t a && okB I sc f b
 | .cont=>onSContinue true
 | .for_ t it bd=>onSFor fun target iter b o=>on0 (okT sc t target && notSet iter && okE I sc it iter && okB I sc bd b) o
 | .while_ c bd=>onSWhile fun e b o=>on0 (okC I sc c e && okB I sc bd b) o
 | .asgN i m=>onSAssign fun ts v _=>on1 (fun t=>onName (fun x p=>nameAt sc i x lc && okN I sc m x p.line v) t) ts
 | .asgT t m=>onSAssign fun ts v _=>on1 (fun x=>okT sc t x && notComp v && notTup v && okE I sc m v && isTup x) ts
 | .asgSub o i m=>onSAssign fun ts v _=>on1 (onSubscript fun a b=>notComp v && okE I sc m v && okE I sc o a && okE I sc i b) ts
 | .asgAttr o n m=>onSAssign fun ts v _=>on1 (onAttribute fun a n' _=>n' == n && notComp v && okE I sc m v && okE I sc o a) ts
 | .augOr i m=>onSAugAssign fun t op v=>op == .BitOr && okE I sc m v && onName (fun x _=>nameAt sc i x fun k=>k == .local) t
noncomputable def okB (I:Info) (sc:Scope):MSts→List Stmt→Bool
 | .nil=>on0 true
 | .cons s r=>fun l=>match l with | x::t=>okS I sc s x && okB I sc r t | []=>false
end
end Mine
namespace Mine
noncomputable def ZipOk (prog:Program) (w:World) (h₀:Heap) (b:Nat):Prop :=
 ∀ (sc:Scope) (env:Env) (es:List Expr) (P:PT (List V)) (m:Bool) (px py p1 p2:Pos),EnvOk sc env→sc.names.lookup ("list":Str)=some .globalImplicit→sc.names.lookup ("zip":Str)=some .globalImplicit→noStar es=true →
  Tri prog w h₀ b sc env RVs (spliced (evs es env)) P →
  Tri prog w h₀ b sc env RV (eval (.Call (.Name "list" px) [.Call (.Name "zip" py) es [] p1] [] p2) env) (fun σ Q=>P σ fun l σ1=>zipP m l σ1 Q)
structure Good (prog:Program) (w:World) (h₀:Heap) (K:Frag) (I:Info) (Γ:Value→PC) (b:Nat):Prop where
 mods:∃ o,h₀.get? sysModules=some o
 kin:K.In h₀
 gi:∀ x i,I.gi x=some i→∃ t,GV h₀ x (.int i t)
 gf:∀ x f,I.gf x=some f→GV h₀ x f∧KeepOk prog w h₀ f
 bi:∀ B:Bi,GV h₀ B.name B.val
 enum:GV h₀ ("enumerate":Str) (.type "enumerate")
 ok:∀ C n,I.ok C n=true→attrK K C n=true
 mt:∀ C n f,I.mt C n=some f→methK K C n f=true
 call:∀ f,CallOk prog w h₀ b f (Γ f)
 zip:ZipOk prog w h₀ b
theorem kindIs_iff {sc:Scope} {x:Str} {k:NameKind} (h:kindIs sc x k=true):sc.names.lookup x=some k:=by unfold kindIs at h;simpa using h
theorem nameAt_ok {sc:Scope} {i:Nat} {x:Str} {q:NameKind→Bool} (h:nameAt sc i x q=true):∃ k,sc.names[i]?=some (x,k)∧q k=true:=by
 unfold nameAt at h
 refine bySome h fun y h => ?_
 obtain ⟨y,k⟩:=y
 replace h:=a2 h
 obtain ⟨h1,h2⟩:=h
 cases eq_of_beq h1
 exact ⟨k,rfl,h2⟩
theorem lc_ok {k:NameKind} (h:lc k=true):k= .local∨k= .cell:=(or_t h).imp eq_of_beq eq_of_beq
theorem okT_ok {sc:Scope}:∀ {t:MT} {e:Expr},okT sc t e=true→TgtOk sc t e
 | .var i,e,h=>by
  refine byName h fun x p h => ?_
  obtain ⟨k,h1,h2⟩:=nameAt_ok h
  exact .var h1 (lc_ok h2)
 | .two a b,e,h=>by
  refine byTuple h fun l k p h => ?_
  refine by2 h fun e1 e2 h => ?_
  replace h:=a2 h
  obtain ⟨h1,h2⟩:=h
  exact .two (okT_ok h1) (okT_ok h2)
 | .three a b c,e,h=>by
  refine byTuple h fun l k p h => ?_
  refine by3 h fun e1 e2 e3 h => ?_
  replace h:=a3 h
  obtain ⟨h1,h2,h3⟩:=h
  exact .three (okT_ok h1) (okT_ok h2) (okT_ok h3)
theorem mem_lookup_nat:∀ {l:List (Nat×Nat)} {i j:Nat},l.lookup i=some j→(i,j)∈l
 | (a,c)::r,i,j,h=>by
  replace h:=List.lookup_cons.symm.trans h
  by_cases q:(i == a)=true
  ·rw [q] at h;cases h
   rw [beq_iff_eq.mp q];exact List.mem_cons_self
  ·simp only [q] at h
   exact List.mem_cons_of_mem _ (mem_lookup_nat h)
theorem okF_ok {sc scope:Scope} {fr:List (Nat×Nat)} (h:okF sc scope fr=true):FrOk2 sc scope fr:=by
 unfold okF at h
 simp only [Bool.and_eq_true,List.all_eq_true,decide_eq_true_eq,beq_iff_eq] at h
 obtain ⟨⟨⟨h1,h2⟩,h3⟩,h4⟩:=h
 refine ⟨fun i j e => ?_,h2,h3,fun x m => ?_⟩
 ·have:=h1 (i,j) (mem_lookup_nat e)
  refine bySome this fun x this => ?_
  obtain ⟨x,k⟩:=x
  obtain ⟨q1,q2⟩:=a2 this
  obtain ⟨k',q3,q4⟩:=nameAt_ok q2
  cases (eq_of_beq q1:k=_)
  exact ⟨x,k',rfl,q3,(or_t q4).imp eq_of_beq eq_of_beq⟩
 ·have:=h4 _ m
  simp only [bne_self_eq_false,Bool.false_or,List.any_eq_true,Bool.and_eq_true,Bool.or_eq_true,beq_iff_eq] at this
  obtain ⟨⟨y,k⟩,m',rfl,hk⟩:=this
  exact ⟨k,m',hk⟩
theorem notSlice_ok {r:Expr} (h:notSlice r=true) (u v:Value):subscripted r false u v=operate [u,v] (getItem u v):=by
 cases r<;>first | rfl | exact (Bool.false_ne_true h).elim
set_option tactic.hygienic true in
theorem plainTest_ok {e:Expr} {env:Env} (h:plainTest e=true):isTrue e env (eval e env)=(do let v ←eval e env;standAt e.pos;holding [v] (truthy v)):=by
 cases e<;>first | rfl | (exact (Bool.false_ne_true h).elim) | skip
 rename_i op x p
 cases op<;>first | rfl | (exact (Bool.false_ne_true h).elim)
theorem isTT_ok {c:MC} (h:c.isTT=true):c= .tt:=by
 cases c<;>first | rfl | exact (Bool.false_ne_true h).elim
theorem nm0_ok {x:Str} (h:nm0 x=true):(x == ("__debug__":Str))=false:=not_t h
section
variable {prog:Program} {w:World} {h₀:Heap} {K:Frag} {I:Info} {Γ:Value→PC} {b:Nat}
theorem iterPart (G:Good prog w h₀ K I Γ b) {sc:Scope} {env:Env} {en:Bool} {target iter:Expr} {it:ME} (E:EnvOk sc env)
  (h:cond en (isTup target && onCall (fun f l kw _=>on0 (on1 (fun y=>onName (fun x _=>x == ("enumerate":Str) && kindIs sc x .globalImplicit && noStar [y] && okE I sc it y) f) l) kw) iter) (okE I sc it iter)=true)
  (S:∀ {e},okE I sc it e=true→Tri prog w h₀ b sc env RV (eval e env) (denE I Γ it)):IterOk prog w h₀ b sc env iter target (gOf en) (denE I Γ it):=by
 cases en with
 | false=>exact iterOk_any (S h)
 | true =>
  replace h:=a2 h
  obtain ⟨h1,h2⟩:=h
  refine byTuple h1 fun elts k tp h1 => ?_
  refine byCall h2 fun f l kw p h2 => ?_
  refine by0 h2 fun h2 => ?_
  refine by1 h2 fun y h2 => ?_
  refine byName h2 fun x px h2 => ?_
  replace h2:=a4 h2
  obtain ⟨q1,q2,q3,q4⟩:=h2
  cases eq_of_beq q1
  exact iterOk_enum E (kindIs_iff q2) G.enum q3 (S q4)
theorem ifsPart {scope:Scope} {c:MC} {ifs:List Expr} (h:on01 c.isTT (okC I scope c) ifs=true)
  (S:∀ {cenv e},EnvOk scope cenv→okC I scope c e=true→Tri prog w h₀ b scope cenv RB (isTrue e cenv (eval e cenv)) (denC I Γ c)) (cenv:Env) (E':EnvOk scope cenv) :
  Tri prog w h₀ b scope cenv RB (ifsT ifs cenv) (denC I Γ c):=by
 rcases in01 h with h | ⟨x,h⟩
 ·rw [isTT_ok h];exact tri_ifs0
 ·exact tri_ifs1 (S E' h)
mutual
theorem soundE (G:Good prog w h₀ K I Γ b):∀ (m:ME) {sc:Scope} {env:Env} {e:Expr},EnvOk sc env→okE I sc m e=true→Tri prog w h₀ b sc env RV (eval e env) (denE I Γ m)
 | .none,sc,env,e,E,h=>by
  refine byConstant h fun c k p h => ?_
  cases eq_of_beq h;exact tri_none
 | .bool b,sc,env,e,E,h=>by
  refine byConstant h fun c k p h => ?_
  cases eq_of_beq h;exact tri_boolc
 | .int i,sc,env,e,E,h=>by
  refine byConstant h fun c k p h => ?_
  cases eq_of_beq h;exact tri_intc
 | .neg i,sc,env,e,E,h=>by
  refine byUnaryOp h fun o x p h => ?_
  replace h:=a2 h
  obtain ⟨h1,h2⟩:=h
  refine byConstant h2 fun c k p h2 => ?_
  cases eq_of_beq h1;cases eq_of_beq h2
  exact tri_neg
 | .loc i,sc,env,e,E,h=>by
  refine byName h fun x p h => ?_
  replace h:=a3 h
  obtain ⟨h1,h2,h3⟩:=h
  obtain ⟨k,h4,_⟩:=nameAt_ok h1
  exact tri_name E h4 (nm0_ok h2) (not_t h3)
 | .gint i,sc,env,e,E,h=>by
  refine byName h fun x p h => ?_
  replace h:=a3 h
  obtain ⟨h1,h2,h3⟩:=h
  obtain ⟨t,g⟩:=G.gi _ _ (eq_of_beq h3)
  exact tri_gconst E (kindIs_iff h1) (nm0_ok h2) g
 | .tup es,sc,env,e,E,h=>by
  refine byTuple h fun l k p h => ?_
  replace h:=a2 h
  obtain ⟨h1,h2⟩:=h
  exact tri_tuple (tri_evsT h1 (soundEs G es E h2))
 | .lst m es,sc,env,e,E,h=>by
  refine byList h fun l p h => ?_
  replace h:=a2 h
  obtain ⟨h1,h2⟩:=h
  exact tri_list (tri_evsT h1 (soundEs G es E h2))
 | .bin m op x y,sc,env,e,E,h=>by
  refine byBinOp h fun l o r p h => ?_
  replace h:=a3 h
  obtain ⟨h0,h1,h2⟩:=h
  cases eq_of_beq h0
  exact tri_bin (soundE G x E h1) (soundE G y E h2)
 | .cmp op x y,sc,env,e,E,h=>by
  refine byCompare h fun l os rs p h => ?_
  refine by1 h fun o h => ?_
  refine by1 h fun r h => ?_
  replace h:=a4 h
  obtain ⟨h0,h1,h2,h3⟩:=h
  cases eq_of_beq h0
  exact tri_cmp G.mods (soundE G x E h2) (soundE G y E h3) (not_t h1)
 | .and2 x y,sc,env,e,E,h=>by
  refine byBoolOp h fun o l p h => ?_
  replace h:=a2 h
  obtain ⟨h0,h⟩:=h
  refine by2 h fun u v h => ?_
  replace h:=a2 h
  obtain ⟨h1,h2⟩:=h
  cases eq_of_beq h0
  exact tri_and2 (soundE G x E h1) (soundE G y E h2)
 | .or2 x y,sc,env,e,E,h=>by
  refine byBoolOp h fun o l p h => ?_
  replace h:=a2 h
  obtain ⟨h0,h⟩:=h
  refine by2 h fun u v h => ?_
  replace h:=a2 h
  obtain ⟨h1,h2⟩:=h
  cases eq_of_beq h0
  exact tri_or2 (soundE G x E h1) (soundE G y E h2)
 | .ite c x y,sc,env,e,E,h=>by
  refine byIfExp h fun t l r p h => ?_
  replace h:=a3 h
  obtain ⟨h0,h1,h2⟩:=h
  exact tri_ite (soundC G c E h0) (soundE G x E h1) (soundE G y E h2)
 | .sub x i,sc,env,e,E,h=>by
  refine bySubscript h fun l r p h => ?_
  replace h:=a3 h
  obtain ⟨h0,h1,h2⟩:=h
  exact tri_sub (soundE G x E h1) (soundE G i E h2) (notSlice_ok h0)
 | .upto m x i,sc,env,e,E,h=>by
  refine bySubscript h fun l r p h => ?_
  replace h:=a2 h
  obtain ⟨h1,h⟩:=h
  refine bySlice h fun u v z q h => ?_
  refine byNo h fun h => ?_
  refine byNo h fun h => ?_
  refine bySome h fun y h => ?_
  exact tri_upto (soundE G x E h1) (soundE G i E h)
 | .from_ m x i,sc,env,e,E,h=>by
  refine bySubscript h fun l r p h => ?_
  replace h:=a2 h
  obtain ⟨h1,h⟩:=h
  refine bySlice h fun u v z q h => ?_
  refine byNo h fun h => ?_
  refine byNo h fun h => ?_
  refine bySome h fun y h => ?_
  exact tri_from (soundE G x E h1) (soundE G i E h)
 | .rev m x,sc,env,e,E,h=>by
  refine bySubscript h fun l r p h => ?_
  replace h:=a2 h
  obtain ⟨h1,h⟩:=h
  refine bySlice h fun u v z q h => ?_
  refine byNo h fun h => ?_
  refine byNo h fun h => ?_
  refine bySome h fun y h => ?_
  refine byUnaryOp h fun o x' p h => ?_
  replace h:=a2 h
  obtain ⟨h2,h3⟩:=h
  refine byConstant h3 fun c k p h3 => ?_
  cases eq_of_beq h2;cases eq_of_beq h3
  exact tri_rev (soundE G x E h1)
 | .attr o n,sc,env,e,E,h=>by
  refine byAttribute h fun l n' p h => ?_
  replace h:=a3 h
  obtain ⟨h0,h1,h2⟩:=h
  cases eq_of_beq h0
  exact tri_attr G.ok G.kin h1 (soundE G o E h2)
 | .dict0,sc,env,e,E,h=>by
  refine byDict h fun ks vs p h => ?_
  refine by0 h fun h => ?_
  refine by0 h fun h => ?_
  exact tri_dict0
 | .dict1 k v,sc,env,e,E,h=>by
  refine byDict h fun ks vs p h => ?_
  refine by1 h fun x h => ?_
  refine bySome h fun x h => ?_
  refine by1 h fun y h => ?_
  replace h:=a2 h
  obtain ⟨h1,h2⟩:=h
  exact tri_dict1 rfl (soundE G k E h1) (soundE G v E h2)
 | .bi B m es,sc,env,e,E,h=>by
  refine byCall h fun f l kw p h => ?_
  refine by0 h fun h => ?_
  refine byName h fun x q h => ?_
  replace h:=a4 h
  obtain ⟨h0,h1,h2,h3⟩:=h
  cases eq_of_beq h0
  exact tri_bi G.mods E (kindIs_iff h1) (G.bi B) h2 (soundEs G es E h3)
 | .call f es,sc,env,e,E,h=>by
  refine byCall h fun g l kw p h => ?_
  refine by0 h fun h => ?_
  refine byName h fun x q h => ?_
  replace h:=a5 h
  obtain ⟨h0,h1,h2,h3,h4⟩:=h
  have g:=G.gf _ _ (eq_of_beq h2)
  exact tri_call E (kindIs_iff h0) (nm0_ok h1) g.1 h3 (soundEs G es E h4) g.2 (G.call f)
 | .meth o n es,sc,env,e,E,h=>by
  refine byCall h fun g l kw p h => ?_
  refine by0 h fun h => ?_
  refine byAttribute h fun x n' q h => ?_
  replace h:=a7 h
  obtain ⟨h0,h1,h2,h3,h4,h5,h6⟩:=h
  cases eq_of_beq h0
  exact tri_meth (Γ:=Γ) (fun C n f q=>⟨G.mt C n f q,G.call _⟩) G.kin h1 h2 (of_decide_eq_true h3) h4 (soundE G o E h5) (soundEs G es E h6)
 | .lmeth o M es,sc,env,e,E,h=>by
  refine byCall h fun g l kw p h => ?_
  refine by0 h fun h => ?_
  refine byAttribute h fun x n' q h => ?_
  replace h:=a7 h
  obtain ⟨h0,h1,h2,h3,h4,h5,h6⟩:=h
  cases eq_of_beq h0
  exact tri_lmeth h1 h2 (of_decide_eq_true h3) h4 (soundE G o E h5) (soundEs G es E h6)
 | .zip3 m es,sc,env,e,E,h=>by
  refine byCall h fun f l kw p h => ?_
  refine by0 h fun h => ?_
  refine by1 h fun g h => ?_
  refine byName h fun x q h => ?_
  refine byCall h fun f l kw p' h => ?_
  refine by0 h fun h => ?_
  refine byName h fun y q' h => ?_
  replace h:=a6 h
  obtain ⟨h0,h1,h2,h3,h4,h5⟩:=h
  cases eq_of_beq h0;cases eq_of_beq h1
  exact G.zip _ _ _ _ m _ _ _ _ E (kindIs_iff h2) (kindIs_iff h3) h4 (soundEs G es E h5)
 | .comp m fr t elt c en it,sc,env,e,E,h=>by
  refine byListComp h fun l gens scope pos h => ?_
  refine by1 h fun g h => ?_
  refine byCp h fun target iter ifs h => ?_
  replace h:=a6 h
  obtain ⟨h1,h2,h3,h4,h5,h6⟩:=h
  exact tri_listComp E (okF_ok h1) (okT_ok h2) h3 (iterPart G E h6 fun q=>soundE G it E q) (ifsPart h5 fun E' q=>soundC G c E' q) (fun cenv E'=>soundE G elt E' h4)
 | .dcomp ..,sc,env,e,E,h=>(Bool.false_ne_true h).elim
theorem soundEs (G:Good prog w h₀ K I Γ b):∀ (m:MEs) {sc:Scope} {env:Env} {l:List Expr},EnvOk sc env→okEs I sc m l=true→Tri prog w h₀ b sc env RVs (spliced (evs l env)) (denEs I Γ m)
 | .nil,sc,env,l,E,h=>by
  refine by0 h fun h => ?_
  exact tri_evs_nil
 | .cons e r,sc,env,[],E,h=>(Bool.false_ne_true h).elim
 | .cons e r,sc,env,x::l,E,h=>by
  replace h:=a2 h
  obtain ⟨h1,h2⟩:=h
  exact tri_evs_cons (soundE G e E h1) (soundEs G r E h2)
theorem soundC (G:Good prog w h₀ K I Γ b):∀ (m:MC) {sc:Scope} {env:Env} {e:Expr},EnvOk sc env→okC I sc m e=true→Tri prog w h₀ b sc env RB (isTrue e env (eval e env)) (denC I Γ m)
 | .tt,sc,env,e,E,h=>(Bool.false_ne_true h).elim
 | .cmp op x y,sc,env,e,E,h=>by
  refine byCompare h fun l os rs p h => ?_
  refine by1 h fun o h => ?_
  refine by1 h fun r h => ?_
  replace h:=a4 h
  obtain ⟨h0,h1,h2,h3⟩:=h
  cases eq_of_beq h0
  exact tri_cmpT G.mods (soundE G x E h2) (soundE G y E h3) (not_t h1)
 | .not c,sc,env,e,E,h=>by
  refine byUnaryOp h fun o x p h => ?_
  replace h:=a2 h
  obtain ⟨h1,h2⟩:=h
  cases eq_of_beq h1
  exact tri_notT (soundC G c E h2)
 | .and x y,sc,env,e,E,h=>by
  refine byBoolOp h fun o l p h => ?_
  replace h:=a2 h
  obtain ⟨h0,h⟩:=h
  refine by2 h fun u v h => ?_
  replace h:=a2 h
  obtain ⟨h1,h2⟩:=h
  cases eq_of_beq h0
  exact tri_and2T (soundC G x E h1) (soundC G y E h2)
 | .or x y,sc,env,e,E,h=>by
  refine byBoolOp h fun o l p h => ?_
  replace h:=a2 h
  obtain ⟨h0,h⟩:=h
  refine by2 h fun u v h => ?_
  replace h:=a2 h
  obtain ⟨h1,h2⟩:=h
  cases eq_of_beq h0
  exact tri_or2T (soundC G x E h1) (soundC G y E h2)
 | .val m,sc,env,e,E,h=>by
  replace h:=a2 h
  obtain ⟨h1,h2⟩:=h
  exact tri_truthE (soundE G m E h2) (plainTest_ok h1)
end
theorem soundN (G:Good prog w h₀ K I Γ b) {m:ME} {sc:Scope} {env:Env} {i:Nat} {x:Str} {k:NameKind} {p q:Pos} {v:Expr} (E:EnvOk sc env) (hi:sc.names[i]?=some (x,k)) (hk:k= .local∨k= .cell) (h:okN I sc m x p.line v=true) :
  Tri prog w h₀ b sc env FlIs (exec (.Assign [.Name x p] v q) env) (denS I Γ (.asgN i m)):=by
 have hlk:=lookup_of_get E.nodup hi
 have loc:kindIs sc x .local=true→k= .local:=fun h=>by
  have:=kindIs_iff h
  replace this:=hlk.symm.trans this;cases this;rfl
 replace h:=or_t h
 rcases h with h | h
 ·refine byDcomp h fun fr t k' u it h => ?_
  refine byDictComp h fun kx vx gens scope pos h => ?_
  refine by1 h fun g h => ?_
  refine byCp h fun target iter ifs h => ?_
  refine by0 h fun h => ?_
  replace h:=a7 h
  obtain ⟨f1,f2,f3,f4,f5,f6,f7⟩:=h
  obtain ⟨f7,f8⟩:=a2 f7
  cases loc f8
  exact tri_asgCompD E hi f7 (okF_ok f1) (okT_ok f2) f3 (soundE G it E f6) (fun cenv E'=>soundE G k' E' f4) (fun cenv E'=>soundE G u E' f5)
 replace h:=or_t h
 rcases h with h | h
 ·refine byCompM h fun m' fr t elt c en it h => ?_
  replace h:=a2 h
  obtain ⟨h,h7⟩:=h
  revert h7
  refine byListComp h fun l gens scope pos h h7 => ?_
  revert h7
  refine by1 h fun g h => ?_
  refine byCp h fun target iter ifs h h7 => ?_
  replace h:=a6 h
  obtain ⟨h1,h2,h3,h4,h5,h6⟩:=h
  replace h7:=a2 h7
  obtain ⟨h7,h8⟩:=h7
  cases loc h8
  exact tri_asgComp E hi h7 (okF_ok h1) (okT_ok h2) h3 (iterPart G E h6 fun q=>soundE G it E q) (ifsPart h5 fun E' q=>soundC G c E' q) (fun cenv E'=>soundE G elt E' h4)
 ·replace h:=a2 h
  obtain ⟨h1,h2⟩:=h
  refine tri_asgName E hi hk ?_ (soundE G m E h1)
  replace h2:=or_t h2
  rcases h2 with h2 | h2
  ·exact swaps_notComp h2
  ·refine byListComp h2 fun l gens scope pos h2 => ?_
   rw [hlk] at h2
   replace h2:(!swapB scope k x p.line pos.line && lc k)=true:=h2
   rw [swaps_comp E hlk hk,not_t (a2 h2).1]
mutual
theorem soundS (G:Good prog w h₀ K I Γ b):∀ (m:MSt) {sc:Scope} {env:Env} {s:Stmt},EnvOk sc env→okS I sc m s=true→Tri prog w h₀ b sc env FlIs (exec s env) (denS I Γ m)
 | .expr m,sc,env,s,E,h=>by
  refine bySExpr h fun e p h => ?_
  replace h:=a2 h
  obtain ⟨h1,h2⟩:=h
  exact tri_expr E h1 (soundE G m E h2)
 | .ret m,sc,env,s,E,h=>by
  refine bySReturn h fun e p h => ?_
  refine bySome h fun e h => ?_
  exact tri_ret (soundE G m E h)
 | .ife c t f,sc,env,s,E,h=>by
  refine bySIf h fun e a b p h => ?_
  replace h:=a3 h
  obtain ⟨h1,h2,h3⟩:=h
  exact tri_if (soundC G c E h1) (soundB G t E h2) (soundB G f E h3)
 | .cont,sc,env,s,E,h=>by
  refine bySContinue h fun p h => ?_
  exact tri_continue
 | .for_ t it bd,sc,env,s,E,h=>by
  refine bySFor h fun target iter b o p h => ?_
  refine by0 h fun h => ?_
  replace h:=a4 h
  obtain ⟨h1,h2,h3,h4⟩:=h
  exact tri_for E (okT_ok h1) h2 (soundE G it E h3) (soundB G bd E h4)
 | .while_ c bd,sc,env,s,E,h=>by
  refine bySWhile h fun e b o p h => ?_
  refine by0 h fun h => ?_
  replace h:=a2 h
  obtain ⟨h1,h2⟩:=h
  exact tri_while (soundC G c E h1) (soundB G bd E h2)
 | .asgN i m,sc,env,s,E,h=>by
  refine bySAssign h fun ts v q h => ?_
  refine by1 h fun t h => ?_
  refine byName h fun x p h => ?_
  replace h:=a2 h
  obtain ⟨h1,h2⟩:=h
  obtain ⟨k,h3,h4⟩:=nameAt_ok h1
  exact soundN G E h3 (lc_ok h4) h2
 | .asgT t m,sc,env,s,E,h=>by
  refine bySAssign h fun ts v q h => ?_
  refine by1 h fun x h => ?_
  replace h:=a5 h
  obtain ⟨h1,h2,h3,h4,h5⟩:=h
  revert h1
  refine byTuple h5 fun l k p h5 h1 => ?_
  exact tri_asgTup E (okT_ok h1) h2 h3 (soundE G m E h4)
 | .asgSub o i m,sc,env,s,E,h=>by
  refine bySAssign h fun ts v q h => ?_
  refine by1 h fun x h => ?_
  refine bySubscript h fun a b p h => ?_
  replace h:=a4 h
  obtain ⟨h1,h2,h3,h4⟩:=h
  exact tri_asgSub h1 (soundE G m E h2) (soundE G o E h3) (soundE G i E h4)
 | .asgAttr o n m,sc,env,s,E,h=>by
  refine bySAssign h fun ts v q h => ?_
  refine by1 h fun x h => ?_
  refine byAttribute h fun a n' p h => ?_
  replace h:=a4 h
  obtain ⟨h1,h2,h3,h4⟩:=h
  cases eq_of_beq h1
  exact tri_asgAttr G.ok G.kin h2 (soundE G m E h3) (soundE G o E h4)
 | .augOr i m,sc,env,s,E,h=>by
  refine bySAugAssign h fun t op v q h => ?_
  replace h:=a3 h
  obtain ⟨h1,h2,h3⟩:=h
  cases eq_of_beq h1
  refine byName h3 fun x p h3 => ?_
  obtain ⟨k,h4,h5⟩:=nameAt_ok h3
  exact tri_augOr E h4 (eq_of_beq h5) (soundE G m E h2)
theorem soundB (G:Good prog w h₀ K I Γ b):∀ (m:MSts) {sc:Scope} {env:Env} {l:List Stmt},EnvOk sc env→okB I sc m l=true→Tri prog w h₀ b sc env FlIs (execs l env) (denB I Γ m)
 | .nil,sc,env,l,E,h=>by
  refine by0 h fun h => ?_
  exact tri_nil
 | .cons e r,sc,env,[],E,h=>(Bool.false_ne_true h).elim
 | .cons e r,sc,env,x::l,E,h=>by
  replace h:=a2 h
  obtain ⟨h1,h2⟩:=h
  exact tri_cons (soundS G e E h1) (soundB G r E h2)
end
end
end Mine
namespace Mine
noncomputable def m_bits:MSts:=(.cons (.asgN 1 (.lst true .nil))
 (.cons (.asgN 2 (.int 0))
 (.cons (.asgN 3 (.loc 0))
 (.cons (.while_ (.cmp .gt (.loc 3) (.int 0)) (.cons (.ife (.cmp .eq (.bin false .band (.loc 3) (.int 1)) (.int 1)) (.cons (.expr (.lmeth (.loc 1) .append (.cons (.loc 2) .nil)))
 .nil) .nil)
 (.cons (.asgN 3 (.bin false .shr (.loc 3) (.int 1)))
 (.cons (.asgN 2 (.bin false .add (.loc 2) (.int 1)))
 .nil))))
 (.cons (.ret (.loc 1))
 .nil)))))
noncomputable def m_Nfa_init:MSts:=(.cons (.asgAttr (.loc 0) "moves" (.lst true .nil))
 (.cons (.asgAttr (.loc 0) "hops" (.lst true .nil))
 (.cons (.asgAttr (.loc 0) "tags" .dict0)
 (.cons (.asgAttr (.loc 0) "first" (.int 0))
 .nil))))
noncomputable def m_Nfa_add_state:MSts:=(.cons (.expr (.lmeth (.attr (.loc 0) "moves") .append (.cons (.lst true .nil) .nil)))
 (.cons (.expr (.lmeth (.attr (.loc 0) "hops") .append (.cons (.lst true .nil) .nil)))
 (.cons (.ret (.bin false .sub (.bi .len false (.cons (.attr (.loc 0) "moves") .nil)) (.int 1)))
 .nil)))
noncomputable def m_Nfa_add_move:MSts:=(.cons (.ife (.cmp .ne (.loc 2) (.int 0)) (.cons (.expr (.lmeth (.sub (.attr (.loc 0) "moves") (.loc 1)) .append (.cons (.tup (.cons (.loc 2) (.cons (.loc 3) .nil))) .nil)))
 .nil) .nil)
 .nil)
noncomputable def m_Nfa_add_hop:MSts:=(.cons (.ife (.cmp .notin (.loc 2) (.sub (.attr (.loc 0) "hops") (.loc 1))) (.cons (.expr (.lmeth (.sub (.attr (.loc 0) "hops") (.loc 1)) .append (.cons (.loc 2) .nil)))
 .nil) .nil)
 .nil)
noncomputable def m_Nfa_set_first:MSts:=(.cons (.asgAttr (.loc 0) "first" (.loc 1))
 .nil)
noncomputable def m_Nfa_set_tag:MSts:=(.cons (.asgSub (.attr (.loc 0) "tags") (.loc 1) (.loc 2))
 .nil)
noncomputable def m_Nfa_state_count:MSts:=(.cons (.ret (.bi .len false (.cons (.attr (.loc 0) "moves") .nil)))
 .nil)
noncomputable def m_Nfa_links:MSts:=(.cons (.asgN 1 (.lst true .nil))
 (.cons (.for_ (.var 2) (.bi .range false (.cons (.bi .len false (.cons (.attr (.loc 0) "moves") .nil)) .nil)) (.cons (.asgN 3 (.comp false [] (.two (.var 1) (.var 2)) (.loc 2) .tt false (.sub (.attr (.loc 0) "moves") (.loc 2))))
 (.cons (.expr (.lmeth (.loc 1) .append (.cons (.bin false .add (.loc 3) (.sub (.attr (.loc 0) "hops") (.loc 2))) .nil)))
 .nil)))
 (.cons (.ret (.loc 1))
 .nil)))
noncomputable def m_closure:MSts:=(.cons (.asgN 3 (.dcomp [] (.var 1) (.loc 1) (.bool true) (.loc 1)))
 (.cons (.asgN 4 (.bi .sorted true (.cons (.loc 3) .nil)))
 (.cons (.while_ (.val (.loc 4)) (.cons (.asgN 2 (.lmeth (.loc 4) .pop .nil))
 (.cons (.for_ (.var 5) (.sub (.attr (.loc 0) "hops") (.loc 2)) (.cons (.ife (.cmp .notin (.loc 5) (.loc 3)) (.cons (.asgSub (.loc 3) (.loc 5) (.bool true))
 (.cons (.expr (.lmeth (.loc 4) .append (.cons (.loc 5) .nil)))
 .nil)) .nil)
 .nil))
 .nil)))
 (.cons (.ret (.bi .tuple false (.cons (.bi .sorted false (.cons (.loc 3) .nil)) .nil)))
 .nil))))
noncomputable def m_begin:MSts:=(.cons (.ret (.call (.ref 101) (.cons (.loc 0) (.cons (.lst false (.cons (.attr (.loc 0) "first") .nil)) .nil))))
 .nil)
noncomputable def m_step:MSts:=(.cons (.ife (.cmp .lt (.loc 2) (.int 0)) (.cons (.ret (.tup .nil))
 .nil) .nil)
 (.cons (.asgN 3 .dict0)
 (.cons (.for_ (.var 4) (.loc 1) (.cons (.for_ (.two (.var 5) (.var 6)) (.sub (.attr (.loc 0) "moves") (.loc 4)) (.cons (.ife (.val (.bin false .band (.bin false .shr (.loc 5) (.loc 2)) (.int 1))) (.cons (.asgSub (.loc 3) (.loc 6) (.bool true))
 .nil) .nil)
 .nil))
 .nil))
 (.cons (.ret (.call (.ref 101) (.cons (.loc 0) (.cons (.bi .sorted false (.cons (.loc 3) .nil)) .nil))))
 .nil))))
noncomputable def m_tags_of:MSts:=(.cons (.asgN 2 .dict0)
 (.cons (.for_ (.var 3) (.loc 1) (.cons (.ife (.cmp .isin (.loc 3) (.attr (.loc 0) "tags")) (.cons (.asgSub (.loc 2) (.sub (.attr (.loc 0) "tags") (.loc 3)) (.bool true))
 .nil) .nil)
 .nil))
 (.cons (.ret (.bi .tuple false (.cons (.bi .sorted false (.cons (.loc 2) .nil)) .nil)))
 .nil)))
noncomputable def m_simulate:MSts:=(.cons (.asgN 2 (.call (.ref 108) (.cons (.loc 0) .nil)))
 (.cons (.for_ (.var 3) (.loc 1) (.cons (.asgN 2 (.call (.ref 115) (.cons (.loc 0) (.cons (.loc 2) (.cons (.loc 3) .nil)))))
 .nil))
 (.cons (.ret (.call (.ref 122) (.cons (.loc 0) (.cons (.loc 2) .nil))))
 .nil)))
noncomputable def m_endings:MSts:=(.cons (.asgN 3 (.lst true .nil))
 (.cons (.asgN 4 (.call (.ref 108) (.cons (.loc 0) .nil)))
 (.cons (.for_ (.var 5) (.bi .range false (.cons (.loc 2) (.cons (.bi .len false (.cons (.loc 1) .nil)) .nil))) (.cons (.asgN 4 (.call (.ref 115) (.cons (.loc 0) (.cons (.loc 4) (.cons (.sub (.loc 1) (.loc 5)) .nil)))))
 (.cons (.asgN 6 (.call (.ref 122) (.cons (.loc 0) (.cons (.loc 4) .nil))))
 (.cons (.ife (.val (.loc 6)) (.cons (.expr (.lmeth (.loc 3) .append (.cons (.tup (.cons (.bin false .add (.loc 5) (.int 1)) (.cons (.loc 6) .nil))) .nil)))
 .nil) .nil)
 .nil))))
 (.cons (.expr (.lmeth (.loc 3) .reverse .nil))
 (.cons (.ret (.loc 3))
 .nil)))))
noncomputable def m_longest:MSts:=(.cons (.asgN 3 (.call (.ref 136) (.cons (.loc 0) (.cons (.loc 1) (.cons (.loc 2) .nil)))))
 (.cons (.ife (.not (.val (.loc 3))) (.cons (.ret .none)
 .nil) .nil)
 (.cons (.ret (.sub (.loc 3) (.int 0)))
 .nil)))
noncomputable def m_spread:MSts:=(.cons (.asgN 2 (.bin true .mul (.lst false (.cons (.bool false) .nil)) (.bi .len false (.cons (.loc 0) .nil))))
 (.cons (.for_ (.var 3) (.loc 1) (.cons (.asgSub (.loc 2) (.loc 3) (.bool true))
 .nil))
 (.cons (.asgN 4 (.bi .list true (.cons (.loc 1) .nil)))
 (.cons (.while_ (.val (.loc 4)) (.cons (.asgN 5 (.lmeth (.loc 4) .pop .nil))
 (.cons (.for_ (.var 6) (.sub (.loc 0) (.loc 5)) (.cons (.ife (.not (.val (.sub (.loc 2) (.loc 6)))) (.cons (.asgSub (.loc 2) (.loc 6) (.bool true))
 (.cons (.expr (.lmeth (.loc 4) .append (.cons (.loc 6) .nil)))
 .nil)) .nil)
 .nil))
 .nil)))
 (.cons (.ret (.loc 2))
 .nil)))))
noncomputable def m_turned:MSts:=(.cons (.asgN 1 (.comp false [] (.var 1) (.lst true .nil) .tt false (.loc 0)))
 (.cons (.for_ (.var 2) (.bi .range false (.cons (.bi .len false (.cons (.loc 0) .nil)) .nil)) (.cons (.for_ (.var 3) (.sub (.loc 0) (.loc 2)) (.cons (.expr (.lmeth (.sub (.loc 1) (.loc 3)) .append (.cons (.loc 2) .nil)))
 .nil))
 .nil))
 (.cons (.ret (.loc 1))
 .nil)))
noncomputable def m_pruned:MSts:=(.cons (.asgN 1 (.meth (.loc 0) "links" .nil))
 (.cons (.asgN 2 (.call (.ref 150) (.cons (.loc 1) (.cons (.lst false (.cons (.attr (.loc 0) "first") .nil)) .nil))))
 (.cons (.asgN 3 (.call (.ref 150) (.cons (.call (.ref 155) (.cons (.loc 1) .nil)) (.cons (.bi .sorted false (.cons (.attr (.loc 0) "tags") .nil)) .nil))))
 (.cons (.asgN 4 (.call (.ref 92) .nil))
 (.cons (.asgN 5 .dict0)
 (.cons (.for_ (.var 6) (.bi .range false (.cons (.meth (.loc 0) "state_count" .nil) .nil)) (.cons (.ife (.or (.cmp .eq (.loc 6) (.attr (.loc 0) "first")) (.and (.val (.sub (.loc 2) (.loc 6))) (.val (.sub (.loc 3) (.loc 6))))) (.cons (.asgSub (.loc 5) (.loc 6) (.meth (.loc 4) "add_state" .nil))
 .nil) .nil)
 .nil))
 (.cons (.for_ (.var 6) (.bi .sorted false (.cons (.loc 5) .nil)) (.cons (.for_ (.two (.var 7) (.var 8)) (.sub (.attr (.loc 0) "moves") (.loc 6)) (.cons (.ife (.cmp .isin (.loc 8) (.loc 5)) (.cons (.expr (.meth (.loc 4) "add_move" (.cons (.sub (.loc 5) (.loc 6)) (.cons (.loc 7) (.cons (.sub (.loc 5) (.loc 8)) .nil)))))
 .nil) .nil)
 .nil))
 (.cons (.for_ (.var 8) (.sub (.attr (.loc 0) "hops") (.loc 6)) (.cons (.ife (.cmp .isin (.loc 8) (.loc 5)) (.cons (.expr (.meth (.loc 4) "add_hop" (.cons (.sub (.loc 5) (.loc 6)) (.cons (.sub (.loc 5) (.loc 8)) .nil))))
 .nil) .nil)
 .nil))
 (.cons (.ife (.cmp .isin (.loc 6) (.attr (.loc 0) "tags")) (.cons (.expr (.meth (.loc 4) "set_tag" (.cons (.sub (.loc 5) (.loc 6)) (.cons (.sub (.attr (.loc 0) "tags") (.loc 6)) .nil))))
 .nil) .nil)
 .nil))))
 (.cons (.expr (.meth (.loc 4) "set_first" (.cons (.sub (.loc 5) (.attr (.loc 0) "first")) .nil)))
 (.cons (.ret (.loc 4))
 .nil)))))))))
noncomputable def m_mirrored_nfa:MSts:=(.cons (.asgN 2 (.call (.ref 92) .nil))
 (.cons (.for_ (.var 3) (.bi .range false (.cons (.meth (.loc 0) "state_count" .nil) .nil)) (.cons (.expr (.meth (.loc 2) "add_state" .nil))
 .nil))
 (.cons (.for_ (.var 3) (.bi .range false (.cons (.meth (.loc 0) "state_count" .nil) .nil)) (.cons (.for_ (.two (.var 4) (.var 5)) (.sub (.attr (.loc 0) "moves") (.loc 3)) (.cons (.expr (.meth (.loc 2) "add_move" (.cons (.loc 5) (.cons (.loc 4) (.cons (.loc 3) .nil)))))
 .nil))
 (.cons (.for_ (.var 5) (.sub (.attr (.loc 0) "hops") (.loc 3)) (.cons (.expr (.meth (.loc 2) "add_hop" (.cons (.loc 5) (.cons (.loc 3) .nil))))
 .nil))
 .nil)))
 (.cons (.expr (.meth (.loc 2) "set_first" (.cons (.meth (.loc 2) "add_state" .nil) .nil)))
 (.cons (.for_ (.var 3) (.bi .sorted false (.cons (.attr (.loc 0) "tags") .nil)) (.cons (.expr (.meth (.loc 2) "add_hop" (.cons (.attr (.loc 2) "first") (.cons (.loc 3) .nil))))
 .nil))
 (.cons (.expr (.meth (.loc 2) "set_tag" (.cons (.attr (.loc 0) "first") (.cons (.loc 1) .nil))))
 (.cons (.ret (.loc 2))
 .nil)))))))
noncomputable def m_Subsets_init:MSts:=(.cons (.asgAttr (.loc 0) "nfa" (.loc 1))
 (.cons (.asgAttr (.loc 0) "kept" .dict0)
 .nil))
noncomputable def m_Subsets_closure_of:MSts:=(.cons (.ife (.cmp .notin (.loc 1) (.attr (.loc 0) "kept")) (.cons (.asgN 2 (.int 0))
 (.cons (.for_ (.var 3) (.call (.ref 101) (.cons (.attr (.loc 0) "nfa") (.cons (.lst false (.cons (.loc 1) .nil)) .nil))) (.cons (.ife (.or (.val (.sub (.attr (.attr (.loc 0) "nfa") "moves") (.loc 3))) (.cmp .isin (.loc 3) (.attr (.attr (.loc 0) "nfa") "tags"))) (.cons (.augOr 2 (.bin false .shl (.int 1) (.loc 3)))
 .nil) .nil)
 .nil))
 (.cons (.asgSub (.attr (.loc 0) "kept") (.loc 1) (.loc 2))
 .nil))) .nil)
 (.cons (.ret (.sub (.attr (.loc 0) "kept") (.loc 1)))
 .nil))
noncomputable def m_Subsets_begin:MSts:=(.cons (.ret (.meth (.loc 0) "closure_of" (.cons (.attr (.attr (.loc 0) "nfa") "first") .nil)))
 .nil)
noncomputable def m_Subsets_ways:MSts:=(.cons (.asgN 2 (.lst true .nil))
 (.cons (.for_ (.var 3) (.call (.ref 28) (.cons (.loc 1) .nil)) (.cons (.for_ (.two (.var 4) (.var 5)) (.sub (.attr (.attr (.loc 0) "nfa") "moves") (.loc 3)) (.cons (.expr (.lmeth (.loc 2) .append (.cons (.tup (.cons (.loc 4) (.cons (.meth (.loc 0) "closure_of" (.cons (.loc 5) .nil)) .nil))) .nil)))
 .nil))
 .nil))
 (.cons (.ret (.loc 2))
 .nil)))
noncomputable def m_Subsets_after:MSts:=(.cons (.asgN 3 (.int 0))
 (.cons (.for_ (.two (.var 4) (.var 5)) (.loc 1) (.cons (.ife (.val (.bin false .band (.bin false .shr (.loc 4) (.loc 2)) (.int 1))) (.cons (.augOr 3 (.loc 5))
 .nil) .nil)
 .nil))
 (.cons (.ret (.loc 3))
 .nil)))
noncomputable def m_Subsets_tags:MSts:=(.cons (.ret (.call (.ref 122) (.cons (.attr (.loc 0) "nfa") (.cons (.call (.ref 28) (.cons (.loc 1) .nil)) .nil))))
 .nil)
noncomputable def m_Dfa_init:MSts:=(.cons (.asgAttr (.loc 0) "rows" (.loc 1))
 (.cons (.asgAttr (.loc 0) "tags" (.loc 2))
 .nil))
noncomputable def m_Dfa_state_count:MSts:=(.cons (.ret (.bi .len false (.cons (.attr (.loc 0) "rows") .nil)))
 .nil)
noncomputable def m_subset_dfa:MSts:=(.cons (.asgN 2 (.call (.ref 222) (.cons (.loc 0) .nil)))
 (.cons (.asgN 3 (.lst true (.cons (.meth (.loc 2) "begin" .nil) .nil)))
 (.cons (.asgN 4 (.dict1 (.sub (.loc 3) (.int 0)) (.int 0)))
 (.cons (.asgN 5 (.lst true .nil))
 (.cons (.while_ (.cmp .lt (.bi .len false (.cons (.loc 5) .nil)) (.bi .len false (.cons (.loc 3) .nil))) (.cons (.asgN 6 (.meth (.loc 2) "ways" (.cons (.sub (.loc 3) (.bi .len false (.cons (.loc 5) .nil))) .nil)))
 (.cons (.asgN 7 (.lst true .nil))
 (.cons (.for_ (.var 8) (.bi .range false (.cons (.loc 1) .nil)) (.cons (.asgN 9 (.meth (.loc 2) "after" (.cons (.loc 6) (.cons (.loc 8) .nil))))
 (.cons (.ife (.cmp .eq (.loc 9) (.int 0)) (.cons (.expr (.lmeth (.loc 7) .append (.cons (.gint (-1)) .nil)))
 (.cons .cont
 .nil)) .nil)
 (.cons (.ife (.cmp .notin (.loc 9) (.loc 4)) (.cons (.asgSub (.loc 4) (.loc 9) (.bi .len false (.cons (.loc 3) .nil)))
 (.cons (.expr (.lmeth (.loc 3) .append (.cons (.loc 9) .nil)))
 .nil)) .nil)
 (.cons (.expr (.lmeth (.loc 7) .append (.cons (.sub (.loc 4) (.loc 9)) .nil)))
 .nil)))))
 (.cons (.expr (.lmeth (.loc 5) .append (.cons (.loc 7) .nil)))
 .nil)))))
 (.cons (.ret (.call (.ref 276) (.cons (.loc 5) (.cons (.comp false [(2,2)] (.var 1) (.meth (.loc 2) "tags" (.cons (.loc 1) .nil)) .tt false (.loc 3)) .nil))))
 .nil))))))
noncomputable def m__law_draw:MSts:=(.cons (.ife (.cmp .eq (.sub (.loc 0) (.int 2)) (.int 0)) (.cons (.asgN 2 (.sub (.sub (.loc 0) (.int 0)) (.bin false .mod (.sub (.loc 0) (.int 1)) (.bi .len false (.cons (.sub (.loc 0) (.int 0)) .nil)))))
 (.cons (.asgSub (.loc 0) (.int 1) (.bin false .add (.sub (.loc 0) (.int 1)) (.int 1)))
 (.cons (.asgSub (.loc 0) (.int 2) (.bin false .add (.bin false .add (.bin false .add (.bin false .mul (.int 2) (.bi .abs false (.cons (.loc 2) .nil))) (.ite (.cmp .lt (.loc 2) (.int 0)) (.int 1) (.int 0))) (.bin false .mul (.bin false .mul (.int 7919) (.sub (.loc 0) (.int 1))) (.sub (.loc 0) (.int 1)))) (.int 1)))
 .nil))) .nil)
 (.cons (.asgN 3 (.bin false .mod (.sub (.loc 0) (.int 2)) (.loc 1)))
 (.cons (.asgSub (.loc 0) (.int 2) (.bin false .fdiv (.sub (.loc 0) (.int 2)) (.loc 1)))
 (.cons (.ret (.loc 3))
 .nil))))
noncomputable def m__law_reach:MSts:=(.cons (.asgN 4 (.comp false [(3,0),(4,1)] (.var 1) (.comp true [(2,4),(3,1)] (.var 1) (.or2 (.cmp .eq (.loc 3) (.loc 1)) (.cmp .isin (.tup (.cons (.loc 3) (.cons (.loc 1) .nil))) (.loc 2))) .tt false (.bi .range false (.cons (.loc 3) .nil))) .tt false (.bi .range false (.cons (.loc 0) .nil))))
 (.cons (.for_ (.var 5) (.bi .range false (.cons (.loc 0) .nil)) (.cons (.for_ (.var 2) (.bi .range false (.cons (.loc 0) .nil)) (.cons (.for_ (.var 3) (.bi .range false (.cons (.loc 0) .nil)) (.cons (.ife (.and (.val (.sub (.sub (.loc 4) (.loc 2)) (.loc 5))) (.val (.sub (.sub (.loc 4) (.loc 5)) (.loc 3)))) (.cons (.asgSub (.sub (.loc 4) (.loc 2)) (.loc 3) (.bool true))
 .nil) .nil)
 .nil))
 .nil))
 .nil))
 (.cons (.ret (.loc 4))
 .nil)))
noncomputable def m__law_wide:MSts:=(.cons (.ret (.comp false [(3,1),(4,0)] (.var 1) (.loc 1) (.val (.bi .any false (.cons (.comp false [(2,1),(3,4)] (.var 1) (.sub (.sub (.loc 3) (.loc 1)) (.loc 2)) .tt false (.loc 3)) .nil))) false (.bi .range false (.cons (.bi .len false (.cons (.loc 0) .nil)) .nil))))
 .nil)
noncomputable def m__law_behind:MSts:=(.cons (.asgN 4 (.comp false [(4,3),(5,2)] (.three (.var 1) (.var 2) (.var 3)) (.loc 3) (.and (.cmp .isin (.loc 1) (.loc 5)) (.val (.bin false .band (.bin false .shr (.loc 2) (.loc 4)) (.int 1)))) false (.loc 1)))
 (.cons (.ret (.call (.ref 302) (.cons (.loc 0) (.cons (.loc 4) .nil))))
 .nil))
noncomputable def m__law_tags:MSts:=(.cons (.ret (.bi .tuple false (.cons (.comp false [(3,0),(4,1)] (.var 1) (.loc 1) (.val (.bi .any false (.cons (.comp false [(3,4),(4,1)] (.two (.var 1) (.var 2)) (.and2 (.cmp .isin (.loc 1) (.loc 3)) (.cmp .eq (.loc 2) (.loc 4))) .tt false (.loc 3)) .nil))) false (.tup (.cons (.int 0) (.cons (.int 1) .nil)))) .nil)))
 .nil)
noncomputable def m__law_of:MSts:=(.cons (.asgN 1 (.meth (.loc 0) "state_count" .nil))
 (.cons (.asgN 2 (.lst true .nil))
 (.cons (.asgN 3 (.lst true .nil))
 (.cons (.for_ (.var 4) (.bi .range false (.cons (.loc 1) .nil)) (.cons (.for_ (.two (.var 5) (.var 6)) (.sub (.attr (.loc 0) "moves") (.loc 4)) (.cons (.expr (.lmeth (.loc 2) .append (.cons (.tup (.cons (.loc 4) (.cons (.loc 5) (.cons (.loc 6) .nil)))) .nil)))
 .nil))
 (.cons (.for_ (.var 6) (.sub (.attr (.loc 0) "hops") (.loc 4)) (.cons (.expr (.lmeth (.loc 3) .append (.cons (.tup (.cons (.loc 4) (.cons (.loc 6) .nil))) .nil)))
 .nil))
 .nil)))
 (.cons (.asgN 7 (.comp false [(2,0)] (.var 1) (.tup (.cons (.loc 1) (.cons (.sub (.attr (.loc 2) "tags") (.loc 1)) .nil))) .tt false (.bi .sorted false (.cons (.attr (.loc 0) "tags") .nil))))
 (.cons (.ret (.tup (.cons (.call (.ref 297) (.cons (.loc 1) (.cons (.loc 3) .nil))) (.cons (.loc 2) (.cons (.loc 7) .nil)))))
 .nil))))))
noncomputable def m__law_on_the_way:MSts:=(.cons (.asgT (.three (.var 1) (.var 2) (.var 3)) (.call (.ref 317) (.cons (.loc 0) .nil)))
 (.cons (.asgN 5 (.comp true [] (.three (.var 1) (.var 2) (.var 3)) (.tup (.cons (.loc 1) (.cons (.loc 3) .nil))) .tt false (.loc 2)))
 (.cons (.for_ (.var 4) (.bi .range false (.cons (.bi .len false (.cons (.loc 1) .nil)) .nil)) (.cons (.expr (.lmeth (.loc 5) .extend (.cons (.comp false [(2,4),(3,1)] (.var 1) (.tup (.cons (.loc 2) (.cons (.loc 1) .nil))) (.val (.sub (.sub (.loc 3) (.loc 2)) (.loc 1))) false (.bi .range false (.cons (.bi .len false (.cons (.loc 1) .nil)) .nil))) .nil)))
 .nil))
 (.cons (.asgN 6 (.call (.ref 297) (.cons (.bi .len false (.cons (.loc 1) .nil)) (.cons (.loc 5) .nil))))
 (.cons (.for_ (.var 4) (.bi .range false (.cons (.bi .len false (.cons (.loc 1) .nil)) .nil)) (.cons (.ife (.and (.cmp .ne (.loc 4) (.attr (.loc 0) "first")) (.not (.and (.val (.sub (.sub (.loc 6) (.attr (.loc 0) "first")) (.loc 4))) (.val (.bi .any false (.cons (.comp false [(3,4),(4,6)] (.two (.var 1) (.var 2)) (.sub (.sub (.loc 4) (.loc 3)) (.loc 1)) .tt false (.loc 3)) .nil)))))) (.cons (.ret (.bool false))
 .nil) .nil)
 .nil))
 (.cons (.ret (.bool true))
 .nil))))))
noncomputable def m_law:MSts:=(.cons (.asgN 1 (.lst true (.cons (.bin false .add (.comp false [] (.var 1) (.bi .int false (.cons (.loc 1) .nil)) .tt false (.upto false (.loc 0) (.int 40))) (.lst false (.cons (.int 6) (.cons (.int 21) .nil)))) (.cons (.int 0) (.cons (.int 0) .nil)))))
 (.cons (.asgN 2 (.bin false .add (.int 1) (.call (.ref 292) (.cons (.loc 1) (.cons (.int 6) .nil)))))
 (.cons (.asgN 3 (.call (.ref 92) .nil))
 (.cons (.for_ (.var 4) (.bi .range false (.cons (.loc 2) .nil)) (.cons (.ife (.cmp .ne (.meth (.loc 3) "add_state" .nil) (.loc 4)) (.cons (.ret (.bool false))
 .nil) .nil)
 .nil))
 (.cons (.asgN 5 (.lst true .nil))
 (.cons (.for_ (.var 6) (.bi .range false (.cons (.call (.ref 292) (.cons (.loc 1) (.cons (.int 6) .nil))) .nil)) (.cons (.asgN 4 (.call (.ref 292) (.cons (.loc 1) (.cons (.loc 2) .nil))))
 (.cons (.asgN 7 (.call (.ref 292) (.cons (.loc 1) (.cons (.loc 2) .nil))))
 (.cons (.expr (.meth (.loc 3) "add_hop" (.cons (.loc 4) (.cons (.loc 7) .nil))))
 (.cons (.expr (.lmeth (.loc 5) .append (.cons (.tup (.cons (.loc 4) (.cons (.loc 7) .nil))) .nil)))
 .nil)))))
 (.cons (.asgN 8 (.lst true .nil))
 (.cons (.for_ (.var 6) (.bi .range false (.cons (.call (.ref 292) (.cons (.loc 1) (.cons (.int 4) .nil))) .nil)) (.cons (.asgN 4 (.call (.ref 292) (.cons (.loc 1) (.cons (.loc 2) .nil))))
 (.cons (.ife (.cmp .eq (.comp false [(2,4)] (.var 1) (.loc 1) (.cmp .eq (.sub (.loc 1) (.int 0)) (.loc 2)) false (.loc 8)) (.lst false .nil)) (.cons (.asgN 9 (.call (.ref 292) (.cons (.loc 1) (.cons (.int 2) .nil))))
 (.cons (.expr (.meth (.loc 3) "set_tag" (.cons (.loc 4) (.cons (.loc 9) .nil))))
 (.cons (.expr (.lmeth (.loc 8) .append (.cons (.tup (.cons (.loc 4) (.cons (.loc 9) .nil))) .nil)))
 .nil))) .nil)
 .nil)))
 (.cons (.asgN 10 (.call (.ref 292) (.cons (.loc 1) (.cons (.loc 2) .nil))))
 (.cons (.expr (.meth (.loc 3) "set_first" (.cons (.loc 10) .nil)))
 (.cons (.asgN 11 (.lst true .nil))
 (.cons (.for_ (.var 6) (.bi .range false (.cons (.call (.ref 292) (.cons (.loc 1) (.cons (.int 8) .nil))) .nil)) (.cons (.asgN 4 (.call (.ref 292) (.cons (.loc 1) (.cons (.loc 2) .nil))))
 (.cons (.asgN 12 (.call (.ref 292) (.cons (.loc 1) (.cons (.int 8) .nil))))
 (.cons (.asgN 7 (.call (.ref 292) (.cons (.loc 1) (.cons (.loc 2) .nil))))
 (.cons (.expr (.meth (.loc 3) "add_move" (.cons (.loc 4) (.cons (.loc 12) (.cons (.loc 7) .nil)))))
 (.cons (.expr (.lmeth (.loc 11) .append (.cons (.tup (.cons (.loc 4) (.cons (.loc 12) (.cons (.loc 7) .nil)))) .nil)))
 .nil))))))
 (.cons (.asgN 13 (.call (.ref 297) (.cons (.loc 2) (.cons (.loc 5) .nil))))
 (.cons (.asgN 14 (.comp false [(3,1)] (.var 1) (.bin false .sub (.call (.ref 292) (.cons (.loc 3) (.cons (.int 5) .nil))) (.int 1)) .tt false (.bi .range false (.cons (.int 5) .nil))))
 (.cons (.asgN 15 (.call (.ref 292) (.cons (.loc 1) (.cons (.int 2) .nil))))
 (.cons (.ife (.or (.cmp .ne (.meth (.loc 3) "state_count" .nil) (.loc 2)) (.cmp .ne (.call (.ref 108) (.cons (.loc 3) .nil)) (.bi .tuple false (.cons (.call (.ref 302) (.cons (.loc 13) (.cons (.lst false (.cons (.loc 10) .nil)) .nil))) .nil)))) (.cons (.ret (.bool false))
 .nil) .nil)
 (.cons (.asgN 16 (.meth (.loc 3) "links" .nil))
 (.cons (.for_ (.var 4) (.bi .range false (.cons (.loc 2) .nil)) (.cons (.asgN 17 (.call (.ref 302) (.cons (.loc 13) (.cons (.lst false (.cons (.loc 4) .nil)) .nil))))
 (.cons (.asgN 18 (.comp false [(4,4)] (.three (.var 1) (.var 2) (.var 3)) (.tup (.cons (.loc 2) (.cons (.loc 3) .nil))) (.and (.cmp .eq (.loc 1) (.loc 4)) (.cmp .gt (.loc 2) (.int 0))) false (.loc 11)))
 (.cons (.asgN 20 (.comp false [(4,5),(5,4)] (.two (.var 1) (.two (.var 2) (.var 3))) (.loc 3) (.and (.cmp .eq (.loc 2) (.loc 5)) (.cmp .notin (.tup (.cons (.loc 2) (.cons (.loc 3) .nil))) (.upto false (.loc 4) (.loc 1)))) true (.loc 5)))
 (.cons (.ife (.or (.cmp .ne (.sub (.attr (.loc 3) "moves") (.loc 4)) (.loc 18)) (.cmp .ne (.sub (.attr (.loc 3) "hops") (.loc 4)) (.loc 20))) (.cons (.ret (.bool false))
 .nil) .nil)
 (.cons (.ife (.cmp .ne (.sub (.loc 16) (.loc 4)) (.bin false .add (.comp false [] (.two (.var 1) (.var 2)) (.loc 2) .tt false (.loc 18)) (.loc 20))) (.cons (.ret (.bool false))
 .nil) .nil)
 (.cons (.ife (.or (.cmp .ne (.call (.ref 101) (.cons (.loc 3) (.cons (.lst false (.cons (.loc 4) (.cons (.loc 4) .nil))) .nil))) (.bi .tuple false (.cons (.loc 17) .nil))) (.cmp .ne (.call (.ref 115) (.cons (.loc 3) (.cons (.loc 17) (.cons (.neg 1) .nil)))) (.tup .nil))) (.cons (.ret (.bool false))
 .nil) .nil)
 (.cons (.for_ (.var 21) (.bi .range false (.cons (.int 4) .nil)) (.cons (.ife (.cmp .ne (.call (.ref 115) (.cons (.loc 3) (.cons (.loc 17) (.cons (.loc 21) .nil)))) (.bi .tuple false (.cons (.call (.ref 307) (.cons (.loc 13) (.cons (.loc 11) (.cons (.loc 17) (.cons (.loc 21) .nil))))) .nil))) (.cons (.ret (.bool false))
 .nil) .nil)
 .nil))
 .nil))))))))
 (.cons (.asgN 22 (.call (.ref 285) (.cons (.loc 3) (.cons (.int 3) .nil))))
 (.cons (.asgN 23 (.call (.ref 162) (.cons (.loc 3) .nil)))
 (.cons (.asgT (.three (.var 24) (.var 25) (.var 26)) (.call (.ref 317) (.cons (.loc 23) .nil)))
 (.cons (.asgN 27 (.call (.ref 170) (.cons (.loc 3) (.cons (.int 5) .nil))))
 (.cons (.ife (.or (.not (.val (.call (.ref 322) (.cons (.loc 23) .nil)))) (.cmp .gt (.meth (.loc 23) "state_count" .nil) (.loc 2))) (.cons (.ret (.bool false))
 .nil) .nil)
 (.cons (.asgN 28 (.lst true (.cons (.call (.ref 302) (.cons (.loc 13) (.cons (.lst false (.cons (.loc 10) .nil)) .nil))) .nil)))
 (.cons (.asgN 29 (.lst true (.cons (.int 0) .nil)))
 (.cons (.asgN 30 (.lst true (.cons (.call (.ref 302) (.cons (.loc 24) (.cons (.lst false (.cons (.attr (.loc 23) "first") .nil)) .nil))) .nil)))
 (.cons (.asgN 31 (.lst true (.cons (.lst false .nil) .nil)))
 (.cons (.asgN 19 (.int 0))
 (.cons (.while_ (.cmp .lt (.loc 19) (.bi .len false (.cons (.loc 28) .nil))) (.cons (.asgN 32 (.call (.ref 312) (.cons (.loc 8) (.cons (.sub (.loc 28) (.loc 19)) .nil))))
 (.cons (.ife (.or (.cmp .ne (.loc 32) (.ite (.cmp .ne (.sub (.loc 29) (.loc 19)) (.gint (-1))) (.sub (.attr (.loc 22) "tags") (.sub (.loc 29) (.loc 19))) (.tup .nil))) (.cmp .ne (.call (.ref 122) (.cons (.loc 3) (.cons (.sub (.loc 28) (.loc 19)) .nil))) (.loc 32))) (.cons (.ret (.bool false))
 .nil) .nil)
 (.cons (.ife (.cmp .ne (.call (.ref 312) (.cons (.loc 26) (.cons (.sub (.loc 30) (.loc 19)) .nil))) (.loc 32)) (.cons (.ret (.bool false))
 .nil) .nil)
 (.cons (.ife (.cmp .ne (.call (.ref 129) (.cons (.loc 27) (.cons (.rev false (.sub (.loc 31) (.loc 19))) .nil))) (.ite (.cmp .ne (.loc 32) (.tup .nil)) (.tup (.cons (.int 5) .nil)) (.tup .nil))) (.cons (.ret (.bool false))
 .nil) .nil)
 (.cons (.for_ (.var 21) (.bi .range false (.cons (.int 3) .nil)) (.cons (.asgN 17 (.call (.ref 307) (.cons (.loc 13) (.cons (.loc 11) (.cons (.sub (.loc 28) (.loc 19)) (.cons (.loc 21) .nil))))))
 (.cons (.asgN 7 (.ite (.cmp .ne (.sub (.loc 29) (.loc 19)) (.gint (-1))) (.sub (.sub (.attr (.loc 22) "rows") (.sub (.loc 29) (.loc 19))) (.loc 21)) (.gint (-1))))
 (.cons (.asgN 33 (.call (.ref 307) (.cons (.loc 24) (.cons (.loc 25) (.cons (.sub (.loc 30) (.loc 19)) (.cons (.loc 21) .nil))))))
 (.cons (.ife (.cmp .notin (.tup (.cons (.loc 17) (.cons (.loc 7) (.cons (.loc 33) .nil)))) (.zip3 false (.cons (.loc 28) (.cons (.loc 29) (.cons (.loc 30) .nil))))) (.cons (.expr (.lmeth (.loc 28) .append (.cons (.loc 17) .nil)))
 (.cons (.expr (.lmeth (.loc 29) .append (.cons (.loc 7) .nil)))
 (.cons (.expr (.lmeth (.loc 30) .append (.cons (.loc 33) .nil)))
 (.cons (.expr (.lmeth (.loc 31) .append (.cons (.bin false .add (.sub (.loc 31) (.loc 19)) (.lst false (.cons (.loc 21) .nil))) .nil)))
 .nil)))) .nil)
 .nil)))))
 (.cons (.asgN 19 (.bin false .add (.loc 19) (.int 1)))
 .nil)))))))
 (.cons (.ife (.cmp .ne (.comp false [(2,29)] (.var 1) (.loc 1) (.cmp .notin (.loc 1) (.loc 2)) false (.bi .range false (.cons (.meth (.loc 22) "state_count" .nil) .nil))) (.lst false .nil)) (.cons (.ret (.bool false))
 .nil) .nil)
 (.cons (.asgN 34 (.comp false [(2,8),(3,3)] (.var 1) (.loc 1) (.or (.cmp .ne (.sub (.attr (.loc 3) "moves") (.loc 1)) (.lst false .nil)) (.cmp .isin (.loc 1) (.comp false [] (.two (.var 1) (.var 2)) (.loc 1) .tt false (.loc 2)))) false (.bi .range false (.cons (.loc 2) .nil))))
 (.cons (.asgN 35 (.lst true .nil))
 (.cons (.for_ (.var 17) (.loc 28) (.cons (.asgN 36 (.comp false [(2,34)] (.var 1) (.loc 1) (.cmp .isin (.loc 1) (.loc 2)) false (.loc 17)))
 (.cons (.ife (.cmp .notin (.loc 36) (.loc 35)) (.cons (.expr (.lmeth (.loc 35) .append (.cons (.loc 36) .nil)))
 .nil) .nil)
 .nil)))
 (.cons (.ife (.cmp .ne (.meth (.loc 22) "state_count" .nil) (.bi .len false (.cons (.comp false [(2,35)] (.var 1) (.loc 1) (.or (.cmp .ne (.loc 1) (.lst false .nil)) (.cmp .eq (.loc 1) (.sub (.loc 2) (.int 0)))) false (.loc 35)) .nil))) (.cons (.ret (.bool false))
 .nil) .nil)
 (.cons (.asgN 37 (.lst true .nil))
 (.cons (.asgN 38 (.call (.ref 302) (.cons (.loc 13) (.cons (.lst false (.cons (.loc 10) .nil)) .nil))))
 (.cons (.for_ (.var 21) (.from_ false (.loc 14) (.loc 15)) (.cons (.asgN 38 (.ite (.cmp .ge (.loc 21) (.int 0)) (.call (.ref 307) (.cons (.loc 13) (.cons (.loc 11) (.cons (.loc 38) (.cons (.loc 21) .nil))))) (.lst false .nil)))
 (.cons (.expr (.lmeth (.loc 37) .append (.cons (.call (.ref 312) (.cons (.loc 8) (.cons (.loc 38) .nil))) .nil)))
 .nil)))
 (.cons (.asgN 32 (.rev false (.comp false [(2,15),(3,37)] (.var 1) (.tup (.cons (.bin false .add (.bin false .add (.loc 2) (.loc 1)) (.int 1)) (.cons (.sub (.loc 3) (.loc 1)) .nil))) (.cmp .ne (.sub (.loc 3) (.loc 1)) (.tup .nil)) false (.bi .range false (.cons (.bi .len false (.cons (.loc 37) .nil)) .nil)))))
 (.cons (.ife (.or (.cmp .ne (.call (.ref 136) (.cons (.loc 3) (.cons (.loc 14) (.cons (.loc 15) .nil)))) (.loc 32)) (.cmp .ne (.call (.ref 143) (.cons (.loc 3) (.cons (.loc 14) (.cons (.loc 15) .nil)))) (.ite (.cmp .ne (.loc 32) (.lst false .nil)) (.sub (.loc 32) (.int 0)) .none))) (.cons (.ret (.bool false))
 .nil) .nil)
 (.cons (.ret (.cmp .eq (.call (.ref 129) (.cons (.loc 3) (.cons (.from_ false (.loc 14) (.loc 15)) .nil))) (.sub (.loc 37) (.neg 1))))
 .nil))))))))))))))))))))))))))))))))))))))))
end Mine
namespace Mine
noncomputable def globs:List (Str×Nat):=[("bits",28),("Nfa",92),("closure",101),("begin",108),("step",115),("tags_of",122),("simulate",129),("endings",136),("longest",143),("spread",150),("turned",155),("pruned",162),("mirrored_nfa",170),("Subsets",222),("Dfa",276),("subset_dfa",285),("_law_draw",292),("_law_reach",297),("_law_wide",302),("_law_behind",307),("_law_tags",312),("_law_of",317),("_law_on_the_way",322)]
noncomputable def attrs:List (Nat×List Str):=[(92,["moves", "hops", "tags", "first"]),(222,["nfa", "kept"]),(276,["rows", "tags"])]
noncomputable def meths:List (Nat×List (Str×Nat)):=[(92,[("add_state",49),("add_move",56),("add_hop",63),("set_first",70),("set_tag",77),("state_count",84),("links",89)]),
 (222,[("closure_of",191),("begin",198),("ways",205),("after",212),("tags",219)]),(276,[("state_count",254)])]
noncomputable def I0:Info where
 gi x:=if x = "DEAD" then some (-1) else none
 gf x:=(globs.lookup x).map .ref
 ok a n:=match attrs.lookup a with | some l=>l.contains n | none=>false
 mt a n:=(meths.lookup a).bind fun l=>l.lookup n
theorem ok_moves:I0.ok 92 ("moves":Str)=true:=by decide
theorem ok_hops:I0.ok 92 ("hops":Str)=true:=by decide
theorem ok_tags:I0.ok 92 ("tags":Str)=true:=by decide
theorem ok_first:I0.ok 92 ("first":Str)=true:=by decide
theorem ok_nfa:I0.ok 222 ("nfa":Str)=true:=by decide
theorem ok_kept:I0.ok 222 ("kept":Str)=true:=by decide
theorem ok_rows:I0.ok 276 ("rows":Str)=true:=by decide
theorem ok_dtags:I0.ok 276 ("tags":Str)=true:=by decide
end Mine
namespace Mine
noncomputable def fdAt (K:Frag) (a:Addr):FuncData:=match K.lookup a with | some o=>(match o.data with | .func f=>f | _=>default) | none=>default
noncomputable def bodyAt (K:Frag) (a:Addr):List Stmt:=match (fdAt K a).body with | .stmts b=>b | _=>[]
noncomputable def fns:List (Addr×List Str×MSts):=[
 (28,(["mask"]:List Str),m_bits),
 (42,(["self"]:List Str),m_Nfa_init),
 (49,(["self"]:List Str),m_Nfa_add_state),
 (56,(["self", "state", "mask", "goal"]:List Str),m_Nfa_add_move),
 (63,(["self", "state", "goal"]:List Str),m_Nfa_add_hop),
 (70,(["self", "state"]:List Str),m_Nfa_set_first),
 (77,(["self", "state", "tag"]:List Str),m_Nfa_set_tag),
 (84,(["self"]:List Str),m_Nfa_state_count),
 (89,(["self"]:List Str),m_Nfa_links),
 (101,(["nfa", "states"]:List Str),m_closure),
 (108,(["nfa"]:List Str),m_begin),
 (115,(["nfa", "states", "number"]:List Str),m_step),
 (122,(["nfa", "states"]:List Str),m_tags_of),
 (129,(["nfa", "numbers"]:List Str),m_simulate),
 (136,(["nfa", "numbers", "at"]:List Str),m_endings),
 (143,(["nfa", "numbers", "at"]:List Str),m_longest),
 (150,(["links", "seeds"]:List Str),m_spread),
 (155,(["links"]:List Str),m_turned),
 (162,(["nfa"]:List Str),m_pruned),
 (170,(["nfa", "tag"]:List Str),m_mirrored_nfa),
 (184,(["self", "nfa"]:List Str),m_Subsets_init),
 (191,(["self", "state"]:List Str),m_Subsets_closure_of),
 (198,(["self"]:List Str),m_Subsets_begin),
 (205,(["self", "mask"]:List Str),m_Subsets_ways),
 (212,(["self", "ways", "number"]:List Str),m_Subsets_after),
 (219,(["self", "mask"]:List Str),m_Subsets_tags),
 (240,(["self", "rows", "tags"]:List Str),m_Dfa_init),
 (254,(["self"]:List Str),m_Dfa_state_count),
 (285,(["nfa", "count"]:List Str),m_subset_dfa),
 (292,(["pen", "many"]:List Str),m__law_draw),
 (297,(["count", "hops"]:List Str),m__law_reach),
 (302,(["table", "states"]:List Str),m__law_wide),
 (307,(["table", "roads", "states", "number"]:List Str),m__law_behind),
 (312,(["marks", "states"]:List Str),m__law_tags),
 (317,(["nfa"]:List Str),m__law_of),
 (322,(["nfa"]:List Str),m__law_on_the_way),
 (327,(["script"]:List Str),m_law)]
noncomputable def okFn (K:Frag) (a:Addr) (params:List Str):Bool :=
 (match K.lookup a with | some o=>(match o.data with | .func _=>true | _=>false) | none=>false) &&
 (match (fdAt K a).body with | .stmts _=>true | _=>false) && (fdAt K a).closure.isEmpty &&
 (match (fdAt K a).code with | .ref c=>(match K.lookup c with | some o=>(match o.data with | .fields vs=>(match (vs[1]?:Option Value) with | some (Value.str q _)=>q == (fdAt K a).qualname | _=>false) | _=>false) | none=>false) | _=>false) &&
 (fdAt K a).globals == mainGlobals && (fdAt K a).builtins == builtinsNs && !(fdAt K a).scope.isCoroutine && !(fdAt K a).scope.isGenerator && (fdAt K a).scope.kind == .function &&
 ((params.zipIdx).all fun p=>(fdAt K a).scope.names[p.2]? == some (p.1,.local) || (fdAt K a).scope.names[p.2]? == some (p.1,.cell)) &&
 decide (((fdAt K a).scope.names.map (·.1)).Nodup) && (fdAt K a).scope.names.all fun p=>p.2 != .free
noncomputable def nsEs (K:Frag):Array DictEntry:=match K.lookup mainGlobals with | some o=>(match o.data with | .dict es _=>es | _ => #[]) | none => #[]
noncomputable def mgK (K:Frag) (x:Str):Option Value:=nsFind (nsEs K) x
noncomputable def okNs (K:Frag):Bool:=(match K.lookup mainGlobals with | some o=>(match o.data with | .dict _ _=>true | _=>false) | none=>false) && (nsEs K).toList.all fun e=>match e.key with | .str _ _=>true | _=>false
noncomputable def restOk (K:Frag):List Bool:=[okNs K,(match mgK K "DEAD" with | some (.int i _)=>i == -1 | _=>false),(globs.all fun p=>mgK K p.1 == some (.ref p.2) && keepIn K (.ref p.2)),
 (attrs.all fun p=>p.2.all fun n=>attrK K p.1 n),(meths.all fun p=>p.2.all fun q=>methK K p.1 q.1 q.2),classK K 92 42,classK K 222 184,classK K 276 240,
 ([Bi.len,.range,.sorted,.tuple,.list,.any,.abs,.int].all fun B=>mgK K B.name == none),mgK K "enumerate" == none,mgK K "zip" == none,nsIn K mainGlobals "law" == some (some (.ref 327))]
noncomputable def allB (K:Frag):Bool:=(fns.all fun e=>okFn K e.1 e.2.1 && okB I0 (fdAt K e.1).scope e.2.2 (bodyAt K e.1)) && (restOk K).all id
noncomputable def bndK (K:Frag) (S:Setting) (v:Nat→Value):List (Option (List (Str×Value))):=fns.map fun e=>peek K S (bindArgs (fdAt K e.1) ⟨(List.range e.2.1.length).map v,[]⟩)
noncomputable def bndG (v:Nat→Value):List (Option (List (Str×Value))):=fns.map fun e=>some (e.2.1.zip ((List.range e.2.1.length).map v))
structure KFacts (K:Frag):Prop where
 b:allB K=true
 p:bndK K=fun _=>bndG
noncomputable def fragGo:Nat→List Obj→Frag
 | _,[]=>[]
 | i,o::r=>match o.data with
  | .freed=>fragGo (Nat.succ i) r
  | _=>(i,o)::fragGo (Nat.succ i) r
noncomputable def fragOf (h:Heap):Frag:=fragGo 0 h.objs.toList
theorem mem_lookup_n {β:Type}:∀ {l:List (Nat×β)} {i:Nat} {j:β},l.lookup i=some j→(i,j)∈l
 | (a,c)::r,i,j,h=>by
  replace h:=List.lookup_cons.symm.trans h
  by_cases q:(i == a)=true
  ·rw [q] at h;cases h
   rw [beq_iff_eq.mp q];exact List.mem_cons_self
  ·simp only [q] at h
   exact List.mem_cons_of_mem _ (mem_lookup_n h)
set_option tactic.hygienic true in
theorem fragGo_in:∀ (l:List Obj) (i a:Nat) (o:Obj),(a,o)∈fragGo i l→i≤a∧l[a - i]?=some o∧o.data≠ .freed
 | [],_,_,_,h=>nomatch h
 | x::r,i,a,o,h=>by
  have next:(a,o)∈fragGo (Nat.succ i) r→i≤a∧(x::r)[a - i]?=some o∧o.data≠ .freed:=fun h=>by
   obtain ⟨h1,h2,h3⟩:=fragGo_in r (Nat.succ i) a o h
   refine ⟨Nat.le_of_succ_le h1,?_,h3⟩
   rw [show a - i=(a - Nat.succ i)+1 by have:i+1≤a:=h1;show a - i=a - (i+1)+1;exact zh40 h1];exact h2
  unfold fragGo at h
  split at h
  ·exact next h
  ·rename_i hd
   rcases List.mem_cons.mp h with q | q
   ·cases q
    exact ⟨Nat.le_refl _,by rw [Nat.sub_self];rfl,hd⟩
   ·exact next q
theorem fragOf_in (h:Heap):(fragOf h).In h:=fun a o e=>by
 obtain ⟨_,h2,h3⟩:=fragGo_in _ _ _ _ (mem_lookup_n e)
 rw [Nat.sub_zero,Array.getElem?_toList] at h2
 unfold Heap.get?
 rw [h2]
 obtain ⟨c,d,dt,sl⟩:=o
 cases dt<;>first | rfl | exact absurd rfl h3
noncomputable def myHook:Hook where
 α:=Bool×(Setting→(Nat→Value)→List (Option (List (Str×Value))))
 obs s:=(allB (fragOf s.heap),bndK (fragOf s.heap))
 val _:=(true,fun _=>bndG)
 says _ h:=∃ K,Frag.In K h∧KFacts K
 of _ s e:=⟨_,fragOf_in _,congrArg Prod.fst e,congrArg Prod.snd e⟩
 keeps _ _ _:=fun ⟨K,h1,h2⟩ k=>⟨K,h1.keeps k,h2⟩
end Mine
namespace Mine
theorem leftO_run {p q:Program} {loose:List Str} {Xt:Shared→Bool} {α:Type} {Yf:Shared→α} {Ya:World→α} {N:Nat} {g0:Bool} {H₀:Params→Heap} {gs₀:Array GenState} {d₀:Drawn} {k₀ m₀:Nat} {ann:Option Value} {M:Nat}
  (open_:∀ w:World,(fencedOpening treeTable p w N).map (fun s=>(s.heap,s.gens,s.drawn,s.toks))=some (H₀ w.params,gs₀,d₀,k₀))
  (size:∀ w:World,((H₀ w.params).isNs mainGlobals && gs₀.size == 0,(H₀ w.params).objs.size,(H₀ w.params).nsMap mainGlobals "__annotations__")=(true,m₀,ann))
  (run:∀ (w:World) (os:OsState),(topRun treeTable p w m₀ ann M ⟨H₀ w.params,gs₀,d₀,k₀,os⟩ (topStub p)).map (fun s=>((staticsOk (importedModules p.main.body) (H₀ w.params) s.heap && namesBound p s.heap && gensDone s && laidKept (H₀ w.params) s.heap),
    openSeen q loose (importedModules p.main.body) Xt g0 s,Yf s))=some (true,openGood q loose,Ya w)) (le:Nat.ble M N=true):LeftO p q loose Xt Yf Ya N g0:=fun w=>by
 obtain ⟨⟨h,gs,d,k,os⟩,e,e'⟩:=Option.map_eq_some_iff.mp (open_ w)
 obtain ⟨rfl,rfl,rfl,rfl⟩:h=H₀ w.params∧gs=gs₀∧d=d₀∧k=k₀:=by simpa using e'
 obtain ⟨z1,z2,z3⟩:_∧_∧_:=by simpa only [Prod.mk.injEq] using size w
 obtain ⟨s,hs,l⟩:=Option.map_eq_some_iff.mp (run w os)
 have r:=topRun_mono (N - M) _ _ _ _ hs
 rw [show M+(N - M)=N by have:=Nat.le_of_ble_eq_true le;exact Nat.add_sub_of_le this] at r
 have t:topFrom treeTable p w N ⟨H₀ w.params,gs,d,k,os⟩=some s:=by
  unfold topFrom
  dsimp only
  rw [z1,z2,z3,r]
  show (match staticsOk (importedModules p.main.body) (H₀ w.params) s.heap && namesBound p s.heap && gensDone s && laidKept (H₀ w.params) s.heap with | true=>_ | false=>_)=_
  rw [show (staticsOk (importedModules p.main.body) (H₀ w.params) s.heap && namesBound p s.heap && gensDone s && laidKept (H₀ w.params) s.heap)=true from congrArg Prod.fst l]
 unfold openEnds
 rw [e]
 show (topFrom treeTable p w N _).map _=_
 rw [t]
 exact congrArg some (congrArg Prod.snd l)
abbrev R0:OpenRow:=PySem.Challenge.rw_nn0360_01.row
abbrev P0:Program:=PySem.Challenge.rw_nn0360_01.row.prog
noncomputable def Q0:Program:=view P0 [29]
noncomputable def loose0:List Str:=["_wall", "bits", "Nfa", "closure", "begin", "step", "tags_of", "simulate", "endings", "longest", "spread", "turned", "pruned", "mirrored_nfa", "Subsets", "DEAD", "Dfa", "subset_dfa", "_law_draw", "_law_reach", "_law_wide", "_law_behind", "_law_tags", "_law_of", "_law_on_the_way"]
noncomputable def Xt0 (s:Shared):Bool:=recOk R0.records s
theorem lawS:(defOf Q0 R0.name).isSome=true:=by kernel_rfl
noncomputable def lawD:DefRec:=((defOf Q0 R0.name).get lawS).1
theorem runT (w:World) (os:OsState):(Fast.tw14082659384304107361 Fast.tw14364793385576792824 P0 w 11 (some (.ref 6)) 1944 ⟨boot_heap w.params,#[],boot_drawn,boot_toks,os⟩ (topStub P0)).map (fun s=>((staticsOk (importedModules P0.main.body) (boot_heap w.params) s.heap && namesBound P0 s.heap && gensDone s && laidKept (boot_heap w.params) s.heap),
    Fast.tw4187177175401517315 Q0 loose0 (importedModules P0.main.body) Xt0 true s,myHook.obs s))=some (true,openGood Q0 loose0,myHook.val w):=by kernel_rfl
theorem szT (w:World):((boot_heap w.params).isNs mainGlobals && (#[]:Array GenState).size == 0,(boot_heap w.params).objs.size,(boot_heap w.params).nsMap mainGlobals "__annotations__")=(true,11,some (Value.ref 6)):=by kernel_rfl
theorem left:LeftO P0 Q0 loose0 Xt0 myHook.obs myHook.val 3970 :=
 leftO_run (H₀:=boot_heap) (M:=1944) (boot_open (by kernel_rfl) rfl fun s=>rfl) szT (fun w os=>by
  have:=runT w os
  rw [←Fast.te14082659384304107361,←Fast.te14364793385576792824,←Fast.te4187177175401517315] at this
  exact this) rfl
theorem said:PySem.Challenge.rw_nn0360_01.wellSaid=true:=by
 rw [Fast.te9446332074065402090];kernel_rfl
theorem whole {J:Prop} (h:J→WalkO Q0 loose0 (fun _ _=>True) myHook.says R0.toRowW lawD [] fun f vs=>PySem.call f vs) (j:J):PySem.Challenge.rw_nn0360_01.Holds :=
 holds_law said fun sd=>holds_open (q:=Q0) (loose:=loose0) (Xt:=Xt0) (XP:=fun _ _=>True) (Yf:=myHook.obs) (Ya:=myHook.val) (YP:=myHook.says) (d:=lawD) (kwd:=[]) (N:=3970) left myHook.of myHook.keeps (fun _ _=>trivial) (fun _ _ _ _ _=>trivial)
  (by kernel_rfl) (by kernel_rfl) (by kernel_rfl) (fun s e=>recFacts_of e) rfl sd (by kernel_rfl) ⟨rfl,rfl,rfl,rfl,rfl,by decide +kernel⟩ ⟨[.list []],by decide +kernel,by decide +kernel⟩ (h j)
end Mine
namespace Mine
set_option tactic.hygienic true in
theorem mkFn {prog:Program} {w:World} {h₀:Heap} {K:Frag} {a:Addr} {params:List Str} (X:K.In h₀) (nl:h₀.NoLimit) (hc:okFn K a params=true)
  (hb:∀ S (vals:List Value),vals.length=params.length→peek K S (bindArgs (fdAt K a) ⟨vals,[]⟩)=some (params.zip vals)):FnOk prog w h₀ a (fdAt K a) (bodyAt K a) params:=by
 unfold okFn at hc
 simp only [Bool.and_eq_true,beq_iff_eq,Bool.not_eq_true',List.all_eq_true,Bool.or_eq_true,decide_eq_true_eq,bne_iff_ne] at hc
 obtain ⟨⟨⟨⟨⟨⟨⟨⟨⟨⟨⟨c1,c2⟩,c3⟩,c4⟩,c5⟩,c6⟩,c7⟩,c8⟩,c9⟩,c10⟩,c11⟩,c12⟩:=hc
 refine ⟨?_,?_,?_,?_,c5,c6,nl,fun A E s vals Q hk hl hq => ?_,c7,c8,c9,fun i x hi => ?_,c11,fun x k m=>c12 _ m⟩
 ·split at c1
  ·rename_i o ho
   refine ⟨o,X a o ho,?_⟩
   unfold fdAt
   rw [ho]
   dsimp only
   split at c1
   ·rename_i f hf;rw [hf]
   ·cases c1
  ·cases c1
 ·unfold bodyAt
  split at c2
  ·rename_i b hb;rw [hb]
  ·cases c2
 ·exact List.isEmpty_iff.mp c3
 ·split at c4
  ·rename_i c hc
   split at c4
   ·rename_i o ho
    split at c4
    ·rename_i vs hv
     split at c4
     ·rename_i q t hq
      exact ⟨c,o,vs,t,hc,X c o ho,hv,by rw [hq,beq_iff_eq.mp c4]⟩
     ·cases c4
    ·cases c4
   ·cases c4
  ·cases c4
 ·exact kp_binds (X.keeps hk) (fun S=>hb S vals hl) _ _ _ _ hq
 ·have:=c10 (x,i) (by rw [List.mem_iff_getElem?];exact ⟨i,by rw [List.getElem?_zipIdx,hi];simp⟩)
  exact this
theorem range_map_get {α:Type} [Inhabited α]:∀ (l:List α),(List.range l.length).map (fun i=>l[i]?.getD default)=l:=fun l=>by
 apply List.ext_getElem?
 intro i
 rw [List.getElem?_map]
 by_cases h:i<l.length
 ·rw [List.getElem?_range h,List.getElem?_eq_getElem h];simp [List.getElem?_eq_getElem h]
 ·rw [List.getElem?_eq_none (by simpa using h),List.getElem?_eq_none (by simpa using h)];rfl
theorem fnT {K:Frag} (F:KFacts K) (i:Nat) {e:Addr×List Str×MSts} (hi:fns[i]?=some e):okFn K e.1 e.2.1=true∧okB I0 (fdAt K e.1).scope e.2.2 (bodyAt K e.1)=true:=by
 have h:=F.b
 unfold allB at h
 rw [Bool.and_eq_true,List.all_eq_true] at h
 exact Bool.and_eq_true_iff.mp (h.1 e (List.mem_of_getElem? hi))
theorem bndT {K:Frag} (F:KFacts K) (i:Nat) {e:Addr×List Str×MSts} (hi:fns[i]?=some e) (S:Setting) (vals:List Value) (hl:vals.length=e.2.1.length):peek K S (bindArgs (fdAt K e.1) ⟨vals,[]⟩)=some (e.2.1.zip vals):=by
 have h:=congrArg (fun l=>l[i]?) (congrFun (congrFun F.p S) fun i=>vals[i]?.getD default)
 simp only [bndK,bndG,List.getElem?_map,hi,Option.map_some] at h
 rw [←hl,range_map_get] at h
 exact Option.some.inj h
theorem fnO {prog:Program} {w:World} {h₀:Heap} {K:Frag} (F:KFacts K) (X:K.In h₀) (nl:h₀.NoLimit) (i:Nat) {e:Addr×List Str×MSts} (hi:fns[i]?=some e):FnOk prog w h₀ e.1 (fdAt K e.1) (bodyAt K e.1) e.2.1 :=
 mkFn X nl (fnT F i hi).1 (bndT F i hi)
theorem restT {K:Frag} (F:KFacts K) (i:Nat) {b:Bool} (hi:(restOk K)[i]?=some b):b=true:=by
 have h:=F.b
 unfold allB at h
 rw [Bool.and_eq_true,List.all_eq_true (p:=id)] at h
 exact h.2 b (List.mem_of_getElem? hi)
end Mine
namespace Mine
theorem ck_bb (B:Bi):bootBuiltins B.name=some B.val:=by cases B<;>kernel_rfl
theorem ck_be:bootBuiltins ("enumerate":Str)=some (.type "enumerate"):=by kernel_rfl
theorem ck_bz:bootBuiltins ("zip":Str)=some (.type "zip"):=by kernel_rfl
set_option tactic.hygienic true in
theorem ns_K {K:Frag} {h:Heap} (X:K.In h) (hc:okNs K=true):h.Ns mainGlobals (mgK K):=by
 unfold okNs at hc
 simp only [Bool.and_eq_true,List.all_eq_true] at hc
 obtain ⟨c1,c2⟩:=hc
 split at c1
 ·rename_i o ho
  split at c1
  ·rename_i es ep hd
   have e:nsEs K=es:=by unfold nsEs;rw [ho];dsimp only;rw [hd]
   refine ⟨o,es,ep,X _ _ ho,hd,fun x hx => ?_,fun name=>by unfold mgK;rw [e]⟩
   have:=c2 x (by rw [e];exact Array.mem_toList_iff.mpr hx)
   split at this
   ·rename_i n t hk;exact ⟨n,t,hk⟩
   ·cases this
  ·cases c1
 ·cases c1
theorem lookup_all {β:Type} {l:List (Str×β)} {p:Str×β→Bool} (h:l.all p=true) {x:Str} {y:β} (e:l.lookup x=some y):p (x,y)=true:=List.all_eq_true.mp h _ (PySem.mem_of_lookup e)
theorem lookup_allN {β:Type}:∀ {l:List (Nat×β)} {p:Nat×β→Bool} (h:l.all p=true) {x:Nat} {y:β} (e:l.lookup x=some y),p (x,y)=true
 | (a,c)::r,p,h,x,y,e=>by
  rw [List.all_cons,Bool.and_eq_true] at h
  replace e:=List.lookup_cons.symm.trans e
  by_cases q:(x == a)=true
  ·rw [q] at e;cases e;rw [beq_iff_eq.mp q];exact h.1
  ·simp only [q] at e;exact lookup_allN h.2 e
set_option tactic.hygienic true in
theorem goodOf {prog:Program} {w:World} {h₀:Heap} {mb:Str→Option Value} {Γ:Value→PC} {b:Nat} {K:Frag} (F:KFacts K) (X:K.In h₀) (hb:h₀.Ns builtinsNs mb) (hbi:∀ x:Str,x ≠ "__name__"→mb x=bootBuiltins x)
  (hm:∃ o,h₀.get? sysModules=some o) (hc:∀ f,CallOk prog w h₀ b f (Γ f)) (hz:ZipOk prog w h₀ b):Good prog w h₀ K I0 Γ b:=by
 have N:=ns_K X (restT F 0 rfl)
 have cb:=restT F 8 rfl
 simp only [List.all_eq_true,beq_iff_eq] at cb
 refine ⟨hm,X,fun x i e => ?_,fun x f e => ?_,fun B => ?_,?_,fun C n e => ?_,fun C n f e => ?_,hc,hz⟩
 ·have e:(if x = "DEAD" then some (-1:Int) else none)=some i:=e
  split at e
  ·rename_i hx
   cases e
   subst hx
   have:=restT F 1 rfl
   split at this
   ·rename_i i t hh
    rw [←beq_iff_eq.mp this]
    exact ⟨t,_,_,N,hb,.inl hh⟩
   ·cases this
  ·cases e
 ·obtain ⟨a,h1,h2⟩:=Option.map_eq_some_iff.mp (show (globs.lookup x).map .ref=some f from e)
  subst h2
  have:=lookup_all (restT F 2 rfl) h1
  simp only [Bool.and_eq_true,beq_iff_eq] at this
  exact ⟨⟨_,_,N,hb,.inl this.1⟩,keep_K X this.2⟩
 ·refine ⟨_,_,N,hb,.inr ⟨cb B (by cases B<;>simp),?_⟩⟩
  rw [hbi _ (by cases B<;>decide)]
  exact ck_bb B
 ·refine ⟨_,_,N,hb,.inr ⟨beq_iff_eq.mp (restT F 9 rfl),?_⟩⟩
  rw [hbi _ (by decide)]
  exact ck_be
 ·have e:(match attrs.lookup C with | some l=>l.contains n | none=>false)=true:=e
  split at e
  ·rename_i l hl
   exact List.all_eq_true.mp (lookup_allN (restT F 3 rfl) hl) n (by simpa using e)
  ·cases e
 ·obtain ⟨l,h1,h2⟩:=Option.bind_eq_some_iff.mp (show (meths.lookup C).bind (fun l=>l.lookup n)=some f from e)
  exact lookup_all (lookup_allN (restT F 4 rfl) h1) h2
theorem gv_zip {h₀:Heap} {mb:Str→Option Value} {K:Frag} (F:KFacts K) (X:K.In h₀) (hb:h₀.Ns builtinsNs mb) (hbi:∀ x:Str,x ≠ "__name__"→mb x=bootBuiltins x):GV h₀ ("zip":Str) (.type "zip"):=by
 refine ⟨_,_,ns_K X (restT F 0 rfl),hb,.inr ⟨beq_iff_eq.mp (restT F 10 rfl),?_⟩⟩
 rw [hbi _ (by decide)]
 exact ck_bz
end Mine
namespace Mine
noncomputable def MonoP {β:Type} (P:PT β):Prop:=∀ σ (Q Q':β→MS→Prop),(∀ x σ,Q x σ→Q' x σ)→P σ Q→P σ Q'
noncomputable def MonoC (C:PC):Prop:=∀ l lv (Q Q':V→LM→Prop),(∀ v lv,Q v lv→Q' v lv)→C l lv Q→C l lv Q'
theorem MonoP.at {β:Type} {P:PT β} (h:MonoP P) {σ:MS} {Q Q':β→MS→Prop} (p:P σ Q) (k:∀ x σ,Q x σ→Q' x σ):P σ Q':=h σ Q Q' k p
theorem mono_mkL (m:Bool) (l:List V):MonoP (mkL m l):=fun σ Q Q' k h=>by
 cases m with
 | true=>exact fun a ha=>k _ _ (h a ha)
 | false=>exact k _ _ h
theorem mono_mkD (l:List (Int×V)):MonoP (mkD l):=fun σ Q Q' k h a ha=>k _ _ (h a ha)
theorem mono_binP (m:Bool) (op:BOp) (u v:V):MonoP (binP m op u v):=fun σ Q Q' k h=>by
 have c:∀ {v},BinC m op u v σ Q→BinC m op u v σ Q':=fun h=>by
  obtain ⟨h1,l,l',h2,h3,h4,h6⟩:=h
  exact ⟨h1,l,l',h2,h3,h4,(mono_mkL m _).at h6 k⟩
 cases v with
 | int j =>
  have r:BinR m op u j σ Q→BinR m op u j σ Q':=fun h=>by
   obtain ⟨h1,l,h2,h3,h4,h5,h6⟩:=h
   exact ⟨h1,l,h2,h3,h4,h5,(mono_mkL m _).at h6 k⟩
  cases u with
  | int i=>exact ⟨h.1,k _ _ h.2⟩
  | _=>exact r h
 | _=>exact c h
theorem mono_truthP (v:V):MonoP (truthP v):=fun σ Q Q' k h=>by
 cases v<;>(simp only [truthP] at h ⊢;first
  | exact k _ _ h
  | exact ⟨h.1,k _ _ h.2⟩
  | (obtain ⟨l,h1,h2,h3⟩:=h;exact ⟨l,h1,h2,k _ _ h3⟩))
theorem mono_cmpP (op:COp) (u v:V):MonoP (cmpP op u v):=fun σ Q Q' k h=>by
 cases op<;>(simp only [cmpP] at h ⊢;first
  | exact ⟨h.1,h.2,k _ _ h.3⟩
  | (obtain ⟨i,j,h1,h2,h3⟩:=h;exact ⟨i,j,h1,h2,k _ _ h3⟩)
  | (exact h.imp (fun ⟨h1,l,h2,h3,h4⟩=>⟨h1,l,h2,h3,k _ _ h4⟩) fun ⟨i,kvs,h1,h2,h3⟩=>⟨i,kvs,h1,h2,k _ _ h3⟩))
theorem mono_idxP (o i:V):MonoP (idxP o i):=fun σ Q Q' k h=>by
 obtain ⟨j,h1,h⟩:=h
 rcases h with ⟨l,x,h2,h3,h4,h5⟩ | ⟨kvs,x,h2,h3,h4⟩
 ·exact ⟨j,h1,.inl ⟨l,x,h2,h3,h4,k _ _ h5⟩⟩
 ·exact ⟨j,h1,.inr ⟨kvs,x,h2,h3,k _ _ h4⟩⟩
theorem mono_cutP (m:Bool) (c:Cut) (o:V) (j:Int):MonoP (cutP m c o j):=fun σ Q Q' k h=>by
 obtain ⟨l,l',h1,h2,h3,h4⟩:=h
 exact ⟨l,l',h1,h2,h3,(mono_mkL m _).at h4 k⟩
theorem mono_putP (o i v:V):MonoP (putP o i v):=fun σ Q Q' k h=>by
 obtain ⟨a,j,h1,h2,h⟩:=h
 rcases h with ⟨l,h3,h4,h5,h6,h7⟩ | ⟨l,h3,h4,h5⟩
 ·exact ⟨a,j,h1,h2,.inl ⟨l,h3,h4,h5,h6,k _ _ h7⟩⟩
 ·exact ⟨a,j,h1,h2,.inr ⟨l,h3,h4,k _ _ h5⟩⟩
theorem mono_attrP (ok:Addr→Str→Bool) (n:Str) (o:V):MonoP (attrP ok n o):=fun σ Q Q' k h=>by
 obtain ⟨a,C,fs,v,h1,h2,h3,h4,h5⟩:=h
 exact ⟨a,C,fs,v,h1,h2,h3,h4,k _ _ h5⟩
theorem mono_setAttrP (ok:Addr→Str→Bool) (n:Str) (o v:V):MonoP (setAttrP ok n o v):=fun σ Q Q' k h=>by
 obtain ⟨a,C,fs,h1,h2,h3,h4,h5⟩:=h
 exact ⟨a,C,fs,h1,h2,h3,h4,k _ _ h5⟩
theorem ExS.mono {f:V→Option (List V)} {x:V} {p q:List V→Prop} (k:∀ l,p l→q l) (h:ExS f x p):ExS f x q:=let ⟨l,h1,h2,h3⟩:=h;⟨l,h1,h2,k _ h3⟩
theorem int1_mono {p q:Int→Prop} (k:∀ i,p i→q i) {v:V} (h:int1 p v):int1 q v:=by
 obtain ⟨i,rfl,h⟩:=int1_inv h
 exact k i h
theorem mono_biP (B:Bi) (m:Bool) (xs:List V):MonoP (biP B m xs):=fun σ Q Q' k h=>by
 cases B with
 | len=>exact one_mono (fun x=>ExS.mono fun l=>k _ _) h
 | range=>rcases rngK_inv (Q:=fun a c=>Q (.rng a c) σ) h with ⟨n,rfl,h⟩ | ⟨a,c,rfl,h⟩<;>exact k _ _ h
 | sorted=>exact one_mono (fun x h=>let ⟨l,h1,h2,h3⟩:=h;⟨l,h1,h2,fun ns a b=>(mono_mkL m _).at (h3 ns a b) k⟩) h
 | tuple=>exact one_mono (fun x=>ExS.mono fun l=>k _ _) h
 | list=>exact one_mono (fun x=>ExS.mono fun l h=>(mono_mkL m l).at h k) h
 | any=>exact one_mono (fun x h=>let ⟨l,h1,h2,h3⟩:=h;⟨l,h1,h2,k _ _ h3⟩) h
 | abs=>exact one_mono (fun x=>int1_mono fun i=>k _ _) h
 | int=>exact one_mono (fun x=>int1_mono fun i=>k _ _) h
theorem mono_lmethP (M:LMeth) (o:V) (xs:List V):MonoP (lmethP M o xs):=fun σ Q Q' k h=>by
 obtain ⟨a,l,h1,h2,h⟩:=h
 refine ⟨a,l,h1,h2,?_⟩
 cases M with
 | append=>exact one_mono (fun x h=>⟨h.1,k _ _ h.2⟩) h
 | pop =>
  obtain ⟨rfl,h3,x,h4,h5⟩:=nil0_inv h
  exact ⟨h3,x,h4,k _ _ h5⟩
 | reverse =>
  obtain ⟨rfl,h⟩:=nil0_inv h
  exact ⟨h.1,k _ _ h.2⟩
 | extend=>exact one_mono (fun x h=>let ⟨l',h3,h4,h5⟩:=h;⟨l',h3,h4,k _ _ h5⟩) h
theorem mono_zipP (m:Bool) (l:List V):MonoP (zipP m l):=fun σ Q Q' k h=>by
 unfold zipP at h ⊢
 split at h
 ·obtain ⟨la,lb,lc,h1,h2,h3,h4,h5,h6,h7,h8⟩:=h
  exact ⟨la,lb,lc,h1,h2,h3,h4,h5,h6,h7,(mono_mkL m _).at h8 k⟩
 ·exact h.elim
theorem mono_compP {t:MT} {ok:MS→Prop} {T:PT Bool} {P:PT V} (hT:MonoP T) (hP:MonoP P):∀ (items acc:List V),MonoP (compP t ok T P items acc)
 | [],acc,σ,Q,Q',k,h=>⟨h.1,k _ _ h.2⟩
 | x::r,acc,σ,Q,Q',k,⟨h1,σ1,h2,h3⟩=>⟨h1,σ1,h2,hT.at h3 fun b σ2 h=>⟨fun e=>hP.at (h.1 e) fun v σ3 h=>(mono_compP hT hP r _).at h k,fun e=>(mono_compP hT hP r _).at (h.2 e) k⟩⟩
theorem mono_compDP {t:MT} {ok:MS→Prop} {P1 P2:PT V} (h1:MonoP P1) (h2:MonoP P2):∀ (items:List V) (acc:List (Int×V)),MonoP (compDP t ok P1 P2 items acc)
 | [],acc,σ,Q,Q',k,h=>⟨h.1,k _ _ h.2⟩
 | x::r,acc,σ,Q,Q',k,⟨g1,σ1,g2,g3⟩=>⟨g1,σ1,g2,h1.at g3 fun v σ2 ⟨i,e,h⟩=>⟨i,e,h2.at h fun v σ3 h=>(mono_compDP h1 h2 r _).at h k⟩⟩
theorem mono_forP {t:MT} {ok:MS→Prop} {B:PT Fl} (hB:MonoP B):∀ items:List V,MonoP (forP t ok B items)
 | [],σ,Q,Q',k,h=>⟨h.1,k _ _ h.2⟩
 | x::r,σ,Q,Q',k,⟨h1,σ1,h2,h3⟩=>⟨h1,σ1,h2,hB.at h3 fun fl σ2 h=>by
   cases fl with
   | next=>exact (mono_forP hB r).at h k
   | cont=>exact (mono_forP hB r).at h k
   | brk=>exact k _ _ h
   | ret v=>exact k _ _ h⟩
theorem mono_whileP {T:PT Bool} {B:PT Fl} (hT:MonoP T) (hB:MonoP B):∀ n:Nat,MonoP (whileP T B n)
 | 0,σ,Q,Q',k,h=>h
 | n+1,σ,Q,Q',k,h=>hT.at h fun t σ1 h=>⟨fun e=>hB.at (h.1 e) fun fl σ2 h=>by
   cases fl with
   | next=>exact (mono_whileP hT hB n).at h k
   | cont=>exact (mono_whileP hT hB n).at h k
   | brk=>exact k _ _ h
   | ret v=>exact k _ _ h,fun e=>k _ _ (h.2 e)⟩
theorem whileP_le {T:PT Bool} {B:PT Fl} (hT:MonoP T) (hB:MonoP B):∀ {n m:Nat},n≤m→∀ {σ:MS} {Q:Fl→MS→Prop},whileP T B n σ Q→whileP T B m σ Q
 | 0,_,_,_,_,h=>h.elim
 | n+1,0,hle,_,_,_=>absurd hle (Nat.not_succ_le_zero n)
 | n+1,m+1,hle,σ,Q,h=>hT.at h fun t σ1 h=>⟨fun e=>hB.at (h.1 e) fun fl σ2 h=>by
   cases fl with
   | next=>exact whileP_le hT hB (Nat.le_of_succ_le_succ hle) h
   | cont=>exact whileP_le hT hB (Nat.le_of_succ_le_succ hle) h
   | brk=>exact h
   | ret v=>exact h,h.2⟩
theorem mono_seqP {P1 P2:PT Fl} (h1:MonoP P1) (h2:MonoP P2):MonoP (seqP P1 P2):=fun σ Q Q' k h=>h1.at h fun fl σ1 h=>by
 cases fl with
 | next=>exact let ⟨σ2,g,h⟩:=h;⟨σ2,g,h2.at h k⟩
 | cont=>exact k _ _ h
 | brk=>exact k _ _ h
 | ret v=>exact k _ _ h
section
variable {I:Info} {Γ:Value→PC} (hΓ:∀ f,MonoC (Γ f))
include hΓ
mutual
theorem mono_E:∀ m:ME,MonoP (denE I Γ m)
 | .none=>fun σ Q Q' k h=>k _ _ h
 | .bool b=>fun σ Q Q' k h=>k _ _ h
 | .int i=>fun σ Q Q' k h=>k _ _ h
 | .neg i=>fun σ Q Q' k h=>k _ _ h
 | .loc i=>fun σ Q Q' k ⟨v,h,q⟩=>⟨v,h,k _ _ q⟩
 | .gint i=>fun σ Q Q' k h=>k _ _ h
 | .tup es=>fun σ Q Q' k h=>(mono_Es es).at h fun l σ h=>⟨h.1,k _ _ h.2⟩
 | .lst m es=>fun σ Q Q' k h=>(mono_Es es).at h fun l σ h=>⟨h.1,(mono_mkL m l).at h.2 k⟩
 | .bin m op a b=>fun σ Q Q' k h=>(mono_E a).at h fun x σ h=>(mono_E b).at h fun y σ h=>(mono_binP m op x y).at h k
 | .cmp op a b=>fun σ Q Q' k h=>(mono_E a).at h fun x σ h=>(mono_E b).at h fun y σ h=>(mono_cmpP op x y).at h fun t=>k _
 | .and2 a b=>fun σ Q Q' k h=>(mono_E a).at h fun x σ h=>(mono_truthP x).at h fun t σ h=>⟨fun e=>(mono_E b).at (h.1 e) k,fun e=>k _ _ (h.2 e)⟩
 | .or2 a b=>fun σ Q Q' k h=>(mono_E a).at h fun x σ h=>(mono_truthP x).at h fun t σ h=>⟨fun e=>k _ _ (h.1 e),fun e=>(mono_E b).at (h.2 e) k⟩
 | .ite c a b=>fun σ Q Q' k h=>(mono_C c).at h fun t σ h=>⟨fun e=>(mono_E a).at (h.1 e) k,fun e=>(mono_E b).at (h.2 e) k⟩
 | .sub a i=>fun σ Q Q' k h=>(mono_E a).at h fun x σ h=>(mono_E i).at h fun y σ h=>(mono_idxP x y).at h k
 | .upto m a i=>fun σ Q Q' k h=>(mono_E a).at h fun x σ h=>(mono_E i).at h fun y σ ⟨j,e,h⟩=>⟨j,e,(mono_cutP m _ x j).at h k⟩
 | .from_ m a i=>fun σ Q Q' k h=>(mono_E a).at h fun x σ h=>(mono_E i).at h fun y σ ⟨j,e,h⟩=>⟨j,e,(mono_cutP m _ x j).at h k⟩
 | .rev m a=>fun σ Q Q' k h=>(mono_E a).at h fun x σ h=>(mono_cutP m _ x _).at h k
 | .attr o n=>fun σ Q Q' k h=>(mono_E o).at h fun x σ h=>(mono_attrP I.ok n x).at h k
 | .dict0=>mono_mkD []
 | .dict1 k v=>fun σ Q Q' kk h=>(mono_E k).at h fun x σ ⟨i,e,h⟩=>⟨i,e,(mono_E v).at h fun y σ h=>(mono_mkD _).at h kk⟩
 | .bi B m es=>fun σ Q Q' k h=>(mono_Es es).at h fun l σ h=>(mono_biP B m l).at h k
 | .call f es=>fun σ Q Q' k h=>(mono_Es es).at h fun l σ h=>hΓ f _ _ _ _ (fun v lv=>k _ _) h
 | .meth o n es=>fun σ Q Q' k h=>(mono_E o).at h fun x σ ⟨a,C,fs,f,h1,h2,h3,h4,h⟩=>⟨a,C,fs,f,h1,h2,h3,h4,(mono_Es es).at h fun l σ h=>hΓ _ _ _ _ _ (fun v lv=>k _ _) h⟩
 | .lmeth o M es=>fun σ Q Q' k h=>(mono_E o).at h fun x σ h=>⟨h.1,(mono_Es es).at h.2 fun l σ h=>(mono_lmethP M x l).at h k⟩
 | .zip3 m es=>fun σ Q Q' k h=>(mono_Es es).at h fun l σ h=>(mono_zipP m l).at h k
 | .comp m fr t elt c en it=>fun σ Q Q' k h=>(mono_E it).at h fun v σ ⟨items,h1,h2,h3,h⟩=>⟨items,h1,h2,h3,(mono_compP (mono_C c) (mono_E elt) items []).at h fun l σ h=>(mono_mkL m l).at h k⟩
 | .dcomp fr t k v it=>fun σ Q Q' kk h=>(mono_E it).at h fun w σ ⟨items,h1,h2,h3,h⟩=>⟨items,h1,h2,h3,(mono_compDP (mono_E k) (mono_E v) items []).at h fun l σ h=>(mono_mkD l).at h kk⟩
theorem mono_Es:∀ m:MEs,MonoP (denEs I Γ m)
 | .nil=>fun σ Q Q' k h=>k _ _ h
 | .cons e r=>fun σ Q Q' k h=>(mono_E e).at h fun x σ h=>(mono_Es r).at h fun xs σ h=>k _ _ h
theorem mono_C:∀ m:MC,MonoP (denC I Γ m)
 | .tt=>fun σ Q Q' k h=>k _ _ h
 | .cmp op a b=>fun σ Q Q' k h=>(mono_E a).at h fun x σ h=>(mono_E b).at h fun y σ h=>(mono_cmpP op x y).at h k
 | .not c=>fun σ Q Q' k h=>(mono_C c).at h fun t=>k _
 | .and a b=>fun σ Q Q' k h=>(mono_C a).at h fun t σ h=>⟨fun e=>(mono_C b).at (h.1 e) k,fun e=>k _ _ (h.2 e)⟩
 | .or a b=>fun σ Q Q' k h=>(mono_C a).at h fun t σ h=>⟨fun e=>k _ _ (h.1 e),fun e=>(mono_C b).at (h.2 e) k⟩
 | .val e=>fun σ Q Q' k h=>(mono_E e).at h fun x σ h=>(mono_truthP x).at h k
end
mutual
theorem mono_S:∀ m:MSt,MonoP (denS I Γ m)
 | .expr e=>fun σ Q Q' k h=>(mono_E hΓ e).at h fun v σ h=>⟨h.1,k _ _ h.2⟩
 | .ret e=>fun σ Q Q' k h=>(mono_E hΓ e).at h fun v σ ⟨v',σ2,g,h⟩=>⟨v',σ2,g,k _ _ h⟩
 | .ife c t f=>fun σ Q Q' k h=>(mono_C hΓ c).at h fun v σ h=>⟨fun e=>(mono_B t).at (h.1 e) k,fun e=>(mono_B f).at (h.2 e) k⟩
 | .cont=>fun σ Q Q' k h=>k _ _ h
 | .for_ t it bd=>fun σ Q Q' k h=>(mono_E hΓ it).at h fun v σ ⟨items,h1,h2,h⟩=>⟨items,h1,h2,(mono_forP (mono_B bd) items).at h k⟩
 | .while_ c bd=>fun σ Q Q' k ⟨n,h⟩=>⟨n,(mono_whileP (mono_C hΓ c) (mono_B bd) n).at h k⟩
 | .asgN i e=>fun σ Q Q' k h=>(mono_E hΓ e).at h fun v σ h=>k _ _ h
 | .asgT t e=>fun σ Q Q' k h=>(mono_E hΓ e).at h fun v σ ⟨σ2,g,h⟩=>⟨σ2,g,k _ _ h⟩
 | .asgSub o i e=>fun σ Q Q' k h=>(mono_E hΓ e).at h fun v σ h=>(mono_E hΓ o).at h fun ov σ h=>(mono_E hΓ i).at h fun iv σ h=>(mono_putP ov iv v).at h fun _ σ h=>k _ _ h
 | .asgAttr o n e=>fun σ Q Q' k h=>(mono_E hΓ e).at h fun v σ h=>(mono_E hΓ o).at h fun ov σ h=>(mono_setAttrP I.ok n ov v).at h fun _ σ h=>k _ _ h
 | .augOr i e=>fun σ Q Q' k ⟨c,e',h⟩=>⟨c,e',(mono_E hΓ e).at h fun v σ ⟨d,e,h⟩=>⟨d,e,k _ _ h⟩⟩
theorem mono_B:∀ m:MSts,MonoP (denB I Γ m)
 | .nil=>fun σ Q Q' k h=>k _ _ h
 | .cons s r=>mono_seqP (mono_S s) (mono_B r)
end
end
theorem for_inv {t:MT} {ok:MS→Prop} {B:PT Fl} {Q:Fl→MS→Prop} (hB:MonoP B) (J:List V→List V→MS→Prop)
  (step:∀ dn x r σ,J dn (x::r) σ→ok σ∧∃ σ1,asgV t x σ=some σ1∧B σ1 fun fl σ2=>match fl with
   | .next=>J (dn++[x]) r σ2
   | .cont=>J (dn++[x]) r σ2
   | .brk=>Q .next σ2
   | .ret v=>Q (.ret v) σ2)
  (done:∀ dn σ,J dn [] σ→ok σ∧Q .next σ):∀ (items dn:List V) (σ:MS),J dn items σ→forP t ok B items σ Q
 | [],dn,σ,h=>done dn σ h
 | x::r,dn,σ,h=>by
  obtain ⟨h1,σ1,h2,h3⟩:=step dn x r σ h
  refine ⟨h1,σ1,h2,hB.at h3 fun fl σ2 h => ?_⟩
  cases fl with
  | next=>exact for_inv hB J step done r _ σ2 h
  | cont=>exact for_inv hB J step done r _ σ2 h
  | brk=>exact h
  | ret v=>exact h
theorem while_inv {T:PT Bool} {B:PT Fl} {Q:Fl→MS→Prop} (hT:MonoP T) (hB:MonoP B) (J:Nat→MS→Prop)
  (step:∀ k σ,J k σ→T σ fun t σ1=>(t=true→B σ1 fun fl σ2=>match fl with
   | .next=>∃ k',k'<k∧J k' σ2
   | .cont=>∃ k',k'<k∧J k' σ2
   | .brk=>Q .next σ2
   | .ret v=>Q (.ret v) σ2)∧(t=false→Q .next σ1)):∀ (k:Nat) (σ:MS),J k σ→whileP T B (k+1) σ Q:=by
 intro k
 induction k using Nat.strongRecOn with
 | _ k ih =>
  intro σ h
  refine hT.at (step k σ h) fun t σ1 h=>⟨fun e=>hB.at (h.1 e) fun fl σ2 h => ?_,h.2⟩
  cases fl with
  | next=>obtain ⟨k',hk,h⟩:=h;exact whileP_le hT hB hk (ih k' hk σ2 h)
  | cont=>obtain ⟨k',hk,h⟩:=h;exact whileP_le hT hB hk (ih k' hk σ2 h)
  | brk=>exact h
  | ret v=>exact h
theorem comp_inv {t:MT} {ok:MS→Prop} {T:PT Bool} {P:PT V} {Q:List V→MS→Prop} (hT:MonoP T) (hP:MonoP P) (J:List V→List V→List V→MS→Prop)
  (step:∀ dn x r acc σ,J dn (x::r) acc σ→ok σ∧∃ σ1,asgV t x σ=some σ1∧T σ1 fun b σ2=>(b=true→P σ2 fun v σ3=>J (dn++[x]) r (acc++[v]) σ3)∧(b=false→J (dn++[x]) r acc σ2))
  (done:∀ dn acc σ,J dn [] acc σ→ok σ∧Q acc σ):∀ (items dn acc:List V) (σ:MS),J dn items acc σ→compP t ok T P items acc σ Q
 | [],dn,acc,σ,h=>done dn acc σ h
 | x::r,dn,acc,σ,h=>by
  obtain ⟨h1,σ1,h2,h3⟩:=step dn x r acc σ h
  exact ⟨h1,σ1,h2,hT.at h3 fun b σ2 h=>⟨fun e=>hP.at (h.1 e) fun v σ3 h=>comp_inv hT hP J step done r _ _ σ3 h,fun e=>comp_inv hT hP J step done r _ _ σ2 (h.2 e)⟩⟩
end Mine
namespace Mine
theorem wpAny_loadIfAlive {M:Model} {A:Around} {E:Value→Shared→Prop} {s:Shared} {a:Addr} {Q:Option Obj→Shared→Prop} (h:Q (s.heap.get? a) s):wpAny M A (loadIfAlive a) Q E s:=fun Γ p hΓ=>h
theorem typeCall_zip_3 (a b c:Value):checkTypeCall "zip" ⟨[a,b,c],[]⟩=pure ():=by kernel_rfl
theorem newCall_zip_3 (a b c:Value):checkBuiltinCall "zip.__new__" ⟨[.type "zip",a,b,c],[]⟩=pure ():=by kernel_rfl
theorem args_object_init_4 (a b c d:Value):argsOk "object.__init__" ⟨[a,b,c,d],[]⟩:=by
 unfold argsOk;rw [signature?_of (id := "object.__init__") (n:=['_','_','t','i','n','i','_','_']) (o:=['t','c','e','j','b','o']) (by kernel_rfl) PySem.F.owner_object];kernel_rfl
abbrev zfs (f0 f1:Value) (TI TO:Addr):Array Value := #[f0,f1,.bool false,.ref TI,.ref TO]
abbrev zobj (f0 f1:Value) (TI TO:Addr):Obj:={cls:= .type "zip",dict:=none,data:= .fields (zfs f0 f1 TI TO),slots := #[]}
abbrev tup3 (a b c:Value):Obj:={cls:= .type "tuple",data:= .seq #[a,b,c]}
abbrev z1 (h:Heap) (l1:Addr):Heap:=h.push {cls:= .type "list_iterator",data:= .fields #[.ref l1,.int 0 0]}
abbrev z2 (h:Heap) (l1 l2:Addr):Heap:=(z1 h l1).push {cls:= .type "list_iterator",data:= .fields #[.ref l2,.int 0 0]}
abbrev z3 (h:Heap) (l1 l2 l3:Addr):Heap:=(z2 h l1 l2).push {cls:= .type "list_iterator",data:= .fields #[.ref l3,.int 0 0]}
abbrev z4 (h:Heap) (l1 l2 l3:Addr):Heap:=(z3 h l1 l2 l3).push (tup3 (.ref h.objs.size) (.ref (z1 h l1).objs.size) (.ref (z2 h l1 l2).objs.size))
abbrev z5 (h:Heap) (l1 l2 l3:Addr):Heap:=(z4 h l1 l2 l3).push (tup3 .none .none .none)
abbrev z6 (h:Heap) (l1 l2 l3:Addr):Heap:=(z5 h l1 l2 l3).push {cls:= .type "zip",data:= .fields #[.none,.bool false,.bool false,.ref (z3 h l1 l2 l3).objs.size,.ref (z4 h l1 l2 l3).objs.size]}
set_option maxHeartbeats 4000000 in
theorem meets_zip3_new (l1 l2 l3:Addr) (xs ys zs:Array Value) :
  Meets (Builtin.«zip.__new__» ⟨[.type "zip",.ref l1,.ref l2,.ref l3],[]⟩) (fun _ R s=>s.heap.IsList l1 xs∧s.heap.IsList l2 ys∧s.heap.IsList l3 zs ∧
   R (.ok (.ret (.ref (z5 s.heap l1 l2 l3).objs.size))) {s with heap:=z6 s.heap l1 l2 l3}) :=
 .of_wp fun prog w A R s h=>by
  obtain ⟨hp,g,d,tk,os⟩:=s;obtain ⟨hl1,hl2,hl3,h⟩:=h
  have hsub:=sub_zip
  have hL1:Heap.IsList (Shared.heap ⟨hp,g,d,tk,os⟩) l1 xs:=hl1
  have hL2:Heap.IsList (Shared.heap ⟨hp.push {cls:= .type "list_iterator",data:= .fields #[.ref l1,.int 0 0]},g,d,tk,os⟩) l2 ys:=Heap.IsList.push hl2 _
  have hL3:Heap.IsList (Shared.heap ⟨(hp.push {cls:= .type "list_iterator",data:= .fields #[.ref l1,.int 0 0]}).push {cls:= .type "list_iterator",data:= .fields #[.ref l2,.int 0 0]},g,d,tk,os⟩) l3 zs:=Heap.IsList.push (Heap.IsList.push hl3 _) _
  wp_walk using wpAny_pyIter_list hL1,wpAny_pyIter_list hL2,wpAny_pyIter_list hL3
  exact ⟨_,rfl,h⟩
section
variable {prog:Program} {w:World} {A:Around} {E:Value→Shared→Prop} {s:Shared}
structure ZS (h:Heap) (z TI TO i1 i2 i3 l1 l2 l3:Addr) (k:Nat) (xs ys zs:Array Value) (f0 f1:Value):Prop where
 hz:h.get? z=some (zobj f0 f1 TI TO)
 hTI:h.get? TI=some (tup3 (.ref i1) (.ref i2) (.ref i3))
 hTO:∃ a b c,h.get? TO=some (tup3 a b c)
 h1:h.IsListIter i1 l1 k
 h2:h.IsListIter i2 l2 k
 h3:h.IsListIter i3 l3 k
 l1:h.IsList l1 xs
 l2:h.IsList l2 ys
 l3:h.IsList l3 zs
theorem call_zip_3 {l1 l2 l3:Addr} {xs ys zs:Array Value} {Q:Value→Shared→Prop} (hl1:s.heap.IsList l1 xs) (hl2:s.heap.IsList l2 ys) (hl3:s.heap.IsList l3 zs)
  (h:∀ h' z TI TO i1 i2 i3,(∀ a∈[z,TI,TO,i1,i2,i3],s.heap.objs.size≤a)→[z,TI,TO,i1,i2,i3].Nodup→ZS h' z TI TO i1 i2 i3 l1 l2 l3 0 xs ys zs .none (.bool false) →
   (∀ c o,s.heap.get? c=some o→h'.get? c=some o)→Q (.ref z) {s with heap:=h'}) :
  wpAny (model prog w) A (call (.type "zip") [.ref l1,.ref l2,.ref l3]) Q E s:=by
 refine callType_new PySem.F.called_zip (by decide) (typeCall_zip_3 _ _ _) (newCall_zip_3 _ _ _) (fun obj=>args_object_init_4 obj _ _ _) PySem.F.entry_zip_new
  (meets_zip3_new l1 l2 l3 xs ys zs) ⟨hl1,hl2,hl3,?_⟩
 have e1:(z1 s.heap l1).objs.size=s.heap.objs.size+1:=Heap.size_push ..
 have e2:(z2 s.heap l1 l2).objs.size=s.heap.objs.size+2:=by rw [Heap.size_push,e1]
 have e3:(z3 s.heap l1 l2 l3).objs.size=s.heap.objs.size+3:=by rw [Heap.size_push,e2]
 have e4:(z4 s.heap l1 l2 l3).objs.size=s.heap.objs.size+4:=by rw [Heap.size_push,e3]
 have e5:(z5 s.heap l1 l2 l3).objs.size=s.heap.objs.size+5:=by rw [Heap.size_push,e4]
 have g6:(z6 s.heap l1 l2 l3).get? (z5 s.heap l1 l2 l3).objs.size=some _:=Heap.get?_push_size _ rfl
 have g5:(z6 s.heap l1 l2 l3).get? (z4 s.heap l1 l2 l3).objs.size=some _:=Heap.get?_push_of_some _ (Heap.get?_push_size _ rfl)
 have g4:(z6 s.heap l1 l2 l3).get? (z3 s.heap l1 l2 l3).objs.size=some _:=Heap.get?_push_of_some _ (Heap.get?_push_of_some _ (Heap.get?_push_size _ rfl))
 have g3:(z6 s.heap l1 l2 l3).get? (z2 s.heap l1 l2).objs.size=some _:=Heap.get?_push_of_some _ (Heap.get?_push_of_some _ (Heap.get?_push_of_some _ (Heap.get?_push_size _ rfl)))
 have g2:(z6 s.heap l1 l2 l3).get? (z1 s.heap l1).objs.size=some _:=Heap.get?_push_of_some _ (Heap.get?_push_of_some _ (Heap.get?_push_of_some _ (Heap.get?_push_of_some _ (Heap.get?_push_size _ rfl))))
 have g1:(z6 s.heap l1 l2 l3).get? s.heap.objs.size=some _:=Heap.get?_push_of_some _ (Heap.get?_push_of_some _ (Heap.get?_push_of_some _ (Heap.get?_push_of_some _ (Heap.get?_push_of_some _ (Heap.get?_push_size _ rfl)))))
 have kp:∀ c o,s.heap.get? c=some o→(z6 s.heap l1 l2 l3).get? c=some o:=fun c o x =>
  Heap.get?_push_of_some _ (Heap.get?_push_of_some _ (Heap.get?_push_of_some _ (Heap.get?_push_of_some _ (Heap.get?_push_of_some _ (Heap.get?_push_of_some _ x)))))
 show _∧_
 rw [e3,e4,e5] at g6
 rw [e1,e2,e3] at g4
 rw [e4] at g5
 rw [e2] at g3
 rw [e1] at g2
 rw [e5]
 refine ⟨⟨_,g6,rfl⟩,h _ (s.heap.objs.size+5) (s.heap.objs.size+3) (s.heap.objs.size+4) s.heap.objs.size (s.heap.objs.size+1) (s.heap.objs.size+2) ?_ ?_ ⟨g6,g4,⟨_,_,_,g5⟩,⟨_,g1,rfl,rfl⟩,⟨_,g2,rfl,rfl⟩,⟨_,g3,rfl,rfl⟩,hl1.at fun o e=>kp _ o e,hl2.at fun o e=>kp _ o e,hl3.at fun o e=>kp _ o e⟩ kp⟩
 ·intro a ha
  simp only [List.mem_cons,List.not_mem_nil,or_false] at ha
  rcases ha with rfl | rfl | rfl | rfl | rfl | rfl<;>first | exact Nat.le_refl _ | exact Nat.le_add_right _ _
 ·generalize (s.heap.objs.size:Nat)=B
  simp only [List.nodup_cons,List.mem_cons,List.not_mem_nil,or_false,not_or,not_false_eq_true,and_true,List.nodup_nil]
  refine ⟨⟨?_,?_,?_,?_,?_⟩,⟨?_,?_,?_,?_⟩,⟨?_,?_,?_⟩,⟨?_,?_⟩,?_⟩<;>(intro q;have q:(_:Nat)=(_:Nat):=q;omega)
end
end Mine
namespace Mine
section
variable {prog:Program} {w:World} {A:Around} {E:Value→Shared→Prop} {s:Shared} {z TI TO i1 i2 i3 l1 l2 l3:Addr} {k:Nat} {xs ys zs:Array Value} {f0 f1:Value}
theorem ZS.at' {h h':Heap} (X:ZS h z TI TO i1 i2 i3 l1 l2 l3 k xs ys zs f0 f1) (hk:∀ a∈[z,TI,TO,i1,i2,i3,l1,l2,l3],∀ o,h.get? a=some o→h'.get? a=some o):ZS h' z TI TO i1 i2 i3 l1 l2 l3 k xs ys zs f0 f1 where
 hz:=hk _ (by simp) _ X.hz
 hTI:=hk _ (by simp) _ X.hTI
 hTO:=let ⟨a,b,c,e⟩:=X.hTO;⟨a,b,c,hk _ (by simp) _ e⟩
 h1:=X.h1.at fun o e=>hk _ (by simp) o e
 h2:=X.h2.at fun o e=>hk _ (by simp) o e
 h3:=X.h3.at fun o e=>hk _ (by simp) o e
 l1:=X.l1.at fun o e=>hk _ (by simp) o e
 l2:=X.l2.at fun o e=>hk _ (by simp) o e
 l3:=X.l3.at fun o e=>hk _ (by simp) o e
theorem flag_step {F:Bool→Shared→Prop} (hf:f1= .bool false∨f1= .bool true) (hz:s.heap.get? z=some (zobj f0 f1 TI TO))
  (h:∀ h₁,h₁.get? z=some (zobj f0 (.bool true) TI TO)→Heap.SameBut z s.heap h₁→F false {s with heap:=h₁}) :
  wpAny (model prog w) A (field (.ref z) 1 >>= fun v=>if (v != .bool true)=true then (do setField (.ref z) 1 (.bool true);pure false) else pure false) F E s:=by
 refine wpAny_bind (wpAny_field hz rfl (x:=f1) rfl ?_)
 rcases hf with rfl | rfl
 ·rw [if_pos (by decide)]
  exact wpAny_bind (wpAny_setField_rec hz (by simp) fun h₁ hz₁ hs₁=>wpAny_pure (h h₁ hz₁ hs₁))
 ·rw [if_neg (by decide)]
  exact wpAny_pure (h s.heap hz (Heap.SameBut.refl ..))
theorem zip3_item_b {T:Addr} {Q:Value→Shared→Prop} {x y v:Value} (nd:[z,TI,TO,i1,i2,i3].Nodup) (ap:∀ l∈[l1,l2,l3],l∉[z,TI,TO,i1,i2,i3]) (X:ZS s.heap z TI TO i1 i2 i3 l1 l2 l3 k xs ys zs (rawInt T) f1)
  (hf:f1= .bool false∨f1= .bool true) (hT:∃ o,s.heap.get? T=some o) (hx:xs[k]?=some x) (hy:ys[k]?=some y) (hv:zs[k]?=some v)
  (hQ:∀ h',ZS h' z TI TO i1 i2 i3 l1 l2 l3 (k+1) xs ys zs (rawInt T) (.bool true)→h'.get? s.heap.objs.size=some (tup3 x y v)→h'.objs.size=s.heap.objs.size+1 →
   (∀ c o,c∉[z,TO,i1,i2,i3]→s.heap.get? c=some o→h'.get? c=some o)→Q (.ref s.heap.objs.size) {s with heap:=h'}) :
  wpAny (model prog w) A (Builtin.«zip.__next__» ⟨[.ref z],[]⟩) (fun fin s'=>∃ v,fin= .done (.ret v)∧Q v s') E s:=by
 have nd0:=nd
 simp only [List.nodup_cons,List.mem_cons,List.not_mem_nil,or_false,not_or,not_false_eq_true,and_true,List.nodup_nil] at nd ap
 obtain ⟨⟨zTI,zTO,zi1,zi2,zi3⟩,⟨TITO,TIi1,TIi2,TIi3⟩,⟨TOi1,TOi2,TOi3⟩,⟨i12,i13⟩,i23⟩:=nd
 obtain ⟨a11,a12,a13,a14,a15,a16⟩:=ap l1 (.inl rfl)
 obtain ⟨a21,a22,a23,a24,a25,a26⟩:=ap l2 (.inr (.inl rfl))
 obtain ⟨a31,a32,a33,a34,a35,a36⟩:=ap l3 (.inr (.inr rfl))
 show wpAny _ _ (field (.ref z) 2 >>= _) _ _ _
 refine wpAny_bind (wpAny_field X.hz rfl (x:= .bool false) rfl ?_)
 show wpAny _ _ (field (.ref z) 3 >>= _) _ _ _
 refine wpAny_bind (wpAny_field X.hz rfl (x:= .ref TI) rfl ?_)
 refine wpAny_bind (wpAny_seqItems X.hTI rfl ?_)
 show wpAny _ _ (Builtin.SmallTypes.ownedTupleIsFree (.ref z) >>= _) _ _ _
 refine wpAny_bind ?_
 unfold Builtin.SmallTypes.ownedTupleIsFree
 refine wpAny_bind (wpAny_field X.hz rfl (x:=rawInt T) rfl ?_)
 show wpAny _ _ (loadIfAlive T >>= _) _ _ _
 refine wpAny_bind (wpAny_loadIfAlive ?_)
 obtain ⟨oT,eT⟩:=hT
 rw [eT]
 simp only [Option.isNone_some,Bool.false_eq_true,if_false]
 refine flag_step hf X.hz fun h₁ hz₁ hs₁ => ?_
 simp only [Bool.false_eq_true,if_false]
 have h1₁:=X.h1.extBut hs₁.extBut (Ne.symm zi1)
 have h2₁:=X.h2.extBut hs₁.extBut (Ne.symm zi2)
 have h3₁:=X.h3.extBut hs₁.extBut (Ne.symm zi3)
 have l1₁:=X.l1.extBut hs₁.extBut a11
 have l2₁:=X.l2.extBut hs₁.extBut a21
 have l3₁:=X.l3.extBut hs₁.extBut a31
 rw [←Array.forIn_toList]
 simp only [List.forIn_cons,List.forIn_nil]
 refine wpAny_bind ?_
 refine wpAny_bind (wpAny_bind (wpAny_holding ?_))
 show wpAny _ _ (Builtin.SmallTypes.nextOf (.ref i1) >>= _) _ _ _
 refine wpAny_bind (wpAny_nextOf_list_item h1₁ l1₁ hx fun h₂ h1₂ hs₂=>wpAny_pure (wpAny_pure ?_))
 refine wpAny_bind (wpAny_bind (wpAny_holding ?_))
 show wpAny _ _ (Builtin.SmallTypes.nextOf (.ref i2) >>= _) _ _ _
 refine wpAny_bind (wpAny_nextOf_list_item (h2₁.extBut hs₂.extBut (Ne.symm i12)) (l2₁.extBut hs₂.extBut a24) hy fun h₃ h2₃ hs₃=>wpAny_pure (wpAny_pure ?_))
 refine wpAny_bind (wpAny_bind (wpAny_holding ?_))
 show wpAny _ _ (Builtin.SmallTypes.nextOf (.ref i3) >>= _) _ _ _
 refine wpAny_bind (wpAny_nextOf_list_item ((h3₁.extBut hs₂.extBut (Ne.symm i13)).extBut hs₃.extBut (Ne.symm i23)) ((l3₁.extBut hs₂.extBut a34).extBut hs₃.extBut a35) hv fun h₄ h3₄ hs₄=>wpAny_pure (wpAny_pure (wpAny_pure ?_)))
 refine wpAny_bind (wpAny_newTuple (wpAny_pure ⟨_,rfl,?_⟩) (by show 3≤sizeLine;decide))
 have hsz:h₄.objs.size=s.heap.objs.size:=by rw [hs₄.1,hs₃.1,hs₂.1,hs₁.1]
 have up1:∀ c o,c∉[i1,i2,i3]→h₁.get? c=some o→h₄.get? c=some o:=fun c o hc e=>by
  simp only [List.mem_cons,List.not_mem_nil,or_false,not_or] at hc
  exact hs₄.extBut _ _ hc.2.2 (hs₃.extBut _ _ hc.2.1 (hs₂.extBut _ _ hc.1 e))
 have up:∀ c o,c∉[z,i1,i2,i3]→s.heap.get? c=some o→h₄.get? c=some o:=fun c o hc e=>by
  simp only [List.mem_cons,List.not_mem_nil,or_false,not_or] at hc
  exact up1 c o (by simp [hc]) (hs₁.extBut _ _ hc.1 e)
 have pu:∀ c o,h₄.get? c=some o→(h₄.push (tup3 x y v)).get? c=some o:=fun c o e=>Heap.get?_push_of_some _ e
 show Q (.ref h₄.objs.size) _
 rw [hsz]
 obtain ⟨ta,tb,tc,eTO⟩:=X.hTO
 refine hQ (h₄.push (tup3 x y v)) ⟨pu _ _ (up1 _ _ (by simp [zi1,zi2,zi3]) hz₁),pu _ _ (up _ _ (by simp [Ne.symm zTI,TIi1,TIi2,TIi3]) X.hTI),⟨ta,tb,tc,pu _ _ (up _ _ (by simp [Ne.symm zTO,TOi1,TOi2,TOi3]) eTO)⟩,
  ((h1₂.extBut hs₃.extBut i12).extBut hs₄.extBut i13).at fun o e=>pu _ o e,(h2₃.extBut hs₄.extBut i23).at fun o e=>pu _ o e,h3₄.at fun o e=>pu _ o e,
  X.l1.at fun o e=>pu _ _ (up _ _ (by simp [a11,a14,a15,a16]) e),X.l2.at fun o e=>pu _ _ (up _ _ (by simp [a21,a24,a25,a26]) e),X.l3.at fun o e=>pu _ _ (up _ _ (by simp [a31,a34,a35,a36]) e)⟩
  (by rw [←hsz];exact Heap.get?_push_size _ rfl) (by rw [Heap.size_push,hsz]) fun c o hc e=>pu _ _ (up c o (fun q=>hc (by simp only [List.mem_cons,List.not_mem_nil,or_false] at q ⊢;rcases q with q | q | q | q<;>simp [q])) e)
end
end Mine
namespace Mine
section
variable {prog:Program} {w:World} {A:Around} {E:Value→Shared→Prop} {s:Shared} {z TI TO i1 i2 i3 l1 l2 l3:Addr} {k:Nat} {xs ys zs:Array Value} {f0 f1:Value}
theorem updateSeq3 {T:Addr} {a b c x:Value} {k:Nat} {Q:Unit→Shared→Prop} (hT:s.heap.get? T=some (tup3 a b c))
  (h:∀ h',h'.get? T=some {cls:= .type "tuple",data:= .seq ((#[a,b,c]:Array Value).setIfInBounds k x)}→Heap.SameBut T s.heap h'→Q () {s with heap:=h'}) :
  wpAny (model prog w) A (updateSeq T (·.setIfInBounds k x)) Q E s:=by
 refine wpAny_updateSeq hT rfl (h _ ?_ (Heap.SameBut.update ..))
 rw [Heap.get?_update_self _ hT rfl]
 simp [Obj.mapSeq]
theorem zip3_item_a {Q:Value→Shared→Prop} {x y v:Value} (nd:[z,TI,TO,i1,i2,i3].Nodup) (ap:∀ l∈[l1,l2,l3],l∉[z,TI,TO,i1,i2,i3]) (X:ZS s.heap z TI TO i1 i2 i3 l1 l2 l3 k xs ys zs .none f1)
  (hx:xs[k]?=some x) (hy:ys[k]?=some y) (hv:zs[k]?=some v)
  (hQ:∀ h',ZS h' z TI TO i1 i2 i3 l1 l2 l3 (k+1) xs ys zs (rawInt s.heap.objs.size) (.bool false)→h'.get? s.heap.objs.size=some (tup3 x y v)→h'.objs.size=s.heap.objs.size+1 →
   (∀ c o,c∉[z,TO,i1,i2,i3]→s.heap.get? c=some o→h'.get? c=some o)→Q (.ref s.heap.objs.size) {s with heap:=h'}) :
  wpAny (model prog w) A (Builtin.«zip.__next__» ⟨[.ref z],[]⟩) (fun fin s'=>∃ v,fin= .done (.ret v)∧Q v s') E s:=by
 have nd0:=nd
 simp only [List.nodup_cons,List.mem_cons,List.not_mem_nil,or_false,not_or,not_false_eq_true,and_true,List.nodup_nil] at nd ap
 obtain ⟨⟨zTI,zTO,zi1,zi2,zi3⟩,⟨TITO,TIi1,TIi2,TIi3⟩,⟨TOi1,TOi2,TOi3⟩,⟨i12,i13⟩,i23⟩:=nd
 obtain ⟨a11,a12,a13,a14,a15,a16⟩:=ap l1 (.inl rfl)
 obtain ⟨a21,a22,a23,a24,a25,a26⟩:=ap l2 (.inr (.inl rfl))
 obtain ⟨a31,a32,a33,a34,a35,a36⟩:=ap l3 (.inr (.inr rfl))
 obtain ⟨ta,tb,tc,eTO⟩:=X.hTO
 show wpAny _ _ (field (.ref z) 2 >>= _) _ _ _
 refine wpAny_bind (wpAny_field X.hz rfl (x:= .bool false) rfl ?_)
 show wpAny _ _ (field (.ref z) 3 >>= _) _ _ _
 refine wpAny_bind (wpAny_field X.hz rfl (x:= .ref TI) rfl ?_)
 refine wpAny_bind (wpAny_seqItems X.hTI rfl ?_)
 show wpAny _ _ (Builtin.SmallTypes.ownedTupleIsFree (.ref z) >>= _) _ _ _
 refine wpAny_bind ?_
 unfold Builtin.SmallTypes.ownedTupleIsFree
 refine wpAny_bind (wpAny_field X.hz rfl (x:= .none) rfl (wpAny_pure ?_))
 simp only [if_true]
 refine wpAny_bind (wpAny_rule ?_)
 refine wpAny_bind (wpAny_field X.hz rfl (x:= .ref TO) rfl ?_)
 refine wpAny_bind (wpAny_setField_rec X.hz (by simp) fun h₁ hz₁ hs₁ => ?_)
 replace hz₁:h₁.get? z=some (zobj .ellipsis f1 TI TO):=hz₁
 refine wpAny_bind ?_
 simp only [List.zipIdx_cons,List.zipIdx_nil,List.forIn_cons,List.forIn_nil]
 refine wpAny_bind (wpAny_bind (wpAny_onRaise ?_))
 show wpAny _ _ (Builtin.SmallTypes.nextOf (.ref i1) >>= _) _ _ _
 refine wpAny_bind (wpAny_nextOf_list_item (X.h1.extBut hs₁.extBut (Ne.symm zi1)) (X.l1.extBut hs₁.extBut a11) hx fun h₂ h1₂ hs₂=>wpAny_pure ?_)
 have hTO₂:h₂.get? TO=some (tup3 ta tb tc):=hs₂.extBut _ _ TOi1 (hs₁.extBut _ _ (Ne.symm zTO) eTO)
 refine wpAny_bind (wpAny_seqItems hTO₂ rfl ?_)
 refine wpAny_bind (updateSeq3 hTO₂ fun h₃ hTO₃ hs₃ => ?_)
 replace hTO₃:h₃.get? TO=some (tup3 x tb tc):=hTO₃
 refine wpAny_bind (wpAny_letGo (wpAny_pure ?_))
 refine wpAny_bind (wpAny_bind (wpAny_onRaise ?_))
 show wpAny _ _ (Builtin.SmallTypes.nextOf (.ref i2) >>= _) _ _ _
 refine wpAny_bind (wpAny_nextOf_list_item (((X.h2.extBut hs₁.extBut (Ne.symm zi2)).extBut hs₂.extBut (Ne.symm i12)).extBut hs₃.extBut (Ne.symm TOi2))
  (((X.l2.extBut hs₁.extBut a21).extBut hs₂.extBut a24).extBut hs₃.extBut a23) hy fun h₄ h2₄ hs₄=>wpAny_pure ?_)
 have hTO₄:h₄.get? TO=some (tup3 x tb tc):=hs₄.extBut _ _ TOi2 hTO₃
 refine wpAny_bind (wpAny_seqItems hTO₄ rfl ?_)
 refine wpAny_bind (updateSeq3 hTO₄ fun h₅ hTO₅ hs₅ => ?_)
 replace hTO₅:h₅.get? TO=some (tup3 x y tc):=hTO₅
 refine wpAny_bind (wpAny_letGo (wpAny_pure ?_))
 refine wpAny_bind (wpAny_bind (wpAny_onRaise ?_))
 show wpAny _ _ (Builtin.SmallTypes.nextOf (.ref i3) >>= _) _ _ _
 refine wpAny_bind (wpAny_nextOf_list_item (((((X.h3.extBut hs₁.extBut (Ne.symm zi3)).extBut hs₂.extBut (Ne.symm i13)).extBut hs₃.extBut (Ne.symm TOi3)).extBut hs₄.extBut (Ne.symm i23)).extBut hs₅.extBut (Ne.symm TOi3))
  (((((X.l3.extBut hs₁.extBut a31).extBut hs₂.extBut a34).extBut hs₃.extBut a33).extBut hs₄.extBut a35).extBut hs₅.extBut a33) hv fun h₆ h3₆ hs₆=>wpAny_pure ?_)
 have hTO₆:h₆.get? TO=some (tup3 x y tc):=hs₆.extBut _ _ TOi3 hTO₅
 refine wpAny_bind (wpAny_seqItems hTO₆ rfl ?_)
 refine wpAny_bind (updateSeq3 hTO₆ fun h₇ hTO₇ hs₇ => ?_)
 replace hTO₇:h₇.get? TO=some (tup3 x y v):=hTO₇
 refine wpAny_bind (wpAny_letGo (wpAny_pure (wpAny_pure ?_)))
 refine wpAny_bind (wpAny_seqItems hTO₇ rfl ?_)
 refine wpAny_bind (wpAny_newTuple ?_ (by show 3≤sizeLine;decide))
 have hsz:h₇.objs.size=s.heap.objs.size:=by rw [hs₇.1,hs₆.1,hs₅.1,hs₄.1,hs₃.1,hs₂.1,hs₁.1]
 have up1:∀ c o,c∉[TO,i1,i2,i3]→h₁.get? c=some o→h₇.get? c=some o:=fun c o hc e=>by
  simp only [List.mem_cons,List.not_mem_nil,or_false,not_or] at hc
  exact hs₇.extBut _ _ hc.1 (hs₆.extBut _ _ hc.2.2.2 (hs₅.extBut _ _ hc.1 (hs₄.extBut _ _ hc.2.2.1 (hs₃.extBut _ _ hc.1 (hs₂.extBut _ _ hc.2.1 e)))))
 have hz₇:h₇.get? z=some (zobj .ellipsis f1 TI TO):=up1 _ _ (by simp [zTO,zi1,zi2,zi3]) hz₁
 have hzlt:z<h₇.objs.size:=Heap.lt_size hz₇
 show wpAny _ _ (Builtin.SmallTypes.ownedTupleHandOut (.ref z) (.ref h₇.objs.size) >>= _) _ _ _
 refine wpAny_bind ?_
 unfold Builtin.SmallTypes.ownedTupleHandOut
 have hz₈:(h₇.push (tup3 x y v)).get? z=some (zobj .ellipsis f1 TI TO):=Heap.get?_push_of_some _ hz₇
 refine wpAny_bind (wpAny_setField_rec hz₈ (by simp) fun h₉ hz₉ hs₉ => ?_)
 replace hz₉:h₉.get? z=some (zobj (rawInt h₇.objs.size) f1 TI TO):=hz₉
 refine wpAny_setField_rec hz₉ (by simp) fun h' hz' hs' => ?_
 replace hz':h'.get? z=some (zobj (rawInt h₇.objs.size) (.bool false) TI TO):=hz'
 have up7:∀ c o,c≠z→h₇.get? c=some o→h'.get? c=some o:=fun c o c1 e=>hs'.extBut _ _ c1 (hs₉.extBut _ _ c1 (Heap.get?_push_of_some _ e))
 have hT':h'.get? h₇.objs.size=some (tup3 x y v):=hs'.extBut _ _ (Nat.ne_of_gt hzlt) (hs₉.extBut _ _ (Nat.ne_of_gt hzlt) (Heap.get?_push_size _ rfl))
 have hsz':h'.objs.size=h₇.objs.size+1:=by rw [hs'.1,hs₉.1,Heap.size_push]
 rw [hsz] at hz' hT' hsz'
 refine wpAny_pure ⟨_,rfl,?_⟩
 show Q (.ref h₇.objs.size) _
 rw [hsz]
 have up:∀ c o,c∉[z,TO,i1,i2,i3]→s.heap.get? c=some o→h'.get? c=some o:=fun c o hc e=>by
  simp only [List.mem_cons,List.not_mem_nil,or_false,not_or] at hc
  exact up7 c o hc.1 (up1 c o (by simp [hc]) (hs₁.extBut _ _ hc.1 e))
 exact hQ h' ⟨hz',up _ _ (by simp [Ne.symm zTI,TITO,TIi1,TIi2,TIi3]) X.hTI,⟨x,y,v,up7 _ _ (Ne.symm zTO) hTO₇⟩,
  ((((((h1₂.extBut hs₃.extBut (Ne.symm TOi1)).extBut hs₄.extBut i12).extBut hs₅.extBut (Ne.symm TOi1)).extBut hs₆.extBut i13).extBut hs₇.extBut (Ne.symm TOi1)).at fun o e=>up7 _ o (Ne.symm zi1) e),
  ((((h2₄.extBut hs₅.extBut (Ne.symm TOi2)).extBut hs₆.extBut i23).extBut hs₇.extBut (Ne.symm TOi2)).at fun o e=>up7 _ o (Ne.symm zi2) e),
  ((h3₆.extBut hs₇.extBut (Ne.symm TOi3)).at fun o e=>up7 _ o (Ne.symm zi3) e),
  X.l1.at fun o e=>up _ _ (by simp [a11,a13,a14,a15,a16]) e,X.l2.at fun o e=>up _ _ (by simp [a21,a23,a24,a25,a26]) e,X.l3.at fun o e=>up _ _ (by simp [a31,a33,a34,a35,a36]) e⟩ hT' hsz' up
theorem zip3_end_b {T:Addr} {Q:Fin→Shared→Prop} (hh:A.handled=none) (nd:[z,TI,TO,i1,i2,i3].Nodup) (ap:∀ l∈[l1,l2,l3],l∉[z,TI,TO,i1,i2,i3]) (X:ZS s.heap z TI TO i1 i2 i3 l1 l2 l3 k xs ys zs (rawInt T) f1)
  (hf:f1= .bool false∨f1= .bool true) (hT:∃ o,s.heap.get? T=some o) (hx:xs[k]?=none)
  (hE:∀ h' e,(∀ c o,c∉[z,TO,i1,i2,i3]→s.heap.get? c=some o→h'.get? c=some o)→(∃ o,h'.get? e=some o∧o.cls= .type "StopIteration")→E (.ref e) {s with heap:=h'}) :
  wpAny (model prog w) A (Builtin.«zip.__next__» ⟨[.ref z],[]⟩) Q E s:=by
 simp only [List.nodup_cons,List.mem_cons,List.not_mem_nil,or_false,not_or,not_false_eq_true,and_true,List.nodup_nil] at nd ap
 obtain ⟨⟨zTI,zTO,zi1,zi2,zi3⟩,⟨TITO,TIi1,TIi2,TIi3⟩,⟨TOi1,TOi2,TOi3⟩,⟨i12,i13⟩,i23⟩:=nd
 obtain ⟨a11,a12,a13,a14,a15,a16⟩:=ap l1 (.inl rfl)
 show wpAny _ _ (field (.ref z) 2 >>= _) _ _ _
 refine wpAny_bind (wpAny_field X.hz rfl (x:= .bool false) rfl ?_)
 show wpAny _ _ (field (.ref z) 3 >>= _) _ _ _
 refine wpAny_bind (wpAny_field X.hz rfl (x:= .ref TI) rfl ?_)
 refine wpAny_bind (wpAny_seqItems X.hTI rfl ?_)
 show wpAny _ _ (Builtin.SmallTypes.ownedTupleIsFree (.ref z) >>= _) _ _ _
 refine wpAny_bind ?_
 unfold Builtin.SmallTypes.ownedTupleIsFree
 refine wpAny_bind (wpAny_field X.hz rfl (x:=rawInt T) rfl ?_)
 show wpAny _ _ (loadIfAlive T >>= _) _ _ _
 refine wpAny_bind (wpAny_loadIfAlive ?_)
 obtain ⟨oT,eT⟩:=hT
 rw [eT]
 simp only [Option.isNone_some,Bool.false_eq_true,if_false]
 refine flag_step hf X.hz fun h₁ hz₁ hs₁ => ?_
 simp only [Bool.false_eq_true,if_false]
 rw [←Array.forIn_toList]
 simp only [List.forIn_cons,List.forIn_nil]
 refine wpAny_bind ?_
 refine wpAny_bind (wpAny_bind (wpAny_holding ?_))
 show wpAny _ _ (Builtin.SmallTypes.nextOf (.ref i1) >>= _) _ _ _
 refine wpAny_bind (wpAny_nextOf_list_end hh (X.h1.extBut hs₁.extBut (Ne.symm zi1)) (X.l1.extBut hs₁.extBut a11) hx fun h₂ e hs₂ he => ?_)
 exact hE h₂ e (fun c o hc q=>by
  simp only [List.mem_cons,List.not_mem_nil,or_false,not_or] at hc
  exact hs₂ _ _ hc.2.2.1 (hs₁.extBut _ _ hc.1 q)) he
theorem next_zip3 {Q:Option Value→Shared→Prop} {h0:s.heap.get? z=some (zobj f0 f1 TI TO)}
  (h:wpAny (model prog w) A.in1 (Builtin.«zip.__next__» ⟨[.ref z],[]⟩) (fun fin s'=>∃ v,fin= .done (.ret v)∧Q (some v) s') (fun e s'=>(∃ a o,e= .ref a∧s'.heap.get? a=some o∧o.cls= .type "StopIteration")∧Q none s') s) :
  wpAny (model prog w) A (pyNext (.ref z)) Q E s:=by
 have hT:s.TypeIs (.ref z) "zip":=⟨_,h0,rfl⟩
 unfold pyNext
 refine wpAny_bind (wpAny_attempt (wpAny_callSpecial?_slot (name:=Str.ofString "__next__") hT PySem.F.slot_zip_next
  (wpAny_call_entry PySem.F.slot_zip_next hT PySem.F.entry_zip_next (wpAny_mono h (fun fin s' p => ?_) fun e s' p => ?_) (PySem.F.args_zip_next_1 _))))
 ·obtain ⟨v,e,q⟩:=p
  exact ⟨v,e,wpAny_pure q⟩
 ·obtain ⟨⟨a,o,rfl,ho,hc⟩,q⟩:=p
  refine wpAny_bind (wpAny_isInstance (T := "StopIteration") (b:=true) ⟨o,ho,hc⟩ isSubtype_stop ?_)
  exact wpAny_pure q
end
end Mine
namespace Mine
theorem zip_no_len:typeLookup (.type "zip") "__len__"=pure none:=by rw [typeLookup_type,builtinLookup_eq_fast];kernel_rfl
theorem zip_no_hint:typeLookup (.type "zip") "__length_hint__"=pure none:=by rw [typeLookup_type,builtinLookup_eq_fast];kernel_rfl
noncomputable def ZItems (h:Heap) (B:Nat) (ads:List Addr) (xs ys zs:Array Value) (acc:Array Value):Prop :=
 ∀ (j:Nat) (u:Value),acc[j]?=some u→∃ (T:Nat) (x y v:Value),u= .ref T∧xs[j]?=some x∧ys[j]?=some y∧zs[j]?=some v∧h.get? T=some (tup3 x y v)∧B≤T∧T∉ads
section
variable {prog:Program} {w:World} {A:Around} {E:Value→Shared→Prop} {z TI TO i1 i2 i3 l1 l2 l3:Addr} {xs ys zs:Array Value} {R:Result→Shared→Prop}
theorem extend_zip3 {D:Addr} {n B:Nat} {res:Value} (hh:A.handled=none) (nd:[z,TI,TO,i1,i2,i3].Nodup) (ap:∀ l∈[l1,l2,l3],l∉[z,TI,TO,i1,i2,i3]) (hD:D∉[z,TI,TO,i1,i2,i3,l1,l2,l3]) (h1:xs.size=n) (h2:ys.size=n) (h3:zs.size=n) (hn:n≤sizeLine) (hpos:0<n) :
  ∀ (m i:Nat) (s:Shared) (acc:Array Value) (c:Nat) (f0 f1:Value),n - i=m→i≤n→B≤s.heap.objs.size→ZS s.heap z TI TO i1 i2 i3 l1 l2 l3 i xs ys zs f0 f1→(f1= .bool false∨f1= .bool true)→((i=0∧f0= .none)∨∃ T:Nat,f0=rawInt T∧(∃ o,s.heap.get? T=some o)∧T∉[z,TI,TO,i1,i2,i3,D]) →
  s.heap.get? D=some (lobj "list" acc c)→acc.size=i→ZItems s.heap B [z,TI,TO,i1,i2,i3,D] xs ys zs acc →
  (∀ s' acc' c',Same s s'→(∀ c o,c∉[z,TO,i1,i2,i3,D]→s.heap.get? c=some o→s'.heap.get? c=some o)→s'.heap.get? D=some (lobj "list" acc' c')→acc'.size=n→ZItems s'.heap B [z,TI,TO,i1,i2,i3,D] xs ys zs acc'→R (.ok (.ret res)) s') →
  codeAny (model prog w) A (.builtin "list.extend.loop" ⟨[.ref D,.ref z,res],[]⟩) R s:=by
 have m56:∀ c,c∈[z,TO,i1,i2,i3]→c∈[z,TO,i1,i2,i3,D]:=fun c q=>by
  simp only [List.mem_cons,List.not_mem_nil,or_false] at q ⊢
  rcases q with q | q | q | q | q<;>simp [q]
 have m57:∀ c,c∈[z,TO,i1,i2,i3]→c∈[z,TI,TO,i1,i2,i3,D]:=fun c q=>by
  simp only [List.mem_cons,List.not_mem_nil,or_false] at q ⊢
  rcases q with q | q | q | q | q<;>simp [q]
 simp only [List.mem_cons,List.not_mem_nil,or_false,not_or] at hD
 obtain ⟨D1,D2,D3,D4,D5,D6,D7,D8,D9⟩:=hD
 intro m
 induction m with
 | zero =>
  intro i s acc c f0 f1 hm hi hB X hf hT hS hz hI hR
  have hin:i=n:=by exact zh41 hm hi
  subst hin
  obtain ⟨T,rfl,hT,hTa⟩:=hT.resolve_left fun q=>by omega
  refine codeAny_builtin F.entry_extend_loop ?_
  rw [Around.under_plainId F.plain_extend_loop _]
  show wpAny _ A.in1 (pyNext (.ref z) >>= _) _ _ s
  refine wpAny_bind (next_zip3 (h0:=X.hz) (zip3_end_b (A:=A.in1.in1) hh nd ap X hf hT (by rw [Array.getElem?_eq_none_iff,h1];exact Nat.le_refl _) fun h' e hk he => ?_))
  obtain ⟨o,ho,hc⟩:=he
  refine ⟨⟨e,o,rfl,ho,hc⟩,wpAny_pure (hR _ acc c (.mk s h' s.toks) (fun c o hc e=>hk c o (fun q=>hc (m56 _ q)) e) ?_ hz fun j u hj => ?_)⟩
  ·exact hk D _ (by simp;exact ⟨D1,D3,D4,D5,D6⟩) hS
  ·obtain ⟨T,x,y,v,q1,q2,q3,q4,q5,q6,q7⟩:=hI j u hj
   exact ⟨T,x,y,v,q1,q2,q3,q4,hk T _ (fun q=>q7 (m57 _ q)) q5,q6,q7⟩
 | succ m ih =>
  intro i s acc c f0 f1 hm hi hB X hf hT hS hz hI hR
  have hlt:i<n:=by exact Nat.lt_of_sub_eq_succ hm
  have gx:xs[i]?=some xs[i]:=Array.getElem?_eq_getElem (by exact zq8 hlt h1)
  have gy:ys[i]?=some ys[i]:=Array.getElem?_eq_getElem (by exact zq8 hlt h2)
  have gz:zs[i]?=some zs[i]:=Array.getElem?_eq_getElem (by exact zq8 hlt h3)
  refine codeAny_builtin F.entry_extend_loop ?_
  rw [Around.under_plainId F.plain_extend_loop _]
  show wpAny _ A.in1 (pyNext (.ref z) >>= _) _ _ s
  have hzlt:z<s.heap.objs.size:=Heap.lt_size X.hz
  have hDlt:D<s.heap.objs.size:=Heap.lt_size hS
  have lts:∀ a∈[z,TI,TO,i1,i2,i3,D],a<s.heap.objs.size:=by
   intro a ha
   simp only [List.mem_cons,List.not_mem_nil,or_false] at ha
   rcases ha with rfl | rfl | rfl | rfl | rfl | rfl | rfl
   ·exact hzlt
   ·exact Heap.lt_size X.hTI
   ·obtain ⟨_,_,_,e⟩:=X.hTO;exact Heap.lt_size e
   ·obtain ⟨_,e,_⟩:=X.h1;exact Heap.lt_size e
   ·obtain ⟨_,e,_⟩:=X.h2;exact Heap.lt_size e
   ·obtain ⟨_,e,_⟩:=X.h3;exact Heap.lt_size e
   ·exact hDlt
  have key:∀ (h':Heap) (g0 g1:Value),ZS h' z TI TO i1 i2 i3 l1 l2 l3 (i+1) xs ys zs g0 g1→(g1= .bool false∨g1= .bool true)→((∃ T:Nat,g0=rawInt T∧(∃ o,h'.get? T=some o)∧T∉[z,TI,TO,i1,i2,i3,D]))→h'.get? s.heap.objs.size=some (tup3 xs[i] ys[i] zs[i])→h'.objs.size=s.heap.objs.size+1 →
    (∀ c o,c∉[z,TO,i1,i2,i3]→s.heap.get? c=some o→h'.get? c=some o) →
    wpAny (model prog w) A.in1 (updateSeq D (·.push (.ref s.heap.objs.size)) >>= fun _=>again (.builtin "list.extend.loop" ⟨[.ref D,.ref z,res],[]⟩))
     (fun fin s'=>match fin with | .done f=>R (.ok f) s' | .again c'=>c'.quiet=true∧codeAny (model prog w) A c' R s') (fun e s'=>R (.error e) s') {s with heap:=h'}:=by
   intro h' g0 g1 X' hg hT' hN hsz hk
   have hS':h'.get? D=some (lobj "list" acc c):=hk D _ (by simp;exact ⟨D1,D3,D4,D5,D6⟩) hS
   refine wpAny_bind (wpAny_updateSeq hS' rfl (wpAny_pure ⟨plainId_quiet F.plain_extend_loop _,?_⟩) (by rw [hz];exact Nat.le_trans (Nat.le_of_lt hlt) hn) (by show (acc.push _).size≤sizeLine+1;rw [Array.size_push,hz];exact zh43 hlt hn))
   have hS2:=Heap.get?_update_self (Obj.mapSeq (·.push (.ref s.heap.objs.size))) hS' rfl
   have oth:∀ b o,b≠D→h'.get? b=some o→(h'.update D (Obj.mapSeq (·.push (.ref s.heap.objs.size)))).get? b=some o:=fun b o hb e=>(Heap.get?_update_other _ _ (Ne.symm hb)).trans e
   obtain ⟨T',e0,⟨oT,eT⟩,aT⟩:=hT'
   have hTD:T'≠D:=fun q=>aT (by simp [q])
   refine ih (i+1) _ (acc.push (.ref s.heap.objs.size)) _ g0 g1 (by exact zh44 hm) hlt ?_ (X'.at' fun a ha o e=>oth a o (fun q => ?_) e) hg (.inr ⟨T',e0,⟨oT,oth _ _ hTD eT⟩,aT⟩) hS2 (by rw [Array.size_push,hz]) (fun j u hj => ?_) fun s' acc' c' sm hk' hS'' hz'' hI'' => ?_
   ·show B≤(h'.update D _).objs.size
    rw [(Heap.SameBut.update h' D (Obj.mapSeq (·.push (.ref s.heap.objs.size)))).1,hsz];exact Nat.le_add_right_of_le hB
   ·subst q
    simp only [List.mem_cons,List.not_mem_nil,or_false] at ha
    rcases ha with q | q | q | q | q | q | q | q | q
    ·exact D1 q
    ·exact D2 q
    ·exact D3 q
    ·exact D4 q
    ·exact D5 q
    ·exact D6 q
    ·exact D7 q
    ·exact D8 q
    ·exact D9 q
   ·rw [Array.getElem?_push] at hj
    split at hj
    ·rename_i e
     cases hj
     rw [hz] at e
     subst e
     refine ⟨s.heap.objs.size,_,_,_,rfl,gx,gy,gz,oth _ _ (Nat.ne_of_gt hDlt) hN,hB,fun q=>Nat.lt_irrefl _ (lts _ q)⟩
    ·obtain ⟨T,x,y,v,q1,q2,q3,q4,q5,q6,q7⟩:=hI j u hj
     have q8:T≠D:=fun q=>q7 (by simp [q])
     exact ⟨T,x,y,v,q1,q2,q3,q4,oth _ _ q8 (hk T _ (fun q=>q7 (m57 _ q)) q5),q6,q7⟩
   ·refine hR s' acc' c' (Same.trans (.mk s _ s.toks) sm) (fun b o hb e=>hk' b o hb (oth b o (fun q=>hb (by simp [q])) (hk b o (fun q=>hb (m56 _ q)) e))) hS'' hz'' hI''
  rcases hT with ⟨q,rfl⟩ | ⟨T,rfl,hTo,hTa⟩
  ·refine wpAny_bind (next_zip3 (h0:=X.hz) (zip3_item_a (A:=A.in1.in1) nd ap X gx gy gz fun h' X' hN hsz hk => ?_))
   refine key h' _ _ X' (.inl rfl) ⟨_,rfl,⟨_,hN⟩,fun q=>Nat.lt_irrefl _ (lts _ q)⟩ hN hsz hk
  ·refine wpAny_bind (next_zip3 (h0:=X.hz) (zip3_item_b (A:=A.in1.in1) nd ap X hf hTo gx gy gz fun h' X' hN hsz hk => ?_))
   obtain ⟨oT,eT⟩:=hTo
   exact key h' _ _ X' (.inr rfl) ⟨T,rfl,⟨oT,hk T _ (fun q=>hTa (m57 _ q)) eT⟩,hTa⟩ hN hsz hk
end
end Mine
namespace Mine
section
variable {prog:Program} {w:World} {A:Around} {E:Value→Shared→Prop} {s:Shared} {z TI TO i1 i2 i3 l1 l2 l3:Addr} {xs ys zs:Array Value}
theorem call_list_zip3 {n B:Nat} {Q:Value→Shared→Prop} (hh:A.handled=none) (nd:[z,TI,TO,i1,i2,i3].Nodup) (ap:∀ l∈[l1,l2,l3],l∉[z,TI,TO,i1,i2,i3]) (X:ZS s.heap z TI TO i1 i2 i3 l1 l2 l3 0 xs ys zs .none (.bool false)) (hB:B≤s.heap.objs.size)
  (h1:xs.size=n) (h2:ys.size=n) (h3:zs.size=n) (hn:n≤sizeLine) (hpos:0<n)
  (hQ:∀ s' acc c',Same s s'→(∀ c o,c∉[z,TO,i1,i2,i3]→s.heap.get? c=some o→s'.heap.get? c=some o)→s'.heap.get? s.heap.objs.size=some (lobj "list" acc c')→acc.size=n →
   ZItems s'.heap B [z,TI,TO,i1,i2,i3,s.heap.objs.size] xs ys zs acc→Q (.ref s.heap.objs.size) s') :
  wpAny (model prog w) A (call (.type "list") [.ref z]) Q E s:=by
 refine callType_codes (Q₁:=fun obj s₁=>obj= .ref s.heap.objs.size∧s₁={s with heap:=s.heap.push {cls:= .type "list",data:= .seq #[]}}) PySem.F.called_list (PySem.F.typeCall_list_1 _) PySem.F.entry_list_init
  (code_list_new _ ⟨rfl,rfl⟩) fun obj s₁ h₁ => ?_
 obtain ⟨rfl,rfl⟩:=h₁
 have lts:∀ a∈[z,TI,TO,i1,i2,i3,l1,l2,l3],a<s.heap.objs.size:=by
  intro a ha
  simp only [List.mem_cons,List.not_mem_nil,or_false] at ha
  rcases ha with rfl | rfl | rfl | rfl | rfl | rfl | rfl | rfl | rfl
  ·exact Heap.lt_size X.hz
  ·exact Heap.lt_size X.hTI
  ·obtain ⟨_,_,_,e⟩:=X.hTO;exact Heap.lt_size e
  ·obtain ⟨_,e,_⟩:=X.h1;exact Heap.lt_size e
  ·obtain ⟨_,e,_⟩:=X.h2;exact Heap.lt_size e
  ·obtain ⟨_,e,_⟩:=X.h3;exact Heap.lt_size e
  ·obtain ⟨_,e,_⟩:=X.l1;exact Heap.lt_size e
  ·obtain ⟨_,e,_⟩:=X.l2;exact Heap.lt_size e
  ·obtain ⟨_,e,_⟩:=X.l3;exact Heap.lt_size e
 have hDn:s.heap.objs.size∉[z,TI,TO,i1,i2,i3,l1,l2,l3]:=fun q=>Nat.lt_irrefl _ (lts _ q)
 have hDz:s.heap.objs.size≠z:=fun q=>hDn (by rw [q];simp)
 generalize hD:s.heap.objs.size=D at *
 have hS:(s.heap.push {cls:= .type "list",data:= .seq #[]}).get? D=some {cls:= .type "list",data:= .seq #[]}:=by rw [←hD];exact Heap.get?_push_size _ rfl
 refine ⟨⟨_,hS,rfl⟩,PySem.F.args_list_init_2 _ _,?_⟩
 show wpAny _ _ (do let old ←Builtin.List.listItems (.ref D);Builtin.List.listUpdate (.ref D) (fun _ => #[]);letGo old.toList.reverse;Builtin.List.listExtendWith (.ref D) (.ref z) .none) _ _ _
 refine wpAny_bind ?_
 unfold Builtin.List.listItems
 refine wpAny_bind (wpAny_seqItems hS rfl (wpAny_pure ?_))
 show wpAny _ _ (updateSeq D (fun _ => #[]) >>= fun _=>letGo (#[]:Array Value).toList.reverse >>= fun _=>Builtin.List.listExtendWith (.ref D) (.ref z) .none) _ _ _
 refine wpAny_bind (wpAny_updateSeq hS rfl ?_)
 have hS₂:=Heap.get?_update_self (Obj.mapSeq (fun _=>(#[]:Array Value))) hS rfl
 have oth:∀ b o,b≠D→s.heap.get? b=some o→((s.heap.push {cls:= .type "list",data:= .seq #[]}).update D (Obj.mapSeq (fun _=>(#[]:Array Value)))).get? b=some o :=
  fun b o hb e=>(Heap.get?_update_other _ _ (Ne.symm hb)).trans (Heap.get?_push_of_some _ e)
 have hz2:B≤((s.heap.push {cls:= .type "list",data:= .seq #[]}).update D (Obj.mapSeq (fun _=>(#[]:Array Value)))).objs.size:=by
  rw [(Heap.SameBut.update _ D (Obj.mapSeq (fun _=>(#[]:Array Value)))).1,Heap.size_push];exact Nat.le_succ_of_le (by rw [hD];exact hB)
 refine wpAny_bind (wpAny_letGo ?_)
 generalize hhp:(s.heap.push {cls:= .type "list",data:= .seq #[]}).update D (Obj.mapSeq (fun _=>(#[]:Array Value)))=hp at hS₂ oth hz2 ⊢
 have X2:ZS hp z TI TO i1 i2 i3 l1 l2 l3 0 xs ys zs .none (.bool false):=X.at' fun a ha o e=>oth a o (fun q=>hDn (q▸ha)) e
 unfold Builtin.List.listExtendWith
 have hT:∀ {h':Heap},ZS h' z TI TO i1 i2 i3 l1 l2 l3 0 xs ys zs .none (.bool false)→Shared.TypeIs {s with heap:=h'} (.ref z) "zip":=fun X=>⟨_,X.hz,rfl⟩
 refine wpAny_bind (wpAny_typeOf (T := "zip") (hT X2) ?_)
 have h1':Builtin.List.listSameRef (.ref D) (.ref z)=false:=by simp [Builtin.List.listSameRef,hDz]
 have h2':(Value.type "zip" == Value.type "list")=false:=by decide
 have h3':(Value.type "zip" == Value.type "tuple")=false:=by decide
 simp only [h1',h2',h3',Bool.or_false,Bool.false_eq_true,if_false]
 refine wpAny_bind (wpAny_pyIter_zip X2.hz ?_)
 refine wpAny_bind (wpAny_holding ?_)
 unfold Builtin.List.listLengthHint
 refine wpAny_bind (wpAny_specialOf (hT X2) zip_no_len ?_)
 show wpAny _ _ (specialOf (Value.ref z) (Str.ofString "__length_hint__") >>= _) _ _ _
 refine wpAny_bind (wpAny_specialOf (hT X2) zip_no_hint ?_)
 refine wpAny_pure ?_
 show wpAny _ _ (rule "list.extend.makes-room" >>= fun _=>Builtin.List.listTouch (.ref D) >>= fun _=>again (.builtin "list.extend.loop" ⟨[.ref D,.ref z,.none],[]⟩)) _ _ _
 refine wpAny_bind (wpAny_rule ?_)
 refine wpAny_bind ?_
 show wpAny _ _ (updateSeq D (·.push .none) >>= fun _=>updateSeq D (·.pop)) _ _ _
 refine wpAny_bind (wpAny_updateSeq hS₂ rfl ?_)
 have hS₃:=Heap.get?_update_self (Obj.mapSeq (·.push Value.none)) hS₂ rfl
 refine wpAny_updateSeq (hz:=by seq_fits) hS₃ rfl ?_
 have hS₄:=Heap.get?_update_self (Obj.mapSeq (·.pop)) hS₃ rfl
 have oth2:∀ b o,b≠D→hp.get? b=some o→((hp.update D (Obj.mapSeq (·.push Value.none))).update D (Obj.mapSeq (·.pop))).get? b=some o :=
  fun b o hb e=>(Heap.get?_update_other _ _ (Ne.symm hb)).trans ((Heap.get?_update_other _ _ (Ne.symm hb)).trans e)
 have hz3:B≤((hp.update D (Obj.mapSeq (·.push Value.none))).update D (Obj.mapSeq (·.pop))).objs.size:=by
  rw [(Heap.SameBut.update _ D (Obj.mapSeq (·.pop))).1,(Heap.SameBut.update _ D (Obj.mapSeq (·.push Value.none))).1];exact hz2
 refine wpAny_pure ⟨plainId_quiet PySem.F.plain_extend_loop _,?_⟩
 refine extend_zip3 (A:=A.in1) hh nd ap hDn h1 h2 h3 hn hpos n 0 _ #[] _ _ _ rfl (Nat.zero_le _) hz3 (X2.at' fun a ha o e=>oth2 a o (fun q=>hDn (q▸ha)) e) (.inl rfl) (.inl ⟨rfl,rfl⟩) hS₄ rfl (fun j u hj=>by simp at hj) fun s' acc' c' sm hk hS' hz' hI => ?_
 refine ⟨rfl,hQ s' acc' c' (Same.trans (.mk s _ s.toks) sm) (fun c o hc e => ?_) hS' hz' hI⟩
 have hcD:c≠D:=fun q=>by rw [q,←hD] at e;exact absurd (Heap.lt_size e) (Nat.lt_irrefl _)
 exact hk c o (fun q=>by
  simp only [List.mem_cons,List.not_mem_nil,or_false] at q hc
  rcases q with q | q | q | q | q | q
  ·exact hc (.inl q)
  ·exact hc (.inr (.inl q))
  ·exact hc (.inr (.inr (.inl q)))
  ·exact hc (.inr (.inr (.inr (.inl q))))
  ·exact hc (.inr (.inr (.inr (.inr q))))
  ·exact hcD q) (oth2 c o hcD (oth c o hcD e))
end
section
variable {prog:Program} {w:World} {h₀:Heap} {sc:Scope} {env:Env} {b:Nat} {A:Around} {H H':Hm} {s s':Shared} {σ:MS}
noncomputable def Tz3 (h:Heap) (B:Nat) (ads:List Addr) (us xs ys zs:List Value):Prop :=
 ∀ (j:Nat) (u:Value),us[j]?=some u→∃ (T:Nat) (x y v:Value),u= .ref T∧xs[j]?=some x∧ys[j]?=some y∧zs[j]?=some v∧h.get? T=some (tup3 x y v)∧B≤T∧T∉ads
noncomputable def Rz3 (prog:Program) (w:World) (h₀:Heap) (sc:Scope) (env:Env) (σ:MS) (h:Heap) (D:Addr) (H:Hm) (l:List V) (us:List Value):Prop :=
 ∃ H',Grow H H'∧St prog w h₀ sc env H' σ h∧H' D= .out∧AllIs H' l us
theorem frz3 {B D:Nat} {h:Heap} {ads:List Addr} (hDads:D∈ads) (us:List Value) (la lb lc:List V) (xs ys zs:List Value) {H:Hm} (S:St prog w h₀ sc env H σ h) (hD:H D= .out)
  (hB:∀ a:Nat,B≤a→H a= .out∨∃ o,H a= .fz o) (hu:Tz3 h B ads us xs ys zs)
  (e1:us.length=la.length) (e2:lb.length=la.length) (e3:lc.length=la.length) (a1:AllIs H la xs) (a2:AllIs H lb ys) (a3:AllIs H lc zs):Rz3 prog w h₀ sc env σ h D H (zip3L la lb lc) us:=by
 induction us generalizing la lb lc xs ys zs H with
 | nil=>cases la with
  | nil=>exact ⟨H,.refl H,S,hD,by unfold zip3L;exact .nil⟩
  | cons=>cases e1
 | cons u us ih =>
  cases a1 with | nil=>cases e1 | cons g1 a1
  cases a2 with | nil=>cases e2 | cons g2 a2
  cases a3 with | nil=>cases e3 | cons g3 a3
  obtain ⟨T,x1,y1,v1,rfl,q1,q2,q3,q4,q5,q6⟩:=hu 0 u rfl
  have hTD:D≠T:=fun q=>q6 (q▸hDads)
  obtain ⟨H1,G1,S1,k1,k2⟩:∃ H1,Grow H H1∧St prog w h₀ sc env H1 σ h∧H1 T= .fz (tup3 x1 y1 v1)∧(∀ a,a≠T→H1 a=H a) :=
   (hB T q5).elim (fun q=>⟨_,.set q,S.newFz q q4,Hm.set_self ..,fun a ha=>Hm.set_ne _ _ ha⟩) fun ⟨o,q⟩=>⟨H,.refl H,S,q.trans (congrArg Slot.fz (Option.some.inj ((S.heap.fz T o q).symm.trans q4))),fun _ _=>rfl⟩
  obtain ⟨H2,G2,S2,hD2,all⟩:=ih _ _ _ _ _ _ S1 ((k2 D hTD).trans hD) (fun a ha=>(Nat.decEq a T).byCases (fun q=> .inr ⟨_,q▸k1⟩) fun q=>(k2 a q).symm▸hB a ha)
   (fun j u hj=>hu (j+1) u hj) (Nat.succ.inj e1) (Nat.succ.inj e2) (Nat.succ.inj e3) (a1.mono G1.fz) (a2.mono G1.fz) (a3.mono G1.fz)
  have G:=fun a o e=>G2.fz a o (G1.fz a o e)
  exact ⟨H2,G1.trans G2,S2,hD2,.cons (.tup (G2.fz _ _ k1) (.cons (Option.some.inj q1▸g1.mono G) (.cons (Option.some.inj q2▸g2.mono G) (.cons (Option.some.inj q3▸g3.mono G) .nil)))) all⟩
set_option tactic.hygienic true in
theorem zipOk (GL:GV h₀ ("list":Str) (.type "list")) (GZ:GV h₀ ("zip":Str) (.type "zip")):ZipOk prog w h₀ b:=fun sc env es P m px py p1 p2 E hl hz hs hT=>by
 intro A hA σ Q s H hP S
 show wpAny (model prog w) A (eval (.Name "list" px) env >>= fun f=>callWith p2 f [] (backTo p2 (starEach [.Call (.Name "zip" py) es [] p1] env)) (backToKw p2 (keywordEach [] env))) _ noE s
 rw [starEach_plain env (es:=[.Call (.Name "zip" py) es [] p1]) rfl,backTo_evs]
 refine wpAny_bind (glob_name E hl (by decide) GL S.heap ?_)
 refine callWith_of (P:=fun h=>∀ a o,h₀.get? a=some o→h.get? a=some o) (by rw [evs_any];rfl) (keep_type "list") ?_
 refine evalArgs_plain (spliced_cons ?_)
 refine wp_nameCall E hz (by decide) GZ hs hT (keep_type "zip") hA hP S fun us l σ1 s1 H1 g1 e1 r1 q1 S1 => ?_
 unfold zipP at q1
 split at q1
 case h_2=>exact q1.elim
 rename_i x y v
 obtain ⟨la,lb,lc,h1,h2,h3,n1,n2,n0,n3,hQ⟩:=q1
 cases r1 with | cons r1 r2 =>
 cases r2 with | cons r2 r3 =>
 cases r3 with | cons r3 r4 =>
 cases r4
 obtain ⟨a1,it1,c1,rfl,i1,v1,z1⟩:=listOf_len S1 r1 h1
 obtain ⟨a2,it2,c2,rfl,i2,v2,z2⟩:=listOf_len S1 r2 h2
 obtain ⟨a3,it3,c3,rfl,i3,v3,z3⟩:=listOf_len S1 r3 h3
 refine call_zip_3 (IsL.isList i1) (IsL.isList i2) (IsL.isList i3) fun h' z TI TO j1 j2 j3 hfr nd X hk=>spliced_nil ⟨fun a o e=>hk _ _ (S1.heap.stays _ _ e),?_⟩
 have ap:∀ l∈[a1,a2,a3],l∉[z,TI,TO,j1,j2,j3]:=fun l hl q=>by
  have hge:=hfr l q
  have:∃ o,s1.heap.get? l=some o:=by
   simp only [List.mem_cons,List.not_mem_nil,or_false] at hl
   rcases hl with rfl | rfl | rfl
   ·exact ⟨_,i1⟩
   ·exact ⟨_,i2⟩
   ·exact ⟨_,i3⟩
  obtain ⟨o,e⟩:=this
  exact absurd (Heap.lt_size e) (Nat.not_lt.mpr hge)
 have hlt:s1.heap.objs.size≤h'.objs.size:=Nat.le_of_lt (Nat.lt_of_le_of_lt (hfr z (by simp)) (Heap.lt_size X.hz))
 refine call_list_zip3 (s:={s1 with heap:=h'}) (B:=s1.heap.objs.size) (n:=la.length) hA.1 nd ap X hlt z1 (by rw [z2,n1]) (by rw [z3,n2]) (Nat.le_trans n3 lim_le) n0 fun s' acc c' sm hk' hS' hz' hI => ?_
 have S2:St prog w h₀ sc env H1 σ1 s'.heap:=S1.keeps fun a o e=>hk' a o (fun q=>absurd (Heap.lt_size e) (Nat.not_lt.mpr (hfr a (by
  simp only [List.mem_cons,List.not_mem_nil,or_false] at q ⊢
  rcases q with q | q | q | q | q<;>simp [q])))) (hk a o e)
 have outB:∀ a:Nat,s1.heap.objs.size≤a→H1 a= .out:=fun a ha=>S1.heap.out_ge ha
 obtain ⟨H2,G2,S3,hD,all⟩:=frz3 (B:=s1.heap.objs.size) (D:=h'.objs.size) (ads:=[z,TI,TO,j1,j2,j3,h'.objs.size]) (by simp) acc.toList la lb lc it1.toList it2.toList it3.toList S2 (outB _ hlt) (fun a ha=> .inl (outB a ha))
  (fun j u hj=>by
   obtain ⟨T,x,y,v,q⟩:=hI j u (by simpa using hj)
   exact ⟨T,x,y,v,by simpa using q⟩) (by rw [Array.length_toList,hz']) n1 n2 v1 v2 v3
 exact (fin_mkL S3 hS' hD all hQ).from (g1.trans G2) (e1.trans (Same.trans (.mk s1 h' s1.toks) sm))
end
end Mine
namespace Mine
noncomputable def Sat (I:Info) (Γ:Value→PC) (m:MSts) (n:Nat) (C:PC):Prop:=∀ l lv Q,C l lv Q→l.length=n∧denB I Γ m ⟨argLoc l,lv⟩ (retP Q)
noncomputable def Ext (lv lv':LM):Prop:=∀ a x,lv a=some x→lv' a=some x
theorem Ext.refl (lv:LM):Ext lv lv:=fun _ _ h=>h
theorem Ext.new {lv:LM} {a:Addr} (h:lv a=none) (x:Option MO):Ext lv (updL lv a x):=fun b y e=>by
 by_cases q:b=a
 ·subst q;replace e:=h.symm.trans e;cases e
 ·exact (updL_ne _ _ q).trans e
theorem Ext.upd {lv lv':LM} {a:Addr} (E:Ext lv lv') (h:lv a=none) (x:Option MO):Ext lv (updL lv' a x):=fun b y e=>by
 by_cases q:b=a
 ·subst q;replace e:=h.symm.trans e;cases e
 ·rw [updL_ne _ _ q];exact E b y e
section
variable {I:Info} {Γ:Value→PC} {σ:MS} {Q:Fl→MS→Prop}
theorem use {C D:PC} (h:C=D) {l:List V} {lv:LM} {Q:V→LM→Prop} (k:D l lv Q):C l lv Q:=h▸k
abbrev seqK (I:Info) (Γ:Value→PC) (r:MSts) (Q:Fl→MS→Prop) (fl:Fl) (σ1:MS):Prop:=match fl with | .next=>denB I Γ r σ1 Q | fl=>Q fl σ1
abbrev forK (J:List V→List V→MS→Prop) (dn r:List V) (Q:Fl→MS→Prop) (fl:Fl) (σ2:MS):Prop:=match fl with
 | .next=>J dn r σ2
 | .cont=>J dn r σ2
 | .brk=>Q .next σ2
 | .ret v=>Q (.ret v) σ2
abbrev whileK (J:Nat→MS→Prop) (k:Nat) (Q:Fl→MS→Prop) (fl:Fl) (σ2:MS):Prop:=match fl with
 | .next=>∃ k',k'<k∧J k' σ2
 | .cont=>∃ k',k'<k∧J k' σ2
 | .brk=>Q .next σ2
 | .ret v=>Q (.ret v) σ2
theorem B_consG {s:MSt} {r:MSts} (hΓ:∀ f,MonoC (Γ f)) (h:denS I Γ s σ fun fl σ1=>match fl with | .next=>∃ σ2,Gh σ1 σ2∧denB I Γ r σ2 Q | fl=>Q fl σ1):denB I Γ (.cons s r) σ Q:=h
theorem B_cons {s:MSt} {r:MSts} (hΓ:∀ f,MonoC (Γ f)) (h:denS I Γ s σ (seqK I Γ r Q)):denB I Γ (.cons s r) σ Q:=by
 refine B_consG hΓ ((mono_S hΓ s).at h fun fl σ1 h => ?_)
 cases fl with
 | next=>exact ⟨σ1,.refl _,h⟩
 | brk=>exact h
 | cont=>exact h
 | ret=>exact h
theorem S_while {c:MC} {bd:MSts} (hΓ:∀ f,MonoC (Γ f)) (J:Nat→MS→Prop) (k:Nat) (h:J k σ)
  (step:∀ k σ,J k σ→denC I Γ c σ fun t σ1=>(t=true→denB I Γ bd σ1 (whileK J k Q))∧(t=false→Q .next σ1)):denS I Γ (.while_ c bd) σ Q:=by
 exact ⟨_,while_inv (mono_C hΓ c) (mono_B hΓ bd) J step k σ h⟩
theorem S_for {t:MT} {it:ME} {bd:MSts} (hΓ:∀ f,MonoC (Γ f))
  (h:denE I Γ it σ fun v σ1=>∃ items,itemsOf σ1 v=some items∧rngOk v∧∃ J:List V→List V→MS→Prop,J [] items σ1 ∧
   (∀ dn x r σ,J dn (x::r) σ→itemsOf σ v=some items∧∃ σ1,asgV t x σ=some σ1∧denB I Γ bd σ1 (forK J (dn++[x]) r Q))∧(∀ dn σ,J dn [] σ→itemsOf σ v=some items∧Q .next σ)):denS I Γ (.for_ t it bd) σ Q:=by
 refine (mono_E hΓ it).at h fun v σ1 q => ?_
 obtain ⟨items,h1,h2,J,h3,h4,h5⟩:=q
 exact ⟨items,h1,h2,for_inv (mono_B hΓ bd) J h4 h5 items [] σ1 h3⟩
theorem E_comp {m en:Bool} {fr:List (Nat×Nat)} {t:MT} {elt it:ME} {c:MC} {Q:V→MS→Prop} (hΓ:∀ f,MonoC (Γ f))
  (h:denE I Γ it σ fun v σ1=>∃ items,gOf en σ1 v=some items∧rngOk v∧items.length≤lim∧∃ J:List V→List V→List V→MS→Prop,J [] items [] ⟨frLoc fr σ1.loc,σ1.lv⟩ ∧
   (∀ dn x r acc σ,J dn (x::r) acc σ→gOf en σ v=some items∧∃ σ1,asgV t x σ=some σ1∧denC I Γ c σ1 fun b σ2=>(b=true→denE I Γ elt σ2 fun v σ3=>J (dn++[x]) r (acc++[v]) σ3)∧(b=false→J (dn++[x]) r acc σ2)) ∧
   (∀ dn acc σ,J dn [] acc σ→gOf en σ v=some items∧mkL m acc ⟨σ1.loc,σ.lv⟩ Q)):denE I Γ (.comp m fr t elt c en it) σ Q:=by
 refine (mono_E hΓ it).at h fun v σ1 q => ?_
 obtain ⟨items,h1,h2,h3,J,h4,h5,h6⟩:=q
 exact ⟨items,h1,h2,h3,comp_inv (mono_C hΓ c) (mono_E hΓ elt) J h5 h6 items [] [] _ h4⟩
noncomputable def forM (A:MS→Prop) (Q:Fl→MS→Prop) (fl:Fl) (σ:MS):Prop:=match fl with
 | .next=>A σ
 | .cont=>A σ
 | .brk=>Q .next σ
 | .ret v=>Q (.ret v) σ
inductive FStep (I:Info) (Γ:Value→PC) (t:MT) (bd:MSts) (l:List V) (v x:V) (A:MS→Prop) (Q:Fl→MS→Prop) (σ:MS):Prop
 | mk (h:itemsOf σ v=some l) (σ1:MS) (e:asgV t x σ=some σ1) (k:denB I Γ bd σ1 (forM A Q)):FStep I Γ t bd l v x A Q σ
inductive ForM (I:Info) (Γ:Value→PC) (t:MT) (bd:MSts) (Q:Fl→MS→Prop) (v:V) (σ:MS):Prop
 | mk {α:Type} (f:α→V) (xs:List α) (h1:itemsOf σ v=some (xs.map f)) (h2:rngOk v) (J:List α→MS→Prop) (h3:J [] σ)
  (step:∀ d x r φ,d++x::r=xs→J d φ→FStep I Γ t bd (xs.map f) v (f x) (J (d++[x])) Q φ) (done:∀ φ,J xs φ→itemsOf φ v=some (xs.map f)∧Q .next φ):ForM I Γ t bd Q v σ
theorem S_forM {t:MT} {it:ME} {bd:MSts} (hΓ:∀ f,MonoC (Γ f)) (h:denE I Γ it σ (ForM I Γ t bd Q)):denS I Γ (.for_ t it bd) σ Q:=by
 refine S_for hΓ ((mono_E hΓ it).at h fun v σ1 q => ?_)
 obtain ⟨f,xs,h1,h2,J,h3,step,done⟩:=q
 refine ⟨xs.map f,h1,h2,fun dn r φ=>E2 fun d r'=>A3 (r=r'.map f) (d++r'=xs) (J d φ),⟨[],xs,rfl,rfl,h3⟩,fun dn x r φ q => ?_,fun dn φ q => ?_⟩
 ·obtain ⟨d,r',e1,e2,q⟩:=q
  cases r' with
  | nil=>cases e1
  | cons y r' =>
  cases e1
  obtain ⟨k1,σ1,k2,k3⟩:=step d y r' φ e2 q
  refine ⟨k1,σ1,k2,(mono_B hΓ bd).at k3 fun fl ψ k => ?_⟩
  cases fl with
  | brk=>exact k
  | ret=>exact k
  | _=>exact ⟨d++[y],r',rfl,(List.append_assoc ..).trans e2,k⟩
 ·obtain ⟨d,r',e1,e2,q⟩:=q
  cases r' with
  | cons=>cases e1
  | nil =>
  rw [List.append_nil] at e2
  exact done φ (e2▸q)
noncomputable def KCp (P:PT V) (A:V→MS→Prop) (B:MS→Prop):Bool→MS→Prop:=fun b σ=>(b=true→P σ A)∧(b=false→B σ)
inductive CStep (I:Info) (Γ:Value→PC) (en:Bool) (t:MT) (elt:ME) (c:MC) (l:List V) (v x:V) (A:V→MS→Prop) (B:MS→Prop) (σ:MS):Prop
 | mk (h:gOf en σ v=some l) (σ1:MS) (e:asgV t x σ=some σ1) (k:denC I Γ c σ1 (KCp (denE I Γ elt) A B)):CStep I Γ en t elt c l v x A B σ
inductive CompM (I:Info) (Γ:Value→PC) (m en:Bool) (fr:List (Nat×Nat)) (t:MT) (elt:ME) (c:MC) (Q:V→MS→Prop) (v:V) (σ:MS):Prop
 | mk {α:Type} (f:α→V) (xs:List α) (h1:gOf en σ v=some (xs.map f)) (h2:rngOk v) (h3:(xs.map f).length≤lim) (J:List α→List V→MS→Prop) (h4:J [] [] ⟨frLoc fr σ.loc,σ.lv⟩)
  (step:∀ d x r acc φ,d++x::r=xs→J d acc φ→CStep I Γ en t elt c (xs.map f) v (f x) (fun y=>J (d++[x]) (acc++[y])) (J (d++[x]) acc) φ)
  (done:∀ acc φ,J xs acc φ→gOf en φ v=some (xs.map f)∧mkL m acc ⟨σ.loc,φ.lv⟩ Q):CompM I Γ m en fr t elt c Q v σ
theorem E_compM {m en:Bool} {fr:List (Nat×Nat)} {t:MT} {elt it:ME} {c:MC} {Q:V→MS→Prop} (hΓ:∀ f,MonoC (Γ f)) (h:denE I Γ it σ (CompM I Γ m en fr t elt c Q)):denE I Γ (.comp m fr t elt c en it) σ Q:=by
 refine E_comp hΓ ((mono_E hΓ it).at h fun v σ1 q => ?_)
 obtain ⟨f,xs,h1,h2,h0,J,h3,step,done⟩:=q
 refine ⟨xs.map f,h1,h2,h0,fun dn r acc φ=>E2 fun d r'=>A3 (r=r'.map f) (d++r'=xs) (J d acc φ),⟨[],xs,rfl,rfl,h3⟩,fun dn x r acc φ q => ?_,fun dn acc φ q => ?_⟩
 ·obtain ⟨d,r',e1,e2,q⟩:=q
  cases r' with
  | nil=>cases e1
  | cons y r' =>
  cases e1
  have e3:(d++[y])++r'=xs:=(List.append_assoc ..).trans e2
  obtain ⟨k1,σ1,k2,k3⟩:=step d y r' acc φ e2 q
  exact ⟨k1,σ1,k2,(mono_C hΓ c).at k3 fun b ψ k=>⟨fun e=>(mono_E hΓ elt).at (k.1 e) fun _ _ k=>⟨_,r',rfl,e3,k⟩,fun e=>⟨_,r',rfl,e3,k.2 e⟩⟩⟩
 ·obtain ⟨d,r',e1,e2,q⟩:=q
  cases r' with
  | cons=>cases e1
  | nil =>
  rw [List.append_nil] at e2
  exact done acc φ (e2▸q)
end
mutual
noncomputable def V.frz (a:Addr) (l:List V):V→V
 | .ref b=>if b=a then .lst l else .ref b
 | .tup vs=> .tup (V.frzL a l vs)
 | .lst vs=> .lst (V.frzL a l vs)
 | v=>v
noncomputable def V.frzL (a:Addr) (l:List V):List V→List V
 | []=>[]
 | v::r=>V.frz a l v::V.frzL a l r
end
noncomputable def MO.frz (a:Addr) (l:List V):MO→MO
 | .list vs=> .list (V.frzL a l vs)
 | .dict kvs=> .dict (kvs.map fun p=>(p.1,p.2.frz a l))
 | .inst c fs=> .inst c (fs.map fun p=>(p.1,p.2.frz a l))
mutual
theorem ValIs.frz {H H':Hm} {a:Addr} {l:List V} {it:Array Value} {n:Nat} (hm:∀ b o,H b= .fz o→H' b= .fz o) (ha:H' a= .fz (lobj "list" it n)) (hl:AllIs H' l it.toList):∀ {v:V} {u:Value},ValIs H v u→ValIs H' (v.frz a l) u
 | _,_,.none=> .none
 | _,_,.bool b=> .bool b
 | _,_,.int i t=> .int i t
 | _,_,.ref b=>by
  show ValIs _ (if b=a then V.lst l else V.ref b) _
  split
  ·rename_i e;subst e;exact .lst ha hl
  ·exact .ref b
 | _,_,.tup h1 h4=> .tup (hm _ _ h1) (AllIs.frz hm ha hl h4)
 | _,_,.lst h1 h4=> .lst (hm _ _ h1) (AllIs.frz hm ha hl h4)
 | _,_,.rng h1=> .rng (hm _ _ h1)
theorem AllIs.frz {H H':Hm} {a:Addr} {l:List V} {it:Array Value} {n:Nat} (hm:∀ b o,H b= .fz o→H' b= .fz o) (ha:H' a= .fz (lobj "list" it n)) (hl:AllIs H' l it.toList):∀ {vs:List V} {us:List Value},AllIs H vs us→AllIs H' (V.frzL a l vs) us
 | _,_,.nil=> .nil
 | _,_,.cons h t=> .cons (ValIs.frz hm ha hl h) (AllIs.frz hm ha hl t)
end
theorem PairsIs.frz {H H':Hm} {a:Addr} {l:List V} {it:Array Value} {n:Nat} (hm:∀ b o,H b= .fz o→H' b= .fz o) (ha:H' a= .fz (lobj "list" it n)) (hl:AllIs H' l it.toList):∀ {vs:List (Int×V)} {us:List (Int×Value)},PairsIs H vs us→PairsIs H' (vs.map fun p=>(p.1,p.2.frz a l)) us
 | _,_,.nil=> .nil
 | _,_,.cons h t=> .cons (h.frz hm ha hl) (PairsIs.frz hm ha hl t)
theorem FldsIs.frz {P:Params} {H H':Hm} {a:Addr} {l:List V} {it:Array Value} {n:Nat} (hm:∀ b o,H b= .fz o→H' b= .fz o) (ha:H' a= .fz (lobj "list" it n)) (hl:AllIs H' l it.toList):∀ {vs:List (Str×V)} {us:List DictEntry},FldsIs P H vs us→FldsIs P H' (vs.map fun p=>(p.1,p.2.frz a l)) us
 | _,_,.nil=> .nil
 | _,_,.cons h t=> .cons (h.frz hm ha hl) (FldsIs.frz hm ha hl t)
mutual
noncomputable def V.noRef (a:Addr):V→Bool
 | .ref b => !decide (b=a)
 | .tup vs=>V.noRefL a vs
 | .lst vs=>V.noRefL a vs
 | _=>true
noncomputable def V.noRefL (a:Addr):List V→Bool
 | []=>true
 | v::r=>V.noRef a v && V.noRefL a r
end
mutual
theorem V.frz_noRef {a:Addr} {l:List V}:∀ {v:V},v.noRef a=true→v.frz a l=v
 | .none,_=>rfl
 | .bool _,_=>rfl
 | .int _,_=>rfl
 | .rng _ _,_=>rfl
 | .ref b,h=>by
  have h:(!decide (b=a))=true:=h
  show (if b=a then V.lst l else V.ref b)=V.ref b
  rw [if_neg (by simpa using h)]
 | .tup vs,h=>by show V.tup _=_;rw [V.frzL_noRef (vs:=vs) h]
 | .lst vs,h=>by show V.lst _=_;rw [V.frzL_noRef (vs:=vs) h]
theorem V.frzL_noRef {a:Addr} {l:List V}:∀ {vs:List V},V.noRefL a vs=true→V.frzL a l vs=vs
 | [],_=>rfl
 | v::r,h=>by
  have h:(V.noRef a v && V.noRefL a r)=true:=h
  rw [Bool.and_eq_true] at h
  show V.frz a l v::V.frzL a l r=_
  rw [V.frz_noRef h.1,V.frzL_noRef h.2]
end
structure Frz (a:Addr) (l:List V) (σ σ':MS):Prop where
 loc:∀ i v',σ'.loc i=some v'→∃ v,σ.loc i=some v∧(v'=v∨v'=v.frz a l)
 lv:∀ b x',σ'.lv b=some x'→b≠a∧∃ x,σ.lv b=some x∧(x'=x∨x'=x.frz a l)
open Classical in
noncomputable def frzH (H:Hm) (a:Addr) (l:List V) (o:Obj) (pick:Addr→Prop):Hm:=fun b=>if b=a then .fz o else match H b with
 | .lv x=> .lv (if pick b then x.frz a l else x)
 | y=>y
open Classical in
theorem gh_core {prog:Program} {w:World} {h₀:Heap} {sc:Scope} {env:Env} {H:Hm} {h:Heap} {σ σ':MS} {a:Addr} {l:List V} (S:St prog w h₀ sc env H σ h) (ha:σ.lv a=some (.list l)) (Z:Frz a l σ σ') :
  ∃ H',Grow H H'∧St prog w h₀ sc env H' σ' h∧(∀ {v:V} {u:Value},ValIs H v u→ValIs H' (v.frz a l) u):=by
 have hH:=S.live a _ ha
 obtain ⟨it,n,h1,h2⟩:=S.heap.lv a _ hH
 let pick:Addr→Prop:=fun b=>σ'.lv b≠σ.lv b
 let H':=frzH H a l (lobj "list" it n) pick
 have ea:H' a= .fz (lobj "list" it n):=by show (if a=a then _ else _)=_;rw [if_pos rfl]
 have nl:∀ b y,H b=y→(∀ x,y≠ .lv x)→H' b=y:=fun b y e q=>by
  have hb:b≠a:=fun r=>by subst r;replace e:=hH.symm.trans e;exact q _ e.symm
  show (if b=a then _ else _)=_
  rw [if_neg hb]
  cases hy:H b<;>first | (replace e:=hy.symm.trans e;exact e) | (replace e:=hy.symm.trans e;exact absurd e.symm (q _))
 have lv:∀ b x,b≠a→H b= .lv x→H' b= .lv (if pick b then x.frz a l else x):=fun b x hb e=>by
  show (if b=a then _ else _)=_
  rw [if_neg hb,e]
  exact congrArg Slot.lv (by split<;>rfl)
 have back:∀ b y,b≠a→H' b=y→(∀ x,y≠ .lv x)→H b=y:=fun b y hb e q=>by
  have e:(if b=a then _ else _)=y:=e
  replace e:=(if_neg hb).symm.trans e
  cases hy:H b<;>rw [hy] at e<;>first | exact e | exact absurd e.symm (q _)
 have backl:∀ b x,H' b= .lv x→b≠a∧∃ y,H b= .lv y∧(x=y∨x=y.frz a l):=fun b x e=>by
  have hb:b≠a:=fun r=>by rw [r,ea] at e;cases e
  refine ⟨hb,?_⟩
  have e:(if b=a then _ else _)=Slot.lv x:=e
  replace e:=(if_neg hb).symm.trans e
  cases hy:H b<;>rw [hy] at e<;>first | (cases e;refine ⟨_,rfl,?_⟩;split;exact .inr rfl;exact .inl rfl) | cases e
 have hm:∀ b o,H b= .fz o→H' b= .fz o:=fun b o e=>nl b _ e fun _=>Slot.noConfusion
 have hl:AllIs H' l it.toList:=h2.mono hm
 have g:Grow H H':=⟨hm,fun b o e=>nl b _ e fun _=>Slot.noConfusion,fun b e=>nl b _ e fun _=>Slot.noConfusion⟩
 have V':∀ {v:V} {u:Value},ValIs H v u→ValIs H' (v.frz a l) u:=fun hv=>hv.frz hm ea hl
 refine ⟨H',g,⟨⟨fun b o e=>hm b o (S.heap.base b o e),fun b o e => ?_,fun b o e => ?_,fun b x e => ?_,fun b e => ?_,fun b c e => ?_⟩,fun b x e => ?_,?_⟩,V'⟩
 ·by_cases hb:b=a
  ·subst hb;replace e:=ea.symm.trans e;cases e;exact h1
  ·exact S.heap.fz b o (back b _ hb e fun _=>Slot.noConfusion)
 ·have hb:b≠a:=fun r=>by rw [r,ea] at e;cases e
  exact S.heap.pin b o (back b _ hb e fun _=>Slot.noConfusion)
 ·obtain ⟨hb,y,e1,rfl | rfl⟩:=backl b x e
  ·exact (S.heap.lv b x e1).mono hm fun d q=>nl d _ q fun _=>Slot.noConfusion
  have:=S.heap.lv b y e1
  cases y with
  | list vs=>obtain ⟨its,m,q1,q2⟩:=this;exact ⟨its,m,q1,AllIs.frz hm ea hl q2⟩
  | dict kvs=>obtain ⟨ps,q1,q2⟩:=this;exact ⟨ps,q1,q2.frz hm ea hl⟩
  | inst c fs=>obtain ⟨dx,es,m,q1,q2,q3,q4⟩:=this;exact ⟨dx,es,m,q1,nl _ _ q2 fun _=>Slot.noConfusion,q3,q4.frz hm ea hl⟩
 ·have hb:b≠a:=fun r=>by rw [r,ea] at e;cases e
  exact S.heap.own b (back b _ hb e fun _=>Slot.noConfusion)
 ·have hb:b≠a:=fun r=>by rw [r,ea] at e;cases e
  exact S.heap.sub b c (back b _ hb e fun _=>Slot.noConfusion)
 ·obtain ⟨hb,y,e1,q⟩:=Z.lv b x e
  rw [lv b y hb (S.live b y e1)]
  by_cases pk:pick b
  ·rw [if_pos pk]
   rcases q with rfl | rfl
   ·exact absurd (e.trans e1.symm) pk
   ·rfl
  ·rw [if_neg pk]
   have:σ'.lv b=σ.lv b:=Classical.not_not.mp pk
   rw [e,e1] at this;cases this;rfl
 ·have F:=S.fr
  refine ⟨g.own _ F.L,F.ns,fun i v e => ?_,fun n e => ?_,fun n c e => ?_⟩
  ·obtain ⟨y,e1,q⟩:=Z.loc i v e
   obtain ⟨x,kd,u,q1,q2,q3⟩:=F.loc i y e1
   refine ⟨x,kd,u,q1,?_,by rcases q with rfl | rfl;exact q3.mono hm;exact V' q3⟩
   rcases q2 with q2 | ⟨q2,c,q4,q5,q6⟩
   ·exact .inl q2
   ·refine .inr ⟨q2,c,q4,q5,?_⟩
    rcases q6 with q6 | ⟨o,q6⟩
    ·exact .inl (g.own c q6)
    ·exact .inr ⟨o,g.pin c o q6⟩
  ·obtain ⟨c,v,q1,q2,q3⟩:=F.cell n e
   exact ⟨c,v,q1,g.own c q2,q3⟩
  ·rcases F.cls n c e with q | ⟨o,v,q,r⟩
   ·exact .inl q
   ·exact .inr ⟨o,v,g.pin c o q,r⟩
theorem Gh.frz {σ σ':MS} {a:Addr} {l:List V} (ha:σ.lv a=some (.list l)) (Z:Frz a l σ σ'):Gh σ σ':=fun prog w h₀ sc env H h S=>let ⟨H',g,S',_⟩:=gh_core S ha Z;⟨H',g,S'⟩
theorem GhV.frz {σ σ':MS} {a:Addr} {l:List V} {v:V} (ha:σ.lv a=some (.list l)) (Z:Frz a l σ σ'):GhV v σ (v.frz a l) σ':=fun prog w h₀ sc env H h u S hv=>let ⟨H',g,S',k⟩:=gh_core S ha Z;⟨H',g,S',k hv⟩
theorem GhV.ret {σ:MS} {a:Addr} {l:List V} {lv':LM} (ha:σ.lv a=some (.list l)) (h2:∀ b x,lv' b=some x→b≠a∧σ.lv b=some x):GhV (.ref a) σ (.lst l) ⟨fun _=>none,lv'⟩:=by
 have:=GhV.frz (v:= .ref a) (σ':=⟨fun _=>none,lv'⟩) ha ⟨fun i v' e=>(by cases e),fun b x e=>let ⟨q1,q2⟩:=h2 b x e;⟨q1,x,q2,.inl rfl⟩⟩
 have e:V.frz a l (.ref a)= .lst l:=by show (if a=a then V.lst l else V.ref a)=_;rw [if_pos rfl]
 rw [e] at this;exact this
theorem Gh.weak {σ σ':MS} (h1:∀ i v,σ'.loc i=some v→σ.loc i=some v) (h2:∀ a x,σ'.lv a=some x→σ.lv a=some x):Gh σ σ':=fun prog w h₀ sc env H h S =>
 ⟨H,.refl H,S.heap,fun a x e=>S.live a x (h2 a x e),S.fr.L,S.fr.ns,fun i v e=>S.fr.loc i v (h1 i v e),S.fr.cell,S.fr.cls⟩
theorem GhV.weak {σ σ':MS} {v:V} (h1:∀ i v,σ'.loc i=some v→σ.loc i=some v) (h2:∀ a x,σ'.lv a=some x→σ.lv a=some x):GhV v σ v σ':=fun prog w h₀ sc env H h u S hv =>
 let ⟨H',g,S'⟩:=Gh.weak h1 h2 prog w h₀ sc env H h S;⟨H',g,S',hv.mono g.fz⟩
end Mine
namespace Mine
variable {Γ:Value→PC}
noncomputable def bitL (m:Nat):List Nat:=(List.range 8).filter fun i=>m.testBit i
abbrev vI (l:List Int):List V:=l.map V.int
abbrev vN (l:List Nat):List V:=l.map fun (i:Nat)=>V.int i
theorem rep_ext {lv:LM} {lv2:LM} {a:Addr} {b:Addr} {x:MO} (h:lv b=some x) (hn:lv a=none) (y:Option MO) (E:∀ b x,lv b=some x→lv2 b=some x):b≠a∧updL lv2 a y b=some x:=by
 have hb:b≠a:=fun q=>by subst q;replace hn:=h.symm.trans hn;cases hn
 exact ⟨hb,by rw [updL_ne _ _ hb];exact E b x h⟩
theorem ne_of {lv:LM} {a b:Addr} {x:MO} (h:lv b=some x) (hn:lv a=none):b≠a:=fun q=>by subst q;replace hn:=h.symm.trans hn;cases hn
theorem filter_range_le {p:Nat→Bool} {i n:Nat} (hi:i≤n) (h:∀ j,i≤j→p j=false):(List.range n).filter p=(List.range i).filter p:=by
 induction n with
 | zero=>rw [show i=0 from Nat.eq_zero_of_le_zero hi]
 | succ n ih =>
  by_cases q:i=n+1
  ·rw [q]
  ·rw [List.range_succ,List.filter_append,ih (by exact zh45 hi q)]
   simp [h n (by exact zh45 hi q)]
noncomputable def C_bits:PC:=fun l lv Q=>∃ (m:Nat),A3 (l=[.int m]) (m<256) (Q (.lst (vN (bitL m))) lv)
theorem t_bits (hΓ:∀ f,MonoC (Γ f)):Sat I0 Γ m_bits 1 C_bits:=by
 rintro l lv Q ⟨m,rfl,hm,hQ⟩
 refine ⟨rfl,B_cons hΓ ?_⟩
 refine ⟨by decide,fun a ha => ?_⟩
 refine B_cons hΓ ?_
 refine B_cons hΓ ?_
 refine ⟨_,rfl,?_⟩
 refine B_cons hΓ ?_
 let fl:Nat→List V:=fun i=>vN ((List.range i).filter fun i=>m.testBit i)
 let W91:Nat→MS→Prop:=fun k σ=>∃ i,A7 (i≤8) (k=8 - i) (σ.loc 1=some (.ref a)) (σ.loc 2=some (.int i)) (σ.loc 3=some (.int ((m / 2 ^ i:Nat):Int))) (σ.lv a=some (.list (fl i))) (∀ b x,lv b=some x→b≠a∧σ.lv b=some x)
 refine S_while hΓ W91
  8 ⟨0,by decide,rfl,rfl,rfl,by simp [setV,argLoc],by show updL _ _ _ _=_;rw [updL_self];rfl,fun b x e=>rep_ext e ha _ fun _ _ h=>h⟩ ?_
 rintro k σ ⟨i,hi,rfl,h1,h2,h3,h4,h5⟩
 refine ⟨_,h3,_,_,rfl,rfl,fun ht => ?_,fun ht => ?_⟩
 ·have hpos:0<m / 2 ^ i:=by
   simp only [decide_eq_true_eq] at ht
   exact Int.natCast_pos.mp ht
  have hi8:i<8:=by
   rcases Nat.lt_or_ge i 8 with q | q
   ·exact q
   ·exfalso
    have:2 ^ 8≤2 ^ i:=Nat.pow_le_pow_right (by decide) q
    rw [Nat.div_eq_of_lt (by exact Nat.lt_of_lt_of_le hm this)] at hpos;exact zq9 hpos
  have hbit:Builtin.bitAnd ((m / 2 ^ i:Nat):Int) 1=((m / 2 ^ i % 2:Nat):Int):=by rw [bitAnd_m1];exact zq10
  have htb:m.testBit i=decide (m / 2 ^ i % 2=1):=by rw [Nat.testBit_eq_decide_div_mod_eq]
  have hfl:fl (i+1)=fl i++(if m.testBit i then [V.int i] else []):=by
   show vN _=vN _++_
   rw [List.range_succ,List.filter_append]
   simp only [List.filter_cons,List.filter_nil,vN,List.map_append]
   split<;>simp
  have tail:∀ σ',σ'.loc 1=some (.ref a)→σ'.loc 2=some (.int i)→σ'.loc 3=some (.int ((m / 2 ^ i:Nat):Int))→σ'.lv a=some (.list (fl (i+1)))→(∀ b x,lv b=some x→b≠a∧σ'.lv b=some x) →
    denB I0 Γ (.cons (.asgN 3 (.bin false .shr (.loc 3) (.int 1))) (.cons (.asgN 2 (.bin false .add (.loc 2) (.int 1))) .nil)) σ' (whileK W91 (8 - i) (seqK I0 Γ (.cons (.ret (.loc 1)) .nil) (retP Q))):=fun σ' g1 g2 g3 g4 g5=>by
   refine B_cons hΓ ?_
   refine ⟨_,g3,by show (0:Int)≤1;decide,B_cons hΓ ?_⟩
   refine ⟨_,g2,trivial,?_⟩
   refine ⟨8 - (i+1),by exact zh35 hi8,i+1,hi8,rfl,g1,rfl,?_,g4,g5⟩
   show some (V.int (((m / 2 ^ i:Nat):Int).fdiv (2 ^ 1)))=_
   congr 2
   rw [Nat.pow_succ,←Nat.div_div_eq_div_mul,Int.fdiv_eq_ediv_of_nonneg _ (by decide)]
   norm_cast
  refine B_cons hΓ ?_
  refine ⟨_,h3,trivial,(trivial:Plain 4 (.int _)),(trivial:Plain 4 (.int _)),fun hb => ?_,fun hb => ?_⟩
  ·have hb:m.testBit i=true:=by
    rw [htb]
    have e:BOp.val .band ((m / 2 ^ i:Nat):Int) 1=((m / 2 ^ i % 2:Nat):Int):=hbit
    rw [e] at hb
    simp only [decide_eq_true_eq,V.int.injEq] at hb
    simpa using (by exact zq11 hb:m / 2 ^ i % 2=1)
   refine B_cons hΓ ?_
   refine ⟨_,h1,⟨_,_,rfl,h4⟩,_,h2,_,_,rfl,h4,?_,rfl,?_⟩
   ·have:(fl i).length≤8:=by
     show (vN _).length≤8
     rw [List.length_map]
     exact Nat.le_trans (List.length_filter_le _ _) (by rw [List.length_range];exact hi)
    have:lim=1000000:=rfl
    exact zh49 this ‹(_:Nat)≤8›
   ·refine tail _ h1 h2 h3 (by dsimp only;rw [updL_self,hfl,hb];rfl) fun b x e => ?_
    obtain ⟨q1,q2⟩:=h5 b x e
    exact ⟨q1,by dsimp only;rw [updL_ne _ _ q1];exact q2⟩
  ·have hb:m.testBit i=false:=by
    rw [htb]
    have e:BOp.val .band ((m / 2 ^ i:Nat):Int) 1=((m / 2 ^ i % 2:Nat):Int):=hbit
    rw [e] at hb
    simp only [decide_eq_false_iff_not,V.int.injEq] at hb
    simpa using (by exact zq12 hb:¬ m / 2 ^ i % 2=1)
   exact tail _ h1 h2 h3 (by rw [h4,hfl,hb];simp) h5
 ·have hz:m / 2 ^ i=0:=by
   simp only [decide_eq_false_iff_not] at ht
   exact Nat.eq_zero_of_not_pos fun q=>ht (Int.natCast_pos.mpr q)
  refine B_cons hΓ ?_
  refine ⟨_,h1,_,_,GhV.ret h4 (lv':=lv) h5,?_⟩
  have:fl i=vN (bitL m):=by
   show vN _=vN _
   unfold bitL
   rw [filter_range_le hi fun j hj => ?_]
   rw [Nat.testBit_eq_decide_div_mod_eq]
   have:m<2 ^ i:=by
    rcases Nat.lt_or_ge m (2 ^ i) with q | q
    ·exact q
    ·have:=Nat.div_pos q (Nat.two_pow_pos i);exact zq13 this hz
   rw [Nat.div_eq_of_lt (Nat.lt_of_lt_of_le this (Nat.pow_le_pow_right (by decide) hj))]
   rfl
  rw [this]
  exact hQ
end Mine
namespace Mine
variable {Γ:Value→PC}
structure Nf where
 moves:List (List (Nat×Nat))
 hops:List (List Nat)
 tags:List (Nat×Nat)
 first:Nat
noncomputable def Nf.n (N:Nf):Nat:=N.moves.length
abbrev vMv (l:List (Nat×Nat)):List V:=l.map fun p=>V.tup [.int p.1,.int p.2]
abbrev vMoves (l:List (List (Nat×Nat))):V:= .lst (l.map fun x=> .lst (vMv x))
abbrev vHops (l:List (List Nat)):V:= .lst (l.map fun x=> .lst (vN x))
abbrev dN (t:List (Nat×Nat)):List (Int×V):=t.map fun p=>((p.1:Int),V.int p.2)
structure Nf.Wf (N:Nf):Prop where
 small:N.n≤8
 len:N.hops.length=N.n
 mlen:∀ l∈N.moves,l.length≤1000
 mv:∀ l∈N.moves,∀ p∈l,p.1<8∧0<p.1∧p.2<N.n
 hlen:∀ l∈N.hops,l.length≤1000
 hp:∀ l∈N.hops,∀ g∈l,g<N.n
 tg:∀ p∈N.tags,p.1<N.n∧p.2<8
 tnd:(N.tags.map (·.1)).Nodup
 fst:N.first<N.n
abbrev nfFs (N:Nf) (d:Addr):List (Str×V):=[("moves",vMoves N.moves),("hops",vHops N.hops),("tags",.ref d),("first",.int N.first)]
theorem nf_moves (N:Nf) (d:Addr):(nfFs N d).lookup ("moves":Str)=some (vMoves N.moves):=rfl
theorem nf_hopsL (N:Nf) (d:Addr):(nfFs N d).lookup ("hops":Str)=some (vHops N.hops):=rfl
theorem nf_tags (N:Nf) (d:Addr):(nfFs N d).lookup ("tags":Str)=some (.ref d):=rfl
theorem nf_first (N:Nf) (d:Addr):(nfFs N d).lookup ("first":Str)=some (.int N.first):=rfl
abbrev nfObj (N:Nf) (d:Addr):MO:= .inst 92 (nfFs N d)
noncomputable def NfaAt (lv:LM) (a:Addr) (N:Nf):Prop:=∃ d,lv a=some (nfObj N d)∧lv d=some (.dict (dN N.tags))
theorem NfaAt.mono {lv lv':LM} {a:Addr} {N:Nf} (E:Ext lv lv') (h:NfaAt lv a N):NfaAt lv' a N:=let ⟨d,h1,h2⟩:=h;⟨d,E _ _ h1,E _ _ h2⟩
inductive Rc (R:Nat→Nat→Prop) (a:Nat):Nat→Prop
 | refl:Rc R a a
 | tail {b c:Nat}:Rc R a b→R b c→Rc R a c
theorem Rc.trans {R:Nat→Nat→Prop} {a b c:Nat} (x:Rc R a b) (y:Rc R b c):Rc R a c:=by
 induction y with
 | refl=>exact x
 | tail _ h ih=>exact .tail ih h
noncomputable def hopR (N:Nf) (s g:Nat):Prop:=∃ l,N.hops[s]?=some l∧g∈l
noncomputable def bitP (m k:Nat):Prop:=Builtin.bitAnd ((m:Int).fdiv (2 ^ k)) 1≠0
noncomputable def mvR (N:Nf) (k s g:Nat):Prop:=∃ l m,N.moves[s]?=some l∧(m,g)∈l∧bitP m k
noncomputable def clo (N:Nf) (S:Nat→Prop) (g:Nat):Prop:=∃ s,S s∧Rc (hopR N) s g
noncomputable def stepS (N:Nf) (S:Nat→Prop) (k:Nat):Nat→Prop:=clo N fun g=>∃ s,S s∧mvR N k s g
noncomputable def tagS (N:Nf) (S:Nat→Prop) (t:Nat):Prop:=∃ s,S s∧(s,t)∈N.tags
open Classical in
noncomputable def setL (n:Nat) (S:Nat→Prop):List Nat:=(List.range n).filter fun i=>decide (S i)
theorem mem_setL {n:Nat} {S:Nat→Prop} {i:Nat}:i∈setL n S↔i<n∧S i:=by simp [setL]
theorem setL_len {n:Nat} {S:Nat→Prop}:(setL n S).length≤n:=Nat.le_trans (List.length_filter_le _ _) (by simp)
theorem setL_lt {n:Nat} {S:Nat→Prop}:(setL n S).Pairwise (·<·):=List.Pairwise.filter _ List.pairwise_lt_range
theorem setL_congr {n:Nat} {S T:Nat→Prop} (h:∀ i,i<n→(S i↔T i)):setL n S=setL n T:=by
 unfold setL
 refine List.filter_congr fun i hi => ?_
 exact decide_eq_decide.mpr (h i (List.mem_range.mp hi))
theorem hop_lt {N:Nf} (W:N.Wf) {s g:Nat} (h:hopR N s g):g<N.n:=let ⟨l,h1,h2⟩:=h;W.hp l (List.mem_of_getElem? h1) g h2
theorem Rc.lt {N:Nf} (W:N.Wf) {s g:Nat} (h:Rc (hopR N) s g) (hs:s<N.n):g<N.n:=by
 cases h with
 | refl=>exact hs
 | tail _ h=>exact hop_lt W h
theorem sorted_eq {ns:List Int} {ks:List Nat} {n:Nat} {S:Nat→Prop} (hp:ns.Perm (ks.map fun (k:Nat)=>(k:Int))) (hs:ns.Pairwise (·≤·)) (hn:ks.Nodup) (hk:∀ k,k∈ks↔k<n∧S k):ns=(setL n S).map fun (k:Nat)=>(k:Int):=by
 refine List.Perm.eq_of_pairwise (le:=(·≤·)) (fun a b _ _=>Int.le_antisymm) hs ?_ (hp.trans ?_)
 ·refine List.pairwise_map.mpr (setL_lt.imp fun {a b} h => ?_)
  exact zq14 h
 ·refine List.Perm.map _ ?_
  refine (List.perm_ext_iff_of_nodup hn (List.Pairwise.imp (fun {a b} h=>Nat.ne_of_lt h) setL_lt)).mpr fun a => ?_
  rw [hk,mem_setL]
theorem lim_eq:lim=1000000:=rfl
abbrev seenD (ks:List Nat):List (Int×V):=ks.map fun (k:Nat)=>((k:Int),V.bool true)
theorem seenD_keys (ks:List Nat):(seenD ks).map (·.1)=ks.map fun (k:Nat)=>(k:Int):=by simp [seenD]
theorem mem_castL {ks:List Nat} {k:Nat}:(k:Int)∈ks.map (fun (k:Nat)=>(k:Int))↔k∈ks:=by
 simp only [List.mem_map]
 refine ⟨fun ⟨a,h1,h2⟩ => ?_,fun h=>⟨k,h,rfl⟩⟩
 have:a=k:=by exact Int.ofNat_inj.mp h2
 rw [←this];exact h1
open Classical in
theorem seenD_set (ks:List Nat) (k:Nat):dset (seenD ks) k (.bool true)=seenD (if k∈ks then ks else ks++[k]):=by
 unfold dset
 by_cases h:k∈ks
 ·rw [if_pos h,if_pos]
  ·simp only [seenD,List.map_map]
   refine List.map_congr_left fun a _ => ?_
   simp only [Function.comp]
   split<;>simp_all
  ·simp only [List.any_map,List.any_eq_true]
   exact ⟨k,h,by simp⟩
 ·rw [if_neg h,if_neg]
  ·simp [seenD]
  ·simp only [List.any_map,List.any_eq_true,not_exists]
   rintro a ⟨h1,h2⟩
   simp only [Function.comp,decide_eq_true_eq] at h2
   have:a=k:=by exact Int.ofNat_inj.mp h2
   exact h (this▸h1)
theorem compD_inv {t:MT} {ok:MS→Prop} {P1 P2:PT V} {Q:List (Int×V)→MS→Prop} (h1:MonoP P1) (h2:MonoP P2) (J:List V→List V→List (Int×V)→MS→Prop)
  (step:∀ dn x r acc σ,J dn (x::r) acc σ→ok σ∧∃ σ1,asgV t x σ=some σ1∧P1 σ1 fun kv σ2=>∃ k,kv= .int k∧P2 σ2 fun v σ3=>J (dn++[x]) r (dset acc k v) σ3)
  (done:∀ dn acc σ,J dn [] acc σ→ok σ∧Q acc σ):∀ (items dn:List V) (acc:List (Int×V)) (σ:MS),J dn items acc σ→compDP t ok P1 P2 items acc σ Q
 | [],dn,acc,σ,h=>done dn acc σ h
 | x::r,dn,acc,σ,h=>by
  obtain ⟨g1,σ1,g2,g3⟩:=step dn x r acc σ h
  exact ⟨g1,σ1,g2,h1.at g3 fun v σ2 ⟨k,e,h⟩=>⟨k,e,h2.at h fun v σ3 h=>compD_inv h1 h2 J step done r _ _ σ3 h⟩⟩
noncomputable def isSeq (v:V) (l:List V):Prop:=v= .tup l∨v= .lst l
theorem isSeq.items {v:V} {l:List V} (h:isSeq v l) (σ:MS):itemsOf σ v=some l:=by rcases h with rfl | rfl<;>rfl
theorem isSeq.seq {v:V} {l:List V} (h:isSeq v l) (σ:MS):seqOf σ v=some l:=by rcases h with rfl | rfl<;>rfl
theorem isSeq.rng {v:V} {l:List V} (h:isSeq v l):rngOk v:=by rcases h with rfl | rfl<;>trivial
theorem nf_hops {N:Nf} (W:N.Wf) {s:Nat} (hs:s<N.n):∃ l,N.hops[s]?=some l∧l∈N.hops:=by
 have:s<N.hops.length:=by rw [W.len];exact hs
 exact ⟨_,List.getElem?_eq_getElem this,List.getElem_mem this⟩
theorem at_nat {l:List V} {k:Nat} {x:V} (h:l[k]?=some x):at? l (k:Int)=some x:=by
 unfold at?
 rw [if_pos (by exact zq15)]
 simpa using h
noncomputable def C_closure:PC:=fun l lv Q=>E4 fun a sv N ss=>A7 (l=[.ref a,sv]) (NfaAt lv a N) N.Wf (isSeq sv (vN ss)) ((∀ s∈ss,s<N.n)) (ss.length≤lim) (Q (.tup (vN (setL N.n (clo N (·∈ss))))) lv)
theorem t_closure (hΓ:∀ f,MonoC (Γ f)):Sat I0 Γ m_closure 2 C_closure:=by
 rintro l lv Q ⟨a,sv,N,ss,rfl,hN,W,hsv,hss,hlen,hQ⟩
 classical
 obtain ⟨d0,hN1,hN2⟩:=hN
 refine ⟨rfl,B_cons hΓ ?_⟩
 show compDOf [] (.var 1) (denE I0 Γ (.loc 1)) (denE I0 Γ (.bool true)) (denE I0 Γ (.loc 1)) _ _
 refine ⟨sv,rfl,vN ss,hsv.items _,hsv.rng,by simpa using hlen,?_⟩
 refine compD_inv (mono_E hΓ _) (mono_E hΓ _) (fun dn r acc σ=>σ.lv=lv∧∃ d' r' ks,dn=vN d'∧r=vN r'∧d'++r'=ss∧acc=seenD ks∧ks.Nodup∧∀ k,k∈ks↔k∈d') ?_ ?_ _ [] [] _
  ⟨rfl,[],ss,[],rfl,rfl,rfl,rfl,.nil,fun k=>Iff.rfl⟩
 ·rintro dn x r acc σ ⟨hlv,d',r',ks,rfl,hr,hdr,rfl,hnd,hks⟩
  cases r' with
  | nil=>cases hr
  | cons s r' =>
  simp only [vN,List.map_cons,List.cons.injEq] at hr
  obtain ⟨rfl,rfl⟩:=hr
  refine ⟨hsv.items _,_,rfl,_,rfl,_,rfl,hlv,d'++[s],r',if s∈ks then ks else ks++[s],by simp [vN],rfl,by simp [hdr],seenD_set ks s,?_,fun k => ?_⟩
  ·split
   ·exact hnd
   ·rename_i h
    refine List.nodup_append.mpr ⟨hnd,by simp,fun a ha b hb => ?_⟩
    simp at hb;subst hb
    exact fun q=>h (q▸ha)
  ·split
   ·rename_i h
    rw [hks k];simp only [List.mem_append,List.mem_singleton]
    exact ⟨.inl,fun q=>q.elim id fun e=>by rw [e,←hks];exact h⟩
   ·simp only [List.mem_append,List.mem_singleton,hks k]
 rintro dn acc σ ⟨hlv,d',r',ks,rfl,hr,hdr,rfl,hnd,hks⟩
 cases r' with
 | cons s r'=>cases hr
 | nil =>
 rw [List.append_nil] at hdr
 subst hdr
 refine ⟨hsv.items _,fun d hd => ?_⟩
 have hd:lv d=none:=by rw [←hlv];exact hd
 refine B_cons hΓ ?_
 have hklt:∀ k∈ks,k<N.n:=fun k hk=>hss k ((hks k).mp hk)
 have hkl:∀ {ks:List Nat},ks.Nodup→(∀ k∈ks,k<N.n)→ks.length≤8:=fun {ks} h1 h2=>by
  have:=List.Nodup.length_le_of_subset (l₂:=List.range N.n) h1 fun k hk=>List.mem_range.mpr (h2 k hk)
  rw [List.length_range] at this
  exact Nat.le_trans this W.small
 refine ⟨.ref d,rfl,seenD ks,?_,by simp only [seenD,List.length_map];have:=hkl hnd hklt;exact zk2 this rfl,fun ns hp hsr w hw => ?_⟩
 ·show (match updL σ.lv d (some (.dict (seenD ks))) d with | some (.dict l)=>some l | _=>none)=_
  rw [updL_self]
 rw [seenD_keys] at hp
 have hns:=sorted_eq (n:=N.n) (S:=fun k=>k∈ks) hp hsr hnd fun k=>⟨fun h=>⟨hklt k h,h⟩,fun h=>h.2⟩
 have hwd:w≠d:=fun q=>by rw [q] at hw;dsimp only at hw;rw [updL_self] at hw;cases hw
 have hwl:lv w=none:=by
  dsimp only at hw
  rw [updL_ne _ _ hwd,hlv] at hw;exact hw
 refine B_cons hΓ ?_
 let Inv:List Nat→List Nat→Prop:=fun ks ws=>ks.Nodup∧(∀ k∈ks,k<N.n∧clo N (·∈d') k)∧(∀ s∈d',s∈ks)∧(∀ k∈ws,k∈ks)∧ws.length≤ks.length
 let Live:List Nat→List Nat→MS→Prop:=fun ks ws σ=>A6 (σ.loc 0=some (.ref a)) (σ.loc 3=some (.ref d)) (σ.loc 4=some (.ref w)) (σ.lv d=some (.dict (seenD ks))) (σ.lv w=some (.list (vN ws))) (Ext lv σ.lv)
 have liveUpd:∀ {σ:MS} {ks ws},Live ks ws σ→σ.lv a=some (nfObj N d0):=fun h=>h.6 _ _ hN1
 let W92:Nat→MS→Prop:=fun k σ=>E2 fun ks ws=>A4 (k=2*(8 - ks.length)+ws.length) (Inv ks ws) (Live ks ws σ) ((∀ k∈ks,k∉ws→∀ g,hopR N k g→g∈ks))
 refine S_while hΓ W92 (2*(8 - ks.length)+(setL N.n fun k=>k∈ks).length) ?_ ?_
 ·refine ⟨ks,setL N.n fun k=>k∈ks,rfl,⟨hnd,fun k hk=>⟨hklt k hk,k,(hks k).mp hk,.refl⟩,fun s hs=>(hks s).mpr hs,fun k hk=>(mem_setL.mp hk).2,?_⟩,⟨rfl,rfl,rfl,?_,?_,?_⟩,fun k hk hkw => ?_⟩
  ·refine List.Nodup.length_le_of_subset (List.Pairwise.imp (fun {a b} h=>Nat.ne_of_lt h) setL_lt) fun k hk=>(mem_setL.mp hk).2
  ·show updL (updL σ.lv d _) w _ d=_
   rw [updL_ne _ _ (Ne.symm hwd),updL_self]
  ·show updL (updL σ.lv d _) w _ w=_
   rw [updL_self,hns]
   simp [vN,List.map_map,Function.comp_def]
  ·show Ext lv (updL (updL σ.lv d _) w _)
   rw [hlv]
   exact ((Ext.refl lv).upd hd _).upd hwl _
  ·exact absurd (mem_setL.mpr ⟨hklt k hk,hk⟩) hkw
 rintro k σ ⟨ks,ws,rfl,⟨i1,i2,i3,i4,i5⟩,hL,hdone⟩
 have hLc:=hL
 obtain ⟨g1,g2,g3,g4,g5,g6⟩:=hL
 have hk8:ks.length≤8:=hkl i1 fun k hk=>(i2 k hk).1
 refine ⟨.ref w,g3,vN ws,?_,by simp only [vN,List.length_map,lim_eq];exact zk3 i5 hk8 rfl,fun ht => ?_,fun ht => ?_⟩
 ·show (match σ.lv w with | some (.list l)=>some l | _=>none)=_
  rw [g5]
 ·
  obtain ⟨ws',s,rfl⟩:∃ ws' s,ws=ws'++[s]:=by
   rcases List.eq_nil_or_concat ws with q | ⟨a,b,q⟩
   ·subst q;simp at ht
   ·exact ⟨a,b,by rw [q,List.concat_eq_append]⟩
  have hs:s<N.n:=(i2 s (i4 s (by simp))).1
  obtain ⟨hl,hl1,hl2⟩:=nf_hops W hs
  refine B_cons hΓ ?_
  refine ⟨.ref w,g3,⟨_,_,rfl,g5⟩,w,_,rfl,g5,by simp only [vN,List.length_map,lim_eq];exact zk3 i5 hk8 rfl,.int s,by simp [vN],?_⟩
  have hdl:(vN (ws'++[s])).dropLast=vN ws':=by simp [vN]
  rw [hdl]
  refine B_cons hΓ ?_
  have hwa:w≠a:=fun q=>by rw [q,hN1] at hwl;cases hwl
  refine S_forM hΓ ?_
  let J96:List Nat→MS→Prop:=fun d'' σ=>E2 fun ks' ws''=>A6 (2*(8 - ks'.length)+ws''.length≤2*(8 - ks.length)+ws'.length) (Inv ks' ws'') (Live ks' ws'' σ) (∀ k∈ks,k∈ks') (∀ g∈d'',g∈ks') (∀ k∈ks',k∉ws''→k≠s→∀ g,hopR N k g→g∈ks')
  refine ⟨.ref a,g1,a,92,nfFs N d0,vHops N.hops,rfl,?_,ok_hops,nf_hopsL N d0,.int s,rfl,s,rfl,.inl ⟨_,.lst (vN hl),rfl,?_,?_,_,hl,rfl,trivial,J96,?_,?_,?_⟩⟩
  ·show updL σ.lv w _ a=_
   rw [updL_ne _ _ (Ne.symm hwa)];exact g6 _ _ hN1
  ·simp only [List.length_map,W.len,lim_eq];have:=W.small;exact zk0 this rfl
  ·exact at_nat (by rw [List.getElem?_map,hl1];rfl)
  ·refine ⟨ks,ws',Nat.le_refl _,⟨i1,i2,i3,fun k hk=>i4 k (by simp [hk]),by rw [List.length_append] at i5;exact Nat.le_of_add_right_le i5⟩,⟨g1,g2,g3,?_,?_,?_⟩,fun k hk=>hk,(fun g hg=>by cases hg),fun k hk hkw hks g hg=>hdone k hk (fun q => ?_) g hg⟩
   ·show updL σ.lv w _ d=_
    exact (updL_ne _ _ (Ne.symm hwd)).trans g4
   ·show updL σ.lv w _ w=_
    rw [updL_self]
   ·exact g6.upd hwl _
   ·rcases List.mem_append.mp q with q | q
    ·exact hkw q
    ·exact hks (List.mem_singleton.mp q)
  ·rintro d'' g r'' σ hdr ⟨ks',ws'',hms,⟨j1,j2,j3,j4,j5⟩,⟨f1,f2,f3,f4,f5,f6⟩,hsub,hdn,hdn2⟩
   have hgh:g∈hl:=by rw [←hdr];simp
   have hg:g<N.n:=W.hp hl hl2 g hgh
   have hk8':ks'.length≤8:=hkl j1 fun k hk=>(j2 k hk).1
   refine ⟨rfl,_,rfl,?_⟩
   refine B_cons hΓ ?_
   refine ⟨.int g,rfl,.ref d,f2,.inr ⟨g,seenD ks',rfl,?_,fun hb => ?_,fun hb => ?_⟩⟩
   ·show (match σ.lv d with | some (.dict l)=>some l | _=>none)=_
    rw [f4]
   ·rw [seenD_keys] at hb
    have hnm:g∉ks':=fun q=>by simp [mem_castL,q] at hb
    have hlt:ks'.length<8:=by
     have h2:(ks'++[g]).length≤8:=hkl (List.nodup_append.mpr ⟨j1,by simp,fun a ha b hb=>by simp at hb;subst hb;exact fun q=>hnm (q▸ha)⟩) (by
      intro k hk
      rcases List.mem_append.mp hk with q | q
      ·exact (j2 k q).1
      ·rw [List.mem_singleton.mp q];exact hg)
     rw [List.length_append] at h2;simp at h2;exact zk2 h2 rfl
    refine B_cons hΓ ?_
    refine ⟨.ref d,f2,.int g,rfl,d,g,rfl,rfl,.inr ⟨_,f4,by simp only [seenD,List.length_map,lim_eq];exact zk2 hk8' rfl,?_⟩⟩
    rw [seenD_set,if_neg hnm]
    refine B_cons hΓ ?_
    have hlw:updL σ.lv d (some (MO.dict (seenD (ks'++[g])))) w=some (.list (vN ws'')):=(updL_ne _ _ hwd).trans f5
    refine ⟨.ref w,f3,⟨_,_,rfl,hlw⟩,.int g,rfl,w,_,rfl,hlw,by simp only [vN,List.length_map,lim_eq];exact zk4 j5 hk8' rfl,rfl,(?_)⟩
    refine ⟨ks'++[g],ws''++[g],by simp only [List.length_append,List.length_singleton];exact zh54 hms hlt,⟨?_,fun k hk => ?_,fun s hs=>List.mem_append_left _ (j3 s hs),fun k hk => ?_,by simp only [List.length_append,List.length_singleton];exact zq16 j5⟩,⟨f1,f2,f3,?_,?_,?_⟩,fun k hk=>List.mem_append_left _ (hsub k hk),fun k hk => ?_,fun k hk hkw hks g' hg' => ?_⟩
    ·exact List.nodup_append.mpr ⟨j1,by simp,fun a ha b hb=>by simp at hb;subst hb;exact fun q=>hnm (q▸ha)⟩
    ·rcases List.mem_append.mp hk with q | q
     ·exact j2 k q
     ·rw [List.mem_singleton.mp q]
      obtain ⟨s0,q1,q2⟩:=(i2 s (i4 s (by simp))).2
      exact ⟨hg,s0,q1,.tail q2 ⟨hl,hl1,hgh⟩⟩
    ·rcases List.mem_append.mp hk with q | q
     ·exact List.mem_append_left _ (j4 k q)
     ·exact List.mem_append_right _ q
    ·show updL (updL σ.lv d _) w _ d=_
     rw [updL_ne _ _ (Ne.symm hwd),updL_self]
    ·show updL (updL σ.lv d _) w _ w=_
     rw [updL_self];simp [vN]
    ·exact (f6.upd hd _).upd hwl _
    ·rcases List.mem_append.mp hk with q | q
     ·exact List.mem_append_left _ (hdn k q)
     ·exact List.mem_append_right _ q
    ·rcases List.mem_append.mp hk with q | q
     ·exact List.mem_append_left _ (hdn2 k q (fun r=>hkw (List.mem_append_left _ r)) hks g' hg')
     ·exact absurd (List.mem_append_right _ q) hkw
   ·rw [seenD_keys] at hb
    have hm:g∈ks':=by
     have:¬ ¬ g∈ks':=by
      intro q
      simp [mem_castL,q] at hb
     exact Classical.not_not.mp this
    refine ⟨ks',ws'',hms,⟨j1,j2,j3,j4,j5⟩,⟨f1,f2,f3,f4,f5,f6⟩,hsub,fun k hk => ?_,hdn2⟩
    rcases List.mem_append.mp hk with q | q
    ·exact hdn k q
    ·rw [List.mem_singleton.mp q];exact hm
  ·rintro σ ⟨ks',ws'',hms,hI',hL',hsub,hdn,hdn2⟩
   refine ⟨rfl,⟨2*(8 - ks'.length)+ws''.length,?_,ks',ws'',rfl,hI',hL',fun k hk hkw g hg => ?_⟩⟩
   ·rw [List.length_append,List.length_singleton];exact Nat.lt_succ_of_le hms
   ·by_cases hks:k=s
    ·subst hks
     obtain ⟨l',q1,q2⟩:=hg
     replace q1:=hl1.symm.trans q1;cases q1
     exact hdn g q2
    ·exact hdn2 k hk hkw hks g hg
 ·
  have hw0:ws=[]:=by
   cases ws with
   | nil=>rfl
   | cons=>simp [vN] at ht
  subst hw0
  refine B_cons hΓ ?_
  refine ⟨.ref d,g2,seenD ks,?_,by simp only [seenD,List.length_map];exact zk2 hk8 rfl,fun ns hp hsr => ?_⟩
  ·show (match σ.lv d with | some (.dict l)=>some l | _=>none)=_
   rw [g4]
  rw [seenD_keys] at hp
  have hns:=sorted_eq (n:=N.n) (S:=clo N (·∈d')) hp hsr i1 fun k=>⟨i2 k,fun ⟨_,s,h2,h3⟩=>by
   have:∀ b,Rc (hopR N) s b→b∈ks:=fun b h=>by
    induction h with
    | refl=>exact i3 s h2
    | tail h h' ih=>exact hdone _ ih (by simp) _ h'
   exact this k h3⟩
  show mkL false (vI ns) σ _
  refine ⟨vI ns,rfl,?_,_,⟨fun _=>none,lv⟩,GhV.weak (fun i v e=>nomatch e) g6,?_⟩
  ·rw [hns];simp only [vI,List.length_map];have := @setL_len N.n (clo N (·∈d'));have:=W.small;rw [lim_eq];exact zk3 ‹(_:Nat)≤_› this rfl
  ·have:vI ns=vN (setL N.n (clo N (·∈d'))):=by rw [hns];simp [vI,vN,List.map_map,Function.comp_def]
   rw [this]
   exact hQ
end Mine
namespace Mine
variable {Γ:Value→PC}
noncomputable def beginS (N:Nf):Nat→Prop:=clo N (·∈[N.first])
noncomputable def C_begin:PC:=fun l lv Q=>E2 fun a N=>A4 (l=[.ref a]) (NfaAt lv a N) N.Wf (Q (.tup (vN (setL N.n (beginS N)))) lv)
theorem t_begin (hΓ:∀ f,MonoC (Γ f)) (h1:Γ (.ref 101)=C_closure):Sat I0 Γ m_begin 1 C_begin:=by
 rintro l lv Q ⟨a,N,rfl,hN,W,hQ⟩
 obtain ⟨d0,hN1,hN2⟩:=id hN
 refine ⟨rfl,B_cons hΓ ?_⟩
 refine ⟨.ref a,rfl,.ref a,rfl,a,92,nfFs N d0,_,rfl,hN1,ok_first,nf_first N d0,by simp [lim_eq],?_⟩
 refine use h1 ?_
 exact ⟨a,_,N,[N.first],rfl,hN,W,.inr rfl,by simpa using W.fst,by simp [lim_eq],_,⟨fun _=>none,lv⟩,GhV.weak (fun i v e=>nomatch e) (fun _ _ e=>e),hQ⟩
theorem clo_lt {N:Nf} (W:N.Wf) {S:Nat→Prop} (hS:∀ s,S s→s<N.n) {g:Nat} (h:clo N S g):g<N.n:=let ⟨s,h1,h2⟩:=h;Rc.lt W h2 (hS s h1)
theorem mv_lt {N:Nf} (W:N.Wf) {k s g:Nat} (h:mvR N k s g):g<N.n:=let ⟨l,m,h1,h2,_⟩:=h;(W.mv l (List.mem_of_getElem? h1) _ h2).2.2
theorem beginS_lt {N:Nf} (W:N.Wf) {g:Nat} (h:beginS N g):g<N.n:=clo_lt W (fun s hs=>by simp at hs;subst hs;exact W.fst) h
theorem stepS_lt {N:Nf} (W:N.Wf) {S:Nat→Prop} {k g:Nat} (h:stepS N S k g):g<N.n:=clo_lt W (fun s ⟨t,_,h⟩=>mv_lt W h) h
theorem setL_pred {n:Nat} {S:Nat→Prop} (hS:∀ s,S s→s<n):(fun s=>s∈setL n S)=S:=funext fun s=>propext ⟨fun h=>(mem_setL.mp h).2,fun h=>mem_setL.mpr ⟨hS s h,h⟩⟩
theorem nf_mv {N:Nf} {s:Nat} (hs:s<N.n):∃ l,N.moves[s]?=some l∧l∈N.moves:=⟨_,List.getElem?_eq_getElem hs,List.getElem_mem hs⟩
noncomputable def C_step:PC:=fun l lv Q=>E5 fun a sv N ss k=>A7 (l=[.ref a,sv,.int k]) (NfaAt lv a N) N.Wf (isSeq sv (vN ss)) ((∀ s∈ss,s<N.n)) (k≤lim) (((k<0∧Q (.tup []) lv)∨(0≤k∧Q (.tup (vN (setL N.n (stepS N (·∈ss) k.toNat)))) lv)))
theorem nodup_snoc {α:Type} {l:List α} {a:α} (h:l.Nodup) (ha:a∉l):(l++[a]).Nodup :=
 List.nodup_append.mpr ⟨h,by simp,fun x hx b hb=>by simp at hb;subst hb;exact fun q=>ha (q▸hx)⟩
theorem len_le_n {ks:List Nat} {n:Nat} (h1:ks.Nodup) (h2:∀ k∈ks,k<n):ks.length≤n:=by
 have:=List.Nodup.length_le_of_subset (l₂:=List.range n) h1 fun k hk=>List.mem_range.mpr (h2 k hk)
 rwa [List.length_range] at this
open Classical in
theorem t_step (hΓ:∀ f,MonoC (Γ f)) (h1:Γ (.ref 101)=C_closure):Sat I0 Γ m_step 3 C_step:=by
 rintro l lv Q ⟨a,sv,N,ss,k,rfl,hN,W,hsv,hss,hk,hQ⟩
 obtain ⟨d0,hN1,hN2⟩:=id hN
 have w8:=W.small
 refine ⟨rfl,B_cons hΓ ?_⟩
 refine ⟨.int k,rfl,k,0,rfl,rfl,fun ht => ?_,fun ht => ?_⟩
 ·rcases hQ with ⟨_,hQ⟩ | ⟨q,_⟩
  ·refine B_cons hΓ ?_
   exact ⟨by simp [lim_eq],_,⟨fun _=>none,lv⟩,GhV.weak (fun i v e=>nomatch e) (fun _ _ e=>e),hQ⟩
  ·simp only [decide_eq_true_eq] at ht;omega
 have hk0:0≤k:=by simp only [decide_eq_false_iff_not] at ht;exact Int.not_lt.mp ht
 replace hQ:=(hQ.resolve_left fun q=>by omega).2
 refine (B_cons hΓ ?_)
 intro d hd
 replace hd:lv d=none:=hd
 have hda:a≠d:=ne_of hN1 hd
 have hd0:d0≠d:=ne_of hN2 hd
 refine B_cons hΓ (S_forM hΓ ?_)
 let Live:List Nat→MS→Prop:=fun ks σ=>A5 (σ.loc 0=some (.ref a)) (σ.loc 2=some (.int k)) (σ.loc 3=some (.ref d)) (σ.lv=updL lv d (some (.dict (seenD ks)))) ks.Nodup
 let J1:List Nat→MS→Prop:=fun d' σ=>∃ ks,(Live ks σ)∧((∀ g,g∈ks↔∃ s∈d',mvR N k.toNat s g))
 refine ⟨sv,rfl,_,ss,hsv.items _,hsv.rng,J1,?_,?_,?_⟩
 ·exact ⟨[],⟨rfl,rfl,rfl,rfl,.nil⟩,fun g=>by simp⟩
 ·rintro d' s r' σ hdr ⟨ks,⟨g1,g2,g3,g4,g5⟩,hks⟩
  have hs:s<N.n:=hss s (by rw [←hdr];simp)
  obtain ⟨ml,hm1,hm2⟩:=nf_mv hs
  refine ⟨hsv.items _,_,rfl,?_⟩
  refine B_cons hΓ (S_forM hΓ ?_)
  let J93:List (Nat×Nat)→MS→Prop:=fun d2 σ=>∃ ks2,(Live ks2 σ)∧((∀ g,g∈ks2↔(∃ s∈d',mvR N k.toNat s g)∨∃ m,(m,g)∈d2∧bitP m k.toNat))
  refine ⟨.ref a,g1,a,92,nfFs N d0,vMoves N.moves,rfl,?_,ok_moves,nf_moves N d0,.int s,rfl,s,rfl,.inl ⟨_,.lst (vMv ml),rfl,?_,?_,_,ml,rfl,trivial,J93,?_,?_,?_⟩⟩
  ·show σ.lv a=_
   rw [g4,updL_ne _ _ hda];exact hN1
  ·simp only [List.length_map,lim_eq];have:N.moves.length≤8:=w8;exact zk0 this rfl
  ·exact at_nat (by rw [List.getElem?_map,hm1];rfl)
  ·exact ⟨ks,⟨g1,g2,g3,g4,g5⟩,fun g=>by rw [hks];simp⟩
  ·rintro d2 p r2 σ hdr2 ⟨ks2,⟨f1,f2,f3,f4,f5⟩,hks2⟩
   obtain ⟨m,g⟩:=p
   have hpm:(m,g)∈ml:=by rw [←hdr2];simp
   have hgn:=(W.mv ml hm2 _ hpm).2.2
   have hks2l:ks2.length≤8:=Nat.le_trans (len_le_n f5 fun g hg=>by
    rcases (hks2 g).mp hg with ⟨s,_,q⟩ | ⟨m,q,_⟩
    ·exact mv_lt W q
    ·exact (W.mv ml hm2 _ (by rw [←hdr2];exact List.mem_append_left _ q)).2.2) w8
   refine ⟨rfl,_,rfl,?_⟩
   refine B_cons hΓ ?_
   refine ⟨.int m,rfl,.int k,f2,hk0,trivial,fun hb => ?_,fun hb => ?_⟩
   ·have hbp:bitP m k.toNat:=by simpa [bitP,BOp.val] using hb
    refine B_cons hΓ ?_
    refine ⟨.ref d,f3,.int g,rfl,d,g,rfl,rfl,.inr ⟨seenD ks2,by show σ.lv d=_;rw [f4,updL_self],by simp only [seenD,List.length_map,lim_eq];exact zk2 hks2l rfl,(?_)⟩⟩
    refine ⟨if g∈ks2 then ks2 else ks2++[g],⟨f1,f2,f3,?_,?_⟩,fun g' => ?_⟩
    ·show updL σ.lv d _=_
     rw [seenD_set,f4]
     funext b;by_cases q:b=d
     ·subst q;rw [updL_self,updL_self]
     ·rw [updL_ne _ _ q,updL_ne _ _ q,updL_ne _ _ q]
    ·split
     ·exact f5
     ·rename_i h;exact nodup_snoc f5 h
    ·constructor
     ·intro h
      have:g'∈ks2∨g'=g:=by
       split at h
       ·exact .inl h
       ·simpa using h
      rcases this with q | rfl
      ·exact ((hks2 g').mp q).imp id fun ⟨m',q1,q2⟩=>⟨m',List.mem_append_left _ q1,q2⟩
      ·exact .inr ⟨m,by simp,hbp⟩
     ·intro h
      have:g'∈ks2∨g'=g:=by
       rcases h with h | ⟨m',q1,q2⟩
       ·exact .inl ((hks2 g').mpr (.inl h))
       ·rcases List.mem_append.mp q1 with q | q
        ·exact .inl ((hks2 g').mpr (.inr ⟨m',q,q2⟩))
        ·simp at q;exact .inr q.2
      split
      ·rename_i h';rcases this with q | rfl
       ·exact q
       ·exact h'
      ·simpa using this
   ·have hbp:¬ bitP m k.toNat:=by simpa [bitP,BOp.val] using hb
    refine ⟨ks2,⟨f1,f2,f3,f4,f5⟩,fun g' => ?_⟩
    rw [hks2]
    refine or_congr Iff.rfl ⟨fun ⟨m',q1,q2⟩=>⟨m',List.mem_append_left _ q1,q2⟩,fun ⟨m',q1,q2⟩ => ?_⟩
    rcases List.mem_append.mp q1 with q | q
    ·exact ⟨m',q,q2⟩
    ·simp at q;obtain ⟨rfl,rfl⟩:=q;exact absurd q2 hbp
  ·rintro σ ⟨ks2,hL,hks2⟩
   refine ⟨rfl,⟨ks2,hL,fun g => ?_⟩⟩
   rw [hks2]
   constructor
   ·rintro (⟨s',q1,q2⟩ | ⟨m,q1,q2⟩)
    ·exact ⟨s',List.mem_append_left _ q1,q2⟩
    ·exact ⟨s,by simp,ml,m,hm1,q1,q2⟩
   ·rintro ⟨s',q1,q2⟩
    rcases List.mem_append.mp q1 with q | q
    ·exact .inl ⟨s',q,q2⟩
    ·simp at q;subst q
     obtain ⟨l',m,q3,q4,q5⟩:=q2
     replace q3:=hm1.symm.trans q3;cases q3
     exact .inr ⟨m,q4,q5⟩
 ·rintro σ ⟨ks,⟨g1,g2,g3,g4,g5⟩,hks⟩
  refine ⟨hsv.items _,B_cons hΓ ?_⟩
  have hkn:∀ g,g∈ks→g<N.n:=fun g hg=>let ⟨s,_,q⟩:=(hks g).mp hg;mv_lt W q
  have hkl:ks.length≤8:=Nat.le_trans (len_le_n g5 hkn) w8
  refine ⟨.ref a,g1,.ref d,g3,seenD ks,?_,by simp only [seenD,List.length_map];exact zk2 hkl rfl,fun ns hp hsr => ?_⟩
  ·show (match σ.lv d with | some (.dict l)=>some l | _=>none)=_
   rw [g4,updL_self]
  rw [seenD_keys] at hp
  have hns:=sorted_eq (n:=N.n) (S:=fun g=>∃ s∈ss,mvR N k.toNat s g) hp hsr g5 fun g=>⟨fun h=>⟨hkn g h,(hks g).mp h⟩,fun h=>(hks g).mpr h.2⟩
  refine use h1 ?_
  have hX:Ext lv σ.lv:=by rw [g4];exact Ext.new hd _
  refine ⟨a,_,N,setL N.n fun g=>∃ s∈ss,mvR N k.toNat s g,rfl,NfaAt.mono hX hN,W,.inr ?_,fun s hs=>(mem_setL.mp hs).1,?_,_,⟨fun _=>none,lv⟩,GhV.weak (fun i v e=>nomatch e) hX,?_⟩
  ·rw [hns];simp [vI,vN,List.map_map,Function.comp_def]
  ·have := @setL_len N.n fun g=>∃ s∈ss,mvR N k.toNat s g;rw [lim_eq];exact zk3 this w8 rfl
  ·rw [setL_pred fun s ⟨t,_,h⟩=>mv_lt W h]
   exact hQ
end Mine
namespace Mine
variable {Γ:Value→PC}
theorem dN_keys (t:List (Nat×Nat)):(dN t).map (·.1)=(t.map (·.1)).map fun (k:Nat)=>(k:Int):=by simp [dN,List.map_map,Function.comp_def]
theorem dN_get {t:List (Nat×Nat)} (hn:(t.map (·.1)).Nodup) {s v:Nat} (h:(s,v)∈t):dget (dN t) s=some (.int v):=by
 unfold dget
 induction t with
 | nil=>cases h
 | cons p r ih =>
  rw [List.map_cons,List.nodup_cons] at hn
  rcases List.mem_cons.mp h with rfl | h
  ·simp
  ·have:p.1≠s:=fun q=>hn.1 (q▸List.mem_map.mpr ⟨_,h,rfl⟩)
   have h2:¬ ((p.1:Nat):Int)=s:=by exact zq17 this
   simp only [List.map_cons,List.find?_cons,h2,decide_false]
   exact ih hn.2 h
theorem dN_mem {t:List (Nat×Nat)} {s:Nat}:(s:Int)∈(dN t).map (·.1)↔∃ v,(s,v)∈t:=by
 rw [dN_keys,mem_castL]
 simp
noncomputable def C_tags_of:PC:=fun l lv Q=>E4 fun a sv N ss=>A6 (l=[.ref a,sv]) (NfaAt lv a N) N.Wf (isSeq sv (vN ss)) ((∀ s∈ss,s<N.n)) (Q (.tup (vN (setL 8 (tagS N (·∈ss))))) lv)
open Classical in
theorem t_tags_of (hΓ:∀ f,MonoC (Γ f)):Sat I0 Γ m_tags_of 2 C_tags_of:=by
 rintro l lv Q ⟨a,sv,N,ss,rfl,hN,W,hsv,hss,hQ⟩
 obtain ⟨d0,hN1,hN2⟩:=id hN
 have w8:=W.small
 refine ⟨rfl,B_cons hΓ ?_⟩
 intro d hd
 replace hd:lv d=none:=hd
 have hda:a≠d:=ne_of hN1 hd
 have hd0:d0≠d:=ne_of hN2 hd
 refine B_cons hΓ (S_forM hΓ ?_)
 let J1:List Nat→MS→Prop:=fun d' σ=>∃ ks,A5 (σ.loc 0=some (.ref a)) (σ.loc 2=some (.ref d)) (σ.lv=updL lv d (some (.dict (seenD ks)))) ks.Nodup ((∀ t,t∈ks↔tagS N (·∈d') t))
 refine ⟨sv,rfl,_,ss,hsv.items _,hsv.rng,J1,?_,?_,?_⟩
 ·exact ⟨[],rfl,rfl,rfl,.nil,fun g=>by simp [tagS]⟩
 ·rintro d' s r' σ hdr ⟨ks,g1,g2,g4,g5,hks⟩
  have hs:s<N.n:=hss s (by rw [←hdr];simp)
  have hksl:ks.length≤8:=len_le_n g5 fun t ht=>let ⟨s',_,q⟩:=(hks t).mp ht;(W.tg _ q).2
  have lva:σ.lv a=some (nfObj N d0):=by rw [g4,updL_ne _ _ hda];exact hN1
  have lvd:σ.lv d0=some (.dict (dN N.tags)):=by rw [g4,updL_ne _ _ hd0];exact hN2
  refine ⟨hsv.items _,_,rfl,?_⟩
  refine B_cons hΓ ?_
  refine ⟨.int s,rfl,.ref a,g1,a,92,nfFs N d0,.ref d0,rfl,lva,ok_tags,nf_tags N d0,.inr ⟨s,dN N.tags,rfl,?_,fun hb => ?_,fun hb => ?_⟩⟩
  ·show (match σ.lv d0 with | some (.dict l)=>some l | _=>none)=_
   rw [lvd]
  ·obtain ⟨t,ht⟩:=dN_mem.mp (of_decide_eq_true hb)
   refine B_cons hΓ ?_
   refine ⟨.ref d,g2,.ref a,g1,a,92,nfFs N d0,.ref d0,rfl,lva,ok_tags,nf_tags N d0,.int s,rfl,s,rfl,.inr ⟨dN N.tags,.int t,?_,dN_get W.tnd ht,d,t,rfl,rfl,.inr ⟨seenD ks,by show σ.lv d=_;rw [g4,updL_self],by simp only [seenD,List.length_map,lim_eq];exact zk2 hksl rfl,(?_)⟩⟩⟩
   ·show (match σ.lv d0 with | some (.dict l)=>some l | _=>none)=_
    rw [lvd]
   refine ⟨if t∈ks then ks else ks++[t],g1,g2,?_,?_,fun t' => ?_⟩
   ·show updL σ.lv d _=_
    rw [seenD_set,g4]
    funext b;by_cases q:b=d
    ·subst q;rw [updL_self,updL_self]
    ·rw [updL_ne _ _ q,updL_ne _ _ q,updL_ne _ _ q]
   ·split
    ·exact g5
    ·rename_i h;exact nodup_snoc g5 h
   ·have e1:t'∈(if t∈ks then ks else ks++[t])↔t'∈ks∨t'=t:=by
     split
     ·rename_i h;exact ⟨.inl,fun q=>q.elim id fun e=>e▸h⟩
     ·simp
    rw [e1,hks]
    constructor
    ·rintro (⟨s',q1,q2⟩ | rfl)
     ·exact ⟨s',List.mem_append_left _ q1,q2⟩
     ·exact ⟨s,by simp,ht⟩
    ·rintro ⟨s',q1,q2⟩
     rcases List.mem_append.mp q1 with q | q
     ·exact .inl ⟨s',q,q2⟩
     ·simp at q;subst q
      right
      have h1:=dN_get W.tnd ht
      have h2:=dN_get W.tnd q2
      rw [h1] at h2
      simp at h2;exact Int.ofNat_inj.mp (id (Eq.symm h2))
  ·have hno:∀ t,(s,t)∉N.tags:=fun t ht=>by
    have:=of_decide_eq_false hb
    exact this (dN_mem.mpr ⟨t,ht⟩)
   refine (⟨ks,g1,g2,g4,g5,fun t => ?_⟩)
   rw [hks]
   refine ⟨fun ⟨s',q1,q2⟩=>⟨s',List.mem_append_left _ q1,q2⟩,fun ⟨s',q1,q2⟩ => ?_⟩
   rcases List.mem_append.mp q1 with q | q
   ·exact ⟨s',q,q2⟩
   ·simp at q;subst q;exact absurd q2 (hno t)
 ·rintro σ ⟨ks,g1,g2,g4,g5,hks⟩
  refine ⟨hsv.items _,B_cons hΓ ?_⟩
  have hk8:∀ t,t∈ks→t<8:=fun t ht=>let ⟨s',_,q⟩:=(hks t).mp ht;(W.tg _ q).2
  have hkl:ks.length≤8:=len_le_n g5 hk8
  refine ⟨.ref d,g2,seenD ks,?_,by simp only [seenD,List.length_map];exact zk2 hkl rfl,fun ns hp hsr => ?_⟩
  ·show (match σ.lv d with | some (.dict l)=>some l | _=>none)=_
   rw [g4,updL_self]
  rw [seenD_keys] at hp
  have hns:=sorted_eq (n:=8) (S:=tagS N (·∈ss)) hp hsr g5 fun g=>⟨fun h=>⟨hk8 g h,(hks g).mp h⟩,fun h=>(hks g).mpr h.2⟩
  show mkL false (vI ns) σ _
  refine ⟨vI ns,rfl,?_,_,⟨fun _=>none,lv⟩,GhV.weak (fun i v e=>nomatch e) (fun b x e=>by rw [g4];exact Ext.new hd _ b x e),?_⟩
  ·rw [hns];simp only [vI,List.length_map];have := @setL_len 8 (tagS N (·∈ss));rw [lim_eq];exact zk0 this rfl
  ·have:vI ns=vN (setL 8 (tagS N (·∈ss))):=by rw [hns];simp [vI,vN,List.map_map,Function.comp_def]
   rw [this]
   exact hQ
noncomputable def stepZ (N:Nf) (S:Nat→Prop) (k:Int):Nat→Prop:=if k<0 then fun _=>False else stepS N S k.toNat
noncomputable def runS (N:Nf) (S:Nat→Prop) (ks:List Int):Nat→Prop:=ks.foldl (stepZ N) S
theorem stepZ_lt {N:Nf} (W:N.Wf) {S:Nat→Prop} {k:Int} {g:Nat} (h:stepZ N S k g):g<N.n:=by
 unfold stepZ at h
 split at h
 ·exact h.elim
 ·exact stepS_lt W h
theorem setL_false (n:Nat):setL n (fun _=>False)=[]:=by simp [setL]
theorem use_step {lv:LM} {a:Addr} {N:Nf} {S:Nat→Prop} {k:Int} {Q:V→LM→Prop} (hN:NfaAt lv a N) (W:N.Wf) (hS:∀ s,S s→s<N.n) (hk:k≤lim) (hQ:Q (.tup (vN (setL N.n (stepZ N S k)))) lv) :
  C_step [.ref a,.tup (vN (setL N.n S)),.int k] lv Q:=by
 refine ⟨a,_,N,setL N.n S,k,rfl,hN,W,.inl rfl,fun s hs=>(mem_setL.mp hs).1,hk,?_⟩
 unfold stepZ at hQ
 by_cases h:k<0
 ·rw [if_pos h,setL_false] at hQ
  exact .inl ⟨h,hQ⟩
 ·rw [if_neg h] at hQ
  refine .inr ⟨by exact Int.not_lt.mp h,?_⟩
  rw [setL_pred hS];exact hQ
theorem use_tags {lv:LM} {a:Addr} {N:Nf} {S:Nat→Prop} {Q:V→LM→Prop} (hN:NfaAt lv a N) (W:N.Wf) (hS:∀ s,S s→s<N.n) (hQ:Q (.tup (vN (setL 8 (tagS N S)))) lv) :
  C_tags_of [.ref a,.tup (vN (setL N.n S))] lv Q:=by
 refine ⟨a,_,N,setL N.n S,rfl,hN,W,.inl rfl,fun s hs=>(mem_setL.mp hs).1,?_⟩
 rw [setL_pred hS];exact hQ
noncomputable def C_simulate:PC:=fun l lv Q=>E4 fun a nv N ks=>A6 (l=[.ref a,nv]) (NfaAt lv a N) N.Wf (isSeq nv (vI ks)) ((∀ k∈ks,k≤lim)) (Q (.tup (vN (setL 8 (tagS N (runS N (beginS N) ks))))) lv)
theorem t_simulate (hΓ:∀ f,MonoC (Γ f)) (h1:Γ (.ref 108)=C_begin) (h2:Γ (.ref 115)=C_step) (h3:Γ (.ref 122)=C_tags_of):Sat I0 Γ m_simulate 2 C_simulate:=by
 rintro l lv Q ⟨a,nv,N,ks,rfl,hN,W,hnv,hks,hQ⟩
 refine ⟨rfl,B_cons hΓ ?_⟩
 refine ⟨.ref a,rfl,?_⟩
 refine use h1 ?_
 refine ⟨a,N,rfl,hN,W,?_⟩
 refine B_cons hΓ (S_for hΓ ?_)
 let J2:List V→List V→MS→Prop:=fun dn r σ=>E3 fun d' r' S=>A7 (r=vI r') (d'++r'=ks) (σ.loc 0=some (.ref a)) (σ.loc 2=some (.tup (vN (setL N.n S)))) (σ.lv=lv) ((∀ s,S s→s<N.n)) (S=runS N (beginS N) d')
 refine ⟨nv,rfl,vI ks,hnv.items _,hnv.rng,J2,?_,?_,?_⟩
 ·exact ⟨[],ks,beginS N,rfl,rfl,rfl,rfl,rfl,fun s hs=>beginS_lt W hs,rfl⟩
 ·rintro dn x r σ ⟨d',r',S,hr,hdr,g1,g2,g3,g4,g5⟩
  cases r' with
  | nil=>cases hr
  | cons k r' =>
  simp only [vI,List.map_cons,List.cons.injEq] at hr
  obtain ⟨rfl,rfl⟩:=hr
  refine ⟨hnv.items _,_,rfl,B_cons hΓ ?_⟩
  refine ⟨.ref a,g1,_,g2,.int k,rfl,?_⟩
  show Γ (.ref 115) _ σ.lv _
  rw [h2,g3]
  refine use_step hN W g4 (hks k (by rw [←hdr];simp)) (⟨d'++[k],r',stepZ N S k,rfl,by simp [hdr],g1,rfl,rfl,fun s hs=>stepZ_lt W hs,?_⟩)
  rw [g5];simp [runS]
 ·rintro dn σ ⟨d',r',S,hr,hdr,g1,g2,g3,g4,g5⟩
  cases r' with
  | cons=>cases hr
  | nil =>
  rw [List.append_nil] at hdr
  subst hdr
  refine ⟨hnv.items _,B_cons hΓ ?_⟩
  refine ⟨.ref a,g1,_,g2,?_⟩
  show Γ (.ref 122) _ σ.lv _
  rw [h3,g3]
  refine use_tags hN W g4 ⟨_,⟨fun _=>none,lv⟩,GhV.weak (fun i v e=>nomatch e) (fun _ _ e=>e),?_⟩
  rw [g5];exact hQ
noncomputable def endL (N:Nf):(Nat→Prop)→Nat→List Int→List (Nat×List Nat)
 | _,_,[]=>[]
 | S,i,k::r=>(if setL 8 (tagS N (stepZ N S k))=[] then [] else [(i+1,setL 8 (tagS N (stepZ N S k)))])++endL N (stepZ N S k) (i+1) r
abbrev vEnd (l:List (Nat×List Nat)):List V:=l.map fun p=> .tup [.int p.1,.tup (vN p.2)]
theorem endL_len (N:Nf):∀ (ks:List Int) (S:Nat→Prop) (i:Nat),(endL N S i ks).length≤ks.length
 | [],_,_=>Nat.le_refl _
 | k::r,S,i=>by
  unfold endL
  rw [List.length_append]
  have:=endL_len N r (stepZ N S k) (i+1)
  split<;>simp<;>omega
noncomputable def C_endings:PC:=fun l lv Q=>E5 fun a nv N ks at'=>A8 (l=[.ref a,nv,.int (at':Nat)]) (NfaAt lv a N) N.Wf (isSeq nv (vI ks)) ((∀ k∈ks,k≤lim)) (ks.length≤1000) (at'≤ks.length) (Q (.lst (vEnd (endL N (beginS N) at' (ks.drop at')).reverse)) lv)
theorem rngL_nat {a n:Nat}:rngL (a:Int) (n:Int)=(List.range' a (n - a)).map fun (i:Nat)=>V.int i:=by
 unfold rngL
 have e:((n:Int) - a).toNat=n - a:=by exact zh57
 rw [e,List.range'_eq_map_range,List.map_map]
 refine List.map_congr_left fun i _ => ?_
 simp
theorem t_endings (hΓ:∀ f,MonoC (Γ f)) (h1:Γ (.ref 108)=C_begin) (h2:Γ (.ref 115)=C_step) (h3:Γ (.ref 122)=C_tags_of):Sat I0 Γ m_endings 3 C_endings:=by
 rintro l lv Q ⟨a,nv,N,ks,at',rfl,hN,W,hnv,hks,hlen,hat,hQ⟩
 refine ⟨rfl,B_cons hΓ ?_⟩
 refine ⟨by decide,fun f hf => ?_⟩
 replace hf:lv f=none:=hf
 refine B_cons hΓ ?_
 refine ⟨.ref a,rfl,?_⟩
 refine use h1 ?_
 have hX:∀ x,Ext lv (updL lv f x):=fun x=>Ext.new hf x
 refine ⟨a,N,rfl,hN.mono (hX _),W,?_⟩
 refine B_cons hΓ (S_for hΓ ?_)
 refine ⟨.int at',rfl,nv,rfl,vI ks,hnv.seq _,by simp only [vI,List.length_map,lim_eq];exact zk0 hlen rfl,_,rfl,?_,?_⟩
 ·show -(lim:Int)≤_∧_≤(lim:Int) ∧ -(lim:Int)≤_∧_≤(lim:Int)
  simp only [vI,List.length_map,lim_eq];exact zh58 hlen hat
 have hrl:rngL (at':Int) ((vI ks).length:Int)=(List.range' at' (ks.length - at')).map fun (i:Nat)=>V.int i:=by
  simp only [vI,List.length_map];exact rngL_nat
 rw [hrl]
 let J:List V→List V→MS→Prop:=fun dn r σ=>E3 fun i S acc=>A10 (i≤ks.length) (r=(List.range' i (ks.length - i)).map (fun (i:Nat)=>V.int i)) (σ.loc 0=some (.ref a)) (σ.loc 1=some nv) (σ.loc 3=some (.ref f)) (σ.loc 4=some (.tup (vN (setL N.n S)))) ((∀ s,S s→s<N.n)) (σ.lv=updL lv f (some (.list (vEnd acc)))) (acc.length≤i) (acc++endL N S i (ks.drop i)=endL N (beginS N) at' (ks.drop at'))
 have it0:∀ σ,itemsOf σ (V.rng at' ((vI ks).length:Int))=some ((List.range' at' (ks.length - at')).map fun (i:Nat)=>V.int i):=fun σ=>by rw [←hrl];rfl
 refine ⟨J,⟨at',beginS N,[],hat,rfl,rfl,rfl,rfl,rfl,fun s hs=>beginS_lt W hs,rfl,Nat.zero_le _,rfl⟩,?_,?_⟩
 ·rintro dn x r σ ⟨i,S,acc,hi,hr,g0,g1,g3,g4,g5,g6,g7,g8⟩
  have hil:i<ks.length:=by
   rcases Nat.lt_or_ge i ks.length with q | q
   ·exact q
   ·rw [show ks.length - i=0 by exact Nat.sub_eq_zero_of_le q] at hr;cases hr
  rw [show ks.length - i=(ks.length - (i+1))+1 by exact zh59 hil,List.range'_succ,List.map_cons] at hr
  simp only [List.cons.injEq] at hr
  obtain ⟨rfl,rfl⟩:=hr
  obtain ⟨k,hk⟩:∃ k,ks[i]?=some k:=⟨_,List.getElem?_eq_getElem hil⟩
  have hN':NfaAt σ.lv a N:=by rw [g6];exact hN.mono (hX _)
  have hdrop:ks.drop i=k::ks.drop (i+1):=by rw [List.drop_eq_getElem?_toList_append,hk];rfl
  refine ⟨it0 σ,_,rfl,B_cons hΓ ?_⟩
  refine ⟨.ref a,g0,_,g4,nv,g1,.int i,rfl,i,rfl,.inl ⟨vI ks,.int k,hnv.seq _,by simp only [vI,List.length_map,lim_eq];exact zk0 hlen rfl,at_nat (by rw [List.getElem?_map,hk];rfl),?_⟩⟩
  refine use h2 ?_
  refine use_step hN' W g5 (hks k (List.mem_of_getElem? hk)) (B_cons hΓ ?_)
  refine ⟨.ref a,g0,_,rfl,?_⟩
  refine use h3 ?_
  refine use_tags hN' W (fun s hs=>stepZ_lt W hs) (B_cons hΓ ?_)
  refine ⟨_,rfl,by simp only [vN,List.length_map];have := @setL_len 8 (tagS N (stepZ N S k));rw [lim_eq];exact zk0 this rfl,fun ht => ?_,fun ht => ?_⟩
  ·have hne:setL 8 (tagS N (stepZ N S k))≠[]:=fun q=>by rw [q] at ht;cases ht
   refine B_cons hΓ ?_
   have hlf:σ.lv f=some (.list (vEnd acc)):=by rw [g6,updL_self]
   refine ⟨.ref f,g3,⟨_,_,rfl,hlf⟩,.int i,rfl,trivial,_,rfl,by simp [lim_eq],f,_,rfl,hlf,by simp only [vEnd,List.length_map,lim_eq];exact zk5 g7 hil hlen rfl,rfl,(?_)⟩
   refine ⟨i+1,stepZ N S k,acc++[(i+1,setL 8 (tagS N (stepZ N S k)))],hil,rfl,g0,g1,g3,rfl,fun s hs=>stepZ_lt W hs,?_,by simp;exact g7,?_⟩
   ·show updL σ.lv f _=_
    rw [g6]
    funext b;by_cases q:b=f
    ·subst q;rw [updL_self,updL_self];simp [vEnd,BOp.val]
    ·rw [updL_ne _ _ q,updL_ne _ _ q,updL_ne _ _ q]
   ·rw [←g8,hdrop]
    conv=>rhs;unfold endL
    rw [if_neg hne];simp
  ·have he:setL 8 (tagS N (stepZ N S k))=[]:=by
    cases q:setL 8 (tagS N (stepZ N S k)) with
    | nil=>rfl
    | cons=>rw [q] at ht;cases ht
   refine (⟨i+1,stepZ N S k,acc,hil,rfl,g0,g1,g3,rfl,fun s hs=>stepZ_lt W hs,g6,by exact Nat.le_add_right_of_le g7,?_⟩)
   rw [←g8,hdrop]
   conv=>rhs;unfold endL
   rw [if_pos he];simp
 ·rintro dn σ ⟨i,S,acc,hi,hr,g0,g1,g3,g4,g5,g6,g7,g8⟩
  have hil:i=ks.length:=by
   rcases Nat.lt_or_ge i ks.length with q | q
   ·rw [show ks.length - i=(ks.length - (i+1))+1 by exact zh59 q,List.range'_succ] at hr;cases hr
   ·exact Nat.le_antisymm hi q
  subst hil
  have hacc:acc=endL N (beginS N) at' (ks.drop at'):=by rw [←g8,List.drop_length];simp [endL]
  refine ⟨it0 σ,B_cons hΓ ?_⟩
  have hlf:σ.lv f=some (.list (vEnd acc)):=by rw [g6,updL_self]
  refine ⟨.ref f,g3,⟨_,_,rfl,hlf⟩,f,_,rfl,hlf,by simp only [vEnd,List.length_map,lim_eq];exact zk3 g7 hlen rfl,rfl,B_cons hΓ ?_⟩
  refine ⟨.ref f,g3,.lst (vEnd acc).reverse,⟨fun _=>none,lv⟩,GhV.ret (updL_self ..) fun b x e => ?_,?_⟩
  ·have hb:b≠f:=ne_of e hf
   refine ⟨hb,?_⟩
   show updL σ.lv f _ b=_
   rw [updL_ne _ _ hb,g6,updL_ne _ _ hb];exact e
  ·rw [hacc]
   have:(vEnd (endL N (beginS N) at' (ks.drop at'))).reverse=vEnd (endL N (beginS N) at' (ks.drop at')).reverse:=by simp [vEnd]
   rw [this];exact hQ
noncomputable def C_longest:PC:=fun l lv Q=>C_endings l lv fun v lv=>∃ l:List V,v= .lst l∧l.length≤lim∧Q (match l with | []=> .none | x::_=>x) lv
theorem t_longest (hΓ:∀ f,MonoC (Γ f)) (h1:Γ (.ref 136)=C_endings):Sat I0 Γ m_longest 3 C_longest:=by
 rintro l lv Q ⟨a,nv,N,ks,at',rfl,hN,W,hnv,hks,hlen,hat,l,hl,hll,hQ⟩
 cases hl
 refine ⟨rfl,B_cons hΓ ?_⟩
 refine ⟨.ref a,rfl,nv,rfl,.int at',rfl,?_⟩
 refine use h1 ?_
 refine ⟨a,nv,N,ks,at',rfl,hN,W,hnv,hks,hlen,hat,B_cons hΓ ?_⟩
 refine ⟨_,rfl,_,rfl,hll,fun ht => ?_,fun ht => ?_⟩
 ·refine B_cons hΓ ?_
  refine ⟨.none,⟨fun _=>none,lv⟩,GhV.weak (fun i v e=>nomatch e) (fun _ _ e=>e),?_⟩
  cases q:(endL N (beginS N) at' (ks.drop at')).reverse with
  | nil=>rw [q] at hQ;exact hQ
  | cons=>rw [q] at ht;cases ht
 ·refine (B_cons hΓ ?_)
  cases q:(endL N (beginS N) at' (ks.drop at')).reverse with
  | nil=>rw [q] at ht;cases ht
  | cons x r =>
   rw [q] at hQ hll
   refine ⟨_,rfl,0,rfl,.inl ⟨_,_,rfl,hll,rfl,_,⟨fun _=>none,lv⟩,GhV.weak (fun i v e=>nomatch e) (fun _ _ e=>e),hQ⟩⟩
end Mine
namespace Mine
variable {Γ:Value→PC}
structure NfP where
 a:Addr
 mo:Addr
 ho:Addr
 d:Addr
 ms:List Addr
 hs:List Addr
noncomputable def NfP.all (F:NfP):List Addr:=F.a::F.mo::F.ho::F.d::(F.ms++F.hs)
abbrev mFs (F:NfP) (f:Nat):List (Str×V):=[("moves",.ref F.mo),("hops",.ref F.ho),("tags",.ref F.d),("first",.int f)]
theorem m_moves (F:NfP) (f:Nat):(mFs F f).lookup ("moves":Str)=some (.ref F.mo):=rfl
theorem m_hops (F:NfP) (f:Nat):(mFs F f).lookup ("hops":Str)=some (.ref F.ho):=rfl
theorem m_tags (F:NfP) (f:Nat):(mFs F f).lookup ("tags":Str)=some (.ref F.d):=rfl
theorem m_first (F:NfP) (f:Nat):(mFs F f).lookup ("first":Str)=some (.int f):=rfl
structure NfaM (lv:LM) (F:NfP) (N:Nf):Prop where
 oa:lv F.a=some (.inst 92 (mFs F N.first))
 om:lv F.mo=some (.list (F.ms.map V.ref))
 oh:lv F.ho=some (.list (F.hs.map V.ref))
 od:lv F.d=some (.dict (dN N.tags))
 lm:F.ms.length=N.moves.length
 lh:F.hs.length=N.hops.length
 cm:∀ (i:Nat) (a:Addr) l,F.ms[i]?=some a→N.moves[i]?=some l→lv a=some (.list (vMv l))
 ch:∀ (i:Nat) (a:Addr) l,F.hs[i]?=some a→N.hops[i]?=some l→lv a=some (.list (vN l))
 nd:F.all.Nodup
noncomputable def NStep (lv:LM) (F:NfP) (lv':LM) (F':NfP):Prop:=F'.a=F.a∧∀ b x,lv b=some x→b∉F.all→b∉F'.all∧lv' b=some x
theorem NStep.refl (lv:LM) (F:NfP):NStep lv F lv F:=⟨rfl,fun b x e h=>⟨h,e⟩⟩
noncomputable def N0:Nf:=⟨[],[],[],0⟩
noncomputable def C_init:PC:=fun l lv Q=>∃ a,A3 (l=[.ref a]) (lv a=some (.inst 92 [])) (∀ lv' F,F.a=a→NfaM lv' F N0→(∀ b x,lv b=some x→b≠a→b∉F.all∧lv' b=some x)→Q .none lv')
theorem t_init (hΓ:∀ f,MonoC (Γ f)):Sat I0 Γ m_Nfa_init 1 C_init:=by
 rintro l lv Q ⟨a,rfl,ha,hQ⟩
 refine ⟨rfl,B_cons hΓ ?_⟩
 refine ⟨by decide,fun mo hmo => ?_⟩
 replace hmo:lv mo=none:=hmo
 have amo:a≠mo:=ne_of ha hmo
 refine ⟨.ref a,rfl,a,92,[],rfl,by (try dsimp only);rw [updL_ne _ _ amo];exact ha,ok_moves,by decide,?_⟩
 refine B_cons hΓ ?_
 refine ⟨by decide,fun ho hho => ?_⟩
 have aho:ho≠a:=fun q=>by rw [q] at hho;dsimp only at hho;rw [updL_self] at hho;cases hho
 have mho:ho≠mo:=fun q=>by rw [q] at hho;dsimp only at hho;rw [updL_ne _ _ (Ne.symm amo),updL_self] at hho;cases hho
 have lho:lv ho=none:=by dsimp only at hho;replace hho:=(updL_ne _ _ mho).symm.trans ((updL_ne _ _ aho).symm.trans hho);exact hho
 refine ⟨.ref a,rfl,a,92,[("moves",.ref mo)],rfl,by (try dsimp only);rw [updL_ne _ _ (Ne.symm aho),updL_self];rfl,ok_hops,by simp,?_⟩
 refine B_cons hΓ ?_
 intro d hd
 have ad:d≠a:=fun q=>by rw [q] at hd;dsimp only at hd;rw [updL_self] at hd;cases hd
 have hod:d≠ho:=fun q=>by rw [q] at hd;dsimp only at hd;rw [updL_ne _ _ aho,updL_self] at hd;cases hd
 have mod:d≠mo:=fun q=>by rw [q] at hd;dsimp only at hd;rw [updL_ne _ _ (Ne.symm amo),updL_ne _ _ (Ne.symm mho),updL_ne _ _ (Ne.symm amo),updL_self] at hd;cases hd
 have ld:lv d=none:=by dsimp only at hd;replace hd:=(updL_ne _ _ mod).symm.trans ((updL_ne _ _ ad).symm.trans ((updL_ne _ _ hod).symm.trans ((updL_ne _ _ ad).symm.trans hd)));exact hd
 refine ⟨.ref a,rfl,a,92,[("moves",.ref mo),("hops",.ref ho)],rfl,by (try dsimp only);rw [updL_ne _ _ (Ne.symm ad),updL_self];rfl,ok_tags,by simp,?_⟩
 refine B_cons hΓ ?_
 refine ⟨.ref a,rfl,a,92,[("moves",.ref mo),("hops",.ref ho),("tags",.ref d)],rfl,by (try dsimp only);rw [updL_self];rfl,ok_first,by simp,?_⟩
 refine hQ _ ⟨a,mo,ho,d,[],[]⟩ rfl ⟨?_,?_,?_,?_,rfl,rfl,fun i a l h=>by simp at h,fun i a l h=>by simp at h,?_⟩ fun b x e hb => ?_
 ·(try dsimp only);rw [updL_self];rfl
 ·(try dsimp only)
  rw [updL_ne _ _ (Ne.symm amo),updL_ne _ _ (Ne.symm amo),updL_ne _ _ (Ne.symm mod),updL_ne _ _ (Ne.symm amo),updL_ne _ _ (Ne.symm mho),updL_ne _ _ (Ne.symm amo),updL_self];rfl
 ·(try dsimp only)
  rw [updL_ne _ _ aho,updL_ne _ _ aho,updL_ne _ _ (Ne.symm hod),updL_ne _ _ aho,updL_self];rfl
 ·(try dsimp only)
  rw [updL_ne _ _ ad,updL_ne _ _ ad,updL_self];rfl
 ·simp only [NfP.all,List.append_nil,List.nodup_cons,List.mem_cons,List.not_mem_nil,or_false,not_or,not_false_eq_true,and_true,List.nodup_nil]
  exact ⟨⟨amo,Ne.symm aho,Ne.symm ad⟩,⟨Ne.symm mho,Ne.symm mod⟩,Ne.symm hod⟩
 ·have b1:=ne_of e hmo
  have b2:=ne_of e lho
  have b3:=ne_of e ld
  refine ⟨by simp [NfP.all,hb,b1,b2,b3],?_⟩
  (try dsimp only)
  exact (updL_ne _ _ hb).trans ((updL_ne _ _ hb).trans ((updL_ne _ _ b3).trans ((updL_ne _ _ hb).trans ((updL_ne _ _ b2).trans ((updL_ne _ _ hb).trans ((updL_ne _ _ b1).trans e))))))
noncomputable def C_Nfa:PC:=fun l lv Q=>l=[]∧∀ lv' F,NfaM lv' F N0→(∀ b x,lv b=some x→b∉F.all∧lv' b=some x)→Q (.ref F.a) lv'
theorem c_Nfa {l:List V} {lv:LM} {Q:V→LM→Prop} (h:C_Nfa l lv Q):∀ a,lv a=none→C_init (.ref a::l) (updL lv a (some (.inst 92 []))) fun v lv'=>v= .none∧Q (.ref a) lv':=by
 intro a ha
 obtain ⟨rfl,h⟩:=h
 refine ⟨a,rfl,updL_self ..,fun lv' F e hF hk=>⟨rfl,?_⟩⟩
 subst e
 exact h lv' F hF fun b x e=>by
  have hb:=ne_of e ha
  exact hk b x ((updL_ne _ _ hb).trans e) hb
theorem mem_all {F:NfP} {b:Addr}:b∈F.all↔b=F.a∨b=F.mo∨b=F.ho∨b=F.d∨b∈F.ms∨b∈F.hs:=by simp [NfP.all]
theorem not_all {F:NfP} {b:Addr} (h:b∉F.all):b≠F.a∧b≠F.mo∧b≠F.ho∧b≠F.d∧b∉F.ms∧b∉F.hs:=by
 rw [mem_all] at h;simpa [not_or] using h
structure Apart (F:NfP):Prop where
 h1:F.a≠F.mo
 h2:F.a≠F.ho
 h3:F.a≠F.d
 h4:F.mo≠F.ho
 h5:F.mo≠F.d
 h6:F.ho≠F.d
 m1:F.a∉F.ms
 m2:F.mo∉F.ms
 m3:F.ho∉F.ms
 m4:F.d∉F.ms
 n1:F.a∉F.hs
 n2:F.mo∉F.hs
 n3:F.ho∉F.hs
 n4:F.d∉F.hs
 msn:F.ms.Nodup
 hsn:F.hs.Nodup
 mh:∀ a∈F.ms,a∉F.hs
theorem apart {F:NfP}:F.all.Nodup↔Apart F:=by
 simp only [NfP.all,List.nodup_cons,List.mem_cons,List.mem_append,not_or,List.nodup_append]
 constructor
 ·rintro ⟨⟨a1,a2,a3,a4,a5⟩,⟨b1,b2,b3,b4⟩,⟨c1,c2,c3⟩,⟨d1,d2⟩,e1,e2,e3⟩
  exact ⟨a1,a2,a3,b1,b2,c1,a4,b3,c2,d1,a5,b4,c3,d2,e1,e2,fun a h1 h2=>e3 a h1 a h2 rfl⟩
 ·intro A
  exact ⟨⟨A.h1,A.h2,A.h3,A.m1,A.n1⟩,⟨A.h4,A.h5,A.m2,A.n2⟩,⟨A.h6,A.m3,A.n3⟩,⟨A.m4,A.n4⟩,A.msn,A.hsn,fun a h1 b h2 e=>A.mh a h1 (e▸h2)⟩
theorem NfaM.used {lv:LM} {F:NfP} {N:Nf} (X:NfaM lv F N) {b:Addr} (h:b∈F.all):∃ x,lv b=some x:=by
 rcases mem_all.mp h with rfl | rfl | rfl | rfl | h | h
 ·exact ⟨_,X.oa⟩
 ·exact ⟨_,X.om⟩
 ·exact ⟨_,X.oh⟩
 ·exact ⟨_,X.od⟩
 ·obtain ⟨i,hi⟩:=List.mem_iff_getElem?.mp h
  have:i<N.moves.length:=by rw [←X.lm];exact (List.getElem?_eq_some_iff.mp hi).1
  exact ⟨_,X.cm i b _ hi (List.getElem?_eq_getElem this)⟩
 ·obtain ⟨i,hi⟩:=List.mem_iff_getElem?.mp h
  have:i<N.hops.length:=by rw [←X.lh];exact (List.getElem?_eq_some_iff.mp hi).1
  exact ⟨_,X.ch i b _ hi (List.getElem?_eq_getElem this)⟩
theorem NfaM.fresh {lv:LM} {F:NfP} {N:Nf} (X:NfaM lv F N) {b:Addr} (h:lv b=none):b∉F.all:=fun q=>let ⟨x,e⟩:=X.used q;by replace e:=h.symm.trans e;cases e
noncomputable def addS (N:Nf):Nf:={N with moves:=N.moves++[[]],hops:=N.hops++[[]]}
noncomputable def C_add_state:PC:=fun l lv Q=>E2 fun F N=>A5 (l=[.ref F.a]) (NfaM lv F N) (N.moves.length<100) (N.hops.length=N.moves.length) (∀ lv' F',NfaM lv' F' (addS N)→NStep lv F lv' F'→Q (.int N.moves.length) lv')
theorem t_add_state (hΓ:∀ f,MonoC (Γ f)):Sat I0 Γ m_Nfa_add_state 1 C_add_state:=by
 rintro l lv Q ⟨F,N,rfl,X,hn,hh,hQ⟩
 have A:=apart.mp X.nd
 refine ⟨rfl,B_cons hΓ ?_⟩
 refine ⟨.ref F.a,rfl,F.a,92,_,.ref F.mo,rfl,X.oa,ok_moves,m_moves F N.first,⟨_,_,rfl,X.om⟩,by decide,fun x hx => ?_⟩
 replace hx:lv x=none:=hx
 have hxa:=X.fresh hx
 have ⟨x1,x2,x3,x4,x5,x6⟩:x≠F.a∧x≠F.mo∧x≠F.ho∧x≠F.d∧x∉F.ms∧x∉F.hs:=not_all hxa
 refine ⟨F.mo,F.ms.map V.ref,rfl,by (try dsimp only);rw [updL_ne _ _ (Ne.symm x2)];exact X.om,by rw [List.length_map,X.lm,lim_eq];exact zk6 hn rfl,rfl,?_⟩
 refine B_cons hΓ ?_
 refine ⟨.ref F.a,rfl,F.a,92,mFs F N.first,.ref F.ho,rfl,?_,ok_hops,m_hops F N.first,⟨F.ho,F.hs.map V.ref,rfl,?_⟩,by decide,fun y hy => ?_⟩
 ·(try dsimp only);rw [updL_ne _ _ A.h1,updL_ne _ _ (Ne.symm x1)];exact X.oa
 ·(try dsimp only);rw [updL_ne _ _ (Ne.symm A.h4),updL_ne _ _ (Ne.symm x3)];exact X.oh
 have yx:y≠x:=fun q=>by rw [q] at hy;dsimp only at hy;rw [updL_ne _ _ x2,updL_self] at hy;cases hy
 have ymo:y≠F.mo:=fun q=>by rw [q] at hy;dsimp only at hy;rw [updL_self] at hy;cases hy
 have hy':lv y=none:=by dsimp only at hy;replace hy:=(updL_ne _ _ yx).symm.trans ((updL_ne _ _ ymo).symm.trans hy);exact hy
 have ⟨y1,y2,y3,y4,y5,y6⟩:y≠F.a∧y≠F.mo∧y≠F.ho∧y≠F.d∧y∉F.ms∧y∉F.hs:=not_all (X.fresh hy')
 refine ⟨F.ho,F.hs.map V.ref,rfl,?_,by rw [List.length_map,X.lh,lim_eq];exact zk7 hh hn rfl,rfl,?_⟩
 ·(try dsimp only);rw [updL_ne _ _ (Ne.symm y3),updL_ne _ _ (Ne.symm A.h4),updL_ne _ _ (Ne.symm x3)];exact X.oh
 refine B_cons hΓ ?_
 let lv':LM:=updL (updL (updL (updL lv x (some (.list []))) F.mo (some (.list (F.ms.map V.ref++[.ref x])))) y (some (.list []))) F.ho (some (.list (F.hs.map V.ref++[.ref y])))
 let F':NfP:={F with ms:=F.ms++[x],hs:=F.hs++[y]}
 have old:∀ b,b≠x→b≠y→b≠F.mo→b≠F.ho→lv' b=lv b:=fun b b1 b2 b3 b4=>by
  (show updL _ _ _ _=_)
  rw [updL_ne _ _ b4,updL_ne _ _ b2,updL_ne _ _ b3,updL_ne _ _ b1]
 have oa:lv' F.a=some (.inst 92 (mFs F N.first)):=(old _ (Ne.symm x1) (Ne.symm y1) A.h1 A.h2).trans X.oa
 have om:lv' F.mo=some (.list (F.ms.map V.ref++[.ref x])):=by
  show updL _ _ _ _=_;rw [updL_ne _ _ A.h4,updL_ne _ _ (Ne.symm y2),updL_self]
 have vx:lv' x=some (.list []):=by
  show updL _ _ _ _=_;rw [updL_ne _ _ x3,updL_ne _ _ (Ne.symm yx),updL_ne _ _ x2,updL_self]
 have vy:lv' y=some (.list []):=by
  show updL _ _ _ _=_;rw [updL_ne _ _ y3,updL_self]
 refine ⟨.ref F.a,rfl,F.a,92,mFs F N.first,.ref F.mo,rfl,oa,ok_moves,m_moves F N.first,F.ms.map V.ref++[.ref x],?_,by rw [List.length_append,List.length_map,X.lm,lim_eq];simp;exact zk1 hn rfl,trivial,_,⟨fun _=>none,lv'⟩,GhV.weak (fun i v e=>nomatch e) (fun _ _ e=>e),?_⟩
 ·show (match lv' F.mo with | some (.list l)=>some l | _=>none)=_
  rw [om]
 have hlen:BOp.val .sub (((F.ms.map V.ref++[V.ref x]).length:Nat):Int) 1=(N.moves.length:Int):=by
  simp only [List.length_append,List.length_map,X.lm,BOp.val,List.length_singleton];exact Int.sub_eq_iff_eq_add.mpr rfl
 rw [hlen]
 refine hQ lv' F' ⟨oa,by rw [om];simp [F'],?_,?_,by simp [F',addS,X.lm],by simp [F',addS,X.lh],fun i b l h1 h2 => ?_,fun i b l h1 h2 => ?_,apart.mpr ?_⟩ ⟨rfl,fun b z e hb => ?_⟩
 ·(show updL _ _ _ _=_);rw [updL_self];simp [F']
 ·exact (old _ (Ne.symm x4) (Ne.symm y4) (Ne.symm A.h5) (Ne.symm A.h6)).trans X.od
 ·rcases Nat.lt_or_ge i F.ms.length with q | q
  ·have h1:F.ms[i]?=some b:=by replace h1:=(List.getElem?_append_left q).symm.trans h1;exact h1
   have h2:N.moves[i]?=some l:=by rw [show (addS N).moves=N.moves++[[]] from rfl,List.getElem?_append_left (by rw [←X.lm];exact q)] at h2;exact h2
   have hb:=List.mem_of_getElem? h1
   rw [old b (fun q=>x5 (q▸hb)) (fun q=>y5 (q▸hb)) (fun q=>A.m2 (q▸hb)) (fun q=>A.m3 (q▸hb))]
   exact X.cm i b l h1 h2
  ·have h1:(F.ms++[x])[i]?=some b:=h1
   replace h1:=(List.getElem?_append_right q).symm.trans h1
   have h2:(N.moves++[[]])[i]?=some l:=h2
   replace h2:=(List.getElem?_append_right (by rw [←X.lm];exact q)).symm.trans h2
   have e0:i - F.ms.length=0:=by
    have:=(List.getElem?_eq_some_iff.mp h1).1;simp at this;exact this
   have e1:i - N.moves.length=0:=by rw [←X.lm];exact e0
   rw [e0] at h1;rw [e1] at h2
   simp at h1 h2
   subst h1 h2
   exact vx
 ·rcases Nat.lt_or_ge i F.hs.length with q | q
  ·have h1:F.hs[i]?=some b:=by rw [show F'.hs=F.hs++[y] from rfl,List.getElem?_append_left q] at h1;exact h1
   have h2:N.hops[i]?=some l:=by rw [show (addS N).hops=N.hops++[[]] from rfl,List.getElem?_append_left (by rw [←X.lh];exact q)] at h2;exact h2
   have hb:=List.mem_of_getElem? h1
   rw [old b (fun q=>x6 (q▸hb)) (fun q=>y6 (q▸hb)) (fun q=>A.n2 (q▸hb)) (fun q=>A.n3 (q▸hb))]
   exact X.ch i b l h1 h2
  ·have h1:(F.hs++[y])[i]?=some b:=h1
   replace h1:=(List.getElem?_append_right q).symm.trans h1
   have h2:(N.hops++[[]])[i]?=some l:=h2
   replace h2:=(List.getElem?_append_right (by rw [←X.lh];exact q)).symm.trans h2
   have e0:i - F.hs.length=0:=by
    have:=(List.getElem?_eq_some_iff.mp h1).1;simp at this;exact this
   have e1:i - N.hops.length=0:=by rw [←X.lh];exact e0
   rw [e0] at h1;rw [e1] at h2
   simp at h1 h2
   subst h1 h2
   exact vy
 ·refine ⟨A.h1,A.h2,A.h3,A.h4,A.h5,A.h6,?_,?_,?_,?_,?_,?_,?_,?_,nodup_snoc A.msn x5,nodup_snoc A.hsn y6,?_⟩<;>simp only [F',List.mem_append,List.mem_singleton,not_or]
  ·exact ⟨A.m1,Ne.symm x1⟩
  ·exact ⟨A.m2,Ne.symm x2⟩
  ·exact ⟨A.m3,Ne.symm x3⟩
  ·exact ⟨A.m4,Ne.symm x4⟩
  ·exact ⟨A.n1,Ne.symm y1⟩
  ·exact ⟨A.n2,Ne.symm y2⟩
  ·exact ⟨A.n3,Ne.symm y3⟩
  ·exact ⟨A.n4,Ne.symm y4⟩
  ·rintro a (ha | rfl)
   ·exact ⟨A.mh a ha,fun q=>y5 (q▸ha)⟩
   ·exact ⟨x6,Ne.symm yx⟩
 ·have ⟨b1,b2,b3,b4,b5,b6⟩:b≠F.a∧b≠F.mo∧b≠F.ho∧b≠F.d∧b∉F.ms∧b∉F.hs:=not_all hb
  have b7:=ne_of e hx
  have b8:=ne_of e hy'
  refine ⟨fun q => ?_,(old b b7 b8 b2 b3).trans e⟩
  rcases mem_all.mp q with q | q | q | q | q | q
  ·exact b1 q
  ·exact b2 q
  ·exact b3 q
  ·exact b4 q
  ·rcases List.mem_append.mp q with q | q
   ·exact b5 q
   ·exact b7 (List.mem_singleton.mp q)
  ·rcases List.mem_append.mp q with q | q
   ·exact b6 q
   ·exact b8 (List.mem_singleton.mp q)
end Mine
namespace Mine
variable {Γ:Value→PC}
theorem nodup_get {l:List Addr} (h:l.Nodup) {i j:Nat} {a:Addr} (hi:l[i]?=some a) (hj:l[j]?=some a):i=j:=by
 obtain ⟨l1,e1⟩:=List.getElem?_eq_some_iff.mp hi
 obtain ⟨l2,e2⟩:=List.getElem?_eq_some_iff.mp hj
 have P:=List.pairwise_iff_getElem.mp h
 rcases Nat.lt_trichotomy i j with q | q | q
 ·exact absurd (e1.trans e2.symm) (P i j l1 l2 q)
 ·exact q
 ·exact absurd (e2.trans e1.symm) (P j i l2 l1 q)
theorem NfaM.updM {lv:LM} {F:NfP} {N:Nf} (X:NfaM lv F N) {s:Nat} {x:Addr} {ml:List (Nat×Nat)} (hx:F.ms[s]?=some x) (hm:N.moves[s]?=some ml) (p:Nat×Nat) :
  NfaM (updL lv x (some (.list (vMv ml++[V.tup [.int p.1,.int p.2]])))) F {N with moves:=N.moves.modify s (·++[p])}∧NStep lv F (updL lv x (some (.list (vMv ml++[V.tup [.int p.1,.int p.2]])))) F:=by
 have A:=apart.mp X.nd
 have hxm:=List.mem_of_getElem? hx
 have ne:∀ b,b∉F.ms→b≠x:=fun b hb q=>hb (q▸hxm)
 refine ⟨⟨?_,?_,?_,?_,by rw [X.lm];simp,X.lh,fun i a l h1 h2 => ?_,fun i a l h1 h2 => ?_,X.nd⟩,rfl,fun b z e hb=>⟨hb,?_⟩⟩
 ·exact (updL_ne _ _ (ne _ A.m1)).trans X.oa
 ·exact (updL_ne _ _ (ne _ A.m2)).trans X.om
 ·exact (updL_ne _ _ (ne _ A.m3)).trans X.oh
 ·exact (updL_ne _ _ (ne _ A.m4)).trans X.od
 ·have h2:(N.moves.modify s (·++[p]))[i]?=some l:=h2
  rw [List.getElem?_modify] at h2
  by_cases q:s=i
  ·subst q
   replace h1:=hx.symm.trans h1;cases h1
   rw [hm] at h2
   simp at h2
   subst h2
   rw [updL_self];simp [vMv]
  ·simp [q] at h2
   have:a≠x:=fun r=>by subst r;exact q (nodup_get A.msn hx h1)
   rw [updL_ne _ _ this]
   exact X.cm i a l h1 h2
 ·have:a≠x:=fun r=>by subst r;exact A.mh a hxm (List.mem_of_getElem? h1)
  rw [updL_ne _ _ this];exact X.ch i a l h1 h2
 ·have:b≠x:=fun q=>by subst q;exact hb (mem_all.mpr (by simp [hxm]))
  exact (updL_ne _ _ this).trans e
theorem NfaM.updH {lv:LM} {F:NfP} {N:Nf} (X:NfaM lv F N) {s:Nat} {x:Addr} {ml:List Nat} (hx:F.hs[s]?=some x) (hm:N.hops[s]?=some ml) (p:Nat) :
  NfaM (updL lv x (some (.list (vN ml++[V.int p])))) F {N with hops:=N.hops.modify s (·++[p])}∧NStep lv F (updL lv x (some (.list (vN ml++[V.int p])))) F:=by
 have A:=apart.mp X.nd
 have hxm:=List.mem_of_getElem? hx
 have ne:∀ b,b∉F.hs→b≠x:=fun b hb q=>hb (q▸hxm)
 refine ⟨⟨?_,?_,?_,?_,X.lm,by rw [X.lh];simp,fun i a l h1 h2 => ?_,fun i a l h1 h2 => ?_,X.nd⟩,rfl,fun b z e hb=>⟨hb,?_⟩⟩
 ·exact (updL_ne _ _ (ne _ A.n1)).trans X.oa
 ·exact (updL_ne _ _ (ne _ A.n2)).trans X.om
 ·exact (updL_ne _ _ (ne _ A.n3)).trans X.oh
 ·exact (updL_ne _ _ (ne _ A.n4)).trans X.od
 ·have:a≠x:=fun r=>by subst r;exact A.mh a (List.mem_of_getElem? h1) hxm
  rw [updL_ne _ _ this];exact X.cm i a l h1 h2
 ·have h2:(N.hops.modify s (·++[p]))[i]?=some l:=h2
  rw [List.getElem?_modify] at h2
  by_cases q:s=i
  ·subst q
   replace h1:=hx.symm.trans h1;cases h1
   rw [hm] at h2
   simp at h2
   subst h2
   rw [updL_self];simp [vN]
  ·simp [q] at h2
   have:a≠x:=fun r=>by subst r;exact q (nodup_get A.hsn hx h1)
   rw [updL_ne _ _ this]
   exact X.ch i a l h1 h2
 ·have:b≠x:=fun q=>by subst q;exact hb (mem_all.mpr (by simp [hxm]))
  exact (updL_ne _ _ this).trans e
noncomputable def addM (N:Nf) (s m g:Nat):Nf:=if m=0 then N else {N with moves:=N.moves.modify s (·++[(m,g)])}
noncomputable def C_add_move:PC:=fun l lv Q=>E5 fun F N s m g=>A6 (l=[.ref F.a,.int (s:Nat),.int (m:Nat),.int (g:Nat)]) (NfaM lv F N) (s<N.moves.length) (N.moves.length≤100) ((∀ l∈N.moves,l.length≤1000)) (∀ lv',NfaM lv' F (addM N s m g)→NStep lv F lv' F→Q .none lv')
theorem t_add_move (hΓ:∀ f,MonoC (Γ f)):Sat I0 Γ m_Nfa_add_move 4 C_add_move:=by
 rintro l lv Q ⟨F,N,s,m,g,rfl,X,hs,hn,hl,hQ⟩
 refine ⟨rfl,B_cons hΓ ?_⟩
 refine ⟨.int m,rfl,trivial,trivial,fun hb => ?_,fun hb => ?_⟩
 ·have hm0:m≠0:=fun q=>by subst q;simp at hb
  obtain ⟨x,hx⟩:∃ x,F.ms[s]?=some x:=⟨_,List.getElem?_eq_getElem (by rw [X.lm];exact hs)⟩
  obtain ⟨ml,hml⟩:∃ x,N.moves[s]?=some x:=⟨_,List.getElem?_eq_getElem hs⟩
  have lx:=X.cm s x ml hx hml
  have hU:=X.updM hx hml (m,g)
  refine B_cons hΓ ?_
  refine ⟨.ref F.a,rfl,F.a,92,_,.ref F.mo,rfl,X.oa,ok_moves,m_moves F N.first,.int s,rfl,s,rfl,.inl ⟨F.ms.map V.ref,.ref x,?_,by rw [List.length_map,X.lm,lim_eq];exact zk0 hn rfl,at_nat (by rw [List.getElem?_map,hx];rfl),⟨x,_,rfl,lx⟩,.int m,rfl,.int g,rfl,by simp [lim_eq],x,_,rfl,lx,?_,rfl,(?_)⟩⟩
  ·show (match lv F.mo with | some (.list l)=>some l | _=>none)=_
   rw [X.om]
  ·simp only [vMv,List.length_map,lim_eq];have:=hl ml (List.mem_of_getElem? hml);exact zk2 this rfl
  ·refine hQ _ ?_ hU.2
   unfold addM;rw [if_neg hm0];exact hU.1
 ·have hm0:m=0:=by simpa using hb
  refine ((hQ lv ?_ (NStep.refl ..)))
  unfold addM;rw [if_pos hm0];exact X
open Classical in
noncomputable def addH (N:Nf) (s g:Nat):Nf:=if hopR N s g then N else {N with hops:=N.hops.modify s (·++[g])}
noncomputable def C_add_hop:PC:=fun l lv Q=>E4 fun F N s g=>A6 (l=[.ref F.a,.int (s:Nat),.int (g:Nat)]) (NfaM lv F N) (s<N.hops.length) (N.hops.length≤100) ((∀ l∈N.hops,l.length≤1000)) (∀ lv',NfaM lv' F (addH N s g)→NStep lv F lv' F→Q .none lv')
theorem mem_vN {l:List Nat} {g:Nat}:V.int (g:Int)∈vN l↔g∈l:=by
 simp only [vN,List.mem_map,V.int.injEq]
 refine ⟨fun ⟨a,h1,h2⟩ => ?_,fun h=>⟨g,h,rfl⟩⟩
 have:a=g:=by exact Int.ofNat_inj.mp h2
 rw [←this];exact h1
open Classical in
theorem t_add_hop (hΓ:∀ f,MonoC (Γ f)):Sat I0 Γ m_Nfa_add_hop 3 C_add_hop:=by
 rintro l lv Q ⟨F,N,s,g,rfl,X,hs,hn,hl,hQ⟩
 obtain ⟨x,hx⟩:∃ x,F.hs[s]?=some x:=⟨_,List.getElem?_eq_getElem (by rw [X.lh];exact hs)⟩
 obtain ⟨ml,hml⟩:∃ x,N.hops[s]?=some x:=⟨_,List.getElem?_eq_getElem hs⟩
 have lx:=X.ch s x ml hx hml
 have hU:=X.updH hx hml g
 have lo:(match lv F.ho with | some (.list l)=>some l | _=>none)=some (F.hs.map V.ref):=by rw [X.oh]
 have hlen:(F.hs.map V.ref).length≤lim:=by rw [List.length_map,X.lh,lim_eq];exact zk0 hn rfl
 have hat:at? (F.hs.map V.ref) (s:Int)=some (.ref x):=at_nat (by rw [List.getElem?_map,hx];rfl)
 refine ⟨rfl,B_cons hΓ ?_⟩
 refine ⟨.int g,rfl,.ref F.a,rfl,F.a,92,_,.ref F.ho,rfl,X.oa,ok_hops,m_hops F N.first,.int s,rfl,s,rfl,.inl ⟨F.hs.map V.ref,.ref x,lo,hlen,hat,.inl ⟨trivial,vN ml,?_,fun y hy => ?_,fun hb => ?_,fun hb => ?_⟩⟩⟩
 ·show (match lv x with | some (.list l)=>some l | _=>none)=_
  rw [lx]
 ·obtain ⟨z,_,rfl⟩:=List.mem_map.mp hy;trivial
 ·have hno:g∉ml:=fun q=>by simp [mem_vN,q] at hb
  refine B_cons hΓ ?_
  refine ⟨.ref F.a,rfl,F.a,92,_,.ref F.ho,rfl,X.oa,ok_hops,m_hops F N.first,.int s,rfl,s,rfl,.inl ⟨F.hs.map V.ref,.ref x,lo,hlen,hat,⟨x,_,rfl,lx⟩,.int g,rfl,x,_,rfl,lx,?_,rfl,(?_)⟩⟩
  ·simp only [vN,List.length_map,lim_eq];have:=hl ml (List.mem_of_getElem? hml);exact zk2 this rfl
  ·refine hQ _ ?_ hU.2
   unfold addH;rw [if_neg (fun ⟨l',q1,q2⟩=>by replace q1:=hml.symm.trans q1;cases q1;exact hno q2)];exact hU.1
 ·have hyes:g∈ml:=by
   apply Classical.byContradiction
   intro q;simp [mem_vN,q] at hb
  refine ((hQ lv ?_ (NStep.refl ..)))
  unfold addH;rw [if_pos ⟨ml,hml,hyes⟩];exact X
noncomputable def C_set_first:PC:=fun l lv Q=>E3 fun F N s=>A3 (l=[.ref F.a,.int (s:Nat)]) (NfaM lv F N) (∀ lv',NfaM lv' F {N with first:=s}→NStep lv F lv' F→Q .none lv')
theorem t_set_first (hΓ:∀ f,MonoC (Γ f)):Sat I0 Γ m_Nfa_set_first 2 C_set_first:=by
 rintro l lv Q ⟨F,N,s,rfl,X,hQ⟩
 have A:=apart.mp X.nd
 refine ⟨rfl,B_cons hΓ ?_⟩
 refine ⟨.int s,rfl,.ref F.a,rfl,F.a,92,_,rfl,X.oa,ok_first,by simp,(hQ _ ⟨?_,?_,?_,?_,X.lm,X.lh,fun i a l h1 h2 => ?_,fun i a l h1 h2 => ?_,X.nd⟩ ⟨rfl,fun b z e hb=>⟨hb,?_⟩⟩)⟩
 ·dsimp only;rw [updL_self];rfl
 ·dsimp only;rw [updL_ne _ _ (Ne.symm A.h1)];exact X.om
 ·dsimp only;rw [updL_ne _ _ (Ne.symm A.h2)];exact X.oh
 ·dsimp only;rw [updL_ne _ _ (Ne.symm A.h3)];exact X.od
 ·dsimp only;rw [updL_ne _ _ (fun q:a=_=>by subst q;exact A.m1 (List.mem_of_getElem? h1))];exact X.cm i a l h1 h2
 ·dsimp only;rw [updL_ne _ _ (fun q:a=_=>by subst q;exact A.n1 (List.mem_of_getElem? h1))];exact X.ch i a l h1 h2
 ·dsimp only;rw [updL_ne _ _ (not_all hb).1];exact e
noncomputable def C_set_tag:PC:=fun l lv Q=>E4 fun F N s t=>A5 (l=[.ref F.a,.int (s:Nat),.int (t:Nat)]) (NfaM lv F N) ((∀ v,(s,v)∉N.tags)) (N.tags.length<1000) (∀ lv',NfaM lv' F {N with tags:=N.tags++[(s,t)]}→NStep lv F lv' F→Q .none lv')
theorem dN_new {t:List (Nat×Nat)} {s v:Nat} (h:∀ v,(s,v)∉t):dset (dN t) s (.int v)=dN (t++[(s,v)]):=by
 unfold dset
 rw [if_neg]
 ·simp [dN]
 ·simp only [List.any_eq_true,not_exists]
  rintro p ⟨h1,h2⟩
  obtain ⟨⟨a,b⟩,h3,rfl⟩:=List.mem_map.mp h1
  simp only [decide_eq_true_eq] at h2
  have:a=s:=by exact Int.ofNat_inj.mp h2
  exact h b (this▸h3)
theorem t_set_tag (hΓ:∀ f,MonoC (Γ f)):Sat I0 Γ m_Nfa_set_tag 3 C_set_tag:=by
 rintro l lv Q ⟨F,N,s,t,rfl,X,hno,hlen,hQ⟩
 have A:=apart.mp X.nd
 refine ⟨rfl,B_cons hΓ ?_⟩
 refine ⟨.int t,rfl,.ref F.a,rfl,F.a,92,_,.ref F.d,rfl,X.oa,ok_tags,m_tags F N.first,.int s,rfl,F.d,s,rfl,rfl,.inr ⟨_,X.od,by simp only [dN,List.length_map,lim_eq];exact zk6 hlen rfl,(hQ _ ⟨?_,?_,?_,?_,X.lm,X.lh,fun i a l h1 h2 => ?_,fun i a l h1 h2 => ?_,X.nd⟩ ⟨rfl,fun b z e hb=>⟨hb,?_⟩⟩)⟩⟩
 ·dsimp only;rw [updL_ne _ _ A.h3];exact X.oa
 ·dsimp only;rw [updL_ne _ _ A.h5];exact X.om
 ·dsimp only;rw [updL_ne _ _ A.h6];exact X.oh
 ·dsimp only;rw [updL_self,dN_new hno]
 ·dsimp only;rw [updL_ne _ _ (fun q:a=_=>by subst q;exact A.m4 (List.mem_of_getElem? h1))];exact X.cm i a l h1 h2
 ·dsimp only;rw [updL_ne _ _ (fun q:a=_=>by subst q;exact A.n4 (List.mem_of_getElem? h1))];exact X.ch i a l h1 h2
 ·dsimp only;rw [updL_ne _ _ (not_all hb).2.2.2.1];exact e
noncomputable def C_state_count:PC:=fun l lv Q=>E2 fun a N=>A4 (l=[.ref a]) (NfaAt lv a N) (N.n≤100) (Q (.int N.n) lv)
theorem t_state_count (hΓ:∀ f,MonoC (Γ f)):Sat I0 Γ m_Nfa_state_count 1 C_state_count:=by
 rintro l lv Q ⟨a,N,rfl,⟨d0,hN1,hN2⟩,hn,hQ⟩
 refine ⟨rfl,B_cons hΓ ?_⟩
 refine ⟨.ref a,rfl,a,92,nfFs N d0,_,rfl,hN1,ok_moves,nf_moves N d0,_,rfl,?_,.int N.n,⟨fun _=>none,lv⟩,?_,hQ⟩
 ·simp only [List.length_map,lim_eq];have:N.moves.length≤100:=hn;exact zk0 this rfl
 ·simp only [List.length_map]
  exact GhV.weak (fun i v e=>nomatch e) (fun _ _ e=>e)
end Mine
namespace Mine
variable {Γ:Value→PC}
theorem GhV.trans {a b c:MS} {u v x:V} (h1:GhV u a v b) (h2:GhV v b x c):GhV u a x c:=fun prog w h₀ sc env H h y S hv =>
 let ⟨H1,g1,S1,v1⟩:=h1 prog w h₀ sc env H h y S hv
 let ⟨H2,g2,S2,v2⟩:=h2 prog w h₀ sc env H1 h y S1 v1
 ⟨H2,g1.trans g2,S2,v2⟩
theorem V.frzL_append (a:Addr) (l:List V):∀ (x y:List V),V.frzL a l (x++y)=V.frzL a l x++V.frzL a l y
 | [],y=>rfl
 | v::r,y=>by show V.frz a l v::V.frzL a l (r++y)=_;rw [V.frzL_append a l r y];rfl
theorem V.frzL_refs {a:Addr} {l:List V}:∀ {as:List Addr},a∉as→V.frzL a l (as.map V.ref)=as.map V.ref
 | [],_=>rfl
 | b::r,h=>by
  simp only [List.mem_cons,not_or] at h
  show V.frz a l (V.ref b)::V.frzL a l (r.map V.ref)=_
  rw [V.frzL_refs h.2]
  show (if b=a then V.lst l else V.ref b)::_=_
  rw [if_neg (Ne.symm h.1)];rfl
theorem V.noRefL_append (a:Addr):∀ (x y:List V),V.noRefL a (x++y)=(V.noRefL a x && V.noRefL a y)
 | [],y=>rfl
 | v::r,y=>by show (V.noRef a v && V.noRefL a (r++y))=_;rw [V.noRefL_append a r y];show _=((V.noRef a v && V.noRefL a r) && _);rw [Bool.and_assoc]
theorem GhV.frzAll {lv':LM}:∀ (as:List Addr) (ls:List (List V)) (pre:List V) {σ:MS},as.length=ls.length→(∀ (i:Nat) (a:Addr) l,as[i]?=some a→ls[i]?=some l→σ.lv a=some (.list l))→as.Nodup →
  (∀ l∈ls,∀ a,V.noRefL a l=true)→(∀ a,V.noRefL a pre=true)→(∀ b x,lv' b=some x→b∉as∧σ.lv b=some x)→GhV (.lst (pre++as.map V.ref)) σ (.lst (pre++ls.map V.lst)) ⟨fun _=>none,lv'⟩
 | [],ls,pre,σ,e,h,nd,hl,hp,h2=>by
  have:ls=[]:=List.length_eq_zero_iff.mp e.symm
  subst this
  exact GhV.weak (fun i v e=>nomatch e) fun b x q=>(h2 b x q).2
 | a::as,[],pre,σ,e,h,nd,hl,hp,h2=>by cases e
 | a::as,l::ls,pre,σ,e,h,nd,hl,hp,h2=>by
  rw [List.nodup_cons] at nd
  have ha:σ.lv a=some (.list l):=h 0 a l rfl rfl
  let σ1:MS:=⟨fun _=>none,fun b=>if b=a then none else σ.lv b⟩
  have Z:Frz a l σ σ1:=⟨fun i v' e=>(nomatch e),fun b x' e=>by
   have e:(if b=a then none else σ.lv b)=some x':=e
   by_cases q:b=a
   ·replace e:=(if_pos q).symm.trans e;cases e
   ·replace e:=(if_neg q).symm.trans e;exact ⟨q,x',e,.inl rfl⟩⟩
  have g1:=GhV.frz (v:= .lst (pre++(a::as).map V.ref)) ha Z
  have e1:V.frz a l (.lst (pre++(a::as).map V.ref))= .lst ((pre++[.lst l])++as.map V.ref):=by
   show V.lst (V.frzL a l _)=_
   rw [V.frzL_append,V.frzL_noRef (hp a),List.map_cons]
   show V.lst (pre++(V.frz a l (.ref a)::V.frzL a l (as.map V.ref)))=_
   rw [V.frzL_refs nd.1]
   show V.lst (pre++((if a=a then V.lst l else V.ref a)::_))=_
   rw [if_pos rfl];simp
  rw [e1] at g1
  have g2:=GhV.frzAll (lv':=lv') as ls (pre++[.lst l]) (σ:=σ1) (by simpa using e) (fun i b l' q1 q2=>by
   show (if b=a then none else σ.lv b)=_
   rw [if_neg (fun q:b=a=>by subst q;exact nd.1 (List.mem_of_getElem? q1))]
   exact h (i+1) b l' q1 q2) nd.2 (fun l' hl'=>hl l' (List.mem_cons_of_mem _ hl')) (fun b=>by
    rw [V.noRefL_append,hp b,Bool.true_and]
    show (V.noRefL b l && true)=true
    rw [hl l List.mem_cons_self b];rfl) fun b x q=>by
     obtain ⟨q1,q2⟩:=h2 b x q
     simp only [List.mem_cons,not_or] at q1
     refine ⟨q1.2,?_⟩
     show (if b=a then none else σ.lv b)=_
     exact (if_neg q1.1).trans q2
  have e2:pre++[V.lst l]++ls.map V.lst=pre++(l::ls).map V.lst:=by simp
  rw [e2] at g2
  exact g1.trans g2
theorem noRef_vN (l:List Nat) (a:Addr):V.noRefL a (vN l)=true:=by
 induction l with
 | nil=>rfl
 | cons x r ih=>show (V.noRef a (.int x) && V.noRefL a (vN r))=true;rw [ih];rfl
theorem noRef_vMv (l:List (Nat×Nat)) (a:Addr):V.noRefL a (vMv l)=true:=by
 induction l with
 | nil=>rfl
 | cons x r ih=>show (V.noRef a (.tup [.int x.1,.int x.2]) && V.noRefL a (vMv r))=true;rw [ih];rfl
noncomputable def linksL (N:Nf):List (List Nat):=List.zipWith (fun m h=>m.map (·.2)++h) N.moves N.hops
abbrev vLL (l:List (List Nat)):V:= .lst (l.map fun x=> .lst (vN x))
noncomputable def C_links:PC:=fun l lv Q=>E2 fun a N=>A4 (l=[.ref a]) (NfaAt lv a N) N.Wf (Q (vLL (linksL N)) lv)
theorem links_get {N:Nf} {s:Nat} {m:List (Nat×Nat)} {h:List Nat} (h1:N.moves[s]?=some m) (h2:N.hops[s]?=some h):(linksL N)[s]?=some (m.map (·.2)++h):=by
 unfold linksL
 rw [List.getElem?_zipWith,h1,h2]
theorem links_len {N:Nf} (W:N.Wf):(linksL N).length=N.n:=by
 unfold linksL
 rw [List.length_zipWith,W.len];simp [Nf.n]
theorem rngL_zero {n:Nat}:rngL 0 (n:Int)=vN (List.range n):=by
 have := @rngL_nat 0 n
 simp only [Nat.sub_zero,List.range_eq_range'] at this ⊢
 exact this
theorem t_links (hΓ:∀ f,MonoC (Γ f)):Sat I0 Γ m_Nfa_links 1 C_links:=by
 rintro l lv Q ⟨a,N,rfl,hN,W,hQ⟩
 obtain ⟨d0,hN1,hN2⟩:=id hN
 have w8:N.moves.length≤8:=W.small
 refine ⟨rfl,B_cons hΓ ?_⟩
 refine ⟨by decide,fun f hf => ?_⟩
 replace hf:lv f=none:=hf
 have fa:a≠f:=ne_of hN1 hf
 refine B_cons hΓ (S_forM hΓ ?_)
 refine ⟨.ref a,rfl,a,92,nfFs N d0,vMoves N.moves,rfl,?_,ok_moves,nf_moves N d0,_,rfl,?_,?_⟩
 ·dsimp only;rw [updL_ne _ _ fa];exact hN1
 ·simp only [List.length_map,lim_eq];exact zk0 w8 rfl
 simp only [List.length_map]
 let J1:List Nat→MS→Prop:=fun d' σ=>A3 (σ.loc 0=some (.ref a)) (σ.loc 1=some (.ref f)) (σ.lv=updL lv f (some (.list (((linksL N).take d'.length).map fun x=>V.lst (vN x)))))
 refine ⟨fun (i:Nat)=> .int i,List.range N.moves.length,?_,?_,J1,?_,?_,?_⟩
 ·show some (rngL _ _)=_;rw [rngL_zero]
 ·show -(lim:Int)≤_∧_≤(lim:Int) ∧ -(lim:Int)≤_∧_≤(lim:Int)
  rw [lim_eq];exact zh60 w8
 ·exact ⟨rfl,rfl,rfl⟩
 ·rintro d' s r' σ hdr ⟨g0,g1,g2⟩
  have hsd:s=d'.length:=by
   have:(List.range N.moves.length)[d'.length]?=some s:=by rw [←hdr];simp
   obtain ⟨q1,q2⟩:=List.getElem?_eq_some_iff.mp this
   simpa using q2.symm
  have hs:s<N.n:=by
   have:s∈List.range N.moves.length:=by rw [←hdr];simp
   exact List.mem_range.mp this
  obtain ⟨ml,hm1,hm2⟩:=nf_mv hs
  obtain ⟨hl,hh1,hh2⟩:=nf_hops W hs
  have lva:σ.lv a=some (nfObj N d0):=by rw [g2,updL_ne _ _ fa];exact hN1
  refine ⟨by show some (rngL _ _)=_;rw [rngL_zero],_,rfl,B_cons hΓ ?_⟩
  refine E_compM hΓ ?_
  let J94:List (Nat×Nat)→List V→MS→Prop:=fun d2 acc σ'=>(acc=vN (d2.map (·.2)))∧(σ'.lv=σ.lv)
  refine ⟨.ref a,g0,a,92,nfFs N d0,vMoves N.moves,rfl,lva,ok_moves,nf_moves N d0,.int s,rfl,s,rfl,.inl ⟨_,.lst (vMv ml),rfl,?_,at_nat (by rw [List.getElem?_map,hm1];rfl),_,ml,rfl,trivial,?_,J94,⟨rfl,rfl⟩,?_,?_⟩⟩
  ·simp only [List.length_map,lim_eq];exact zk0 w8 rfl
  ·simp only [vMv,List.length_map,lim_eq];have:=W.mlen ml hm2;exact zk0 this rfl
  ·rintro d2 p r2 acc σ' hdr2 ⟨rfl,k1⟩
   obtain ⟨m,g⟩:=p
   refine ⟨rfl,_,rfl,?_⟩
   exact ⟨fun _=>⟨.int g,rfl,by simp,k1⟩,fun q=>by cases q⟩
  ·rintro acc σ' ⟨rfl,k1⟩
   refine ⟨rfl,?_⟩
   show denB I0 Γ _ _ _
   refine B_cons hΓ ?_
   have lvf:σ'.lv f=some (.list (((linksL N).take d'.length).map fun x=>V.lst (vN x))):=by rw [k1,g2,updL_self]
   refine ⟨.ref f,g1,⟨_,_,rfl,lvf⟩,_,rfl,.ref a,g0,a,92,nfFs N d0,vHops N.hops,rfl,by dsimp only;rw [k1];exact lva,ok_hops,nf_hopsL N d0,.int s,rfl,s,rfl,.inl ⟨_,.lst (vN hl),rfl,?_,at_nat (by rw [List.getElem?_map,hh1];rfl),?_⟩⟩
   ·simp only [List.length_map,W.len,lim_eq];have:=W.small;exact zk0 this rfl
   refine ⟨rfl,vN (ml.map fun p:Nat×Nat=>p.2),vN hl,rfl,rfl,?_,f,_,rfl,lvf,?_,rfl,⟨g0,g1,?_⟩⟩
   ·simp only [vN,List.length_map,lim_eq];have:=W.mlen ml hm2;have:=W.hlen hl hh2;exact zh61 ‹(_:Nat)≤1000› this
   ·simp only [List.length_map,List.length_take,links_len W,lim_eq];have:=W.small;exact zh62 this
   ·show updL σ'.lv f _=_
    rw [k1,g2]
    have e:(linksL N).take (d'++[s]).length=(linksL N).take d'.length++[ml.map (·.2)++hl]:=by
     rw [List.length_append,List.length_singleton,List.take_add_one,←hsd,links_get hm1 hh1];rfl
    rw [e]
    funext b;by_cases q:b=f
    ·subst q;rw [updL_self,updL_self];simp [vN]
    ·rw [updL_ne _ _ q,updL_ne _ _ q,updL_ne _ _ q]
 ·rintro σ ⟨g0,g1,g2⟩
  refine ⟨by show some (rngL _ _)=_;rw [rngL_zero],B_cons hΓ ?_⟩
  have hd:(List.range N.moves.length).length=(linksL N).length:=by rw [List.length_range,links_len W];rfl
  have lvf:σ.lv f=some (.list ((linksL N).map fun x=>V.lst (vN x))):=by rw [g2,updL_self,hd,List.take_length]
  refine ⟨.ref f,g1,_,_,GhV.ret lvf (lv':=lv) fun b x e => ?_,hQ⟩
  have hb:=ne_of e hf
  exact ⟨hb,by rw [g2,updL_ne _ _ hb];exact e⟩
end Mine
namespace Mine
variable {Γ:Value→PC}
noncomputable def lnk (L:List (List Nat)) (s g:Nat):Prop:=∃ l,L[s]?=some l∧g∈l
open Classical in
noncomputable def bools (n:Nat) (S:Nat→Prop):List V:=(List.range n).map fun i=> .bool (decide (S i))
theorem bools_len {n:Nat} {S:Nat→Prop}:(bools n S).length=n:=by simp [bools]
open Classical in
theorem bools_get {n i:Nat} {S:Nat→Prop} (h:i<n):(bools n S)[i]?=some (.bool (decide (S i))):=by
 unfold bools
 rw [List.getElem?_map,List.getElem?_range h];rfl
theorem bools_set {n g:Nat} {S:Nat→Prop} (h:g<n):(bools n S).set g (.bool true)=bools n fun i=>S i∨i=g:=by
 classical
 apply List.ext_getElem?
 intro i
 rw [List.getElem?_set]
 by_cases q:g=i
 ·subst q
  rw [if_pos rfl,if_pos (by rw [bools_len];exact h),bools_get h]
  simp
 ·rw [if_neg q]
  by_cases hi:i<n
  ·rw [bools_get hi,bools_get hi]
   have:(S i∨i=g)↔S i:=⟨fun r=>r.elim id fun e=>absurd e.symm q,.inl⟩
   simp only [this]
  ·rw [List.getElem?_eq_none (by rw [bools_len];exact Nat.le_of_not_lt hi),List.getElem?_eq_none (by rw [bools_len];exact Nat.le_of_not_lt hi)]
theorem bools_congr {n:Nat} {S T:Nat→Prop} (h:∀ i,i<n→(S i↔T i)):bools n S=bools n T:=by
 classical
 unfold bools
 refine List.map_congr_left fun i hi => ?_
 rw [decide_eq_decide.mpr (h i (List.mem_range.mp hi))]
theorem bools_false (n:Nat):bools n (fun _=>False)=List.replicate n (.bool false):=by
 classical
 unfold bools
 rw [List.eq_replicate_iff]
 simp
noncomputable def C_spread:PC:=fun l lv Q=>E3 fun L sv ss=>A7 (l=[vLL L,sv]) (isSeq sv (vN ss)) (L.length≤8) ((∀ x∈L,x.length≤30000∧∀ g∈x,g<L.length)) ((∀ s∈ss,s<L.length)) (ss.length≤1000) (Q (.lst (bools L.length fun i=>∃ s∈ss,Rc (lnk L) s i)) lv)
open Classical in
theorem t_spread (hΓ:∀ f,MonoC (Γ f)):Sat I0 Γ m_spread 2 C_spread:=by
 rintro l lv Q ⟨L,sv,ss,rfl,hsv,hL8,hL,hss,hlen,hQ⟩
 refine ⟨rfl,B_cons hΓ ?_⟩
 refine ⟨by decide,_,rfl,_,rfl,by simp only [List.length_map,lim_eq];exact zk0 hL8 rfl,rfl,[.bool false],rfl,by simp,by simp,by simp only [List.length_map,lim_eq];exact zh63 hL8,fun f hf => ?_⟩
 replace hf:lv f=none:=hf
 have hrep:(List.replicate (((L.map fun x=>V.lst (vN x)).length:Nat):Int).toNat [V.bool false]).flatten=bools L.length fun _=>False:=by
  rw [bools_false];simp
 rw [hrep]
 refine B_cons hΓ (S_forM hΓ ?_)
 let Lv:(Nat→Prop)→LM→Prop:=fun S m=>m f=some (.list (bools L.length S))∧∀ b x,lv b=some x→b≠f∧m b=some x
 let J1:List Nat→MS→Prop:=fun d' σ=>A4 (σ.loc 0=some (vLL L)) (σ.loc 1=some sv) (σ.loc 2=some (.ref f)) (Lv (·∈d') σ.lv)
 refine ⟨sv,rfl,_,ss,hsv.items _,hsv.rng,J1,?_,?_,?_⟩
 ·refine ⟨rfl,rfl,rfl,?_,fun b x e=>rep_ext e hf _ fun _ _ h=>h⟩
  show updL lv f _ f=_
  rw [updL_self];simp
 ·rintro d' s r' σ hdr ⟨g0,g1,g2,g3,g4⟩
  have hs:s<L.length:=hss s (by rw [←hdr];simp)
  refine ⟨hsv.items _,_,rfl,B_cons hΓ ?_⟩
  refine ⟨.ref f,g2,.int s,rfl,f,s,rfl,rfl,.inl ⟨_,g3,by exact zq15,by rw [bools_len];exact Int.ofNat_lt.mpr hs,by rw [bools_len,lim_eq];exact zk0 hL8 rfl,⟨g0,g1,g2,?_,fun b x e => ?_⟩⟩⟩
  ·show updL σ.lv f _ f=_
   rw [updL_self]
   show some (MO.list ((bools L.length fun i=>i∈d').set (s:Int).toNat _))=_
   rw [Int.toNat_natCast,bools_set hs];simp
  ·obtain ⟨q1,q2⟩:=g4 b x e
   exact ⟨q1,by show updL σ.lv f _ b=_;rw [updL_ne _ _ q1];exact q2⟩
 rintro σ ⟨g0,g1,g2,g3,g4⟩
 refine ⟨hsv.items _,B_cons hΓ ?_⟩
 refine ⟨sv,g1,vN ss,hsv.seq _,by simp only [vN,List.length_map,lim_eq];exact zk0 hlen rfl,fun w hw => ?_⟩
 have wf:w≠f:=fun q=>by rw [q,g3] at hw;cases hw
 have hwl:lv w=none:=by
  cases q:lv w with
  | none=>rfl
  | some x=>replace hw:=((g4 w x q).2).symm.trans hw;cases hw
 let Inv:List Nat→List Nat→Prop:=fun ks ws=>ks.Nodup∧(∀ k∈ks,k<L.length∧∃ s∈ss,Rc (lnk L) s k)∧(∀ s∈ss,s∈ks)∧(∀ k∈ws,k∈ks)∧ws.length≤ss.length+ks.length
 let Live:List Nat→List Nat→MS→Prop:=fun ks ws σ=>A6 (σ.loc 0=some (vLL L)) (σ.loc 2=some (.ref f)) (σ.loc 4=some (.ref w)) (σ.lv f=some (.list (bools L.length (·∈ks)))) (σ.lv w=some (.list (vN ws))) ((∀ b x,lv b=some x→b≠f∧b≠w∧σ.lv b=some x))
 have hkl:∀ {ks:List Nat},ks.Nodup→(∀ k∈ks,k<L.length)→ks.length≤8:=fun h1 h2=>Nat.le_trans (len_le_n h1 h2) hL8
 let k0:=(List.range L.length).filter fun k=>decide (k∈ss)
 have k0m:∀ k,k∈k0↔k∈ss:=fun k=>by
  simp only [k0,List.mem_filter,List.mem_range,decide_eq_true_eq]
  exact ⟨fun h=>h.2,fun h=>⟨hss k h,h⟩⟩
 let W95:Nat→MS→Prop:=fun k σ=>E2 fun ks ws=>A4 (k=2*(8 - ks.length)+ws.length) (Inv ks ws) (Live ks ws σ) ((∀ k∈ks,k∉ws→∀ g,lnk L k g→g∈ks))
 refine B_cons hΓ (S_while hΓ W95 (2*(8 - k0.length)+ss.length) ?_ ?_)
 ·refine ⟨k0,ss,rfl,⟨List.Pairwise.filter _ List.nodup_range,fun k hk=>⟨hss k ((k0m k).mp hk),k,(k0m k).mp hk,.refl⟩,fun s hs=>(k0m s).mpr hs,fun k hk=>(k0m k).mpr hk,by exact zq6⟩,⟨g0,g2,rfl,?_,?_,fun b x e => ?_⟩,fun k hk hkw=>absurd ((k0m k).mp hk) hkw⟩
  ·show updL σ.lv w _ f=_
   rw [updL_ne _ _ (Ne.symm wf),g3]
   rw [bools_congr fun i _=>(k0m i).symm]
  ·show updL σ.lv w _ w=_
   rw [updL_self]
  ·obtain ⟨q1,q2⟩:=g4 b x e
   have q3:=ne_of e hwl
   exact ⟨q1,q3,by show updL σ.lv w _ b=_;rw [updL_ne _ _ q3];exact q2⟩
 rintro k σ ⟨ks,ws,rfl,⟨i1,i2,i3,i4,i5⟩,⟨g1,g2,g3,g4,g5,g6⟩,hdone⟩
 have hk8:ks.length≤8:=hkl i1 fun k hk=>(i2 k hk).1
 refine ⟨.ref w,g3,vN ws,?_,by simp only [vN,List.length_map,lim_eq];exact zh64 i5 hlen hk8,fun ht => ?_,fun ht => ?_⟩
 ·show (match σ.lv w with | some (.list l)=>some l | _=>none)=_
  rw [g5]
 ·obtain ⟨ws',s,rfl⟩:∃ ws' s,ws=ws'++[s]:=by
   rcases List.eq_nil_or_concat ws with q | ⟨a,b,q⟩
   ·subst q;simp at ht
   ·exact ⟨a,b,by rw [q,List.concat_eq_append]⟩
  have hs:s<L.length:=(i2 s (i4 s (by simp))).1
  obtain ⟨hl,hl1⟩:∃ x,L[s]?=some x:=⟨_,List.getElem?_eq_getElem hs⟩
  have hl2:=List.mem_of_getElem? hl1
  refine B_cons hΓ ?_
  refine ⟨.ref w,g3,⟨_,_,rfl,g5⟩,w,_,rfl,g5,by simp only [vN,List.length_map,lim_eq];exact zh64 i5 hlen hk8,.int s,by simp [vN],?_⟩
  have hdl:(vN (ws'++[s])).dropLast=vN ws':=by simp [vN]
  rw [hdl]
  refine B_cons hΓ (S_forM hΓ ?_)
  let J96:List Nat→MS→Prop:=fun d'' σ=>Mine.E2 fun ks' ws''=>A6 (2*(8 - ks'.length)+ws''.length≤2*(8 - ks.length)+ws'.length) (Inv ks' ws'') (Live ks' ws'' σ) ((∀ k∈ks,k∈ks')) ((∀ g∈d'',g∈ks')) ((∀ k∈ks',k∉ws''→k≠s→∀ g,lnk L k g→g∈ks'))
  refine ⟨vLL L,g1,.int s,rfl,s,rfl,.inl ⟨_,.lst (vN hl),rfl,by simp only [List.length_map,lim_eq];exact zk0 hL8 rfl,at_nat (by rw [List.getElem?_map,hl1];rfl),_,hl,rfl,trivial,J96,?_,?_,?_⟩⟩
  ·refine ⟨ks,ws',Nat.le_refl _,⟨i1,i2,i3,fun k hk=>i4 k (by simp [hk]),by rw [List.length_append] at i5;exact Nat.le_of_add_right_le i5⟩,⟨g1,g2,g3,?_,?_,fun b x e => ?_⟩,fun k hk=>hk,(fun g hg=>by cases hg),fun k hk hkw hks g hg=>hdone k hk (fun q => ?_) g hg⟩
   ·show updL σ.lv w _ f=_
    exact (updL_ne _ _ (Ne.symm wf)).trans g4
   ·show updL σ.lv w _ w=_
    rw [updL_self]
   ·obtain ⟨q1,q2,q3⟩:=g6 b x e
    exact ⟨q1,q2,by show updL σ.lv w _ b=_;rw [updL_ne _ _ q2];exact q3⟩
   ·rcases List.mem_append.mp q with q | q
    ·exact hkw q
    ·exact hks (List.mem_singleton.mp q)
  ·rintro d'' g r'' σ hdr ⟨ks',ws'',hms,⟨j1,j2,j3,j4,j5⟩,⟨f1,f2,f3,f4,f5,f6⟩,hsub,hdn,hdn2⟩
   have hgh:g∈hl:=by rw [←hdr];simp
   have hg:g<L.length:=(hL hl hl2).2 g hgh
   have hk8':ks'.length≤8:=hkl j1 fun k hk=>(j2 k hk).1
   refine ⟨rfl,_,rfl,?_⟩
   refine B_cons hΓ ?_
   refine ⟨.ref f,f2,.int g,rfl,g,rfl,.inl ⟨bools L.length (·∈ks'),_,?_,by rw [bools_len,lim_eq];exact zk0 hL8 rfl,at_nat (bools_get (S:=(·∈ks')) hg),fun hb => ?_,fun hb => ?_⟩⟩
   ·show (match σ.lv f with | some (.list l)=>some l | _=>none)=_
    rw [f4]
   ·have hnm:g∉ks':=by simpa using hb
    have hlt:ks'.length<8:=by
     have h2:=hkl (nodup_snoc j1 hnm) (by
      intro k hk
      rcases List.mem_append.mp hk with q | q
      ·exact (j2 k q).1
      ·rw [List.mem_singleton.mp q];exact hg)
     rw [List.length_append] at h2;simp at h2;exact zk2 h2 rfl
    refine B_cons hΓ ?_
    refine ⟨.ref f,f2,.int g,rfl,f,g,rfl,rfl,.inl ⟨_,f4,by exact zq15,by rw [bools_len];exact Int.ofNat_lt.mpr hg,by rw [bools_len,lim_eq];exact zk0 hL8 rfl,B_cons hΓ ?_⟩⟩
    rw [Int.toNat_natCast,bools_set hg]
    have hlw:updL σ.lv f (some (MO.list (bools L.length fun i=>i∈ks'∨i=g))) w=some (.list (vN ws'')):=(updL_ne _ _ wf).trans f5
    refine ⟨.ref w,f3,⟨_,_,rfl,hlw⟩,.int g,rfl,w,_,rfl,hlw,by simp only [vN,List.length_map,lim_eq];exact zh65 j5 hlen hk8',rfl,(?_)⟩
    refine ⟨ks'++[g],ws''++[g],by simp only [List.length_append,List.length_singleton];exact zh54 hms hlt,⟨nodup_snoc j1 hnm,fun k hk => ?_,fun s hs=>List.mem_append_left _ (j3 s hs),fun k hk => ?_,by simp only [List.length_append,List.length_singleton];exact zh66 j5⟩,⟨f1,f2,f3,?_,?_,fun b x e => ?_⟩,fun k hk=>List.mem_append_left _ (hsub k hk),fun k hk => ?_,fun k hk hkw hks g' hg' => ?_⟩
    ·rcases List.mem_append.mp hk with q | q
     ·exact j2 k q
     ·rw [List.mem_singleton.mp q]
      obtain ⟨s0,q1,q2⟩:=(i2 s (i4 s (by simp))).2
      exact ⟨hg,s0,q1,.tail q2 ⟨hl,hl1,hgh⟩⟩
    ·rcases List.mem_append.mp hk with q | q
     ·exact List.mem_append_left _ (j4 k q)
     ·exact List.mem_append_right _ q
    ·show updL (updL σ.lv f _) w _ f=_
     rw [updL_ne _ _ (Ne.symm wf),updL_self]
     rw [bools_congr (T:=(·∈ks'++[g])) fun i _=>by simp]
    ·show updL (updL σ.lv f _) w _ w=_
     rw [updL_self];simp [vN]
    ·obtain ⟨q1,q2,q3⟩:=f6 b x e
     exact ⟨q1,q2,by show updL (updL σ.lv f _) w _ b=_;rw [updL_ne _ _ q2,updL_ne _ _ q1];exact q3⟩
    ·rcases List.mem_append.mp hk with q | q
     ·exact List.mem_append_left _ (hdn k q)
     ·exact List.mem_append_right _ q
    ·rcases List.mem_append.mp hk with q | q
     ·exact List.mem_append_left _ (hdn2 k q (fun r=>hkw (List.mem_append_left _ r)) hks g' hg')
     ·exact absurd (List.mem_append_right _ q) hkw
   ·have hm:g∈ks':=by simpa using hb
    refine ⟨ks',ws'',hms,⟨j1,j2,j3,j4,j5⟩,⟨f1,f2,f3,f4,f5,f6⟩,hsub,fun k hk => ?_,hdn2⟩
    rcases List.mem_append.mp hk with q | q
    ·exact hdn k q
    ·rw [List.mem_singleton.mp q];exact hm
  ·rintro σ ⟨ks',ws'',hms,hI',hL',hsub,hdn,hdn2⟩
   refine ⟨rfl,⟨2*(8 - ks'.length)+ws''.length,?_,ks',ws'',rfl,hI',hL',fun k hk hkw g hg => ?_⟩⟩
   ·rw [List.length_append,List.length_singleton];exact Nat.lt_succ_of_le hms
   ·by_cases hks:k=s
    ·subst hks
     obtain ⟨l',q1,q2⟩:=hg
     replace q1:=hl1.symm.trans q1;cases q1
     exact hdn g q2
    ·exact hdn2 k hk hkw hks g hg
 ·have hw0:ws=[]:=by
   cases ws with
   | nil=>rfl
   | cons=>simp [vN] at ht
  subst hw0
  refine B_cons hΓ ?_
  have e:bools L.length (·∈ks)=bools L.length fun i=>∃ s∈ss,Rc (lnk L) s i:=bools_congr fun i _=>⟨fun h=>(i2 i h).2,fun ⟨s,h2,h3⟩=>by
   have:∀ b,Rc (lnk L) s b→b∈ks:=fun b h=>by
    induction h with
    | refl=>exact i3 s h2
    | tail h h' ih=>exact hdone _ ih (by simp) _ h'
   exact this i h3⟩
  refine ⟨.ref f,g2,_,_,GhV.ret (by rw [g4,e]) (lv':=lv) fun b x e => ?_,hQ⟩
  obtain ⟨q1,q2,q3⟩:=g6 b x e
  exact ⟨q1,q3⟩
end Mine
namespace Mine
variable {Γ:Value→PC}
theorem S_mid {I:Info} {s:MSt} {σ:MS} {Q:Fl→MS→Prop} (hΓ:∀ f,MonoC (Γ f)) (R:MS→Prop) (h:denS I Γ s σ fun fl σ1=>fl= .next∧R σ1) (k:∀ σ1,R σ1→Q .next σ1):denS I Γ s σ Q :=
 (mono_S hΓ s).at h fun fl σ1 ⟨e,r⟩=>by subst e;exact k σ1 r
theorem B_mid {I:Info} {s:MSt} {r:MSts} {σ:MS} {Q:Fl→MS→Prop} (hΓ:∀ f,MonoC (Γ f)) (R:MS→Prop) (h:denS I Γ s σ fun fl σ1=>fl= .next∧R σ1) (k:∀ σ1,R σ1→denB I Γ r σ1 Q):denB I Γ (.cons s r) σ Q :=
 B_cons hΓ (S_mid hΓ R h k)
noncomputable def PenAt (lv:LM) (a:Addr) (k:Nat):Prop:=∃ (cells:List Int) (i s:Nat),lv a=some (.list [.lst (vI cells),.int i,.int s])∧cells≠[]∧cells.length≤100∧i≤k
noncomputable def C_draw:PC:=fun l lv Q=>E3 fun (a:Addr) (many k:Nat)=>A6 (l=[.ref a,.int many]) (PenAt lv a k) (0<many) (many≤1000) (k≤1000) (∀ (d:Nat) lv',d<many→PenAt lv' a (k+1)→(∀ b x,b≠a→lv b=some x→lv' b=some x)→Q (.int d) lv')
theorem fmod_nat (a b:Nat):((a:Nat):Int).fmod (b:Int)=((a % b:Nat):Int):=by
 rw [Int.fmod_eq_emod_of_nonneg _ (Int.natCast_nonneg b)];norm_cast
theorem fdiv_nat (a b:Nat):((a:Nat):Int).fdiv (b:Int)=((a / b:Nat):Int):=by
 rw [Int.fdiv_eq_ediv_of_nonneg _ (Int.natCast_nonneg b)];norm_cast
theorem len3 (x y z:V):[x,y,z].length≤lim:=by simp [lim_eq]
theorem lt3 {x y z:V} (k:Nat) (h:k<3):(k:Int)<(([x,y,z].length:Nat):Int):=by simp only [List.length_cons,List.length_nil];exact zh67 h
theorem t_draw (hΓ:∀ f,MonoC (Γ f)):Sat I0 Γ m__law_draw 2 C_draw:=by
 rintro l lv Q ⟨a,many,k,rfl,⟨cells,i,s,ha,hc,hcl,hik⟩,hm0,hm1,hk,hQ⟩
 have sq:∀ {σ:MS} {x:List V},σ.lv a=some (.list x)→seqOf σ (.ref a)=some x:=fun {σ x} e=>by
  show (match σ.lv a with | some (.list l)=>some l | _=>none)=_
  rw [e]
 let MR1:MS→Prop:=fun σ=>E2 fun (i' s':Nat)=>A5 (i'≤k+1) (σ.loc 0=some (.ref a)) (σ.loc 1=some (.int many)) (σ.lv a=some (.list [.lst (vI cells),.int i',.int s'])) (∀ b x,b≠a→lv b=some x→σ.lv b=some x)
 refine ⟨rfl,B_mid hΓ MR1 ?_ ?_⟩
 ·refine ⟨.ref a,rfl,2,rfl,.inl ⟨_,.int s,sq ha,len3 ..,rfl,trivial,trivial,fun ht => ?_,fun ht => ?_⟩⟩
  ·refine B_cons hΓ ?_
   have hlen:0<cells.length:=List.length_pos_iff.mpr hc
   have hb:i % cells.length<cells.length:=Nat.mod_lt _ hlen
   refine ⟨.ref a,rfl,0,rfl,.inl ⟨_,_,sq ha,len3 ..,rfl,.ref a,rfl,1,rfl,.inl ⟨_,.int i,sq ha,len3 ..,rfl,.ref a,rfl,0,rfl,.inl ⟨_,_,sq ha,len3 ..,rfl,vI cells,rfl,by simp only [vI,List.length_map,lim_eq];exact zk0 hcl rfl,?_,((i % cells.length:Nat):Int),?_,.inl ⟨vI cells,.int (cells[i % cells.length]'hb),rfl,by simp only [vI,List.length_map,lim_eq];exact zk0 hcl rfl,at_nat (by rw [List.getElem?_map,List.getElem?_eq_getElem hb];rfl),?_⟩⟩⟩⟩⟩
   ·show (((vI cells).length:Nat):Int)≠0
    simp only [vI,List.length_map];exact zh68 hlen
   ·show V.int (((i:Nat):Int).fmod (((vI cells).length:Nat):Int))=_
    rw [fmod_nat];simp only [vI,List.length_map]
   ·refine B_cons hΓ ?_
    refine ⟨.ref a,rfl,1,rfl,.inl ⟨_,.int i,sq ha,len3 ..,rfl,trivial,.ref a,rfl,a,1,rfl,rfl,.inl ⟨_,ha,by decide,lt3 1 (by decide),len3 ..,?_⟩⟩⟩
    let σ2:LM:=updL lv a (some (.list [.lst (vI cells),.int (BOp.val .add i 1),.int s]))
    have ha2:σ2 a=some (.list [.lst (vI cells),.int ((i+1:Nat):Int),.int s]):=updL_self ..
    have fin:∀ (loc:Loc) (X:Int),loc 0=some (.ref a)→loc 1=some (.int many)→0≤X→Fl.next=Fl.next∧MR1 ⟨loc,updL σ2 a (some (.list [.lst (vI cells),.int ((i+1:Nat):Int),.int X]))⟩:=fun loc X h0 h1 h=>by
     obtain ⟨n,rfl⟩:=Int.eq_ofNat_of_zero_le h
     refine ⟨rfl,i+1,n,by exact zq16 hik,h0,h1,updL_self ..,fun b x hb e => ?_⟩
     show updL σ2 a _ b=_
     rw [updL_ne _ _ hb]
     show updL lv a _ b=_
     exact (updL_ne _ _ hb).trans e
    have hm7:(0:Int)≤7919*((i+1:Nat):Int)*((i+1:Nat):Int):=Int.mul_nonneg (Int.mul_nonneg (by decide) (Int.natCast_nonneg _)) (Int.natCast_nonneg _)
    refine B_cons hΓ ?_
    refine ⟨_,rfl,.of_left (by decide),_,rfl,_,0,rfl,rfl,fun h1 => ?_,fun h1 => ?_⟩
    all_goals
     refine ⟨trivial,.ref a,rfl,1,rfl,.inl ⟨_,.int ((i+1:Nat):Int),sq (show σ2 a=_ from ha2),len3 ..,rfl,.of_left (by decide),.ref a,rfl,1,rfl,.inl ⟨_,.int ((i+1:Nat):Int),sq (show σ2 a=_ from ha2),len3 ..,rfl,?_,trivial,trivial,.ref a,rfl,a,2,rfl,rfl,.inl ⟨_,ha2,by decide,lt3 2 (by decide),len3 ..,?_⟩⟩⟩⟩
     ·exact .of_right (intBits_le_64 (by exact zh69) (by exact zh70 hk hik))
     ·refine fin _ _ rfl rfl ?_
      have ab:∀ c:Int,(0:Int)≤(if c<0 then -c else c):=fun c=>by split<;>omega
      have:=ab (cells[i % cells.length]'hb)
      show (0:Int)≤2*(if (cells[i % cells.length]'hb)<0 then -(cells[i % cells.length]'hb) else (cells[i % cells.length]'hb))+_+7919*((i+1:Nat):Int)*((i+1:Nat):Int)+1
      omega
  ·exact ⟨rfl,i,s,by exact Nat.le_add_right_of_le hik,rfl,rfl,ha,fun b x _ e=>e⟩
 ·rintro σ ⟨i',s',hi',g0,g1,g2,g3⟩
  refine B_cons hΓ ?_
  refine ⟨.ref a,g0,2,rfl,.inl ⟨_,.int s',sq g2,len3 ..,rfl,_,g1,?_,?_⟩⟩
  ·show ((many:Nat):Int)≠0;exact zh68 hm0
  ·refine B_cons hΓ ?_
   refine ⟨.ref a,g0,2,rfl,.inl ⟨_,.int s',sq g2,len3 ..,rfl,_,g1,⟨by exact zh68 hm0,by omega⟩,.ref a,g0,a,2,rfl,rfl,.inl ⟨_,g2,by decide,lt3 2 (by decide),len3 ..,?_⟩⟩⟩
   refine B_cons hΓ ?_
   refine ⟨_,rfl,_,⟨fun _=>none,updL σ.lv a (some (.list [.lst (vI cells),.int i',.int ((s' / many:Nat):Int)]))⟩,GhV.weak (fun i v e=>nomatch e) (fun b x e => ?_),?_⟩
   ·rw [show BOp.val .fdiv ((s':Nat):Int) (many:Int)=((s' / many:Nat):Int) from fdiv_nat ..]
    exact e
   ·show Q (.int (((s':Nat):Int).fmod (many:Int))) _
    rw [fmod_nat]
    refine hQ _ _ (Nat.mod_lt _ hm0) ⟨cells,i',s' / many,updL_self ..,hc,hcl,hi'⟩ fun b x hb e => ?_
    show updL σ.lv a _ b=_
    rw [updL_ne _ _ hb];exact g3 b x hb e
end Mine
namespace Mine
variable {Γ:Value→PC}
structure RowsAt (lv:LM) (as:List Addr) (B:List (List V)):Prop where
 len:as.length=B.length
 get:∀ (i:Nat) (a:Addr) l,as[i]?=some a→B[i]?=some l→lv a=some (.list l)
 nd:as.Nodup
noncomputable def Keep (lv:LM) (as:List Addr) (lv':LM):Prop:=∀ b x,lv b=some x→b∉as∧lv' b=some x
theorem Keep.ext {lv lv':LM} {as:List Addr} (h:Keep lv as lv'):Ext lv lv':=fun b x e=>(h b x e).2
theorem RowsAt.upd {lv:LM} {as:List Addr} {B:List (List V)} (R:RowsAt lv as B) {i:Nat} {a:Addr} (ha:as[i]?=some a) (l:List V):RowsAt (updL lv a (some (.list l))) as (B.set i l) where
 len:=by rw [List.length_set];exact R.len
 get j b l' h1 h2:=by
  by_cases q:i=j
  ·subst q
   replace h1:=ha.symm.trans h1;cases h1
   replace h2:=(List.getElem?_set_self (by rw [←R.len];exact (List.getElem?_eq_some_iff.mp ha).1)).symm.trans h2
   cases h2;exact updL_self ..
  ·replace h2:=(List.getElem?_set_ne q).symm.trans h2
   rw [updL_ne _ _ (fun e:b=a=>q (nodup_get R.nd ha (e▸h1)))]
   exact R.get j b l' h1 h2
 nd:=R.nd
theorem Keep.upd {lv lv':LM} {as:List Addr} (K:Keep lv as lv') {a:Addr} (ha:a∈as) (x:Option MO):Keep lv as (updL lv' a x):=fun b y e=>by
 obtain ⟨q1,q2⟩:=K b y e
 exact ⟨q1,(updL_ne _ _ (fun q:b=a=>q1 (q▸ha))).trans q2⟩
theorem RowsAt.snoc {lv:LM} {as:List Addr} {B:List (List V)} (R:RowsAt lv as B) {a:Addr} (ha:lv a=none) (l:List V):RowsAt (updL lv a (some (.list l))) (as++[a]) (B++[l]):=by
 have hn:a∉as:=fun q=>by
  obtain ⟨i,hi⟩:=List.mem_iff_getElem?.mp q
  have:i<B.length:=by rw [←R.len];exact (List.getElem?_eq_some_iff.mp hi).1
  have:=R.get i a _ hi (List.getElem?_eq_getElem this)
  replace this:=ha.symm.trans this;cases this
 refine ⟨by simp [R.len],fun j b l' h1 h2 => ?_,nodup_snoc R.nd hn⟩
 rcases Nat.lt_or_ge j as.length with q | q
 ·replace h1:=(List.getElem?_append_left q).symm.trans h1
  replace h2:=(List.getElem?_append_left (by rw [←R.len];exact q)).symm.trans h2
  rw [updL_ne _ _ (fun e:b=a=>hn (e▸List.mem_of_getElem? h1))]
  exact R.get j b l' h1 h2
 ·replace h1:=(List.getElem?_append_right q).symm.trans h1
  replace h2:=(List.getElem?_append_right (by rw [←R.len];exact q)).symm.trans h2
  have e0:j - as.length=0:=by have:=(List.getElem?_eq_some_iff.mp h1).1;simp at this;exact this
  have e1:j - B.length=0:=by rw [←R.len];exact e0
  rw [e0] at h1;rw [e1] at h2
  simp at h1 h2
  subst h1 h2;exact updL_self ..
theorem Keep.snoc {lv lv':LM} {as:List Addr} (K:Keep lv as lv') {a:Addr} (ha:lv' a=none) (x:Option MO):Keep lv (as++[a]) (updL lv' a x):=fun b y e=>by
 obtain ⟨q1,q2⟩:=K b y e
 have hb:=ne_of q2 ha
 exact ⟨by simp [q1,hb],(updL_ne _ _ hb).trans q2⟩
theorem Keep.refl (lv:LM):Keep lv [] lv:=fun b x e=>⟨by simp,e⟩
theorem at_refs {as:List Addr} {i:Nat} {a:Addr} (h:as[i]?=some a):at? (as.map V.ref) (i:Int)=some (.ref a):=at_nat (by rw [List.getElem?_map,h];rfl)
theorem GhV.rows {lv lv':LM} {as:List Addr} {B:List (List V)} {loc:Loc} (R:RowsAt lv as B) (hB:∀ l∈B,∀ a,V.noRefL a l=true) (K:Keep lv' as lv):GhV (.lst (as.map V.ref)) ⟨loc,lv⟩ (.lst (B.map V.lst)) ⟨fun _=>none,lv'⟩ :=
 GhV.frzAll (lv':=lv') as B [] R.len R.get R.nd hB (fun _=>rfl) fun b x e=>K b x e
noncomputable def C_turned:PC:=fun l lv Q=>∃ L,A4 (l=[vLL L]) (L.length≤8) ((∀ x∈L,x.length≤3000∧∀ g∈x,g<L.length)) (∀ B:List (List Nat),B.length=L.length→(∀ x∈B,x.length≤24000)→(∀ g p,lnk B g p↔lnk L p g)→Q (vLL B) lv)
theorem lnk_set {B:List (List Nat)} {g:Nat} {b:List Nat} (h:B[g]?=some b) (s g' p:Nat):lnk (B.set g (b++[s])) g' p↔lnk B g' p∨(g'=g∧p=s):=by
 have hl:=(List.getElem?_eq_some_iff.mp h).1
 unfold lnk
 by_cases q:g=g'
 ·subst q
  rw [List.getElem?_set_self hl]
  simp [h]
 ·rw [List.getElem?_set_ne q]
  constructor
  ·exact .inl
  ·rintro (h | ⟨e,_⟩)
   ·exact h
   ·exact absurd e.symm q
theorem t_turned (hΓ:∀ f,MonoC (Γ f)):Sat I0 Γ m_turned 1 C_turned:=by
 rintro l lv Q ⟨L,rfl,hL8,hL,hQ⟩
 have hLl:(L.map fun x=>V.lst (vN x)).length≤lim:=by rw [List.length_map,lim_eq];exact zk0 hL8 rfl
 let MR1:MS→Prop:=fun σ=>∃ as,A4 (σ.loc 0=some (vLL L)) (σ.loc 1=some (.lst (as.map V.ref))) (RowsAt σ.lv as ((List.replicate L.length []).map vN)) (Keep lv as σ.lv)
 refine ⟨rfl,B_mid hΓ MR1 ?_ ?_⟩
 ·refine E_comp hΓ ?_
  let J2:List V→List V→List V→MS→Prop:=fun dn r acc σ=>∃ as,A5 (acc=as.map V.ref) (dn.length=as.length) (dn++r=(L.map fun x=>V.lst (vN x))) (RowsAt σ.lv as ((List.replicate as.length []).map vN)) (Keep lv as σ.lv)
  refine ⟨_,rfl,L.map fun x=>V.lst (vN x),rfl,trivial,hLl,J2,?_,?_,?_⟩
  ·exact ⟨[],rfl,rfl,rfl,⟨rfl,fun i a l h=>by simp at h,.nil⟩,Keep.refl lv⟩
  ·rintro dn x r acc σ ⟨as,rfl,h1,h2,h3,h4⟩
   refine ⟨rfl,_,rfl,?_⟩
   refine ⟨fun _=>⟨by decide,fun a ha => ?_⟩,fun h=>by cases h⟩
   refine ⟨as++[a],by simp,by simp [h1],by simp [←h2],?_,h4.snoc ha _⟩
   have:=h3.snoc ha []
   rw [List.length_append,List.length_singleton,List.replicate_succ',List.map_append]
   exact this
  ·rintro dn acc σ ⟨as,rfl,h1,h2,h3,h4⟩
   rw [List.append_nil] at h2
   have hl:as.length=L.length:=by rw [←h1,h2,List.length_map]
   refine ⟨rfl,?_⟩
   rw [hl] at h3
   exact ⟨rfl,as,rfl,rfl,h3,h4⟩
 rintro σ ⟨as,g0,g1,hR,hK⟩
 let MR3:MS→Prop:=fun σ=>∃ (B:List (List Nat)),A7 (σ.loc 0=some (vLL L)) (σ.loc 1=some (.lst (as.map V.ref))) (RowsAt σ.lv as (B.map vN)) (Keep lv as σ.lv) (B.length=L.length) ((∀ x∈B,x.length≤24000)) (∀ g p,lnk B g p↔lnk L p g)
 refine B_mid hΓ MR3 (S_forM hΓ ?_) ?_
 ·refine ⟨_,g0,_,rfl,hLl,?_⟩
  simp only [List.length_map]
  have hit:∀ σ:MS,itemsOf σ (V.rng 0 ((L.length:Nat):Int))=some (vN (List.range L.length)):=fun σ=>by show some (rngL _ _)=_;rw [rngL_zero]
  let J4:List Nat→MS→Prop:=fun d' σ=>∃ B,A7 (σ.loc 0=some (vLL L)) (σ.loc 1=some (.lst (as.map V.ref))) (RowsAt σ.lv as (B.map vN)) (Keep lv as σ.lv) (B.length=L.length) ((∀ x∈B,x.length≤3000*d'.length)) ((∀ g p,lnk B g p↔p∈d'∧lnk L p g))
  refine ⟨_,List.range L.length,hit _,?_,J4,?_,?_,?_⟩
  ·show -(lim:Int)≤_∧_≤(lim:Int) ∧ -(lim:Int)≤_∧_≤(lim:Int)
   rw [lim_eq];exact zh60 hL8
  ·refine ⟨List.replicate L.length [],g0,g1,hR,hK,by simp,fun x hx => ?_,fun g p => ?_⟩
   ·rw [(List.mem_replicate.mp hx).2];simp
   ·refine ⟨fun ⟨l,h1,h2⟩ => ?_,fun h=>by cases h.1⟩
    rw [(List.mem_replicate.mp (List.mem_of_getElem? h1)).2] at h2;cases h2
  ·rintro d' s r' σ hdr ⟨B,g0,g1,hR,hK,hBl,hB1,hB2⟩
   have hs:s<L.length:=by
    have:s∈List.range L.length:=by rw [←hdr];simp
    exact List.mem_range.mp this
   have hdl:d'.length<8:=by
    have:=congrArg List.length hdr
    simp at this;exact zh71 this hL8
   obtain ⟨xs,hx1⟩:∃ x,L[s]?=some x:=⟨_,List.getElem?_eq_getElem hs⟩
   have hx2:=List.mem_of_getElem? hx1
   refine ⟨hit σ,_,rfl,B_cons hΓ (S_forM hΓ ?_)⟩
   let J97:List Nat→MS→Prop:=fun d2 σ=>∃ B,A8 (σ.loc 0=some (vLL L)) (σ.loc 1=some (.lst (as.map V.ref))) (σ.loc 2=some (.int s)) (RowsAt σ.lv as (B.map vN)) (Keep lv as σ.lv) (B.length=L.length) ((∀ x∈B,x.length≤3000*d'.length+d2.length)) ((∀ g p,lnk B g p↔(p∈d'∧lnk L p g)∨(p=s∧g∈d2)))
   refine ⟨_,g0,.int s,rfl,s,rfl,.inl ⟨_,.lst (vN xs),rfl,hLl,at_nat (by rw [List.getElem?_map,hx1];rfl),_,xs,rfl,trivial,J97,?_,?_,?_⟩⟩
   ·exact ⟨B,g0,g1,rfl,hR,hK,hBl,fun x hx=>by have:=hB1 x hx;simpa using this,fun g p=>by rw [hB2];simp⟩
   ·rintro d2 g r2 σ hdr2 ⟨B,g0,g1,g2,hR,hK,hBl,hB1,hB2⟩
    have hgx:g∈xs:=by rw [←hdr2];simp
    have hg:g<L.length:=(hL xs hx2).2 g hgx
    have hd2:d2.length<3000:=by
     have:=congrArg List.length hdr2
     have:=(hL xs hx2).1
     simp at *;exact zh71 this ‹(_:Nat)≤3000›
    obtain ⟨a,ha⟩:∃ a,as[g]?=some a:=⟨_,List.getElem?_eq_getElem (by rw [hR.len,List.length_map,hBl];exact hg)⟩
    obtain ⟨b,hb⟩:∃ b,B[g]?=some b:=⟨_,List.getElem?_eq_getElem (by rw [hBl];exact hg)⟩
    have hbm:=List.mem_of_getElem? hb
    have hla:=hR.get g a (vN b) ha (by rw [List.getElem?_map,hb];rfl)
    refine ⟨rfl,_,rfl,B_cons hΓ ?_⟩
    refine ⟨_,g1,.int g,rfl,g,rfl,.inl ⟨as.map V.ref,.ref a,rfl,?_,at_refs ha,⟨a,_,rfl,hla⟩,_,g2,a,_,rfl,hla,?_,rfl,?_⟩⟩
    ·rw [List.length_map,hR.len,List.length_map,hBl,lim_eq];exact zk0 hL8 rfl
    ·have:=hB1 b hbm;simp only [vN,List.length_map,lim_eq];exact zh72 hd2 hdl this
    ·have hR':=hR.upd ha (vN b++[.int s])
     refine ⟨B.set g (b++[s]),g0,g1,g2,?_,hK.upd (List.mem_of_getElem? ha) _,by simp [hBl],fun x hx => ?_,fun g' p => ?_⟩
     ·rw [List.map_set];simpa [vN] using hR'
     ·rcases List.mem_or_eq_of_mem_set hx with h | rfl
      ·have:=hB1 x h;simp;exact zh73 this
      ·have:=hB1 b hbm;simp;exact zh66 this
     ·rw [lnk_set hb,hB2]
      simp only [List.mem_append,List.mem_singleton]
      constructor
      ·rintro ((h | ⟨h1,h2⟩) | ⟨h1,h2⟩)
       ·exact .inl h
       ·exact .inr ⟨h1,.inl h2⟩
       ·exact .inr ⟨h2,.inr h1⟩
      ·rintro (h | ⟨h1,h2 | h2⟩)
       ·exact .inl (.inl h)
       ·exact .inl (.inr ⟨h1,h2⟩)
       ·exact .inr ⟨h2,h1⟩
   ·rintro σ ⟨B,g0,g1,g2,hR,hK,hBl,hB1,hB2⟩
    refine ⟨rfl,⟨B,g0,g1,hR,hK,hBl,fun x hx => ?_,fun g p => ?_⟩⟩
    ·have:=hB1 x hx;have:=(hL xs hx2).1;simp;exact zh74 ‹(_:Nat)≤((3000*_)+_)› this
    ·rw [hB2]
     simp only [List.mem_append,List.mem_singleton]
     constructor
     ·rintro (⟨h1,h2⟩ | ⟨rfl,h2⟩)
      ·exact ⟨.inl h1,h2⟩
      ·exact ⟨.inr rfl,xs,hx1,h2⟩
     ·rintro ⟨h1 | rfl,h2⟩
      ·exact .inl ⟨h1,h2⟩
      ·obtain ⟨l,q1,q2⟩:=h2
       replace q1:=hx1.symm.trans q1;cases q1
       exact .inr ⟨rfl,q2⟩
  ·rintro σ ⟨B,g0,g1,hR,hK,hBl,hB1,hB2⟩
   refine ⟨hit σ,rfl,B,g0,g1,hR,hK,hBl,fun x hx => ?_,fun g p => ?_⟩
   ·have:=hB1 x hx;rw [List.length_range] at this;exact zh75 this hL8
   ·rw [hB2,List.mem_range]
    exact ⟨fun h=>h.2,fun h=>⟨let ⟨l,q,_⟩:=h;(List.getElem?_eq_some_iff.mp q).1,h⟩⟩
 ·rintro σ ⟨B,g0,g1,hR,hK,hBl,hB1,hB2⟩
  refine B_cons hΓ ?_
  refine ⟨_,g1,_,_,GhV.rows (lv':=lv) hR (fun l hl a => ?_) hK,?_⟩
  ·obtain ⟨x,_,rfl⟩:=List.mem_map.mp hl;exact noRef_vN x a
  ·rw [List.map_map]
   exact hQ B hBl hB1 hB2
end Mine
namespace Mine
variable {Γ:Value→PC}
noncomputable def Wa (R:Nat→Nat→Prop):Nat→Nat→Nat→Prop
 | 0,i,j=>i=j∨R i j
 | k+1,i,j=>Wa R k i j∨(Wa R k i k∧Wa R k k j)
theorem Wa.refl {R:Nat→Nat→Prop}:∀ k i,Wa R k i i
 | 0,_=> .inl rfl
 | k+1,i=> .inl (Wa.refl k i)
theorem Wa.one {R:Nat→Nat→Prop} {i j:Nat} (h:R i j):∀ k,Wa R k i j
 | 0=> .inr h
 | k+1=> .inl (Wa.one h k)
theorem Wa.sound {R:Nat→Nat→Prop}:∀ {k i j:Nat},Wa R k i j→Rc R i j
 | 0,i,j,.inl e=>e▸ .refl
 | 0,i,j,.inr h=> .tail .refl h
 | k+1,i,j,.inl h=>Wa.sound h
 | k+1,i,j,.inr ⟨h1,h2⟩=>(Wa.sound h1).trans (Wa.sound h2)
theorem Wa.trans {R:Nat→Nat→Prop}:∀ {k i m j:Nat},m<k→Wa R k i m→Wa R k m j→Wa R k i j
 | k+1,i,m,j,hm,h1,h2=>by
  by_cases q:m=k
  ·subst q
   have a1:Wa R m i m:=by rcases h1 with h | h;exact h;exact h.1
   have a2:Wa R m m j:=by rcases h2 with h | h;exact h;exact h.2
   exact .inr ⟨a1,a2⟩
  ·have hm:m<k:=by exact zh76 hm q
   rcases h1 with h1 | ⟨h1,h1'⟩<;>rcases h2 with h2 | ⟨h2,h2'⟩
   ·exact .inl (Wa.trans hm h1 h2)
   ·exact .inr ⟨Wa.trans hm h1 h2,h2'⟩
   ·exact .inr ⟨h1,Wa.trans hm h1' h2⟩
   ·exact .inr ⟨h1,h2'⟩
theorem Wa.all {R:Nat→Nat→Prop} {n:Nat} (hR:∀ i j,R i j→i<n) {i j:Nat} (h:Rc R i j):Wa R n i j:=by
 induction h with
 | refl=>exact Wa.refl ..
 | tail _ h ih=>exact Wa.trans (hR _ _ h) ih (Wa.one h n)
noncomputable abbrev tabL (n:Nat) (T:Nat→Nat→Prop):List (List V):=(List.range n).map fun i=>bools n (T i)
noncomputable abbrev vTab (n:Nat) (T:Nat→Nat→Prop):V:= .lst ((tabL n T).map V.lst)
abbrev vP (l:List (Nat×Nat)):List V:=l.map fun p=>V.tup [.int p.1,.int p.2]
noncomputable def pR (l:List (Nat×Nat)) (s g:Nat):Prop:=(s,g)∈l
theorem tabL_get {n i:Nat} {T:Nat→Nat→Prop} (h:i<n):(tabL n T)[i]?=some (bools n (T i)):=by
 rw [List.getElem?_map,List.getElem?_range h];rfl
theorem tabL_set {n p g:Nat} {T:Nat→Nat→Prop} (hp:p<n) (hg:g<n):(tabL n T).set p ((bools n (T p)).set g (.bool true))=tabL n fun i j=>T i j∨(i=p∧j=g):=by
 apply List.ext_getElem?
 intro i
 rw [List.getElem?_set]
 by_cases q:p=i
 ·subst q
  rw [if_pos rfl,if_pos (by simpa using hp),tabL_get hp,bools_set hg]
  rw [bools_congr fun j _=>(by simp:(T p j∨j=g)↔(T p j∨(p=p∧j=g)))]
 ·rw [if_neg q]
  by_cases hi:i<n
  ·rw [tabL_get hi,tabL_get hi]
   rw [bools_congr fun j _=>(⟨.inl,fun r=>r.elim id fun e=>absurd e.1.symm q⟩:T i j↔(T i j∨(i=p∧j=g)))]
  ·rw [List.getElem?_eq_none (by simpa using hi),List.getElem?_eq_none (by simpa using hi)]
theorem tabL_congr {n:Nat} {T S:Nat→Nat→Prop} (h:∀ i j,i<n→j<n→(T i j↔S i j)):tabL n T=tabL n S:=by
 refine List.map_congr_left fun i hi=>bools_congr fun j hj=>h i j (List.mem_range.mp hi) hj
theorem noRef_bools (n:Nat) (S:Nat→Prop) (a:Addr):V.noRefL a (bools n S)=true:=by
 unfold bools
 induction List.range n with
 | nil=>rfl
 | cons x r ih=>show (V.noRef a (.bool _) && V.noRefL a _)=true;rw [ih];rfl
theorem rng_items {σ:MS} (n:Nat):itemsOf σ (V.rng 0 (n:Int))=some (vN (List.range n)):=by show some (rngL _ _)=_;rw [rngL_zero]
theorem g_rng {σ:MS} (n:Nat):gOf false σ (V.rng 0 (n:Int))=some (vN (List.range n)):=rng_items (σ:=σ) n
theorem rng_ok {n:Nat} (h:n≤1000000):rngOk (V.rng 0 (n:Int)):=by
 show -(lim:Int)≤_∧_≤(lim:Int) ∧ -(lim:Int)≤_∧_≤(lim:Int)
 rw [lim_eq];exact zh77 h
theorem range_split {d r:List Nat} {s n:Nat} (h:d++s::r=List.range n):s=d.length∧s<n∧d=List.range s:=by
 have h1:(List.range n)[d.length]?=some s:=by rw [←h];simp
 obtain ⟨q1,q2⟩:=List.getElem?_eq_some_iff.mp h1
 have q2:d.length=s:=by simpa using q2
 refine ⟨q2.symm,by simp at q1;exact Nat.lt_of_le_of_lt (Nat.le_of_eq q2.symm) q1,?_⟩
 have:(List.range n).take d.length=d:=by rw [←h];simp
 rw [←this,List.take_range,q2,Nat.min_eq_left]
 simp at q1;exact Nat.le_trans (Nat.le_of_eq q2.symm) (Nat.le_of_lt q1)
theorem mem_vP {l:List (Nat×Nat)} {s g:Nat}:V.tup [V.int (s:Int),V.int (g:Int)]∈vP l↔(s,g)∈l:=by
 simp only [vP,List.mem_map,V.tup.injEq,List.cons.injEq,V.int.injEq,and_true,Prod.exists]
 constructor
 ·rintro ⟨a,b,h,e1,e2⟩
  have:a=s:=by exact Int.ofNat_inj.mp e1
  have:b=g:=by exact Int.ofNat_inj.mp e2
  subst_vars;exact h
 ·intro h;exact ⟨s,g,h,rfl,rfl⟩
theorem plain_pair (a b:Int):Plain 4 (V.tup [.int a,.int b]):=by
 intro x hx
 simp at hx
 rcases hx with rfl | rfl<;>trivial
theorem plain_vP (l:List (Nat×Nat)):∀ x∈vP l,Plain 4 x:=fun x hx=>by
 obtain ⟨p,_,rfl⟩:=List.mem_map.mp hx;exact plain_pair _ _
theorem E_loc {I:Info} {i:Nat} {σ:MS} {Q:V→MS→Prop} {v:V} (h:σ.loc i=some v) (k:Q v σ):denE I Γ (.loc i) σ Q:=⟨v,h,k⟩
theorem E_range {I:Info} {i:Nat} {m:Bool} {σ:MS} {Q:V→MS→Prop} {n:Int} (h:σ.loc i=some (.int n)) (k:Q (.rng 0 n) σ):denE I Γ (.bi .range m (.cons (.loc i) .nil)) σ Q:=⟨_,h,k⟩
noncomputable def C_reach:PC:=fun l lv Q=>∃ (n:Nat),E2 fun hv hs=>A5 (l=[.int n,hv]) (n≤8) (isSeq hv (vP hs)) ((∀ p∈hs,p.1<n∧p.2<n)) (Q (vTab n (Rc (pR hs))) lv)
open Classical in
theorem bools_snoc (n:Nat) (S:Nat→Prop):bools (n+1) S=bools n S++[.bool (decide (S n))]:=by
 unfold bools;rw [List.range_succ,List.map_append];rfl
open Classical in
theorem t_reach (hΓ:∀ f,MonoC (Γ f)):Sat I0 Γ m__law_reach 2 C_reach:=by
 rintro l lv Q ⟨n,hv,hs,rfl,hn,hhv,hhs,hQ⟩
 let R:=pR hs
 let MR1:MS→Prop:=fun σ=>∃ as,A4 (σ.loc 0=some (.int n)) (σ.loc 4=some (.lst (as.map V.ref))) (RowsAt σ.lv as (tabL n (Wa R 0))) (Keep lv as σ.lv)
 refine ⟨rfl,B_mid hΓ MR1 ?_ ?_⟩
 ·refine E_compM hΓ (E_range (n:=n) rfl ?_)
  let J2:List Nat→List V→MS→Prop:=fun d' acc σ=>∃ as,A5 (acc=as.map V.ref) (σ.loc 3=some (.int n)) (σ.loc 4=some hv) (RowsAt σ.lv as ((List.range d'.length).map fun i=>bools n (Wa R 0 i))) (Keep lv as σ.lv)
  refine ⟨_,List.range n,g_rng n,rng_ok (by exact zk0 hn rfl),by simp only [vN,List.length_map,List.length_range,lim_eq];exact zk0 hn rfl,J2,?_,?_,?_⟩
  ·exact ⟨[],rfl,rfl,rfl,⟨rfl,fun i a l h=>by simp at h,.nil⟩,Keep.refl lv⟩
  ·rintro d' s r' acc σ hdr ⟨as,rfl,g3,g4,hR,hK⟩
   obtain ⟨hsd,hsn,hde⟩:=range_split hdr
   refine ⟨g_rng n,_,rfl,?_⟩
   refine ⟨fun _ => ?_,fun h=>by cases h⟩
   refine E_compM hΓ ?_
   let J3:List Nat→List V→MS→Prop:=fun d2 acc τ=>A4 (acc=bools d2.length (Wa R 0 s)) (τ.loc 2=some hv) (τ.loc 3=some (.int s)) (τ.lv=σ.lv)
   refine ⟨_,g3,_,List.range n,g_rng n,rng_ok (by exact zk0 hn rfl),by simp only [vN,List.length_map,List.length_range,lim_eq];exact zk0 hn rfl,J3,?_,?_,?_⟩
   ·exact ⟨rfl,g4,rfl,rfl⟩
   ·rintro d2 g r2 acc τ hdr2 ⟨rfl,k2,k3,k4⟩
    obtain ⟨hgd,hgn,_⟩:=range_split hdr2
    refine ⟨g_rng n,_,rfl,?_⟩
    refine ⟨fun _=>⟨_,k3,_,rfl,trivial,trivial,fun ht => ?_,fun ht => ?_⟩,fun h=>by cases h⟩
    ·refine ⟨?_,k2,k3,k4⟩
     rw [List.length_append,List.length_singleton,bools_snoc,←hgd]
     have hw:Wa R 0 s g:= .inl (by
      have:=of_decide_eq_true ht
      simp only [V.int.injEq] at this;exact Int.ofNat_inj.mp this)
     rw [decide_eq_true hw,ht]
    ·have hne:s≠g:=fun e=>by
      have:=of_decide_eq_false ht
      exact this (by rw [e])
     refine ⟨_,k3,_,rfl,by simp [lim_eq],_,k2,.inl ⟨plain_pair _ _,vP hs,hhv.seq _,plain_vP hs,?_⟩⟩
     refine ⟨?_,k2,k3,k4⟩
     rw [List.length_append,List.length_singleton,bools_snoc,←hgd]
     have:(V.tup [V.int (s:Int),V.int (g:Int)]∈vP hs)↔Wa R 0 s g:=by
      rw [mem_vP];exact ⟨.inr,fun h=>h.resolve_left hne⟩
     rw [decide_eq_decide.mpr this]
   ·rintro acc τ ⟨rfl,k2,k3,k4⟩
    refine ⟨g_rng n,fun a ha => ?_⟩
    have ha:σ.lv a=none:=by rw [←k4];exact ha
    refine ⟨as++[a],by simp,g3,g4,?_,?_⟩
    ·rw [List.length_append,List.length_singleton,List.range_succ,List.map_append]
     rw [List.length_range]
     show RowsAt (updL τ.lv a _) _ (_++[bools n (Wa R 0 d'.length)])
     rw [k4,←hsd]
     rw [←hsd] at hR
     exact hR.snoc ha _
    ·show Keep lv _ (updL τ.lv a _)
     rw [k4];exact hK.snoc ha _
  ·rintro acc σ ⟨as,rfl,g3,g4,hR,hK⟩
   rw [List.length_range] at hR
   exact ⟨g_rng n,rfl,as,rfl,rfl,hR,hK⟩
 rintro σ ⟨as,g0,g4,hR,hK⟩
 have lrn:(vN (List.range n)).length≤lim:=by simp only [vN,List.length_map,List.length_range,lim_eq];exact zk0 hn rfl
 have asl:∀ {σ:MS} {T},RowsAt σ.lv as (tabL n T)→as.length=n:=fun h=>by rw [h.len];simp
 have get:∀ {σ:MS} {T} {i:Nat},RowsAt σ.lv as (tabL n T)→i<n→∃ a,as[i]?=some a∧σ.lv a=some (.list (bools n (T i))):=fun {σ T i} h hi=>by
  obtain ⟨a,ha⟩:∃ a,as[i]?=some a:=⟨_,List.getElem?_eq_getElem (by rw [asl h];exact hi)⟩
  exact ⟨a,ha,h.get i a _ ha (tabL_get hi)⟩
 have sq:∀ {σ:MS} {a:Addr} {x:List V},σ.lv a=some (.list x)→seqOf σ (.ref a)=some x:=fun {σ a x} e=>by
  show (match σ.lv a with | some (.list l)=>some l | _=>none)=_
  rw [e]
 let Sd:(Nat→Nat→Prop)→Prop:=fun T=>∀ i j,T i j→Rc R i j
 let Cv:Nat→(Nat→Nat→Prop)→Prop:=fun k T=>∀ i j,i<n→j<n→Wa R k i j→T i j
 let MR4:MS→Prop:=fun σ=>∃ T,A5 (σ.loc 4=some (.lst (as.map V.ref))) (RowsAt σ.lv as (tabL n T)) (Keep lv as σ.lv) (Sd T) (Cv n T)
 refine B_mid hΓ MR4 (S_forM hΓ ?_) ?_
 ·let J5:List Nat→MS→Prop:=fun d' σ=>∃ T,A6 (σ.loc 0=some (.int n)) (σ.loc 4=some (.lst (as.map V.ref))) (RowsAt σ.lv as (tabL n T)) (Keep lv as σ.lv) (Sd T) (Cv d'.length T)
  refine ⟨_,g0,_,List.range n,rng_items n,rng_ok (by exact zk0 hn rfl),J5,?_,?_,?_⟩
  ·exact ⟨_,g0,g4,hR,hK,fun i j h=>Wa.sound h,fun i j _ _ h=>h⟩
  ·rintro d' m r' σ hdr ⟨T,g0,g4,hR,hK,hT1,hT2⟩
   obtain ⟨hmd,hmn,_⟩:=range_split hdr
   rw [←hmd] at hT2
   refine ⟨rng_items n,_,rfl,B_cons hΓ (S_forM hΓ ?_)⟩
   let J6:List Nat→MS→Prop:=fun d2 σ=>∃ T,A8 (σ.loc 0=some (.int n)) (σ.loc 4=some (.lst (as.map V.ref))) (σ.loc 5=some (.int m)) (RowsAt σ.lv as (tabL n T)) (Keep lv as σ.lv) (Sd T) (Cv m T) ((∀ i∈d2,∀ j,j<n→Wa R (m+1) i j→T i j))
   refine ⟨_,g0,_,List.range n,rng_items n,rng_ok (by exact zk0 hn rfl),J6,?_,?_,?_⟩
   ·exact ⟨T,g0,g4,rfl,hR,hK,hT1,hT2,fun i hi=>by cases hi⟩
   ·rintro d2 p r2 σ hdr2 ⟨T,g0,g4,g5,hR,hK,hT1,hT2,hT3⟩
    obtain ⟨_,hpn,_⟩:=range_split hdr2
    refine ⟨rng_items n,_,rfl,B_cons hΓ (S_forM hΓ ?_)⟩
    let J7:List Nat→MS→Prop:=fun d3 σ=>∃ T,A10 (σ.loc 0=some (.int n)) (σ.loc 4=some (.lst (as.map V.ref))) (σ.loc 5=some (.int m)) (σ.loc 2=some (.int p)) (RowsAt σ.lv as (tabL n T)) (Keep lv as σ.lv) (Sd T) (Cv m T) ((∀ i∈d2,∀ j,j<n→Wa R (m+1) i j→T i j)) ((∀ j∈d3,Wa R (m+1) p j→T p j))
    refine ⟨_,g0,_,List.range n,rng_items n,rng_ok (by exact zk0 hn rfl),J7,?_,?_,?_⟩
    ·exact ⟨T,g0,g4,g5,rfl,hR,hK,hT1,hT2,hT3,fun i hi=>by cases hi⟩
    ·rintro d3 g r3 σ hdr3 ⟨T,g0,g4,g5,g2,hR,hK,hT1,hT2,hT3,hT4⟩
     obtain ⟨_,hgn,_⟩:=range_split hdr3
     obtain ⟨ap,hap,lap⟩:=get hR hpn
     obtain ⟨am,ham,lam⟩:=get hR hmn
     have hal:(as.map V.ref).length≤lim:=by rw [List.length_map,asl hR,lim_eq];exact zk0 hn rfl
     have hbl:∀ S,(bools n S).length≤lim:=fun S=>by rw [bools_len,lim_eq];exact zk0 hn rfl
     refine ⟨rng_items n,_,rfl,B_cons hΓ ?_⟩
     have stay:¬ (T p m∧T m g)→J7 (d3++[g]) ⟨setV σ.loc 3 (.int g),σ.lv⟩:=fun hno=>by
      refine ⟨T,g0,g4,g5,g2,hR,hK,hT1,hT2,hT3,fun j hj hw => ?_⟩
      rcases List.mem_append.mp hj with q | q
      ·exact hT4 j q hw
      ·rw [List.mem_singleton.mp q] at hw ⊢
       rcases hw with hw | ⟨h1,h2⟩
       ·exact hT2 p g hpn hgn hw
       ·exact absurd ⟨hT2 p m hpn hmn h1,hT2 m g hmn hgn h2⟩ hno
     refine ⟨_,g4,_,g2,p,rfl,.inl ⟨_,.ref ap,rfl,hal,at_refs hap,_,g5,m,rfl,.inl ⟨_,_,sq lap,hbl _,at_nat (bools_get hmn),fun h1 => ?_,fun h1 => ?_⟩⟩⟩
     ·have h1:=of_decide_eq_true h1
      refine ⟨_,g4,_,g5,m,rfl,.inl ⟨_,.ref am,rfl,hal,at_refs ham,_,rfl,g,rfl,.inl ⟨_,_,sq lam,hbl _,at_nat (bools_get hgn),fun h2 => ?_,fun h2 => ?_⟩⟩⟩
      ·have h2:=of_decide_eq_true h2
       refine B_cons hΓ ?_
       refine ⟨_,g4,_,g2,p,rfl,.inl ⟨_,.ref ap,rfl,hal,at_refs hap,_,rfl,ap,g,rfl,rfl,.inl ⟨_,lap,by exact zq15,by rw [bools_len];exact Int.ofNat_lt.mpr hgn,hbl _,(?_)⟩⟩⟩
       have hR':=hR.upd hap ((bools n (T p)).set g (.bool true))
       rw [tabL_set hpn hgn] at hR'
       refine ⟨fun i j=>T i j∨(i=p∧j=g),g0,g4,g5,g2,hR',hK.upd (List.mem_of_getElem? hap) _,fun i j h => ?_,fun i j hi hj h=> .inl (hT2 i j hi hj h),fun i hi j hj h=> .inl (hT3 i hi j hj h),fun j hj hw => ?_⟩
       ·rcases h with h | ⟨rfl,rfl⟩
        ·exact hT1 i j h
        ·exact (hT1 _ _ h1).trans (hT1 _ _ h2)
       ·rcases List.mem_append.mp hj with q | q
        ·exact .inl (hT4 j q hw)
        ·exact .inr ⟨rfl,List.mem_singleton.mp q⟩
      ·have h2:=of_decide_eq_false h2
       exact ((stay fun q=>h2 q.2))
     ·have h1:=of_decide_eq_false h1
      exact ⟨fun h=>(by cases h),fun _=>((stay fun q=>h1 q.1))⟩
    ·rintro σ ⟨T,g0,g4,g5,g2,hR,hK,hT1,hT2,hT3,hT4⟩
     refine ⟨rng_items n,⟨T,g0,g4,g5,hR,hK,hT1,hT2,fun i hi j hj hw => ?_⟩⟩
     rcases List.mem_append.mp hi with q | q
     ·exact hT3 i q j hj hw
     ·rw [List.mem_singleton.mp q] at hw ⊢
      exact hT4 j (List.mem_range.mpr hj) hw
   ·rintro σ ⟨T,g0,g4,g5,hR,hK,hT1,hT2,hT3⟩
    refine ⟨rng_items n,⟨T,g0,g4,hR,hK,hT1,fun i j hi hj hw => ?_⟩⟩
    rw [List.length_append,List.length_singleton,←hmd] at hw
    exact hT3 i (List.mem_range.mpr hi) j hj hw
  ·rintro σ ⟨T,g0,g4,hR,hK,hT1,hT2⟩
   rw [List.length_range] at hT2
   exact ⟨rng_items n,rfl,T,g4,hR,hK,hT1,hT2⟩
 ·rintro σ ⟨T,g4,hR,hK,hT1,hT2⟩
  refine B_cons hΓ ?_
  refine ⟨_,g4,_,_,GhV.rows (lv':=lv) hR (fun l hl a => ?_) hK,?_⟩
  ·obtain ⟨x,_,rfl⟩:=List.mem_map.mp hl;exact noRef_bools ..
  ·rw [tabL_congr (S:=Rc (pR hs)) fun i j hi hj=>⟨hT1 i j,fun h=>hT2 i j hi hj (Wa.all (fun a b h=>(hhs _ h).1) h)⟩]
   exact hQ
end Mine
namespace Mine
variable {Γ:Value→PC}
theorem isSeq.gOf {v:V} {l:List V} (h:isSeq v l) (σ:MS):Mine.gOf false σ v=some l:=h.items σ
theorem GhV.here {σ:MS} {v:V} {lv:LM} (h:∀ b x,lv b=some x→σ.lv b=some x):GhV v σ v ⟨fun _=>none,lv⟩:=GhV.weak (fun i v e=>nomatch e) h
theorem plain_vN (l:List Nat):∀ x∈vN l,Plain 4 x:=fun x hx=>by
 obtain ⟨p,_,rfl⟩:=List.mem_map.mp hx;trivial
theorem any_dec {α:Type} {l:List α} {P:α→Prop} [∀ s,Decidable (P s)] [Decidable (∃ s∈l,P s)]:((l.map fun s=>decide (P s)).any id)=decide (∃ s∈l,P s):=by
 by_cases h:∃ s∈l,P s
 ·rw [decide_eq_true h]
  obtain ⟨s,h1,h2⟩:=h
  simp only [List.any_map,List.any_eq_true]
  exact ⟨s,h1,by simpa using h2⟩
 ·rw [decide_eq_false h]
  simp only [List.any_map,List.any_eq_false]
  intro s hs q
  exact h ⟨s,hs,by simpa using q⟩
noncomputable def C_wide:PC:=fun l lv Q=>∃ (n:Nat),E3 fun T sv ss=>A6 (l=[vTab n T,sv]) (n≤8) (isSeq sv (vN ss)) ((∀ s∈ss,s<n)) (ss.length≤100000) (Q (.lst (vN (setL n fun g=>∃ s∈ss,T s g))) lv)
open Classical in
theorem t_wide (hΓ:∀ f,MonoC (Γ f)):Sat I0 Γ m__law_wide 2 C_wide:=by
 rintro l lv Q ⟨n,T,sv,ss,rfl,hn,hsv,hss,hsl,hQ⟩
 have tl:((tabL n T).map V.lst).length≤lim:=by simp only [List.length_map,List.length_range,lim_eq];exact zk0 hn rfl
 refine ⟨rfl,B_cons hΓ ?_⟩
 refine E_compM hΓ ?_
 refine ⟨_,rfl,(tabL n T).map V.lst,rfl,tl,?_⟩
 simp only [List.length_map,List.length_range]
 let J1:List Nat→List V→MS→Prop:=fun d' acc σ=>A4 (acc=vN (d'.filter fun g=>decide (∃ s∈ss,T s g))) (σ.loc 3=some sv) (σ.loc 4=some (vTab n T)) (σ.lv=lv)
 refine ⟨_,List.range n,g_rng n,rng_ok (by exact zk0 hn rfl),by simp only [vN,List.length_map,List.length_range,lim_eq];exact zk0 hn rfl,J1,?_,?_,?_⟩
 ·exact ⟨rfl,rfl,rfl,rfl⟩
 ·rintro d' g r' acc σ hdr ⟨rfl,g3,g4,hlv⟩
  obtain ⟨_,hgn,_⟩:=range_split hdr
  refine ⟨g_rng n,_,rfl,?_⟩
  refine E_compM hΓ (E_loc g3 ?_)
  let J2:List Nat→List V→MS→Prop:=fun d2 acc τ=>A4 (acc=(d2.map fun s=>decide (T s g)).map V.bool) (τ.loc 2=some (.int g)) (τ.loc 3=some (vTab n T)) (τ.lv=lv)
  refine ⟨_,ss,hsv.gOf _,hsv.rng,by simp only [vN,List.length_map,lim_eq];exact zk0 hsl rfl,J2,?_,?_,?_⟩
  ·exact ⟨rfl,rfl,g4,hlv⟩
  ·rintro d2 s r2 acc τ hdr2 ⟨rfl,k2,k3,klv⟩
   have hs:s<n:=hss s (by rw [←hdr2];simp)
   refine ⟨hsv.gOf _,_,rfl,?_⟩
   refine ⟨fun _=>⟨_,k3,_,rfl,s,rfl,.inl ⟨_,.lst (bools n (T s)),rfl,tl,at_nat (by rw [List.getElem?_map,tabL_get hs];rfl),_,k2,g,rfl,.inl ⟨_,_,rfl,by rw [bools_len,lim_eq];exact zk0 hn rfl,at_nat (bools_get hgn),by simp,k2,k3,klv⟩⟩⟩,fun h=>by cases h⟩
  ·rintro acc τ ⟨rfl,k2,k3,klv⟩
   refine ⟨hsv.gOf _,ss.map (fun s=>decide (T s g)),rfl,by simp only [List.length_map,lim_eq];exact zk0 hsl rfl,?_⟩
   rw [any_dec]
   refine ⟨fun h => ?_,fun h => ?_⟩
   ·refine E_loc (v:= .int g) rfl ⟨?_,g3,g4,klv⟩
    rw [List.filter_append,List.filter_cons,if_pos h];simp
   ·refine ⟨?_,g3,g4,klv⟩
    rw [List.filter_append,List.filter_cons,if_neg (by rw [h];decide)];simp
 ·rintro acc σ ⟨rfl,g3,g4,hlv⟩
  refine ⟨g_rng n,_,_,GhV.here (lv:=lv) fun b x e=>by rw [hlv];exact e,?_⟩
  rw [show ((List.range n).filter fun g=>decide (∃ s∈ss,T s g))=setL n (fun g=>∃ s∈ss,T s g) from List.filter_congr fun i _=>decide_eq_decide.mpr Iff.rfl]
  exact hQ
abbrev vR (l:List (Nat×Nat×Nat)):List V:=l.map fun p=>V.tup [.int p.1,.int p.2.1,.int p.2.2]
noncomputable def behS (T:Nat→Nat→Prop) (roads:List (Nat×Nat×Nat)) (S:Nat→Prop) (k:Nat) (h:Nat):Prop:=∃ p m g,(p,m,g)∈roads∧S p∧bitP m k∧T g h
noncomputable def C_behind:PC:=fun l lv Q=>E2 fun (n k:Nat)=>E5 fun T rv sv roads ss=>A7 (l=[vTab n T,rv,sv,.int k]) (n≤8) (isSeq rv (vR roads)) (isSeq sv (vN ss)) ((∀ p∈roads,p.2.2<n)) (roads.length≤100000) (Q (.lst (vN (setL n (behS T roads (·∈ss) k)))) lv)
open Classical in
theorem t_behind (hΓ:∀ f,MonoC (Γ f)) (h1:Γ (.ref 302)=C_wide):Sat I0 Γ m__law_behind 4 C_behind:=by
 rintro l lv Q ⟨n,k,T,rv,sv,roads,ss,rfl,hn,hrv,hsv,hrg,hrl,hQ⟩
 refine ⟨rfl,B_cons hΓ ?_⟩
 refine E_compM hΓ (E_loc (v:=rv) rfl ?_)
 let pick:Nat×Nat×Nat→Bool:=fun p=>decide (p.1∈ss∧bitP p.2.1 k)
 let J3:List (Nat×Nat×Nat)→List V→MS→Prop:=fun d' acc σ=>A4 (acc=vN ((d'.filter pick).map (·.2.2))) (σ.loc 4=some (.int k)) (σ.loc 5=some sv) (σ.lv=lv)
 refine ⟨_,roads,hrv.gOf _,hrv.rng,by simp only [vR,List.length_map,lim_eq];exact zk0 hrl rfl,J3,?_,?_,?_⟩
 ·exact ⟨rfl,rfl,rfl,rfl⟩
 ·rintro d' q r' acc σ hdr ⟨rfl,g4,g5,hlv⟩
  obtain ⟨p,m,g⟩:=q
  refine ⟨hrv.gOf _,_,rfl,?_⟩
  have no:pick (p,m,g)=false→J3 (d'++[(p,m,g)]) (vN ((d'.filter pick).map (·.2.2))) ⟨setV (setV (setV σ.loc 1 (.int p)) 2 (.int m)) 3 (.int g),σ.lv⟩:=fun h =>
   ⟨by rw [List.filter_append,List.filter_cons,h];simp,g4,g5,hlv⟩
  refine ⟨_,rfl,_,g5,.inl ⟨trivial,vN ss,hsv.seq _,plain_vN ss,fun ht => ?_,fun ht => ?_⟩⟩
  ·have h2:=mem_vN.mp (of_decide_eq_true ht)
   refine ⟨.int m,rfl,.int k,g4,by show (0:Int)≤(k:Int);exact zq15,trivial,fun hb => ?_,fun hb => ?_⟩
   ·have hbp:bitP m k:=by simpa [bitP,BOp.val] using hb
    refine ⟨.int g,rfl,?_,g4,g5,hlv⟩
    rw [List.filter_append,List.filter_cons,if_pos (by show decide (p∈ss∧bitP m k)=true;exact decide_eq_true ⟨h2,hbp⟩)];simp
   ·have hbp:¬ bitP m k:=by simpa [bitP,BOp.val] using hb
    exact no (decide_eq_false fun h=>hbp h.2)
  ·have h2:=of_decide_eq_false ht
   exact ⟨fun h=>(by cases h),fun _=>no (decide_eq_false fun h=>h2 (mem_vN.mpr h.1))⟩
 ·rintro acc σ ⟨rfl,g4,g5,hlv⟩
  refine ⟨hrv.gOf _,B_cons hΓ ?_⟩
  refine ⟨vTab n T,rfl,_,rfl,?_⟩
  show Γ (.ref 302) _ σ.lv _
  rw [h1,hlv]
  refine ⟨n,T,_,(roads.filter pick).map (·.2.2),rfl,hn,.inr rfl,fun s hs => ?_,?_,_,⟨fun _=>none,lv⟩,GhV.here fun _ _ e=>e,?_⟩
  ·obtain ⟨q,h3,rfl⟩:=List.mem_map.mp hs
   exact hrg q (List.mem_filter.mp h3).1
  ·rw [List.length_map];exact Nat.le_trans (List.length_filter_le _ _) hrl
  ·rw [setL_congr (T:=behS T roads (·∈ss) k) fun g hg => ?_]
   ·exact hQ
   ·constructor
    ·rintro ⟨s,hs,hT⟩
     obtain ⟨⟨p,m,s⟩,h3,rfl⟩:=List.mem_map.mp hs
     obtain ⟨h4,h5⟩:=List.mem_filter.mp h3
     have h5:=of_decide_eq_true h5
     exact ⟨p,m,s,h4,h5.1,h5.2,hT⟩
    ·rintro ⟨p,m,s,h3,h4,h5,h6⟩
     exact ⟨s,List.mem_map.mpr ⟨(p,m,s),List.mem_filter.mpr ⟨h3,decide_eq_true ⟨h4,h5⟩⟩,rfl⟩,h6⟩
noncomputable def markS (marks:List (Nat×Nat)) (S:Nat→Prop) (t:Nat):Prop:=∃ s,S s∧(s,t)∈marks
noncomputable def C_ltags:PC:=fun l lv Q=>E4 fun mv sv marks ss=>A5 (l=[mv,sv]) (isSeq mv (vP marks)) (isSeq sv (vN ss)) (marks.length≤1000) (Q (.tup (vN (setL 2 (markS marks (·∈ss))))) lv)
open Classical in
theorem t_ltags (hΓ:∀ f,MonoC (Γ f)):Sat I0 Γ m__law_tags 2 C_ltags:=by
 rintro l lv Q ⟨mv,sv,marks,ss,rfl,hmv,hsv,hml,hQ⟩
 refine ⟨rfl,B_cons hΓ ?_⟩
 refine E_compM hΓ ?_
 let J4:List Nat→List V→MS→Prop:=fun d' acc σ=>A4 (acc=vN (d'.filter fun t=>decide (markS marks (·∈ss) t))) (σ.loc 3=some mv) (σ.loc 4=some sv) (σ.lv=lv)
 refine ⟨by simp [lim_eq],fun (i:Nat)=> .int i,[0,1],rfl,trivial,by simp [lim_eq],J4,?_,?_,?_⟩
 ·exact ⟨rfl,rfl,rfl,rfl⟩
 ·rintro d' t r' acc σ hdr ⟨rfl,g3,g4,hlv⟩
  refine ⟨rfl,_,rfl,?_⟩
  refine E_compM hΓ (E_loc g3 ?_)
  let J5:List (Nat×Nat)→List V→MS→Prop:=fun d2 acc τ=>A4 (acc=(d2.map fun p=>decide (p.1∈ss∧p.2=t)).map V.bool) (τ.loc 3=some sv) (τ.loc 4=some (.int t)) (τ.lv=lv)
  refine ⟨_,marks,hmv.gOf _,hmv.rng,by simp only [vP,List.length_map,lim_eq];exact zk0 hml rfl,J5,?_,?_,?_⟩
  ·exact ⟨rfl,g4,rfl,hlv⟩
  ·rintro d2 q r2 acc τ hdr2 ⟨rfl,k3,k4,klv⟩
   obtain ⟨p,u⟩:=q
   refine ⟨hmv.gOf _,_,rfl,?_⟩
   have go:∀ b,b=decide (p∈ss∧u=t)→J5 (d2++[(p,u)]) ((d2.map fun p=>decide (p.1∈ss∧p.2=t)).map V.bool++[V.bool b]) ⟨setV (setV τ.loc 1 (.int p)) 2 (.int u),τ.lv⟩:=fun b e =>
    ⟨by simp [e],k3,k4,klv⟩
   refine ⟨fun _=>⟨_,rfl,_,k3,.inl ⟨trivial,vN ss,hsv.seq _,plain_vN ss,fun ht => ?_,fun ht => ?_⟩⟩,fun h=>by cases h⟩
   ·have h2:=mem_vN.mp (of_decide_eq_true ht)
    refine ⟨_,rfl,_,k4,trivial,trivial,go _ (decide_eq_decide.mpr ?_)⟩
    simp only [V.int.injEq]
    exact ⟨fun h=>⟨h2,by exact Int.ofNat_inj.mp h⟩,fun h=>by have:=h.2;omega⟩
   ·have h2:=of_decide_eq_false ht
    have h3:¬ p∈ss:=fun h=>h2 (mem_vN.mpr h)
    exact go _ (by rw [ht];exact (decide_eq_false fun h=>h3 h.1).symm)
  ·rintro acc τ ⟨rfl,k3,k4,klv⟩
   refine ⟨hmv.gOf _,marks.map (fun p=>decide (p.1∈ss∧p.2=t)),rfl,by simp only [List.length_map,lim_eq];exact zk0 hml rfl,?_⟩
   rw [any_dec]
   have e4:(∃ p∈marks,p.1∈ss∧p.2=t)↔markS marks (·∈ss) t:=⟨fun ⟨⟨p,u⟩,h1,h2,h3⟩=>by
    dsimp only at h2 h3;subst h3;exact ⟨p,h2,h1⟩,fun ⟨s,h1,h2⟩=>⟨(s,t),h2,h1,rfl⟩⟩
   refine ⟨fun h => ?_,fun h => ?_⟩
   ·have h:=e4.mp (of_decide_eq_true h)
    refine E_loc (v:= .int t) rfl ⟨?_,g3,g4,klv⟩
    rw [List.filter_append,List.filter_cons,if_pos (decide_eq_true h)];simp
   ·have h:=fun q=>of_decide_eq_false h (e4.mpr q)
    refine ⟨?_,g3,g4,klv⟩
    rw [List.filter_append,List.filter_cons,if_neg (by rw [decide_eq_false h];decide)];simp
 ·rintro acc σ ⟨rfl,g3,g4,hlv⟩
  refine ⟨rfl,_,rfl,?_,_,_,GhV.here (lv:=lv) fun b x e=>by rw [hlv];exact e,?_⟩
  ·simp only [vN,List.length_map,lim_eq]
   have:=List.length_filter_le (fun t=>decide (markS marks (·∈ss) t)) ([0,1])
   simp at this;exact zk0 this rfl
  ·exact hQ
end Mine
namespace Mine
variable {Γ:Value→PC}
theorem setV_eq (f:Loc) (i:Nat) (v:V):setV f i v i=some v:=by simp [setV]
theorem Gh.lst {σ:MS} {i:Nat} {a:Addr} {l:List V} (hi:σ.loc i=some (.ref a)) (ha:σ.lv a=some (.list l)):Gh σ ⟨setV σ.loc i (.lst l),updL σ.lv a none⟩:=by
 refine Gh.frz ha ⟨fun j v e => ?_,fun b x e => ?_⟩
 ·by_cases q:j=i
  ·subst q
   have e:setV σ.loc j (.lst l) j=some v:=e
   rw [setV_eq] at e;cases e
   refine ⟨_,hi,.inr ?_⟩
   show _=if a=a then V.lst l else V.ref a
   rw [if_pos rfl]
  ·have e:setV σ.loc i (.lst l) j=some v:=e
   replace e:=(setV_ne _ _ q).symm.trans e
   exact ⟨v,e,.inl rfl⟩
 ·have e:updL σ.lv a none b=some x:=e
  by_cases q:b=a
  ·subst q;rw [updL_self] at e;cases e
  ·replace e:=(updL_ne _ _ q).symm.trans e;exact ⟨q,x,e,.inl rfl⟩
theorem Rc.mono {R R':Nat→Nat→Prop} (h:∀ s g,R s g→R' s g) {a b:Nat} (x:Rc R a b):Rc R' a b:=by
 induction x with
 | refl=>exact .refl
 | tail _ q ih=>exact .tail ih (h _ _ q)
noncomputable def mvA (N:Nf) (s m g:Nat):Prop:=∃ l,N.moves[s]?=some l∧(m,g)∈l
noncomputable def lkR (N:Nf) (s g:Nat):Prop:=(∃ m,mvA N s m g)∨hopR N s g
structure OfOk (N:Nf) (roads:List (Nat×Nat×Nat)) (marks:List (Nat×Nat)):Prop where
 rd:∀ p m g,(p,m,g)∈roads↔mvA N p m g
 rl:roads.length≤8000
 mks:∀ s t,(s,t)∈marks↔(s,t)∈N.tags
 ml:marks.length≤8
noncomputable def C_of:PC:=fun l lv Q=>E2 fun a N=>A4 (l=[.ref a]) (NfaAt lv a N) N.Wf (∀ roads marks,OfOk N roads marks→Q (.tup [vTab N.n (Rc (hopR N)),.lst (vR roads),.lst (vP marks)]) lv)
theorem mt_count:I0.mt 92 ("state_count":Str)=some 84:=by decide
theorem mt_links:I0.mt 92 ("links":Str)=some 89:=by decide
theorem tags_len {N:Nf} (W:N.Wf):N.tags.length≤N.n:=by
 have h:=len_le_n W.tnd (n:=N.n) fun k hk=>let ⟨p,h1,h2⟩:=List.mem_map.mp hk;h2▸(W.tg p h1).1
 rwa [List.length_map] at h
theorem Ext.free {lv lv':LM} (E:Ext lv lv') {a:Addr} (h:lv' a=none):lv a=none:=by
 cases q:lv a with
 | none=>rfl
 | some x=>replace h:=(E a x q).symm.trans h;cases h
open Classical in
theorem t_of (hΓ:∀ f,MonoC (Γ f)) (h1:Γ (.ref 84)=C_state_count) (h2:Γ (.ref 297)=C_reach):Sat I0 Γ m__law_of 1 C_of:=by
 rintro l lv Q ⟨a,N,rfl,hN,W,hQ⟩
 obtain ⟨d0,hN1,hN2⟩:=id hN
 have w8:N.moves.length≤8:=W.small
 refine ⟨rfl,B_cons hΓ ?_⟩
 refine ⟨.ref a,rfl,a,92,nfFs N d0,84,rfl,hN1,rfl,mt_count,?_⟩
 refine use h1 ?_
 refine ⟨a,N,rfl,hN,by have:=W.small;exact zk0 this rfl,B_cons hΓ ?_⟩
 refine ⟨by decide,fun f hf => ?_⟩
 replace hf:lv f=none:=hf
 refine B_cons hΓ ?_
 refine ⟨by decide,fun k hk => ?_⟩
 have kf:k≠f:=fun q=>by rw [q] at hk;dsimp only at hk;rw [updL_self] at hk;cases hk
 replace hk:lv k=none:=by dsimp only at hk;replace hk:=(updL_ne _ _ kf).symm.trans hk;exact hk
 let Lv:List (Nat×Nat×Nat)→List (Nat×Nat)→MS→Prop:=fun rd hp σ=>A7 (σ.loc 0=some (.ref a)) (σ.loc 1=some (.int N.n)) (σ.loc 2=some (.ref f)) (σ.loc 3=some (.ref k)) (σ.lv f=some (.list (vR rd))) (σ.lv k=some (.list (vP hp))) (∀ b x,lv b=some x→b≠f∧b≠k∧σ.lv b=some x)
 have addF:∀ {σ:MS} {rd hp} (x:Nat×Nat×Nat) {loc:Loc},Lv rd hp σ→loc 0=some (.ref a)→loc 1=some (.int N.n)→loc 2=some (.ref f)→loc 3=some (.ref k)→Lv (rd++[x]) hp ⟨loc,updL σ.lv f (some (.list (vR rd++[V.tup [.int x.1,.int x.2.1,.int x.2.2]])))⟩:=fun {σ rd hp} x {loc} ⟨_,_,_,_,g4,g5,g6⟩ q0 q1 q2 q3=>by
  refine ⟨q0,q1,q2,q3,?_,?_,fun b y e => ?_⟩
  ·show updL _ _ _ _=_;rw [updL_self];simp [vR]
  ·show updL _ _ _ _=_;rw [updL_ne _ _ kf];exact g5
  ·obtain ⟨b1,b2,b3⟩:=g6 b y e
   exact ⟨b1,b2,by show updL _ _ _ _=_;rw [updL_ne _ _ b1];exact b3⟩
 have addK:∀ {σ:MS} {rd hp} (x:Nat×Nat) {loc:Loc},Lv rd hp σ→loc 0=some (.ref a)→loc 1=some (.int N.n)→loc 2=some (.ref f)→loc 3=some (.ref k)→Lv rd (hp++[x]) ⟨loc,updL σ.lv k (some (.list (vP hp++[V.tup [.int x.1,.int x.2]])))⟩:=fun {σ rd hp} x {loc} ⟨_,_,_,_,g4,g5,g6⟩ q0 q1 q2 q3=>by
  refine ⟨q0,q1,q2,q3,?_,?_,fun b y e => ?_⟩
  ·show updL _ _ _ _=_;rw [updL_ne _ _ (Ne.symm kf)];exact g4
  ·show updL _ _ _ _=_;rw [updL_self];simp [vP]
  ·obtain ⟨b1,b2,b3⟩:=g6 b y e
   exact ⟨b1,b2,by show updL _ _ _ _=_;rw [updL_ne _ _ b2];exact b3⟩
 let MR1:MS→Prop:=fun σ=>E2 fun rd hp=>A4 (Lv rd hp σ) (rd.length≤8000) ((∀ p m g,(p,m,g)∈rd↔mvA N p m g)) (∀ p g,(p,g)∈hp↔hopR N p g)
 refine B_mid hΓ MR1 (S_forM hΓ ?_) ?_
 ·let J2:List Nat→MS→Prop:=fun d' σ=>Mine.E2 fun rd hp=>A5 (Lv rd hp σ) (rd.length≤1000*d'.length) (hp.length≤1000*d'.length) ((∀ p m g,(p,m,g)∈rd↔p∈d'∧mvA N p m g)) (∀ p g,(p,g)∈hp↔p∈d'∧hopR N p g)
  refine ⟨_,rfl,_,List.range N.n,rng_items _,rng_ok (by have:=W.small;exact zk0 this rfl),J2,?_,?_,?_⟩
  ·refine ⟨[],[],⟨rfl,rfl,rfl,rfl,?_,?_,fun b x e=>⟨ne_of e hf,ne_of e hk,?_⟩⟩,Nat.le_refl _,Nat.le_refl _,fun p m g=>by simp,fun p g=>by simp⟩
   ·show updL (updL lv f _) k _ f=_;rw [updL_ne _ _ (Ne.symm kf),updL_self];rfl
   ·show updL (updL lv f _) k _ k=_;rw [updL_self];rfl
   ·show updL (updL lv f _) k _ b=_;rw [updL_ne _ _ (ne_of e hk),updL_ne _ _ (ne_of e hf)];exact e
  ·rintro d' s r' σ hdr ⟨rd,hp,hL,hl1,hl2,hc1,hc2⟩
   obtain ⟨hsd,hs,hde⟩:=range_split hdr
   have hsn:s∉d':=by rw [hde];simp
   obtain ⟨ml,hm1,hm2⟩:=nf_mv hs
   obtain ⟨hl,hh1,hh2⟩:=nf_hops W hs
   have lva:∀ {σ rd hp},Lv rd hp σ→σ.lv a=some (nfObj N d0):=fun h=>(h.7 _ _ hN1).2.2
   refine ⟨rng_items _,_,rfl,?_⟩
   let MR3:MS→Prop:=fun σ=>∃ rd,A4 (Lv rd hp σ) (σ.loc 4=some (.int s)) (rd.length≤1000*d'.length+ml.length) (∀ p m g,(p,m,g)∈rd↔p∈d'++[s]∧mvA N p m g)
   refine B_mid hΓ MR3 (S_forM hΓ ?_) ?_
   ·let J98:List (Nat×Nat)→MS→Prop:=fun d2 σ=>∃ rd,A4 (Lv rd hp σ) (σ.loc 4=some (.int s)) (rd.length≤1000*d'.length+d2.length) (∀ p m g,(p,m,g)∈rd↔(p∈d'∧mvA N p m g)∨(p=s∧(m,g)∈d2))
    refine ⟨.ref a,hL.1,a,92,nfFs N d0,vMoves N.moves,rfl,lva hL,ok_moves,nf_moves N d0,.int s,rfl,s,rfl,.inl ⟨_,.lst (vMv ml),rfl,by simp only [List.length_map,lim_eq];exact zk0 w8 rfl,at_nat (by rw [List.getElem?_map,hm1];rfl),_,ml,rfl,trivial,J98,?_,?_,?_⟩⟩
    ·exact ⟨rd,hL,rfl,by simpa using hl1,fun p m g=>by rw [hc1];simp⟩
    ·rintro d2 q r2 σ hdr2 ⟨rd,hL,g4,hl1,hc1⟩
     obtain ⟨m,g⟩:=q
     have hl9:d2.length<1000:=by
      have:=congrArg List.length hdr2
      have:=W.mlen ml hm2
      simp at *;exact zh71 this ‹(_:Nat)≤1000›
     have hd9:d'.length<8:=by have:=W.small;exact zq18 hs hsd this
     refine ⟨rfl,_,rfl,B_cons hΓ ?_⟩
     refine ⟨.ref f,hL.3,⟨_,_,rfl,hL.5⟩,_,g4,.int m,rfl,.int g,rfl,by simp [lim_eq],f,_,rfl,hL.5,?_,rfl,⟨rd++[(s,m,g)],addF (s,m,g) hL hL.1 hL.2 hL.3 hL.4,g4,by simp;exact zh66 hl1,fun p m' g' => ?_⟩⟩
     ·simp only [vR,List.length_map,lim_eq];exact zh79 hl9 hd9 hl1
     ·simp only [List.mem_append,List.mem_singleton,hc1,Prod.mk.injEq]
      constructor
      ·rintro ((h | ⟨h1,h2⟩) | ⟨h1,h2,h3⟩)
       ·exact .inl h
       ·exact .inr ⟨h1,.inl h2⟩
       ·exact .inr ⟨h1,.inr ⟨h2,h3⟩⟩
      ·rintro (h | ⟨h1,h2 | ⟨h2,h3⟩⟩)
       ·exact .inl (.inl h)
       ·exact .inl (.inr ⟨h1,h2⟩)
       ·exact .inr ⟨h1,h2,h3⟩
    ·rintro σ ⟨rd,hL,g4,hl1,hc1⟩
     refine ⟨rfl,rfl,rd,hL,g4,hl1,fun p m g => ?_⟩
     rw [hc1]
     simp only [List.mem_append,List.mem_singleton]
     constructor
     ·rintro (⟨h1,h2⟩ | ⟨rfl,h2⟩)
      ·exact ⟨.inl h1,h2⟩
      ·exact ⟨.inr rfl,ml,hm1,h2⟩
     ·rintro ⟨h1 | rfl,h2⟩
      ·exact .inl ⟨h1,h2⟩
      ·obtain ⟨l,q1,q2⟩:=h2
       replace q1:=hm1.symm.trans q1;cases q1
       exact .inr ⟨rfl,q2⟩
   ·rintro σ ⟨rd,hL,g4,hl1,hc1⟩
    refine B_cons hΓ (S_forM hΓ ?_)
    let J99:List Nat→MS→Prop:=fun d2 σ=>∃ hp,A4 (Lv rd hp σ) (σ.loc 4=some (.int s)) (hp.length≤1000*d'.length+d2.length) (∀ p g,(p,g)∈hp↔(p∈d'∧hopR N p g)∨(p=s∧g∈d2))
    refine ⟨.ref a,hL.1,a,92,nfFs N d0,vHops N.hops,rfl,lva hL,ok_hops,nf_hopsL N d0,_,g4,s,rfl,.inl ⟨_,.lst (vN hl),rfl,by simp only [List.length_map,W.len,lim_eq];have:=W.small;exact zk0 this rfl,at_nat (by rw [List.getElem?_map,hh1];rfl),_,hl,rfl,trivial,J99,?_,?_,?_⟩⟩
    ·exact ⟨hp,hL,g4,by simpa using hl2,fun p g=>by rw [hc2];simp⟩
    ·rintro d2 g r2 σ hdr2 ⟨hp,hL,g4,hl2,hc2⟩
     have hl9:d2.length<1000:=by
      have:=congrArg List.length hdr2
      have:=W.hlen hl hh2
      simp at *;exact zh71 this ‹(_:Nat)≤1000›
     have hd9:d'.length<8:=by have:=W.small;exact zq18 hs hsd this
     refine ⟨rfl,_,rfl,B_cons hΓ ?_⟩
     refine ⟨.ref k,hL.4,⟨_,_,rfl,hL.6⟩,_,g4,.int g,rfl,by simp [lim_eq],k,_,rfl,hL.6,?_,rfl,⟨hp++[(s,g)],addK (s,g) hL hL.1 hL.2 hL.3 hL.4,g4,by simp;exact zh66 hl2,fun p g' => ?_⟩⟩
     ·simp only [vP,List.length_map,lim_eq];exact zh79 hl9 hd9 hl2
     ·simp only [List.mem_append,List.mem_singleton,hc2,Prod.mk.injEq]
      constructor
      ·rintro ((h | ⟨h1,h2⟩) | ⟨h1,h2⟩)
       ·exact .inl h
       ·exact .inr ⟨h1,.inl h2⟩
       ·exact .inr ⟨h1,.inr h2⟩
      ·rintro (h | ⟨h1,h2 | h2⟩)
       ·exact .inl (.inl h)
       ·exact .inl (.inr ⟨h1,h2⟩)
       ·exact .inr ⟨h1,h2⟩
    ·rintro σ ⟨hp,hL,g4,hl2,hc2⟩
     have:=W.mlen ml hm2
     have:=W.hlen hl hh2
     refine ⟨rfl,⟨rd,hp,hL,by simp;exact zh80 hl1 ‹(_:Nat)≤1000›,by simp;exact zh80 hl2 this,hc1,fun p g => ?_⟩⟩
     rw [hc2]
     simp only [List.mem_append,List.mem_singleton]
     constructor
     ·rintro (⟨h1,h2⟩ | ⟨rfl,h2⟩)
      ·exact ⟨.inl h1,h2⟩
      ·exact ⟨.inr rfl,hl,hh1,h2⟩
     ·rintro ⟨h1 | rfl,h2⟩
      ·exact .inl ⟨h1,h2⟩
      ·obtain ⟨l,q1,q2⟩:=h2
       rw [hh1] at q1;cases q1
       exact .inr ⟨rfl,q2⟩
  ·rintro σ ⟨rd,hp,hL,hl1,hl2,hc1,hc2⟩
   refine ⟨rng_items _,rfl,rd,hp,hL,?_,fun p m g => ?_,fun p g => ?_⟩
   ·rw [List.length_range] at hl1;have:=W.small;exact zh81 hl1 this
   ·rw [hc1,List.mem_range]
    exact ⟨fun h=>h.2,fun h=>⟨let ⟨l,q,_⟩:=h;(List.getElem?_eq_some_iff.mp q).1,h⟩⟩
   ·rw [hc2,List.mem_range]
    exact ⟨fun h=>h.2,fun h=>⟨let ⟨l,q,_⟩:=h;by rw [←W.len];exact (List.getElem?_eq_some_iff.mp q).1,h⟩⟩
 rintro σ ⟨rd,hp,⟨g0,g1,g2,g3,g4,g5,g6⟩,hrl,hc1,hc2⟩
 have lva:=(g6 _ _ hN1).2.2
 have lvd:=(g6 _ _ hN2).2.2
 have kys:∀ {ns:List Int},ns.Perm ((dN N.tags).map (·.1))→ns.Pairwise (·≤·)→ns=(setL N.n fun s=>∃ t,(s,t)∈N.tags).map fun (k:Nat)=>(k:Int):=fun {ns} hp hs=>by
  rw [dN_keys] at hp
  refine sorted_eq hp hs W.tnd fun k => ?_
  simp only [List.mem_map,Prod.exists,exists_and_right,exists_eq_right]
  exact ⟨fun h=>⟨let ⟨t,q⟩:=h;(W.tg _ q).1,h⟩,fun h=>h.2⟩
 refine B_consG hΓ ?_
 refine E_compM hΓ ?_
 refine ⟨_,g0,a,92,nfFs N d0,.ref d0,rfl,lva,ok_tags,nf_tags N d0,dN N.tags,?_,?_,fun ns hpm hsr => ?_⟩
 ·show (match σ.lv d0 with | some (.dict l)=>some l | _=>none)=_
  rw [lvd]
 ·simp only [List.length_map];have:=tags_len W;have:=W.small;exact zk4 ‹(_:Nat)≤_› this rfl
 have hns:=kys hpm hsr
 let ks:=setL N.n fun s=>∃ t,(s,t)∈N.tags
 have hvn:ns.map V.int=vN ks:=by rw [hns];simp [vN,List.map_map,Function.comp_def,ks]
 have hkl:ks.length≤8:=Nat.le_trans setL_len W.small
 rw [hvn]
 let J4:List Nat→List V→MS→Prop:=fun d' acc τ=>∃ mk,A5 (acc=vP mk) (mk.length=d'.length) ((∀ s t,(s,t)∈mk↔s∈d'∧(s,t)∈N.tags)) (τ.loc 2=some (.ref a)) (τ.lv=σ.lv)
 refine ⟨_,ks,rfl,trivial,by simp only [vN,List.length_map,lim_eq];exact zk0 hkl rfl,J4,?_,?_,?_⟩
 ·exact ⟨[],rfl,rfl,fun s t=>by simp,g0,rfl⟩
 ·rintro d' s r' acc τ hdr ⟨mk,rfl,hml,hmk,k2,klv⟩
  have hs:s∈ks:=by rw [←hdr];simp
  obtain ⟨t,ht⟩:=(mem_setL.mp hs).2
  refine ⟨rfl,_,rfl,?_⟩
  refine ⟨fun _=>⟨.int s,rfl,_,k2,a,92,nfFs N d0,.ref d0,rfl,by rw [klv];exact lva,ok_tags,nf_tags N d0,.int s,rfl,s,rfl,.inr ⟨dN N.tags,.int t,?_,dN_get W.tnd ht,by simp [lim_eq],mk++[(s,t)],by simp,by simp [hml],fun s' t' => ?_,k2,klv⟩⟩,fun h=>by cases h⟩
  ·show (match τ.lv d0 with | some (.dict l)=>some l | _=>none)=_
   rw [klv,lvd]
  ·simp only [List.mem_append,List.mem_singleton,hmk,Prod.mk.injEq]
   constructor
   ·rintro (⟨h1,h2⟩ | ⟨rfl,rfl⟩)
    ·exact ⟨.inl h1,h2⟩
    ·exact ⟨.inr rfl,ht⟩
   ·rintro ⟨h1 | rfl,h2⟩
    ·exact .inl ⟨h1,h2⟩
    ·right
     have q1:=dN_get W.tnd ht
     have q2:=dN_get W.tnd h2
     replace q2:=q1.symm.trans q2
     simp at q2
     exact ⟨rfl,by exact Int.ofNat_inj.mp (id (Eq.symm q2))⟩
 ·rintro acc τ ⟨mk,rfl,hml,hmk,k2,klv⟩
  refine ⟨rfl,?_⟩
  show ∃ σ2,Gh ⟨setV σ.loc 7 (.lst (vP mk)),τ.lv⟩ σ2∧_
  rw [klv]
  have G1:Gh ⟨setV σ.loc 7 (.lst (vP mk)),σ.lv⟩ _:=Gh.lst (i:=2) (a:=f) (l:=vR rd) (by simp [setV,g2]) g4
  have G2:=Gh.lst (σ:=⟨setV (setV σ.loc 7 (.lst (vP mk))) 2 (.lst (vR rd)),updL σ.lv f none⟩) (i:=3) (a:=k) (l:=vP hp) (by simp [setV,g3]) (by show updL σ.lv f none k=_;rw [updL_ne _ _ kf];exact g5)
  refine ⟨_,G1.trans G2,B_cons hΓ ?_⟩
  refine ⟨.int N.n,?_,.lst (vP hp),rfl,?_⟩
  ·simp [setV,g1]
  refine use h2 ?_
  refine ⟨N.n,.lst (vP hp),hp,rfl,W.small,.inr rfl,fun p h => ?_,.lst (vR rd),?_,.lst (vP mk),?_,by simp [lim_eq],_,⟨fun _=>none,lv⟩,GhV.here fun b x e => ?_,?_⟩
  ·obtain ⟨l,q1,q2⟩:=(hc2 p.1 p.2).mp h
   exact ⟨by rw [←W.len];exact (List.getElem?_eq_some_iff.mp q1).1,W.hp l (List.mem_of_getElem? q1) _ q2⟩
  ·simp [setV]
  ·simp [setV]
  ·obtain ⟨b1,b2,b3⟩:=g6 b x e
   show updL (updL σ.lv f none) k none b=_
   exact (updL_ne _ _ b2).trans ((updL_ne _ _ b1).trans b3)
  ·have e2:tabL N.n (Rc (pR hp))=tabL N.n (Rc (hopR N)):=tabL_congr fun i j _ _=>⟨Rc.mono fun s g h=>(hc2 s g).mp h,Rc.mono fun s g h=>(hc2 s g).mpr h⟩
   rw [vTab,e2]
   exact hQ rd mk ⟨hc1,hrl,fun s t=>by rw [hmk];exact ⟨fun h=>h.2,fun h=>⟨mem_setL.mpr ⟨(W.tg _ h).1,t,h⟩,h⟩⟩,by rw [hml];exact hkl⟩
end Mine
namespace Mine
variable {Γ:Value→PC}
theorem B_midG {I:Info} {s:MSt} {r:MSts} {σ:MS} {Q:Fl→MS→Prop} (hΓ:∀ f,MonoC (Γ f)) (R:MS→Prop) (h:denS I Γ s σ fun fl σ1=>fl= .next∧R σ1) (k:∀ σ1,R σ1→∃ σ2,Gh σ1 σ2∧denB I Γ r σ2 Q):denB I Γ (.cons s r) σ Q :=
 B_consG hΓ (S_mid hΓ R h k)
noncomputable def wayOk (N:Nf):Prop:=∀ p,p<N.n→p≠N.first→Rc (lkR N) N.first p∧∃ m t,(m,t)∈N.tags∧Rc (lkR N) p m
noncomputable def C_way:PC:=fun l lv Q=>E2 fun a N=>A5 (l=[.ref a]) (NfaAt lv a N) N.Wf (wayOk N) (Q (.bool true) lv)
theorem mvA_lt {N:Nf} (W:N.Wf) {s m g:Nat} (h:mvA N s m g):s<N.n∧g<N.n:=let ⟨l,q1,q2⟩:=h;⟨(List.getElem?_eq_some_iff.mp q1).1,(W.mv l (List.mem_of_getElem? q1) _ q2).2.2⟩
theorem hopR_lt {N:Nf} (W:N.Wf) {s g:Nat} (h:hopR N s g):s<N.n∧g<N.n:=let ⟨l,q1,q2⟩:=h;⟨by rw [←W.len];exact (List.getElem?_eq_some_iff.mp q1).1,W.hp l (List.mem_of_getElem? q1) _ q2⟩
open Classical in
theorem t_way (hΓ:∀ f,MonoC (Γ f)) (h1:Γ (.ref 317)=C_of) (h2:Γ (.ref 297)=C_reach):Sat I0 Γ m__law_on_the_way 1 C_way:=by
 rintro l lv Q ⟨a,N,rfl,hN,W,hok,hQ⟩
 obtain ⟨d0,hN1,hN2⟩:=id hN
 have w8:N.n≤8:=W.small
 have tl:∀ T,((tabL N.n T).map V.lst).length≤lim:=fun T=>by simp only [List.length_map,List.length_range,lim_eq];exact zk0 w8 rfl
 have tlen:∀ T,(((tabL N.n T).map V.lst).length:Int)=N.n:=fun T=>by simp only [List.length_map,List.length_range]
 refine ⟨rfl,B_cons hΓ ?_⟩
 refine ⟨.ref a,rfl,?_⟩
 refine use h1 ?_
 refine ⟨a,N,rfl,hN,W,fun roads marks O=>⟨_,rfl,?_⟩⟩
 let RT:=Rc (hopR N)
 let Fix:MS→Prop:=fun σ=>A3 (σ.loc 0=some (.ref a)) (σ.loc 1=some (vTab N.n RT)) (σ.loc 3=some (.lst (vP marks)))
 let ln0:=roads.map fun p=>(p.1,p.2.2)
 let MR1:MS→Prop:=fun σ=>∃ f,A4 (lv f=none) (Fix σ) (σ.loc 5=some (.ref f)) (σ.lv=updL lv f (some (.list (vP ln0))))
 refine B_mid hΓ MR1 ?_ ?_
 ·refine E_compM hΓ (E_loc (v:= .lst (vR roads)) rfl ?_)
  let J2:List (Nat×Nat×Nat)→List V→MS→Prop:=fun d' acc σ=>(acc=vP (d'.map fun p=>(p.1,p.2.2)))∧(σ.lv=lv)
  refine ⟨_,roads,rfl,trivial,by have:=O.rl;simp only [vR,List.length_map,lim_eq];exact zk0 this rfl,J2,?_,?_,?_⟩
  ·exact ⟨rfl,rfl⟩
  ·rintro d' q r' acc σ hdr ⟨rfl,hlv⟩
   obtain ⟨p,m,g⟩:=q
   refine ⟨rfl,_,rfl,?_⟩
   exact ⟨fun _=>⟨.int p,rfl,.int g,rfl,by simp [lim_eq],by simp,hlv⟩,fun h=>by cases h⟩
  ·rintro acc σ ⟨rfl,hlv⟩
   refine ⟨rfl,fun f hf=>⟨rfl,f,by rw [←hlv];exact hf,⟨rfl,rfl,rfl⟩,rfl,?_⟩⟩
   show updL σ.lv f _=_
   rw [hlv]
 rintro σ ⟨f,hf,hF,g5,hlv⟩
 let MR3:MS→Prop:=fun σ=>∃ ln,A5 (Fix σ) (σ.loc 5=some (.ref f)) (σ.lv=updL lv f (some (.list (vP ln)))) ((∀ q∈ln,q.1<N.n∧q.2<N.n)) (∀ s g,lkR N s g→(s,g)∈ln)
 refine B_midG hΓ MR3 (S_forM hΓ ?_) ?_
 ·refine ⟨_,hF.2,(tabL N.n RT).map V.lst,rfl,tl _,?_⟩
  rw [tlen]
  let J4:List Nat→MS→Prop:=fun d' σ=>∃ ln,A7 (Fix σ) (σ.loc 5=some (.ref f)) (σ.lv=updL lv f (some (.list (vP ln)))) (ln.length≤8000+8*d'.length) ((∀ q∈ln,q.1<N.n∧q.2<N.n)) ((∀ s g m,mvA N s m g→(s,g)∈ln)) (∀ s g,s∈d'→g<N.n→RT s g→(s,g)∈ln)
  refine ⟨_,List.range N.n,rng_items _,rng_ok (by exact zk0 w8 rfl),J4,?_,?_,?_⟩
  ·refine ⟨ln0,hF,g5,hlv,by simpa [ln0] using O.rl,fun q hq => ?_,fun s g m h => ?_,fun s g h=>by cases h⟩
   ·obtain ⟨p,h3,rfl⟩:=List.mem_map.mp hq
    exact mvA_lt W ((O.rd p.1 p.2.1 p.2.2).mp h3)
   ·exact List.mem_map.mpr ⟨(s,m,g),(O.rd s m g).mpr h,rfl⟩
  ·rintro d' s r' σ hdr ⟨ln,hF,g5,hlv,hll,hc1,hc2,hc3⟩
   obtain ⟨hsd,hs,_⟩:=range_split hdr
   refine ⟨rng_items _,_,rfl,B_cons hΓ ?_⟩
   have lvf:σ.lv f=some (.list (vP ln)):=by rw [hlv,updL_self]
   refine ⟨_,g5,⟨f,_,rfl,lvf⟩,?_⟩
   refine E_compM hΓ ?_
   refine ⟨_,hF.2,(tabL N.n RT).map V.lst,rfl,tl _,?_⟩
   rw [tlen]
   let pick:Nat→Bool:=fun g=>decide (RT s g)
   let J5:List Nat→List V→MS→Prop:=fun d2 acc τ=>A4 (acc=vP ((d2.filter pick).map fun g=>(s,g))) (τ.loc 2=some (.int s)) (τ.loc 3=some (vTab N.n RT)) (τ.lv=σ.lv)
   refine ⟨_,List.range N.n,g_rng _,rng_ok (by exact zk0 w8 rfl),by simp only [vN,List.length_map,List.length_range,lim_eq];exact zk0 w8 rfl,J5,?_,?_,?_⟩
   ·exact ⟨rfl,rfl,hF.2,rfl⟩
   ·rintro d2 g r2 acc τ hdr2 ⟨rfl,k2,k3,klv⟩
    obtain ⟨_,hg,_⟩:=range_split hdr2
    refine ⟨g_rng _,_,rfl,?_⟩
    refine ⟨_,k3,_,k2,s,rfl,.inl ⟨_,.lst (bools N.n (RT s)),rfl,tl _,at_nat (by rw [List.getElem?_map,tabL_get hs];rfl),.int g,rfl,g,rfl,.inl ⟨_,_,rfl,by rw [bools_len,lim_eq];exact zk0 w8 rfl,at_nat (bools_get hg),fun h=>⟨_,k2,.int g,rfl,by simp [lim_eq],?_,k2,k3,klv⟩,fun h=>⟨?_,k2,k3,klv⟩⟩⟩⟩
    ·rw [List.filter_append,List.filter_cons,if_pos h];simp
    ·rw [List.filter_append,List.filter_cons,if_neg (by show ¬ decide (RT s g)=true;rw [h];decide)];simp
   ·rintro acc τ ⟨rfl,k2,k3,klv⟩
    have hl2:(((List.range N.n).filter pick).map fun g=>(s,g)).length≤8:=by
     rw [List.length_map]
     have:=List.length_filter_le pick (List.range N.n)
     simp at this;exact Nat.le_trans this w8
    refine ⟨g_rng _,f,vP ln,rfl,by show τ.lv f=_;rw [klv];exact lvf,vP (((List.range N.n).filter pick).map fun g=>(s,g)),rfl,?_,rfl,?_⟩
    ·have h3:d'.length<8:=by exact zq18 hs hsd w8
     simp only [vP,List.length_map,lim_eq] at hl2 ⊢;exact zh82 h3 hll hl2
    ·refine ⟨ln++((List.range N.n).filter pick).map fun g=>(s,g),hF,g5,?_,by simp only [List.length_append,List.length_singleton] at hl2 ⊢;exact zh83 hll hl2,fun q hq => ?_,fun s' g m h=>List.mem_append_left _ (hc2 s' g m h),fun s' g h3 h4 h5 => ?_⟩
     ·show updL τ.lv f _=_
      rw [klv,hlv]
      funext b;by_cases q:b=f
      ·subst q;rw [updL_self,updL_self];simp [vP]
      ·rw [updL_ne _ _ q,updL_ne _ _ q,updL_ne _ _ q]
     ·rcases List.mem_append.mp hq with h | h
      ·exact hc1 q h
      ·obtain ⟨g,h3,rfl⟩:=List.mem_map.mp h
       have h4:=(List.mem_filter.mp h3).1
       exact ⟨hs,List.mem_range.mp h4⟩
     ·rcases List.mem_append.mp h3 with h | h
      ·exact List.mem_append_left _ (hc3 s' g h h4 h5)
      ·have:=List.mem_singleton.mp h
       subst this
       exact List.mem_append_right _ (List.mem_map.mpr ⟨g,List.mem_filter.mpr ⟨List.mem_range.mpr h4,decide_eq_true h5⟩,rfl⟩)
  ·rintro σ ⟨ln,hF,g5,hlv,hll,hc1,hc2,hc3⟩
   refine ⟨rng_items _,rfl,ln,hF,g5,hlv,hc1,fun s g h => ?_⟩
   rcases h with ⟨m,h⟩ | h
   ·exact hc2 s g m h
   ·have:=hopR_lt W h
    exact hc3 s g (List.mem_range.mpr this.1) this.2 (.tail .refl h)
 rintro σ ⟨ln,hF,g5,hlv,hc1,hc2⟩
 have lvf:σ.lv f=some (.list (vP ln)):=by rw [hlv,updL_self]
 let RW:=Rc (pR ln)
 refine ⟨_,Gh.lst (i:=5) g5 lvf,?_⟩
 have klv:∀ {x:LM},x=updL σ.lv f none→∀ b y,lv b=some y→x b=some y:=fun e b y h=>by
  have hb:=ne_of h hf
  rw [e,updL_ne _ _ hb,hlv,updL_ne _ _ hb];exact h
 let L2:MS→Prop:=fun τ=>A5 (τ.loc 0=some (.ref a)) (τ.loc 1=some (vTab N.n RT)) (τ.loc 3=some (.lst (vP marks))) (τ.loc 6=some (vTab N.n RW)) (τ.lv=updL σ.lv f none)
 refine B_mid hΓ L2 ?_ ?_
 ·refine ⟨vTab N.n RT,by simp [setV];exact hF.2,_,rfl,tl _,.lst (vP ln),by simp [setV],?_⟩
  rw [tlen]
  refine use h2 ?_
  exact ⟨N.n,.lst (vP ln),ln,rfl,w8,.inr rfl,hc1,rfl,by simp [setV];exact hF.1,by simp [setV];exact hF.2,by simp [setV];exact hF.3,by simp [setV];exact fun _ _=>rfl,rfl⟩
 rintro τ hL
 have hfirst:=W.fst
 have bl:∀ S,(bools N.n S).length≤lim:=fun S=>by rw [bools_len,lim_eq];exact zk0 w8 rfl
 refine B_mid hΓ L2 (S_forM hΓ ?_) ?_
 ·refine ⟨_,hL.2,(tabL N.n RT).map V.lst,rfl,tl _,?_⟩
  rw [tlen]
  refine ⟨_,List.range N.n,rng_items _,rng_ok (by exact zk0 w8 rfl),fun _ σ=>L2 σ,hL,?_,fun υ hL=>⟨rng_items _,rfl,hL⟩⟩
  ·rintro d' p r' υ hdr ⟨k0,k1,k3,k6,klv'⟩
   obtain ⟨_,hp,_⟩:=range_split hdr
   have lva:υ.lv a=some (nfObj N d0):=klv klv' _ _ hN1
   refine ⟨rng_items _,_,rfl,B_cons hΓ ?_⟩
   have L2':L2 ⟨setV υ.loc 4 (.int p),υ.lv⟩:=⟨k0,k1,k3,k6,klv'⟩
   refine ⟨.int p,rfl,_,k0,a,92,nfFs N d0,.int N.first,rfl,lva,ok_first,nf_first N d0,trivial,trivial,fun ht => ?_,fun ht=>⟨fun h=>(by cases h),fun _=>L2'⟩⟩
   have hpf:p≠N.first:=fun e=>by subst e;simp at ht
   obtain ⟨way1,mk,t,hmk,way2⟩:=hok p hp hpf
   have lkW:∀ {i j},Rc (lkR N) i j→RW i j:=fun h=>Rc.mono hc2 h
   refine ⟨_,k6,_,k0,a,92,nfFs N d0,.int N.first,rfl,lva,ok_first,nf_first N d0,N.first,rfl,.inl ⟨_,.lst (bools N.n (RW N.first)),rfl,tl _,at_nat (by rw [List.getElem?_map,tabL_get hfirst];rfl),.int p,rfl,p,rfl,.inl ⟨_,_,rfl,bl _,at_nat (bools_get hp),fun h => ?_,fun h => ?_⟩⟩⟩
   ·refine E_compM hΓ (E_loc k3 ?_)
    let J7:List (Nat×Nat)→List V→MS→Prop:=fun d2 acc φ=>A4 (acc=(d2.map fun q=>decide (RW p q.1)).map V.bool) (φ.loc 3=some (.int p)) (φ.loc 4=some (vTab N.n RW)) (φ.lv=υ.lv)
    refine ⟨_,marks,rfl,trivial,by have:=O.ml;simp only [vP,List.length_map,lim_eq];exact zk0 this rfl,J7,?_,?_,?_⟩
    ·exact ⟨rfl,rfl,k6,rfl⟩
    ·rintro d2 q r2 acc φ hdr2 ⟨rfl,j3,j4,jlv⟩
     obtain ⟨m,u⟩:=q
     have hm:m<N.n:=(W.tg (m,u) ((O.mks m u).mp (by rw [←hdr2];simp))).1
     refine ⟨rfl,_,rfl,?_⟩
     exact ⟨fun _=>⟨_,j4,_,j3,p,rfl,.inl ⟨_,.lst (bools N.n (RW p)),rfl,tl _,at_nat (by rw [List.getElem?_map,tabL_get hp];rfl),.int m,rfl,m,rfl,.inl ⟨_,_,rfl,bl _,at_nat (bools_get hm),by simp,j3,j4,jlv⟩⟩⟩,fun h=>by cases h⟩
    ·rintro acc φ ⟨rfl,j3,j4,jlv⟩
     refine ⟨rfl,marks.map (fun q=>decide (RW p q.1)),rfl,by have:=O.ml;simp only [List.length_map,lim_eq];exact zk0 this rfl,?_⟩
     rw [any_dec]
     refine ⟨fun h => ?_,fun h=>⟨k0,k1,k3,k6,by show φ.lv=_;rw [jlv];exact klv'⟩⟩
     have:(∃ q∈marks,RW p q.1):=⟨(mk,t),(O.mks mk t).mpr hmk,lkW way2⟩
     rw [decide_eq_true this] at h;cases h
   ·have h:=of_decide_eq_false h
    exact absurd (lkW way1) h
 ·rintro υ ⟨k0,k1,k3,k6,klv'⟩
  refine B_cons hΓ ?_
  exact ⟨_,⟨fun _=>none,lv⟩,GhV.here (klv klv'),hQ⟩
end Mine
namespace Mine
variable {Γ:Value→PC}
theorem bitOr_nat (a b:Nat):Builtin.bitOr (a:Int) (b:Int)=((a ||| b:Nat):Int):=by
 have e1:∀ a:Nat,Builtin.bitNot (a:Int) = -(a:Int) - 1:=fun a=>by unfold Builtin.bitNot;exact Int.neg_inj.mp rfl
 have e2:∀ x:Int,Builtin.bitNot (Builtin.bitNot x)=x:=fun x=>by unfold Builtin.bitNot;exact zq19
 unfold Builtin.bitOr Builtin.bitAnd
 have h1:decide ((0:Int)≤Builtin.bitNot (a:Int))=false:=by rw [e1];exact decide_eq_false (by exact zq20)
 have h2:decide ((0:Int)≤Builtin.bitNot (b:Int))=false:=by rw [e1];exact decide_eq_false (by exact zq20)
 rw [h1,h2]
 dsimp only
 rw [e2,e2,e2];simp
theorem bitP_iff {m k:Nat}:bitP m k↔m.testBit k=true:=by
 unfold bitP
 rw [show ((2:Int) ^ k)=((2 ^ k:Nat):Int) by norm_cast,fdiv_nat,bitAnd_m1,Nat.testBit_eq_decide_div_mod_eq,decide_eq_true_eq]
 exact zh86
open Classical in
noncomputable def maskS:Nat→(Nat→Prop)→Nat
 | 0,_=>0
 | n+1,S=>maskS n S ||| (if S n then 2 ^ n else 0)
theorem maskS_bit {n:Nat} {S:Nat→Prop} {i:Nat}:(maskS n S).testBit i=true↔i<n∧S i:=by
 induction n with
 | zero=>simp [maskS]
 | succ n ih =>
  unfold maskS
  rw [Nat.testBit_or,Bool.or_eq_true,ih]
  split
  ·rename_i h
   rw [Nat.testBit_two_pow,decide_eq_true_eq]
   constructor
   ·rintro (⟨h1,h2⟩ | rfl)
    ·exact ⟨by exact zh87 h1,h2⟩
    ·exact ⟨by exact zq21,h⟩
   ·rintro ⟨h1,h2⟩
    by_cases q:n=i
    ·exact .inr q
    ·exact .inl ⟨by exact zq22 h1 q,h2⟩
  ·rename_i h
   rw [Nat.zero_testBit]
   constructor
   ·rintro (⟨h1,h2⟩ | q)
    ·exact ⟨by exact zh87 h1,h2⟩
    ·cases q
   ·rintro ⟨h1,h2⟩
    refine .inl ⟨?_,h2⟩
    have:i≠n:=fun e=>h (e▸h2)
    exact zh90 h1 this
theorem bit_ext {a b:Nat} (h:∀ i,a.testBit i=true↔b.testBit i=true):a=b:=Nat.eq_of_testBit_eq fun i=>Bool.eq_iff_iff.mpr (h i)
theorem maskS_lt {n:Nat} {S:Nat→Prop}:maskS n S<2 ^ n:=Nat.lt_pow_two_of_testBit _ fun i hi=>by
 cases q:(maskS n S).testBit i with
 | false=>rfl
 | true=>have:=(maskS_bit.mp q).1;omega
theorem maskS_congr {n:Nat} {S T:Nat→Prop} (h:∀ i,i<n→(S i↔T i)):maskS n S=maskS n T:=bit_ext fun i=>by
 rw [maskS_bit,maskS_bit];exact and_congr_right fun hi=>h i hi
theorem maskS_inj {n:Nat} {S T:Nat→Prop} (h:maskS n S=maskS n T) (i:Nat) (hi:i<n):S i↔T i:=by
 have h1:=maskS_bit (n:=n) (S:=S) (i:=i)
 rw [h,maskS_bit] at h1
 simpa [hi] using h1.symm
theorem maskS_zero {n:Nat} {S:Nat→Prop}:maskS n S=0↔∀ i,i<n→¬ S i:=by
 constructor
 ·intro h i hi hs
  have:=maskS_bit.mpr ⟨hi,hs⟩
  rw [h,Nat.zero_testBit] at this;cases this
 ·intro h
  refine bit_ext fun i => ?_
  rw [maskS_bit,Nat.zero_testBit]
  exact ⟨fun ⟨h1,h2⟩=>absurd h2 (h i h1),fun q=>by cases q⟩
theorem bitL_mask {n:Nat} {S:Nat→Prop} (h:n≤8):bitL (maskS n S)=setL n S:=by
 classical
 unfold bitL setL
 rw [filter_range_le (n:=8) h fun j hj => ?_]
 ·refine List.filter_congr fun i hi => ?_
  have hi:=List.mem_range.mp hi
  exact Bool.eq_iff_iff.mpr (by rw [maskS_bit,decide_eq_true_eq];simp [hi])
 ·cases q:(maskS n S).testBit j with
  | false=>rfl
  | true=>have:=(maskS_bit.mp q).1;omega
noncomputable def wgt (N:Nf) (g:Nat):Prop:=(∃ m h,mvA N g m h)∨∃ t,(g,t)∈N.tags
noncomputable def cmask (N:Nf) (s:Nat):Nat:=maskS N.n fun g=>clo N (·∈[s]) g∧wgt N g
abbrev subFs (a d:Addr):List (Str×V):=[("nfa",.ref a),("kept",.ref d)]
theorem sub_nfa (a d:Addr):(subFs a d).lookup ("nfa":Str)=some (.ref a):=rfl
theorem sub_kept (a d:Addr):(subFs a d).lookup ("kept":Str)=some (.ref d):=rfl
noncomputable abbrev keptD (N:Nf) (ks:List Nat):List (Int×V):=ks.map fun (k:Nat)=>((k:Int),V.int (cmask N k))
structure SubAt (lv:LM) (o d a:Addr) (N:Nf):Prop where
 obj:lv o=some (.inst 222 (subFs a d))
 kept:∃ ks:List Nat,ks.Nodup∧(∀ k∈ks,k<N.n)∧lv d=some (.dict (keptD N ks))
 nfa:∃ d0,d0≠d∧lv a=some (nfObj N d0)∧lv d0=some (.dict (dN N.tags))
theorem SubAt.at_ {lv:LM} {o d a:Addr} {N:Nf} (X:SubAt lv o d a N):NfaAt lv a N:=let ⟨d0,_,h⟩:=X.nfa;⟨d0,h⟩
theorem SubAt.od {lv:LM} {o d a:Addr} {N:Nf} (X:SubAt lv o d a N):o≠d:=fun e=>by
 obtain ⟨ks,_,_,h⟩:=X.kept
 have:=X.obj
 rw [e,h] at this;cases this
theorem SubAt.ad {lv:LM} {o d a:Addr} {N:Nf} (X:SubAt lv o d a N):a≠d:=fun e=>by
 obtain ⟨ks,_,_,h⟩:=X.kept
 obtain ⟨d0,_,h2,_⟩:=X.nfa
 rw [e,h] at h2;cases h2
theorem SubAt.mono {lv lv':LM} {o d a:Addr} {N:Nf} (E:Ext lv lv') (X:SubAt lv o d a N):SubAt lv' o d a N where
 obj:=E _ _ X.obj
 kept:=let ⟨ks,h1,h2,h3⟩:=X.kept;⟨ks,h1,h2,E _ _ h3⟩
 nfa:=let ⟨d0,h1,h2,h3⟩:=X.nfa;⟨d0,h1,E _ _ h2,E _ _ h3⟩
noncomputable def KeepBut (lv:LM) (d:Addr) (lv':LM):Prop:=∀ b x,b≠d→lv b=some x→lv' b=some x
theorem Ext.but {lv lv':LM} (E:Ext lv lv') (d:Addr):KeepBut lv d lv':=fun b x _ e=>E b x e
open Classical in
theorem keptD_get {N:Nf} {ks:List Nat} {s:Nat} (h:s∈ks):dget (keptD N ks) s=some (.int (cmask N s)):=by
 unfold dget
 induction ks with
 | nil=>cases h
 | cons k r ih =>
  by_cases q:k=s
  ·subst q;simp
  ·have h2:¬ ((k:Nat):Int)=s:=by exact zq23 q
   simp only [List.map_cons,List.find?_cons,h2,decide_false]
   exact ih ((List.mem_cons.mp h).resolve_left fun e=>q e.symm)
theorem keptD_keys (N:Nf) (ks:List Nat):(keptD N ks).map (·.1)=ks.map fun (k:Nat)=>(k:Int):=by simp [keptD]
theorem keptD_new {N:Nf} {ks:List Nat} {s:Nat} (h:s∉ks):dset (keptD N ks) s (.int (cmask N s))=keptD N (ks++[s]):=by
 unfold dset
 rw [if_neg]
 ·simp [keptD]
 ·simp only [List.any_eq_true,not_exists]
  rintro p ⟨h1,h2⟩
  obtain ⟨k,h3,rfl⟩:=List.mem_map.mp h1
  simp only [decide_eq_true_eq] at h2
  have:k=s:=by exact Int.ofNat_inj.mp h2
  exact h (this▸h3)
theorem dict_of {σ:MS} {d:Addr} {l:List (Int×V)} (h:σ.lv d=some (.dict l)):dictOf? σ (.ref d)=some l:=by
 show (match σ.lv d with | some (.dict l)=>some l | _=>none)=_
 rw [h]
theorem list_of {σ:MS} {d:Addr} {l:List V} (h:σ.lv d=some (.list l)):listOf σ (.ref d)=some l:=by
 show (match σ.lv d with | some (.list l)=>some l | _=>none)=_
 rw [h]
noncomputable def C_closure_of:PC:=fun l lv Q=>E4 fun o d a N=>∃ (s:Nat),A5 (l=[.ref o,.int s]) (SubAt lv o d a N) N.Wf (s<N.n) (∀ lv',SubAt lv' o d a N→KeepBut lv d lv'→Q (.int (cmask N s)) lv')
open Classical in
theorem t_closure_of (hΓ:∀ f,MonoC (Γ f)) (h1:Γ (.ref 101)=C_closure):Sat I0 Γ m_Subsets_closure_of 2 C_closure_of:=by
 rintro l lv Q ⟨o,d,a,N,s,rfl,X,W,hs,hQ⟩
 obtain ⟨ks,hk1,hk2,hkd⟩:=X.kept
 obtain ⟨d0,hd0,hN1,hN2⟩:=X.nfa
 have w8:N.n≤8:=W.small
 have hkl:ks.length≤8:=Nat.le_trans (len_le_n hk1 hk2) w8
 let MR1:MS→Prop:=fun σ=>A3 (σ.loc 0=some (.ref o)) (σ.loc 1=some (.int s)) (∃ ks,A4 ks.Nodup ((∀ k∈ks,k<N.n)) (s∈ks) (σ.lv=updL lv d (some (.dict (keptD N ks)))))
 refine ⟨rfl,B_mid hΓ MR1 ?_ ?_⟩
 ·refine ⟨.int s,rfl,.ref o,rfl,o,222,subFs a d,.ref d,rfl,X.obj,ok_kept,sub_kept a d,.inr ⟨s,keptD N ks,rfl,dict_of hkd,fun hb => ?_,fun hb => ?_⟩⟩
  ·have hns:s∉ks:=fun q=>by rw [keptD_keys] at hb;simp [mem_castL,q] at hb
   refine B_cons hΓ ?_
   refine B_cons hΓ (S_forM hΓ ?_)
   refine ⟨.ref o,rfl,o,222,subFs a d,.ref a,rfl,X.obj,ok_nfa,sub_nfa a d,.int s,rfl,by simp [lim_eq],?_⟩
   refine use h1 ?_
   let C:=clo N (·∈[s])
   let J2:List Nat→MS→Prop:=fun d' σ=>∃ (c:Nat),A5 (σ.loc 0=some (.ref o)) (σ.loc 1=some (.int s)) (σ.loc 2=some (.int c)) (σ.lv=lv) (∀ i,c.testBit i=true↔i∈d'∧wgt N i)
   refine ⟨a,_,N,[s],rfl,X.at_,W,.inr rfl,by simpa using hs,by simp [lim_eq],_,setL N.n C,rfl,trivial,J2,?_,?_,?_⟩
   ·exact ⟨0,rfl,rfl,rfl,rfl,fun i=>by simp⟩
   ·rintro d' g r' σ hdr ⟨c,g0,g1,g2,hlv,hc⟩
    have hg:g<N.n:=(mem_setL.mp (by rw [←hdr];simp:g∈setL N.n C)).1
    obtain ⟨ml,hm1,hm2⟩:=nf_mv hg
    have lo:σ.lv o=some (.inst 222 (subFs a d)):=by rw [hlv];exact X.obj
    have la:σ.lv a=some (nfObj N d0):=by rw [hlv];exact hN1
    have ld:σ.lv d0=some (.dict (dN N.tags)):=by rw [hlv];exact hN2
    refine ⟨rfl,_,rfl,B_cons hΓ ?_⟩
    have lift:∀ {Q':Fl→MS→Prop},(∀ σ2,J2 (d'++[g]) σ2→Q' .next σ2)→wgt N g→denB I0 Γ (.cons (.augOr 2 (.bin false .shl (.int 1) (.loc 3))) .nil) ⟨setV σ.loc 3 (.int g),σ.lv⟩ Q':=fun {Q'} k hw=>by
     refine B_cons hΓ ?_
     refine ⟨c,g2,.int g,rfl,⟨by exact zq15,by exact zh92 hg w8,by decide⟩,((2 ^ g:Nat):Int),?_,k _ ⟨c ||| 2 ^ g,g0,g1,?_,hlv,fun i => ?_⟩⟩
     ·show V.int ((1:Int)*2 ^ ((g:Int)).toNat)=_
      rw [Int.toNat_natCast,Int.one_mul];norm_cast
     ·show some (V.int (Builtin.bitOr (c:Int) ((2 ^ g:Nat):Int)))=_
      rw [bitOr_nat]
     ·rw [Nat.testBit_or,Bool.or_eq_true,hc,Nat.testBit_two_pow,decide_eq_true_eq,List.mem_append,List.mem_singleton]
      constructor
      ·rintro (⟨h1,h2⟩ | rfl)
       ·exact ⟨.inl h1,h2⟩
       ·exact ⟨.inr rfl,hw⟩
      ·rintro ⟨h1 | rfl,h2⟩
       ·exact .inl ⟨h1,h2⟩
       ·exact .inr rfl
    refine ⟨.ref o,g0,o,222,subFs a d,.ref a,rfl,lo,ok_nfa,sub_nfa a d,a,92,nfFs N d0,vMoves N.moves,rfl,la,ok_moves,nf_moves N d0,.int g,rfl,g,rfl,.inl ⟨_,.lst (vMv ml),rfl,?_,at_nat (by rw [List.getElem?_map,hm1];rfl),vMv ml,rfl,?_,fun ht => ?_,fun ht => ?_⟩⟩
    ·simp only [List.length_map,lim_eq];have:N.moves.length≤8:=w8;exact zk0 this rfl
    ·simp only [List.length_map,lim_eq];have:=W.mlen ml hm2;exact zk0 this rfl
    ·refine ⟨fun _=>lift (fun σ2 h=>h) (.inl ?_),fun h=>by cases h⟩
     cases ml with
     | nil=>cases ht
     | cons p r=>exact ⟨p.1,p.2,_,hm1,by simp⟩
    ·have hm0:ml=[]:=by cases ml with
      | nil=>rfl
      | cons=>cases ht
     refine ⟨.int g,rfl,.ref o,g0,o,222,subFs a d,.ref a,rfl,lo,ok_nfa,sub_nfa a d,a,92,nfFs N d0,.ref d0,rfl,la,ok_tags,nf_tags N d0,.inr ⟨g,dN N.tags,rfl,dict_of ld,fun hb => ?_,fun hb => ?_⟩⟩
     ·exact lift (fun σ2 h=>h) (.inr (dN_mem.mp (of_decide_eq_true hb)))
     ·have hnw:¬ wgt N g:=by
       rintro (⟨m,h,l,q1,q2⟩ | q)
       ·rw [hm1,hm0] at q1;cases q1;cases q2
       ·exact of_decide_eq_false hb (dN_mem.mpr q)
      refine (⟨c,g0,g1,g2,hlv,fun i => ?_⟩)
      rw [hc,List.mem_append,List.mem_singleton]
      constructor
      ·rintro ⟨h1,h2⟩;exact ⟨.inl h1,h2⟩
      ·rintro ⟨h1 | rfl,h2⟩
       ·exact ⟨h1,h2⟩
       ·exact absurd h2 hnw
   ·rintro σ ⟨c,g0,g1,g2,hlv,hc⟩
    have hcm:c=cmask N s:=bit_ext fun i=>by
     rw [hc]
     unfold cmask
     rw [maskS_bit,mem_setL]
     exact and_assoc
    refine ⟨rfl,B_cons hΓ ?_⟩
    refine ⟨_,g2,.ref o,g0,o,222,subFs a d,.ref d,rfl,by rw [hlv];exact X.obj,ok_kept,sub_kept a d,.int s,g1,d,s,rfl,rfl,.inr ⟨keptD N ks,by rw [hlv];exact hkd,by simp only [List.length_map,lim_eq];exact zk2 hkl rfl,⟨rfl,g0,g1,ks++[s],nodup_snoc hk1 hns,fun k hk => ?_,by simp,?_⟩⟩⟩
    ·rcases List.mem_append.mp hk with q | q
     ·exact hk2 k q
     ·rw [List.mem_singleton.mp q];exact hs
    ·show updL σ.lv d _=_
     rw [hlv,hcm,keptD_new hns]
  ·have hy:s∈ks:=by
    rw [keptD_keys] at hb
    apply Classical.byContradiction
    intro q;simp [mem_castL,q] at hb
   refine ⟨rfl,rfl,rfl,ks,hk1,hk2,hy,?_⟩
   funext b;by_cases q:b=d
   ·subst q;rw [updL_self];exact hkd
   ·rw [updL_ne _ _ q]
 ·rintro σ ⟨g0,g1,ks,hk1,hk2,hsk,hlv⟩
  have ld:σ.lv d=some (.dict (keptD N ks)):=by rw [hlv,updL_self]
  have kp:KeepBut lv d σ.lv:=fun b x hb e=>by rw [hlv,updL_ne _ _ hb];exact e
  have X':SubAt σ.lv o d a N:=⟨kp _ _ X.od X.obj,⟨ks,hk1,hk2,ld⟩,d0,hd0,kp _ _ X.ad hN1,kp _ _ hd0 hN2⟩
  refine B_cons hΓ ?_
  exact ⟨.ref o,g0,o,222,subFs a d,.ref d,rfl,X'.obj,ok_kept,sub_kept a d,_,g1,s,rfl,.inr ⟨keptD N ks,_,dict_of ld,keptD_get hsk,_,⟨fun _=>none,σ.lv⟩,GhV.here fun _ _ e=>e,hQ _ X' kp⟩⟩
end Mine
namespace Mine
variable {Γ:Value→PC}
noncomputable def bitS (m s:Nat):Prop:=m.testBit s=true
theorem mask_self {n m:Nat} (h:m<2 ^ n):maskS n (bitS m)=m:=bit_ext fun i=>by
 rw [maskS_bit]
 refine ⟨fun h=>h.2,fun q=>⟨?_,q⟩⟩
 rcases Nat.lt_or_ge i n with r | r
 ·exact r
 ·replace q:=(Nat.testBit_lt_two_pow (Nat.lt_of_lt_of_le h (Nat.pow_le_pow_right (by decide) r))).symm.trans q;cases q
theorem bits_of {n m:Nat} (hn:n≤8) (h:m<2 ^ n):bitL m=setL n (bitS m):=by
 rw [←bitL_mask hn,mask_self h]
theorem pow_8 {n:Nat} (hn:n≤8):2 ^ n≤256:=Nat.le_trans (Nat.pow_le_pow_right (by decide) hn) (by decide)
noncomputable def C_sinit:PC:=fun l lv Q=>E2 fun o a=>A3 (l=[.ref o,.ref a]) (lv o=some (.inst 222 [])) (∀ d,lv d=none→Q .none (updL (updL lv o (some (.inst 222 [("nfa",.ref a)]))) d (some (.dict [])) |> fun x=>updL x o (some (.inst 222 (subFs a d)))))
theorem t_sinit (hΓ:∀ f,MonoC (Γ f)):Sat I0 Γ m_Subsets_init 2 C_sinit:=by
 rintro l lv Q ⟨o,a,rfl,ho,hQ⟩
 refine ⟨rfl,B_cons hΓ ?_⟩
 refine ⟨.ref a,rfl,.ref o,rfl,o,222,[],rfl,ho,ok_nfa,by decide,B_cons hΓ ?_⟩
 intro d hd
 have od:o≠d:=fun q=>by rw [←q] at hd;dsimp only at hd;rw [updL_self] at hd;cases hd
 have hd':lv d=none:=by dsimp only at hd;replace hd:=(updL_ne _ _ (Ne.symm od)).symm.trans hd;exact hd
 refine ⟨.ref o,rfl,o,222,[("nfa",.ref a)],rfl,by (try dsimp only);rw [updL_ne _ _ od,updL_self];rfl,ok_kept,by simp,?_⟩
 exact hQ d hd'
noncomputable def C_Subsets:PC:=fun l lv Q=>E2 fun a N=>A3 (l=[.ref a]) (NfaAt lv a N) (∀ o d lv',SubAt lv' o d a N→Ext lv lv'→lv d=none→Q (.ref o) lv')
theorem c_Subsets {l:List V} {lv:LM} {Q:V→LM→Prop} (h:C_Subsets l lv Q):∀ o,lv o=none→C_sinit (.ref o::l) (updL lv o (some (.inst 222 []))) fun v lv'=>v= .none∧Q (.ref o) lv':=by
 intro o ho
 obtain ⟨a,N,rfl,⟨d0,hN1,hN2⟩,h⟩:=h
 refine ⟨o,a,rfl,updL_self ..,fun d hd=>⟨rfl,?_⟩⟩
 have od:o≠d:=fun q=>by rw [←q,updL_self] at hd;cases hd
 have hd':lv d=none:=by replace hd:=(updL_ne _ _ (Ne.symm od)).symm.trans hd;exact hd
 have E:Ext lv (updL (updL (updL (updL lv o (some (.inst 222 []))) o (some (.inst 222 [("nfa",.ref a)]))) d (some (.dict []))) o (some (.inst 222 (subFs a d)))):=((((Ext.refl lv).upd ho _).upd ho _).upd hd' _).upd ho _
 refine h o d _ ⟨updL_self ..,⟨[],.nil,fun k hk=>(by cases hk),?_⟩,d0,ne_of hN2 hd',E _ _ hN1,E _ _ hN2⟩ E hd'
 dsimp only
 rw [updL_ne _ _ (Ne.symm od),updL_self];rfl
theorem mt_clo:I0.mt 222 ("closure_of":Str)=some 191:=by decide
theorem mt_sbegin:I0.mt 222 ("begin":Str)=some 198:=by decide
theorem mt_ways:I0.mt 222 ("ways":Str)=some 205:=by decide
theorem mt_after:I0.mt 222 ("after":Str)=some 212:=by decide
theorem mt_stags:I0.mt 222 ("tags":Str)=some 219:=by decide
theorem mt_dcount:I0.mt 276 ("state_count":Str)=some 254:=by decide
noncomputable def C_sbegin:PC:=fun l lv Q=>E4 fun o d a N=>A4 (l=[.ref o]) (SubAt lv o d a N) N.Wf (∀ lv',SubAt lv' o d a N→KeepBut lv d lv'→Q (.int (cmask N N.first)) lv')
theorem t_sbegin (hΓ:∀ f,MonoC (Γ f)) (h1:Γ (.ref 191)=C_closure_of):Sat I0 Γ m_Subsets_begin 1 C_sbegin:=by
 rintro l lv Q ⟨o,d,a,N,rfl,X,W,hQ⟩
 obtain ⟨d0,hd0,hN1,hN2⟩:=X.nfa
 refine ⟨rfl,B_cons hΓ ?_⟩
 refine ⟨.ref o,rfl,o,222,subFs a d,191,rfl,X.obj,rfl,mt_clo,.ref o,rfl,o,222,subFs a d,.ref a,rfl,X.obj,ok_nfa,sub_nfa a d,a,92,nfFs N d0,.int N.first,rfl,hN1,ok_first,nf_first N d0,?_⟩
 refine use h1 ?_
 exact ⟨o,d,a,N,N.first,rfl,X,W,W.fst,fun lv' X' K=>⟨_,⟨fun _=>none,lv'⟩,GhV.here fun _ _ e=>e,hQ lv' X' K⟩⟩
noncomputable def wayL (N:Nf) (S:Nat→Prop) (ws:List (Nat×Nat)):Prop:=ws.length≤8000∧∀ sg mk,(sg,mk)∈ws↔∃ s g,s<N.n∧S s∧mvA N s sg g∧mk=cmask N g
noncomputable def C_ways:PC:=fun l lv Q=>E4 fun o d a N=>∃ (m:Nat),A5 (l=[.ref o,.int m]) (SubAt lv o d a N) N.Wf (m<2 ^ N.n) (∀ ws lv',wayL N (bitS m) ws→SubAt lv' o d a N→KeepBut lv d lv'→Q (.lst (vMv ws)) lv')
theorem setL_nodup {n:Nat} {S:Nat→Prop}:(setL n S).Nodup:=List.Pairwise.imp (fun {a b} h=>Nat.ne_of_lt h) setL_lt
theorem nodup_mid {α:Type} {d r:List α} {x:α} (h:(d++x::r).Nodup):x∉d:=fun q=>(List.nodup_append.mp h).2.2 x q x (by simp) rfl
open Classical in
theorem t_ways (hΓ:∀ f,MonoC (Γ f)) (h1:Γ (.ref 28)=C_bits) (h2:Γ (.ref 191)=C_closure_of):Sat I0 Γ m_Subsets_ways 2 C_ways:=by
 rintro l lv Q ⟨o,d,a,N,m,rfl,X,W,hm,hQ⟩
 have w8:N.n≤8:=W.small
 refine ⟨rfl,B_cons hΓ ?_⟩
 refine ⟨by decide,fun f hf => ?_⟩
 replace hf:lv f=none:=hf
 have fo:=ne_of X.obj hf
 have fd:f≠d:=by obtain ⟨ks,_,_,q⟩:=X.kept;exact Ne.symm (ne_of q hf)
 let Lv:List (Nat×Nat)→MS→Prop:=fun ws σ=>A5 (σ.loc 0=some (.ref o)) (σ.loc 2=some (.ref f)) (σ.lv f=some (.list (vMv ws))) (SubAt σ.lv o d a N) (KeepBut lv d σ.lv)
 have E0:∀ x,Ext lv (updL lv f x):=fun x=>Ext.new hf x
 let MR1:MS→Prop:=fun σ=>∃ ws,Lv ws σ∧wayL N (bitS m) ws
 refine B_mid hΓ MR1 (S_forM hΓ ?_) ?_
 ·refine ⟨.int m,rfl,?_⟩
  refine use h1 ?_
  refine ⟨m,rfl,Nat.lt_of_lt_of_le hm (pow_8 w8),?_⟩
  rw [bits_of w8 hm]
  let J2:List Nat→MS→Prop:=fun d' σ=>∃ ws,A3 (Lv ws σ) (ws.length≤1000*d'.length) (∀ sg mk,(sg,mk)∈ws↔∃ s g,s∈d'∧mvA N s sg g∧mk=cmask N g)
  refine ⟨_,setL N.n (bitS m),rfl,trivial,J2,?_,?_,?_⟩
  ·exact ⟨[],⟨rfl,rfl,by (try dsimp only);rw [updL_self];rfl,X.mono (E0 _),(E0 _).but d⟩,Nat.le_refl _,fun sg mk=>by simp⟩
  ·rintro d' s r' σ hdr ⟨ws,hL,hwl,hws⟩
   have hs:s<N.n:=(mem_setL.mp (by rw [←hdr];simp:s∈setL N.n (bitS m))).1
   have hsd:s∉d':=nodup_mid (by rw [hdr];exact setL_nodup)
   have hd8:d'.length<8:=by
    have h3:=congrArg List.length hdr
    have h4 := @setL_len N.n (bitS m)
    simp at h3;exact zh93 h3 w8 h4
   obtain ⟨ml,hm1,hm2⟩:=nf_mv hs
   obtain ⟨d0,hd0,hN1,hN2⟩:=hL.4.nfa
   refine ⟨rfl,_,rfl,B_cons hΓ (S_forM hΓ ?_)⟩
   let J910:List (Nat×Nat)→MS→Prop:=fun d2 σ=>∃ ws,A3 (Lv ws σ) (ws.length≤1000*d'.length+d2.length) (∀ sg mk,(sg,mk)∈ws↔(∃ s g,s∈d'∧mvA N s sg g∧mk=cmask N g)∨∃ g,(sg,g)∈d2∧mk=cmask N g)
   refine ⟨.ref o,hL.1,o,222,subFs a d,.ref a,rfl,hL.4.obj,ok_nfa,sub_nfa a d,a,92,nfFs N d0,vMoves N.moves,rfl,hN1,ok_moves,nf_moves N d0,.int s,rfl,s,rfl,.inl ⟨_,.lst (vMv ml),rfl,?_,at_nat (by rw [List.getElem?_map,hm1];rfl),_,ml,rfl,trivial,J910,?_,?_,?_⟩⟩
   ·simp only [List.length_map,lim_eq];have:N.moves.length≤8:=w8;exact zk0 this rfl
   ·exact ⟨ws,hL,by simpa using hwl,fun sg mk=>by rw [hws];simp⟩
   ·rintro d2 q r2 σ hdr2 ⟨ws,⟨k0,k2,kf,kX,kK⟩,hwl,hws⟩
    obtain ⟨sg,g⟩:=q
    have hg:g<N.n:=(W.mv ml hm2 (sg,g) (by rw [←hdr2];simp)).2.2
    have hl9:d2.length<1000:=by
     have h3:=congrArg List.length hdr2
     have h4:=W.mlen ml hm2
     simp at h3;exact zh71 h3 h4
    refine ⟨rfl,_,rfl,B_cons hΓ ?_⟩
    refine ⟨.ref f,k2,⟨_,_,rfl,kf⟩,.int sg,rfl,.ref o,k0,o,222,subFs a d,191,rfl,kX.obj,rfl,mt_clo,.int g,rfl,?_⟩
    refine use h2 ?_
    refine ⟨o,d,a,N,g,rfl,kX,W,hg,fun lv2 X2 K2 => ?_⟩
    have lf:lv2 f=some (.list (vMv ws)):=K2 _ _ fd kf
    refine ⟨by simp [lim_eq],f,_,rfl,lf,by simp only [vMv,List.length_map,lim_eq];exact zh79 hl9 hd8 hwl,rfl,⟨ws++[(sg,cmask N g)],⟨k0,k2,?_,?_,?_⟩,by simp;exact zh66 hwl,fun sg' mk => ?_⟩⟩
    ·show updL lv2 f _ f=_
     rw [updL_self];simp [vMv]
    ·obtain ⟨ks,q1,q2,q3⟩:=X2.kept
     obtain ⟨d1,p1,p2,p3⟩:=X2.nfa
     have nf:∀ {b x},lv2 b=some x→(∀ l,x≠ .list l)→updL lv2 f (some (.list (vMv ws++[.tup [.int sg,.int (cmask N g)]]))) b=some x:=fun {b x} e q=>by
      exact (updL_ne _ _ (fun r:b=f=>by rw [r,lf] at e;cases e;exact q _ rfl)).trans e
     exact ⟨nf X2.obj (by simp),⟨ks,q1,q2,nf q3 (by simp)⟩,d1,p1,nf p2 (by simp),nf p3 (by simp)⟩
    ·intro b x hb e
     have hbf:=ne_of e hf
     show updL lv2 f _ b=_
     rw [updL_ne _ _ hbf]
     exact K2 _ _ hb (kK _ _ hb e)
    ·rw [List.mem_append,hws,List.mem_singleton,Prod.mk.injEq]
     constructor
     ·rintro ((h | ⟨g',h1,h2⟩) | ⟨rfl,rfl⟩)
      ·exact .inl h
      ·exact .inr ⟨g',List.mem_append_left _ h1,h2⟩
      ·exact .inr ⟨g,by simp,rfl⟩
     ·rintro (h | ⟨g',h1,h2⟩)
      ·exact .inl (.inl h)
      ·rcases List.mem_append.mp h1 with q | q
       ·exact .inl (.inr ⟨g',q,h2⟩)
       ·simp at q;obtain ⟨rfl,rfl⟩:=q;exact .inr ⟨rfl,h2⟩
   ·rintro σ ⟨ws,hL,hwl,hws⟩
    have:=W.mlen ml hm2
    refine ⟨rfl,⟨ws,hL,by simp;exact zh80 hwl this,fun sg mk => ?_⟩⟩
    rw [hws]
    constructor
    ·rintro (⟨s',g,h1,h2,h3⟩ | ⟨g,h1,h2⟩)
     ·exact ⟨s',g,List.mem_append_left _ h1,h2,h3⟩
     ·exact ⟨s,g,by simp,⟨ml,hm1,h1⟩,h2⟩
    ·rintro ⟨s',g,h1,h2,h3⟩
     rcases List.mem_append.mp h1 with q | q
     ·exact .inl ⟨s',g,q,h2,h3⟩
     ·simp at q;subst q
      obtain ⟨l,q1,q2⟩:=h2
      replace q1:=hm1.symm.trans q1;cases q1
      exact .inr ⟨g,q2,h3⟩
  ·rintro σ ⟨ws,hL,hwl,hws⟩
   have := @setL_len N.n (bitS m)
   refine ⟨rfl,by trivial,ws,hL,by exact zh94 hwl w8 this,fun sg mk => ?_⟩
   rw [hws]
   constructor
   ·rintro ⟨s,g,h1,h2,h3⟩;exact ⟨s,g,(mem_setL.mp h1).1,(mem_setL.mp h1).2,h2,h3⟩
   ·rintro ⟨s,g,h1,h2,h3,h4⟩;exact ⟨s,g,mem_setL.mpr ⟨h1,h2⟩,h3,h4⟩
 ·rintro σ ⟨ws,⟨k0,k2,kf,kX,kK⟩,hw⟩
  refine B_cons hΓ ?_
  refine ⟨.ref f,k2,.lst (vMv ws),⟨fun _=>none,updL σ.lv f none⟩,GhV.ret kf fun b x e => ?_,hQ ws _ hw ?_ ?_⟩
  ·by_cases q:b=f
   ·subst q;rw [updL_self] at e;cases e
   ·replace e:=(updL_ne _ _ q).symm.trans e;exact ⟨q,e⟩
  ·obtain ⟨ks,q1,q2,q3⟩:=kX.kept
   obtain ⟨d1,p1,p2,p3⟩:=kX.nfa
   have nf:∀ {b x},σ.lv b=some x→(∀ l,x≠ .list l)→updL σ.lv f none b=some x:=fun {b x} e q=>by
    exact (updL_ne _ _ (fun r:b=f=>by rw [r,kf] at e;cases e;exact q _ rfl)).trans e
   exact ⟨nf kX.obj (by simp),⟨ks,q1,q2,nf q3 (by simp)⟩,d1,p1,nf p2 (by simp),nf p3 (by simp)⟩
  ·intro b x hb e
   have hbf:=ne_of e hf
   show updL σ.lv f none b=_
   rw [updL_ne _ _ hbf]
   exact kK _ _ hb e
noncomputable def C_after:PC:=fun l lv Q=>E3 fun x wv ws=>∃ (k:Nat),A3 (l=[x,wv,.int k]) (isSeq wv (vMv ws)) (∀ m:Nat,(∀ i,m.testBit i=true↔∃ sg mk,(sg,mk)∈ws∧bitP sg k∧mk.testBit i=true)→Q (.int m) lv)
theorem t_after (hΓ:∀ f,MonoC (Γ f)):Sat I0 Γ m_Subsets_after 3 C_after:=by
 rintro l lv Q ⟨x,wv,ws,k,rfl,hwv,hQ⟩
 refine ⟨rfl,B_cons hΓ ?_⟩
 let MR3:MS→Prop:=fun σ=>∃ (m:Nat),A3 (σ.loc 3=some (.int m)) (σ.lv=lv) (∀ i,m.testBit i=true↔∃ sg mk,(sg,mk)∈ws∧bitP sg k∧mk.testBit i=true)
 refine B_mid hΓ MR3 (S_forM hΓ ?_) ?_
 ·let J4:List (Nat×Nat)→MS→Prop:=fun d' σ=>∃ (m:Nat),A4 (σ.loc 2=some (.int k)) (σ.loc 3=some (.int m)) (σ.lv=lv) (∀ i,m.testBit i=true↔∃ sg mk,(sg,mk)∈d'∧bitP sg k∧mk.testBit i=true)
  refine ⟨wv,rfl,_,ws,hwv.items _,hwv.rng,J4,?_,?_,?_⟩
  ·exact ⟨0,rfl,rfl,rfl,fun i=>by simp⟩
  ·rintro d' q r' σ hdr ⟨m,g2,g3,hlv,hm⟩
   obtain ⟨sg,mk⟩:=q
   refine ⟨hwv.items _,_,rfl,B_cons hΓ ?_⟩
   refine ⟨.int sg,rfl,.int k,g2,by show (0:Int)≤(k:Int);exact zq15,trivial,fun hb => ?_,fun hb => ?_⟩
   ·have hbp:bitP sg k:=by simpa [bitP,BOp.val] using hb
    refine B_cons hΓ ?_
    refine ⟨m,g3,.int mk,rfl,mk,rfl,(⟨m ||| mk,g2,?_,hlv,fun i => ?_⟩)⟩
    ·show some (V.int (Builtin.bitOr (m:Int) (mk:Int)))=_
     rw [bitOr_nat]
    ·rw [Nat.testBit_or,Bool.or_eq_true,hm]
     constructor
     ·rintro (⟨sg',mk',h1,h2⟩ | h)
      ·exact ⟨sg',mk',List.mem_append_left _ h1,h2⟩
      ·exact ⟨sg,mk,by simp,hbp,h⟩
     ·rintro ⟨sg',mk',h1,h2,h3⟩
      rcases List.mem_append.mp h1 with q | q
      ·exact .inl ⟨sg',mk',q,h2,h3⟩
      ·simp at q;obtain ⟨rfl,rfl⟩:=q;exact .inr h3
   ·have hbp:¬ bitP sg k:=by simpa [bitP,BOp.val] using hb
    refine (⟨m,g2,g3,hlv,fun i => ?_⟩)
    rw [hm]
    constructor
    ·rintro ⟨sg',mk',h1,h2⟩
     exact ⟨sg',mk',List.mem_append_left _ h1,h2⟩
    ·rintro ⟨sg',mk',h1,h2,h3⟩
     rcases List.mem_append.mp h1 with q | q
     ·exact ⟨sg',mk',q,h2,h3⟩
     ·simp at q;obtain ⟨rfl,rfl⟩:=q;exact absurd h2 hbp
  ·rintro σ ⟨m,g2,g3,hlv,hm⟩
   exact ⟨hwv.items _,by trivial,m,g3,hlv,hm⟩
 ·rintro σ ⟨m,g3,hlv,hm⟩
  refine B_cons hΓ ?_
  exact ⟨_,g3,_,⟨fun _=>none,lv⟩,GhV.here fun b x e=>by rw [hlv];exact e,hQ m hm⟩
noncomputable def C_stags:PC:=fun l lv Q=>E4 fun o d a N=>∃ (m:Nat),A5 (l=[.ref o,.int m]) (SubAt lv o d a N) N.Wf (m<2 ^ N.n) (Q (.tup (vN (setL 8 (tagS N (bitS m))))) lv)
theorem t_stags (hΓ:∀ f,MonoC (Γ f)) (h1:Γ (.ref 28)=C_bits) (h2:Γ (.ref 122)=C_tags_of):Sat I0 Γ m_Subsets_tags 2 C_stags:=by
 rintro l lv Q ⟨o,d,a,N,m,rfl,X,W,hm,hQ⟩
 have w8:N.n≤8:=W.small
 refine ⟨rfl,B_cons hΓ ?_⟩
 refine ⟨.ref o,rfl,o,222,subFs a d,.ref a,rfl,X.obj,ok_nfa,sub_nfa a d,.int m,rfl,?_⟩
 refine use h1 ?_
 refine ⟨m,rfl,Nat.lt_of_lt_of_le hm (pow_8 w8),?_⟩
 rw [bits_of w8 hm]
 refine use h2 ?_
 refine ⟨a,_,N,setL N.n (bitS m),rfl,X.at_,W,.inr rfl,fun s hs=>(mem_setL.mp hs).1,_,⟨fun _=>none,lv⟩,GhV.here fun _ _ e=>e,?_⟩
 rw [setL_congr (T:=tagS N (bitS m)) fun t _=>⟨fun ⟨s,h3,h4⟩=>⟨s,(mem_setL.mp h3).2,h4⟩,fun ⟨s,h3,h4⟩=>⟨s,mem_setL.mpr ⟨(W.tg _ h4).1,h3⟩,h4⟩⟩]
 exact hQ
abbrev vRows (rows:List (List Int)):List V:=rows.map fun r=> .lst (vI r)
abbrev vTags (tags:List (List Nat)):List V:=tags.map fun t=> .tup (vN t)
abbrev dfaFs (rows:List (List Int)) (tags:List (List Nat)):List (Str×V):=[("rows",.lst (vRows rows)),("tags",.lst (vTags tags))]
noncomputable def DfaAt (lv:LM) (x:Addr) (rows:List (List Int)) (tags:List (List Nat)):Prop:=lv x=some (.inst 276 (dfaFs rows tags))
noncomputable def C_dinit:PC:=fun l lv Q=>E3 fun x u v=>A3 (l=[.ref x,u,v]) (lv x=some (.inst 276 [])) (Q .none (updL (updL lv x (some (.inst 276 [("rows",u)]))) x (some (.inst 276 [("rows",u),("tags",v)]))))
theorem t_dinit (hΓ:∀ f,MonoC (Γ f)):Sat I0 Γ m_Dfa_init 3 C_dinit:=by
 rintro l lv Q ⟨x,u,v,rfl,hx,hQ⟩
 refine ⟨rfl,B_cons hΓ ?_⟩
 refine ⟨u,rfl,.ref x,rfl,x,276,[],rfl,hx,ok_rows,by decide,B_cons hΓ ?_⟩
 exact ⟨v,rfl,.ref x,rfl,x,276,[("rows",u)],rfl,updL_self ..,ok_dtags,by simp,hQ⟩
noncomputable def C_Dfa:PC:=fun l lv Q=>E2 fun u v=>l=[u,v]∧∀ x,lv x=none→Q (.ref x) (updL lv x (some (.inst 276 [("rows",u),("tags",v)])))
theorem c_Dfa {l:List V} {lv:LM} {Q:V→LM→Prop} (h:C_Dfa l lv Q):∀ x,lv x=none→C_dinit (.ref x::l) (updL lv x (some (.inst 276 []))) fun v lv'=>v= .none∧Q (.ref x) lv':=by
 intro x hx
 obtain ⟨u,v,rfl,h⟩:=h
 refine ⟨x,u,v,rfl,updL_self ..,rfl,?_⟩
 have:=h x hx
 have e:updL lv x (some (.inst 276 [("rows",u),("tags",v)]))=updL (updL (updL lv x (some (.inst 276 []))) x (some (.inst 276 [("rows",u)]))) x (some (.inst 276 [("rows",u),("tags",v)])):=by
  funext b;by_cases q:b=x
  ·subst q;rw [updL_self,updL_self]
  ·rw [updL_ne _ _ q,updL_ne _ _ q,updL_ne _ _ q,updL_ne _ _ q]
 rw [←e];exact this
noncomputable def C_dcount:PC:=fun l lv Q=>E3 fun x rows tags=>A4 (l=[.ref x]) (DfaAt lv x rows tags) (rows.length≤1000) (Q (.int rows.length) lv)
theorem t_dcount (hΓ:∀ f,MonoC (Γ f)):Sat I0 Γ m_Dfa_state_count 1 C_dcount:=by
 rintro l lv Q ⟨x,rows,tags,rfl,hD,hl,hQ⟩
 refine ⟨rfl,B_cons hΓ ?_⟩
 refine ⟨.ref x,rfl,x,276,dfaFs rows tags,.lst (vRows rows),rfl,hD,ok_rows,rfl,vRows rows,rfl,by simp only [vRows,List.length_map,lim_eq];exact zk0 hl rfl,.int rows.length,⟨fun _=>none,lv⟩,?_,hQ⟩
 simp only [vRows,List.length_map]
 exact GhV.here fun _ _ e=>e
end Mine
namespace Mine
variable {Γ:Value→PC}
noncomputable def wm (N:Nf) (S:Nat→Prop):Nat:=maskS N.n fun g=>S g∧wgt N g
noncomputable def nxt (N:Nf) (m k:Nat):Nat:=wm N (stepS N (bitS m) k)
theorem wm_lt {N:Nf} {S:Nat→Prop}:wm N S<2 ^ N.n:=maskS_lt
theorem after_is {N:Nf} (W:N.Wf) {m k c:Nat} {ws:List (Nat×Nat)} (hw:wayL N (bitS m) ws) (hc:∀ i,c.testBit i=true↔∃ sg mk,(sg,mk)∈ws∧bitP sg k∧mk.testBit i=true):c=nxt N m k:=bit_ext fun i=>by
 rw [hc]
 unfold nxt wm
 rw [maskS_bit]
 constructor
 ·rintro ⟨sg,mk,h1,h2,h3⟩
  obtain ⟨s,g,h4,h5,h6,rfl⟩:=(hw.2 sg mk).mp h1
  unfold cmask at h3
  obtain ⟨h7,⟨t,h8,h9⟩,h10⟩:=maskS_bit.mp h3
  simp only [List.mem_singleton] at h8
  subst h8
  obtain ⟨l,h11,h12⟩:=h6
  exact ⟨h7,⟨t,⟨s,h5,l,sg,h11,h12,h2⟩,h9⟩,h10⟩
 ·rintro ⟨h7,⟨g,⟨s,h5,l,sg,h11,h12,h2⟩,h9⟩,h10⟩
  exact ⟨sg,cmask N g,(hw.2 sg _).mpr ⟨s,g,(List.getElem?_eq_some_iff.mp h11).1,h5,⟨l,h11,h12⟩,rfl⟩,h2,maskS_bit.mpr ⟨h7,⟨g,by simp,h9⟩,h10⟩⟩
structure Ord (N:Nf) (order:List Nat):Prop where
 o0:order[0]?=some (wm N (beginS N))
 nd:order.Nodup
 lt:∀ m∈order,m<2 ^ N.n
 nz:∀ (i:Nat) m,0<i→order[i]?=some m→m≠0
 rch:∀ (j:Nat) m,0<j→order[j]?=some m→∃ i k m',i<j∧k<3∧order[i]?=some m'∧m=nxt N m' k
noncomputable def nextOk (N:Nf) (order:List Nat) (m k:Nat) (v:Int):Prop:=(nxt N m k=0∧v = -1)∨(nxt N m k≠0∧∃ j:Nat,v=(j:Int)∧order[j]?=some (nxt N m k))
noncomputable def rowOk (N:Nf) (order:List Nat) (m:Nat) (c:Nat) (row:List Int):Prop:=row.length=c∧∀ k,k<c→∃ v,row[k]?=some v∧nextOk N order m k v
theorem get_app {α:Type} {l l':List α} {i:Nat} {x:α} (h:l[i]?=some x):(l++l')[i]?=some x:=by
 exact (List.getElem?_append_left (List.getElem?_eq_some_iff.mp h).1).trans h
theorem nextOk.app {N:Nf} {order l:List Nat} {m k:Nat} {v:Int} (h:nextOk N order m k v):nextOk N (order++l) m k v:=h.imp id fun ⟨h1,j,h2,h3⟩=>⟨h1,j,h2,get_app h3⟩
theorem rowOk.app {N:Nf} {order l:List Nat} {m c:Nat} {row:List Int} (h:rowOk N order m c row):rowOk N (order++l) m c row:=⟨h.1,fun k hk=>let ⟨v,h1,h2⟩:=h.2 k hk;⟨v,h1,h2.app⟩⟩
theorem rowOk.snoc {N:Nf} {order:List Nat} {m c:Nat} {row:List Int} (h:rowOk N order m c row) {v:Int} (hv:nextOk N order m c v):rowOk N order m (c+1) (row++[v]):=by
 refine ⟨by simp [h.1],fun k hk => ?_⟩
 by_cases q:k=c
 ·subst q
  exact ⟨v,by rw [List.getElem?_append_right (by rw [h.1];exact Nat.le_refl _),h.1];simp,hv⟩
 ·obtain ⟨u,h1,h2⟩:=h.2 k (by exact zh76 hk q)
  exact ⟨u,get_app h1,h2⟩
theorem Ord.snoc {N:Nf} {order:List Nat} (O:Ord N order) {i k m:Nat} (hi:order[i]?=some m) (hk:k<3) (hn:nxt N m k∉order) (hz:nxt N m k≠0):Ord N (order++[nxt N m k]) where
 o0:=get_app O.o0
 nd:=nodup_snoc O.nd hn
 lt x hx:=by
  rcases List.mem_append.mp hx with q | q
  ·exact O.lt x q
  ·rw [List.mem_singleton.mp q];exact wm_lt
 nz j x hj hx:=by
  rcases Nat.lt_or_ge j order.length with q | q
  ·replace hx:=(List.getElem?_append_left q).symm.trans hx;exact O.nz j x hj hx
  ·replace hx:=(List.getElem?_append_right q).symm.trans hx
   have:=(List.getElem?_eq_some_iff.mp hx).1
   simp at this
   rw [show j - order.length=0 by exact this] at hx
   simp at hx;rw [←hx];exact hz
 rch j x hj hx:=by
  rcases Nat.lt_or_ge j order.length with q | q
  ·replace hx:=(List.getElem?_append_left q).symm.trans hx
   obtain ⟨i',k',m',h1,h2,h3,h4⟩:=O.rch j x hj hx
   exact ⟨i',k',m',h1,h2,get_app h3,h4⟩
  ·replace hx:=(List.getElem?_append_right q).symm.trans hx
   have:=(List.getElem?_eq_some_iff.mp hx).1
   simp at this
   rw [show j - order.length=0 by exact this] at hx
   simp at hx
   exact ⟨i,k,m,by have:=(List.getElem?_eq_some_iff.mp hi).1;exact Nat.lt_of_lt_of_le this q,hk,get_app hi,hx.symm⟩
theorem Ord.len {N:Nf} (W:N.Wf) {order:List Nat} (O:Ord N order):order.length≤256:=Nat.le_trans (len_le_n O.nd O.lt) (pow_8 W.small)
abbrev placesD (order:List Nat):List (Int×V):=order.mapIdx fun (i:Nat) (m:Nat)=>((m:Int),V.int (i:Nat))
theorem placesD_keys (order:List Nat):(placesD order).map (·.1)=order.map fun (k:Nat)=>(k:Int):=by
 apply List.ext_getElem?;intro i
 simp only [placesD,List.getElem?_map,List.getElem?_mapIdx,Option.map_map];rfl
theorem placesD_get {order:List Nat} (hn:order.Nodup) {j m:Nat} (h:order[j]?=some m):dget (placesD order) m=some (.int j):=by
 unfold dget
 have hf:(placesD order).find? (fun p=>decide (p.1=(m:Int)))=some ((m:Int),V.int j):=by
  rw [List.find?_eq_some_iff_getElem]
  obtain ⟨hj1,hj2⟩:=List.getElem?_eq_some_iff.mp h
  refine ⟨by simp,j,by simpa using hj1,by simp [hj2],fun i hi => ?_⟩
  simp only [placesD,List.getElem_mapIdx,Bool.not_eq_true',decide_eq_false_iff_not]
  intro e
  have hi':i<order.length:=by exact zq24 hj1 hi
  have e:order[i]=m:=by exact Int.ofNat_inj.mp e
  have:=(List.getElem_inj (h₀:=hi') (h₁:=hj1) hn).mp (e.trans hj2.symm)
  exact zh33 hi this
 rw [hf];rfl
theorem placesD_new {order:List Nat} {m:Nat} (h:m∉order):dset (placesD order) m (.int order.length)=placesD (order++[m]):=by
 unfold dset
 rw [if_neg]
 ·simp [placesD,List.mapIdx_append]
 ·simp only [List.any_eq_true,not_exists]
  rintro p ⟨h1,h2⟩
  have:p.1∈(placesD order).map (·.1):=List.mem_map.mpr ⟨p,h1,rfl⟩
  simp only [decide_eq_true_eq] at h2
  rw [placesD_keys,h2,mem_castL] at this
  exact h this
structure DS (N:Nf) (lv:LM) (a o d r3 r4 r5:Addr) (order:List Nat) (rows:List (List Int)) (σ:MS):Prop where
 l1:σ.loc 1=some (.int 3)
 l2:σ.loc 2=some (.ref o)
 l3:σ.loc 3=some (.ref r3)
 l4:σ.loc 4=some (.ref r4)
 l5:σ.loc 5=some (.ref r5)
 h3:σ.lv r3=some (.list (vN order))
 h4:σ.lv r4=some (.dict (placesD order))
 h5:σ.lv r5=some (.list (vRows rows))
 obj:σ.lv o=some (.inst 222 (subFs a d))
 kept:∃ ks:List Nat,ks.Nodup∧(∀ k∈ks,k<N.n)∧σ.lv d=some (.dict (keptD N ks))
 base:∀ b x,lv b=some x→b≠r3∧b≠r4∧b≠r5∧b≠d∧σ.lv b=some x
structure Apart5 (d r3 r4 r5:Addr):Prop where
 d3:r3≠d
 d4:r4≠d
 d5:r5≠d
 a34:r3≠r4
 a35:r3≠r5
 a45:r4≠r5
noncomputable def rowsOk (N:Nf) (order:List Nat) (rows:List (List Int)):Prop:=∀ (i:Nat) row m,rows[i]?=some row→order[i]?=some m→rowOk N order m 3 row
section
variable {N:Nf} {lv:LM} {a o d d0 r3 r4 r5:Addr} {order:List Nat} {rows:List (List Int)} {σ:MS}
theorem DS.sub (X:DS N lv a o d r3 r4 r5 order rows σ) (h1:lv a=some (nfObj N d0)) (h2:lv d0=some (.dict (dN N.tags))):SubAt σ.lv o d a N :=
 ⟨X.obj,X.kept,d0,(X.base _ _ h2).2.2.2.1,(X.base _ _ h1).2.2.2.2,(X.base _ _ h2).2.2.2.2⟩
theorem DS.call (X:DS N lv a o d r3 r4 r5 order rows σ) (P:Apart5 d r3 r4 r5) {lv':LM} (S:SubAt lv' o d a N) (K:KeepBut σ.lv d lv') {loc:Loc} (q1:loc 1=some (.int 3)) (q2:loc 2=some (.ref o)) (q3:loc 3=some (.ref r3)) (q4:loc 4=some (.ref r4)) (q5:loc 5=some (.ref r5)) :
  DS N lv a o d r3 r4 r5 order rows ⟨loc,lv'⟩ :=
 ⟨q1,q2,q3,q4,q5,K _ _ P.d3 X.h3,K _ _ P.d4 X.h4,K _ _ P.d5 X.h5,S.obj,S.kept,fun b x e=>let ⟨b3,b4,b5,bd,h⟩:=X.base b x e;⟨b3,b4,b5,bd,K _ _ bd h⟩⟩
theorem DS.other (X:DS N lv a o d r3 r4 r5 order rows σ) {f:Addr} (hf:lv f=none) (f3:f≠r3) (f4:f≠r4) (f5:f≠r5) (fo:f≠o) (fd:f≠d) (y:Option MO) {loc:Loc} (q1:loc 1=some (.int 3)) (q2:loc 2=some (.ref o)) (q3:loc 3=some (.ref r3)) (q4:loc 4=some (.ref r4)) (q5:loc 5=some (.ref r5)) :
  DS N lv a o d r3 r4 r5 order rows ⟨loc,updL σ.lv f y⟩ :=
 ⟨q1,q2,q3,q4,q5,(updL_ne _ _ (Ne.symm f3)).trans X.h3,(updL_ne _ _ (Ne.symm f4)).trans X.h4,(updL_ne _ _ (Ne.symm f5)).trans X.h5,(updL_ne _ _ (Ne.symm fo)).trans X.obj,let ⟨ks,k1,k2,k3⟩:=X.kept;⟨ks,k1,k2,(updL_ne _ _ (Ne.symm fd)).trans k3⟩,
  fun b x e=>let ⟨b3,b4,b5,bd,h⟩:=X.base b x e;⟨b3,b4,b5,bd,(updL_ne _ _ (ne_of e hf)).trans h⟩⟩
theorem DS.locs (X:DS N lv a o d r3 r4 r5 order rows σ) {loc:Loc} (q1:loc 1=some (.int 3)) (q2:loc 2=some (.ref o)) (q3:loc 3=some (.ref r3)) (q4:loc 4=some (.ref r4)) (q5:loc 5=some (.ref r5)) :
  DS N lv a o d r3 r4 r5 order rows ⟨loc,σ.lv⟩:=⟨q1,q2,q3,q4,q5,X.h3,X.h4,X.h5,X.obj,X.kept,X.base⟩
end
noncomputable def C_subset_dfa:PC:=fun l lv Q=>E2 fun a N=>A4 (l=[.ref a,.int 3]) (NfaAt lv a N) N.Wf (∀ order rows x lv',Ord N order→rows.length=order.length→rowsOk N order rows→DfaAt lv' x rows (order.map fun m=>setL 8 (tagS N (bitS m)))→Ext lv lv'→Q (.ref x) lv')
open Classical in
theorem t_subset_dfa (hΓ:∀ f,MonoC (Γ f)) (h1:Γ (.ref 222)=C_Subsets) (h2:Γ (.ref 198)=C_sbegin) (h3:Γ (.ref 205)=C_ways) (h4:Γ (.ref 212)=C_after) (h5:Γ (.ref 219)=C_stags) (h6:Γ (.ref 276)=C_Dfa) :
  Sat I0 Γ m_subset_dfa 2 C_subset_dfa:=by
 rintro l lv Q ⟨a,N,rfl,hN,W,hQ⟩
 obtain ⟨d0,hN1,hN2⟩:=id hN
 have w8:N.n≤8:=W.small
 refine ⟨rfl,B_cons hΓ ?_⟩
 refine ⟨.ref a,rfl,?_⟩
 refine use h1 ?_
 refine ⟨a,N,rfl,hN,fun o d lv1 X1 E1 hd=>B_cons hΓ ?_⟩
 refine ⟨.ref o,rfl,o,222,subFs a d,198,rfl,X1.obj,rfl,mt_sbegin,?_⟩
 refine use h2 ?_
 refine ⟨o,d,a,N,rfl,X1,W,fun lv2 X2 K2=>⟨by simp [lim_eq],fun r3 hr3=>B_cons hΓ ?_⟩⟩
 replace hr3:lv2 r3=none:=hr3
 refine ⟨.ref r3,rfl,0,rfl,.inl ⟨[.int (cmask N N.first)],.int (cmask N N.first),?_,by simp [lim_eq],rfl,cmask N N.first,rfl,fun r4 hr4=>B_cons hΓ ?_⟩⟩
 ·show (match updL lv2 r3 (some (.list [V.int (cmask N N.first)])) r3 with | some (.list l)=>some l | _=>none)=_
  rw [updL_self]
 have a34:r4≠r3:=fun q=>by rw [q] at hr4;dsimp only at hr4;rw [updL_self] at hr4;cases hr4
 replace hr4:lv2 r4=none:=by dsimp only at hr4;replace hr4:=(updL_ne _ _ a34).symm.trans hr4;exact hr4
 refine ⟨by decide,fun r5 hr5 => ?_⟩
 have a45:r5≠r4:=fun q=>by rw [q] at hr5;dsimp only at hr5;rw [updL_self] at hr5;cases hr5
 have a35:r5≠r3:=fun q=>by rw [q] at hr5;dsimp only at hr5;rw [updL_ne _ _ (Ne.symm a34),updL_self] at hr5;cases hr5
 replace hr5:lv2 r5=none:=by dsimp only at hr5;replace hr5:=(updL_ne _ _ a35).symm.trans ((updL_ne _ _ a45).symm.trans hr5);exact hr5
 obtain ⟨ks0,hk1,hk2,hk3⟩:=X2.kept
 have P:Apart5 d r3 r4 r5:=⟨Ne.symm (ne_of hk3 hr3),Ne.symm (ne_of hk3 hr4),Ne.symm (ne_of hk3 hr5),Ne.symm a34,Ne.symm a35,Ne.symm a45⟩
 have D0:DS N lv a o d r3 r4 r5 [cmask N N.first] [] ⟨setV (setV (setV (setV (argLoc [.ref a,.int 3]) 2 (.ref o)) 3 (.ref r3)) 4 (.ref r4)) 5 (.ref r5),updL (updL (updL lv2 r3 (some (.list [V.int (cmask N N.first)]))) r4 (some (.dict [((cmask N N.first:Nat),V.int 0)]))) r5 (some (.list []))⟩:=by
  refine ⟨rfl,rfl,rfl,rfl,rfl,?_,?_,?_,?_,⟨ks0,hk1,hk2,?_⟩,fun b x e => ?_⟩
  ·(try dsimp only);rw [updL_ne _ _ P.a35,updL_ne _ _ P.a34,updL_self];rfl
  ·(try dsimp only);rw [updL_ne _ _ P.a45,updL_self];rfl
  ·(try dsimp only);rw [updL_self];rfl
  ·(try dsimp only);rw [updL_ne _ _ (ne_of X2.obj hr5),updL_ne _ _ (ne_of X2.obj hr4),updL_ne _ _ (ne_of X2.obj hr3)];exact X2.obj
  ·(try dsimp only);rw [updL_ne _ _ (Ne.symm P.d5),updL_ne _ _ (Ne.symm P.d4),updL_ne _ _ (Ne.symm P.d3)];exact hk3
  ·have bd:=ne_of e hd
   have e2:=K2 b x bd (E1 _ _ e)
   have b3:=ne_of e2 hr3
   have b4:=ne_of e2 hr4
   have b5:=ne_of e2 hr5
   refine ⟨b3,b4,b5,bd,?_⟩
   (try dsimp only);rw [updL_ne _ _ b5,updL_ne _ _ b4,updL_ne _ _ b3];exact e2
 have O0:Ord N [cmask N N.first]:=⟨rfl,by simp,fun m hm=>by simp at hm;subst hm;exact maskS_lt,fun i m hi e=>by have:=(List.getElem?_eq_some_iff.mp e).1;simp at this;exact zq25 hi this,fun i m hi e=>by have:=(List.getElem?_eq_some_iff.mp e).1;simp at this;omega⟩
 let MR1:MS→Prop:=fun σ=>E2 fun order rows=>A4 (DS N lv a o d r3 r4 r5 order rows σ) (Ord N order) (rows.length=order.length) (rowsOk N order rows)
 let W911:Nat→MS→Prop:=fun k σ=>E2 fun order rows=>A5 (k=256 - rows.length) (DS N lv a o d r3 r4 r5 order rows σ) (Ord N order) (rows.length≤order.length) (rowsOk N order rows)
 refine B_midG hΓ MR1 (S_while hΓ W911 256 ⟨_,[],rfl,D0,O0,by simp,fun i row m h=>by simp at h⟩ ?_) ?_
 ·rintro k σ ⟨order,rows,rfl,X,O,hlen,hro⟩
  have o256:=O.len W
  have lo:(vN order).length≤lim:=by simp only [vN,List.length_map,lim_eq];exact zk0 o256 rfl
  have lr:(vRows rows).length≤lim:=by simp only [vRows,List.length_map,lim_eq];exact zk3 hlen o256 rfl
  have s3:∀ {σ:MS} {order},σ.lv r3=some (.list (vN order))→seqOf σ (.ref r3)=some (vN order):=fun h=>list_of h
  have s5:∀ {σ:MS} {rows},σ.lv r5=some (.list (vRows rows))→seqOf σ (.ref r5)=some (vRows rows):=fun h=>list_of h
  refine ⟨_,X.l5,_,s5 X.h5,lr,_,X.l3,_,s3 X.h3,lo,_,_,rfl,rfl,fun ht => ?_,fun ht => ?_⟩
  ·have hlt:rows.length<order.length:=by
    have:=of_decide_eq_true ht
    simp only [vN,vRows,List.length_map] at this;exact Int.ofNat_lt.mp this
   obtain ⟨m,hm⟩:∃ m,order[rows.length]?=some m:=⟨_,List.getElem?_eq_getElem hlt⟩
   refine B_cons hΓ ?_
   refine ⟨_,X.l2,o,222,subFs a d,205,rfl,X.obj,rfl,mt_ways,_,X.l3,_,X.l5,_,s5 X.h5,lr,_,rfl,.inl ⟨_,.int m,s3 X.h3,lo,?_,?_⟩⟩
   ·simp only [vRows,List.length_map]
    exact at_nat (by rw [List.getElem?_map,hm];rfl)
   refine use h3 ?_
   refine ⟨o,d,a,N,m,rfl,X.sub hN1 hN2,W,O.lt m (List.mem_of_getElem? hm),fun ws lv3 hws X3 K3 => ?_⟩
   have Y:=X.call P X3 K3 (loc:=setV σ.loc 6 (.lst (vMv ws))) (by simp [setV,X.l1]) (by simp [setV,X.l2]) (by simp [setV,X.l3]) (by simp [setV,X.l4]) (by simp [setV,X.l5])
   refine B_cons hΓ ?_
   refine ⟨by decide,fun f hf => ?_⟩
   replace hf:lv3 f=none:=hf
   have f3:f≠r3:=Ne.symm (ne_of Y.h3 hf)
   have f4:f≠r4:=Ne.symm (ne_of Y.h4 hf)
   have f5:f≠r5:=Ne.symm (ne_of Y.h5 hf)
   have fo:f≠o:=Ne.symm (ne_of Y.obj hf)
   have fd:f≠d:=by obtain ⟨ks,_,_,q⟩:=Y.kept;exact Ne.symm (ne_of q hf)
   have hfl:lv f=none:=by
    cases q:lv f with
    | none=>rfl
    | some x=>have:=(Y.base f x q).2.2.2.2;rw [show (⟨setV σ.loc 6 (.lst (vMv ws)),lv3⟩:MS).lv f=lv3 f from rfl,hf] at this;cases this
   let R7:List Nat→List Int→MS→Prop:=fun order row σ=>A7 (DS N lv a o d r3 r4 r5 order rows σ) (Ord N order) (order[rows.length]?=some m) (rowsOk N order rows) (σ.loc 6=some (.lst (vMv ws))) (σ.loc 7=some (.ref f)) (σ.lv f=some (.list (vI row)))
   let MR2:MS→Prop:=fun σ=>E2 fun order row=>R7 order row σ∧rowOk N order m 3 row
   refine B_midG hΓ MR2 (S_forM hΓ ?_) ?_
   ·let J3:List Nat→MS→Prop:=fun d' σ=>Mine.E2 fun order row=>(R7 order row σ)∧(rowOk N order m d'.length row)
    refine ⟨.int 3,by simp [setV,X.l1],_,List.range 3,rng_items (σ:=_) 3,rng_ok (n:=3) (by decide),J3,?_,?_,?_⟩
    ·refine ⟨order,[],⟨Y.other hfl f3 f4 f5 fo fd _ (by simp [setV,X.l1]) (by simp [setV,X.l2]) (by simp [setV,X.l3]) (by simp [setV,X.l4]) (by simp [setV,X.l5]),O,hm,hro,rfl,rfl,updL_self ..⟩,rfl,fun k hk=>by simp at hk⟩
    ·rintro d' k r' τ hdr ⟨order,row,⟨Z,O,hm,hro,g6,g7,lf⟩,hrow⟩
     obtain ⟨hkd,hk3,_⟩:=range_split hdr
     rw [←hkd] at hrow
     have o256:=O.len W
     have lo:(vN order).length≤lim:=by simp only [vN,List.length_map,lim_eq];exact zk0 o256 rfl
     refine ⟨rng_items (σ:=_) 3,_,rfl,B_cons hΓ ?_⟩
     refine ⟨_,Z.l2,o,222,subFs a d,212,rfl,Z.obj,rfl,mt_after,_,g6,.int k,rfl,?_⟩
     refine use h4 ?_
     refine ⟨.ref o,_,ws,k,rfl,.inr rfl,fun c hc => ?_⟩
     have hcn:=after_is W hws hc
     subst hcn
     have hrl:row.length=k:=hrow.1
     have put:∀ {order:List Nat} {φ:MS} {v:Int},R7 order row φ→rowOk N order m k row→nextOk N order m k v→∀ {loc:Loc},(∀ i,i≤7→loc i=φ.loc i)→J3 (d'++[k]) ⟨loc,updL φ.lv f (some (.list (vI row++[.int v])))⟩:=fun {order φ v} ⟨Z,O,hm,hro,g6,g7,lf⟩ hrow hv {loc} hl =>
      ⟨order,row++[v],⟨Z.other hfl f3 f4 f5 fo fd _ ((hl 1 (by decide)).trans Z.l1) ((hl 2 (by decide)).trans Z.l2) ((hl 3 (by decide)).trans Z.l3) ((hl 4 (by decide)).trans Z.l4) ((hl 5 (by decide)).trans Z.l5),O,hm,hro,(hl 6 (by decide)).trans g6,(hl 7 (by decide)).trans g7,by show updL _ _ _ _=_;rw [updL_self];simp [vI]⟩,by rw [List.length_append,List.length_singleton,←hkd];exact hrow.snoc hv⟩
     let φ0:MS:=⟨setV (setV τ.loc 8 (.int k)) 9 (.int (nxt N m k)),τ.lv⟩
     have lo7:∀ i,i≤7→φ0.loc i=τ.loc i:=fun i hi=>by
      show setV (setV τ.loc 8 _) 9 _ i=_
      rw [setV_ne _ _ (by exact zq26 hi),setV_ne _ _ (by exact zq27 hi)]
     have Zφ:R7 order row φ0:=⟨Z.locs ((lo7 1 (by decide)).trans Z.l1) ((lo7 2 (by decide)).trans Z.l2) ((lo7 3 (by decide)).trans Z.l3) ((lo7 4 (by decide)).trans Z.l4) ((lo7 5 (by decide)).trans Z.l5),O,hm,hro,(lo7 6 (by decide)).trans g6,(lo7 7 (by decide)).trans g7,lf⟩
     have lrow:(vI row).length<lim:=by simp only [vI,List.length_map,lim_eq];exact zk7 hrl hk3 rfl
     refine B_cons hΓ ?_
     refine ⟨.int (nxt N m k),rfl,trivial,trivial,fun hz => ?_,fun hz => ?_⟩
     ·have hz:nxt N m k=0:=by
       have:=of_decide_eq_true hz
       simp only [V.int.injEq] at this;exact Int.ofNat_eq_zero.mp this
      refine B_cons hΓ ?_
      refine ⟨.ref f,Zφ.6,⟨_,_,rfl,lf⟩,f,_,rfl,lf,lrow,rfl,B_cons hΓ ?_⟩
      exact put Zφ hrow (.inl ⟨hz,rfl⟩) (fun i _=>rfl)
     ·have hz:nxt N m k≠0:=fun q=>by
       have:=of_decide_eq_false hz
       rw [q] at this;exact this rfl
      have fin':∀ {Q':Fl→MS→Prop} (φ:MS) (order:List Nat),(∀ σ1,J3 (d'++[k]) σ1→Q' .next σ1)→R7 order row φ→rowOk N order m k row→φ.loc 9=some (.int (nxt N m k))→nxt N m k∈order →
        denB I0 Γ (.cons (.expr (.lmeth (.loc 7) .append (.cons (.sub (.loc 4) (.loc 9)) .nil))) .nil) φ Q':=fun {Q'} φ order kk Zφ hrow g9 hmem=>by
       obtain ⟨Z,O,hm,hro,g6,g7,lf⟩:=id Zφ
       obtain ⟨j,hj⟩:=List.mem_iff_getElem?.mp hmem
       refine B_cons hΓ ?_
       refine ⟨.ref f,g7,⟨_,_,rfl,lf⟩,_,Z.l4,_,g9,nxt N m k,rfl,.inr ⟨placesD order,.int j,dict_of Z.h4,placesD_get O.nd hj,f,_,rfl,lf,lrow,rfl,?_⟩⟩
       exact kk _ (put Zφ hrow (.inr ⟨hz,j,rfl,hj⟩) (fun i _=>rfl))
      refine B_cons hΓ ?_
      refine ⟨.int (nxt N m k),rfl,.ref r4,Zφ.1.l4,.inr ⟨nxt N m k,placesD order,rfl,dict_of Zφ.1.h4,fun hb => ?_,fun hb => ?_⟩⟩
      ·have hnm:nxt N m k∉order:=fun q=>by rw [placesD_keys] at hb;simp [mem_castL,q] at hb
       refine B_cons hΓ ?_
       refine ⟨_,Zφ.1.l3,_,s3 Zφ.1.h3,lo,.ref r4,Zφ.1.l4,.int (nxt N m k),rfl,r4,nxt N m k,rfl,rfl,.inr ⟨placesD order,Zφ.1.h4,by simp only [List.length_mapIdx,lim_eq];exact zk2 o256 rfl,?_⟩⟩
       rw [show (((vN order).length:Nat):Int)=order.length by simp [vN],placesD_new hnm]
       refine B_cons hΓ ?_
       have h3':updL τ.lv r4 (some (.dict (placesD (order++[nxt N m k])))) r3=some (.list (vN order)):=(updL_ne _ _ P.a34).trans Z.h3
       refine ⟨.ref r3,Zφ.1.l3,⟨_,_,rfl,h3'⟩,.int (nxt N m k),rfl,r3,_,rfl,h3',by simp only [vN,List.length_map,lim_eq];exact zk2 o256 rfl,rfl,?_⟩
       refine fin' _ (order++[nxt N m k]) (fun σ1 h=>h) ⟨⟨Zφ.1.l1,Zφ.1.l2,Zφ.1.l3,Zφ.1.l4,Zφ.1.l5,?_,?_,?_,?_,?_,fun b x e => ?_⟩,O.snoc hm hk3 hnm hz,get_app hm,?_,Zφ.5,Zφ.6,?_⟩ hrow.app rfl (by simp)
       ·show updL _ _ _ _=_;rw [updL_self];simp [vN]
       ·show updL _ _ _ _=_;rw [updL_ne _ _ (Ne.symm P.a34)];exact updL_self ..
       ·show updL _ _ _ _=_;rw [updL_ne _ _ (Ne.symm P.a35)];show updL _ _ _ _=_;rw [updL_ne _ _ (Ne.symm P.a45)];exact Z.h5
       ·have o3:o≠r3:=fun q=>by have:=Z.obj;rw [q,Z.h3] at this;cases this
        have o4:o≠r4:=fun q=>by have:=Z.obj;rw [q,Z.h4] at this;cases this
        show updL _ _ _ _=_;rw [updL_ne _ _ o3];show updL _ _ _ _=_;rw [updL_ne _ _ o4];exact Z.obj
       ·obtain ⟨ks,q1,q2,q3⟩:=Z.kept
        refine ⟨ks,q1,q2,?_⟩
        show updL _ _ _ _=_;rw [updL_ne _ _ (Ne.symm P.d3)];show updL _ _ _ _=_;rw [updL_ne _ _ (Ne.symm P.d4)];exact q3
       ·obtain ⟨b3,b4,b5,bd,hb⟩:=Z.base b x e
        refine ⟨b3,b4,b5,bd,?_⟩
        show updL _ _ _ _=_;rw [updL_ne _ _ b3];show updL _ _ _ _=_;rw [updL_ne _ _ b4];exact hb
       ·intro i rw' m' h1 h2
        have hi:i<order.length:=by
         have:=(List.getElem?_eq_some_iff.mp h1).1
         have:=(List.getElem?_eq_some_iff.mp hm).1
         exact Nat.lt_of_lt_of_le ‹(_:Nat)<_› (Nat.le_of_lt this)
        replace h2:=(List.getElem?_append_left hi).symm.trans h2
        exact (hro i rw' m' h1 h2).app
       ·show updL _ _ _ _=_;rw [updL_ne _ _ f3];show updL _ _ _ _=_;rw [updL_ne _ _ f4];exact lf
      ·have hyes:nxt N m k∈order:=by
        rw [placesD_keys] at hb
        apply Classical.byContradiction
        intro q;simp [mem_castL,q] at hb
       exact (fin' _ order (fun σ1 h=>h) Zφ hrow rfl hyes)
    ·rintro τ ⟨order,row,hR,hrow⟩
     rw [List.length_range] at hrow
     exact ⟨rng_items (σ:=_) 3,by trivial,order,row,hR,hrow⟩
   ·rintro τ ⟨order,row,⟨Z,O,hm,hro,g6,g7,lf⟩,hrow⟩
    refine ⟨_,Gh.lst (i:=7) g7 lf,B_cons hΓ ?_⟩
    have Z':=Z.other hfl f3 f4 f5 fo fd none (loc:=setV τ.loc 7 (.lst (vI row))) (by simp [setV,Z.l1]) (by simp [setV,Z.l2]) (by simp [setV,Z.l3]) (by simp [setV,Z.l4]) (by simp [setV,Z.l5])
    have o256:=O.len W
    have hlt:rows.length<order.length:=(List.getElem?_eq_some_iff.mp hm).1
    refine ⟨.ref r5,Z'.l5,⟨_,_,rfl,Z'.h5⟩,.lst (vI row),by simp [setV],r5,_,rfl,Z'.h5,by simp only [vRows,List.length_map,lim_eq];exact zk8 ‹(_:Nat)<_› ‹(_:Nat)≤256› rfl,rfl,?_⟩
    refine ⟨256 - (rows.length+1),by exact zh99 ‹(_:Nat)<_› ‹(_:Nat)≤256›,order,rows++[row],by simp,⟨Z'.l1,Z'.l2,Z'.l3,Z'.l4,Z'.l5,?_,?_,?_,?_,?_,fun b x e => ?_⟩,O,by simp;exact Nat.succ_le_of_lt hlt,?_⟩
    ·show updL _ _ _ _=_;rw [updL_ne _ _ P.a35];exact Z'.h3
    ·show updL _ _ _ _=_;rw [updL_ne _ _ P.a45];exact Z'.h4
    ·show updL _ _ _ _=_;rw [updL_self];simp [vRows]
    ·have o5:o≠r5:=fun q=>by have:=Z'.obj;rw [q,Z'.h5] at this;cases this
     show updL _ _ _ _=_;rw [updL_ne _ _ o5];exact Z'.obj
    ·obtain ⟨ks,q1,q2,q3⟩:=Z'.kept
     exact ⟨ks,q1,q2,by show updL _ _ _ _=_;rw [updL_ne _ _ (Ne.symm P.d5)];exact q3⟩
    ·obtain ⟨b3,b4,b5,bd,hb⟩:=Z'.base b x e
     exact ⟨b3,b4,b5,bd,by show updL _ _ _ _=_;rw [updL_ne _ _ b5];exact hb⟩
    ·intro i rw' m' h1 h2
     rcases Nat.lt_or_ge i rows.length with q | q
     ·replace h1:=(List.getElem?_append_left q).symm.trans h1;exact hro i rw' m' h1 h2
     ·replace h1:=(List.getElem?_append_right q).symm.trans h1
      have:=(List.getElem?_eq_some_iff.mp h1).1
      simp at this
      have hi:i=rows.length:=by exact zh100 this q
      subst hi
      simp at h1;subst h1
      replace h2:=hm.symm.trans h2;cases h2
      exact hrow
  ·have hge:¬ rows.length<order.length:=by
    have:=of_decide_eq_false ht
    simp only [vN,vRows,List.length_map] at this;exact zq28 this
   exact ⟨by trivial,order,rows,X,O,by exact zh36 hlen hge,hro⟩
 ·rintro σ ⟨order,rows,X,O,hlen,hro⟩
  have o256:=O.len W
  refine ⟨_,Gh.lst (i:=5) X.l5 X.h5,B_cons hΓ ?_⟩
  refine ⟨.lst (vRows rows),by simp [setV],?_⟩
  have l3:updL σ.lv r5 none r3=some (.list (vN order)):=(updL_ne _ _ P.a35).trans X.h3
  have keep:∀ b x,lv b=some x→updL σ.lv r5 none b=some x:=fun b x e=>by
   obtain ⟨b3,b4,b5,bd,h⟩:=X.base b x e
   exact (updL_ne _ _ b5).trans h
  have o5:o≠r5:=fun q=>by have:=X.obj;rw [q,X.h5] at this;cases this
  have SX:SubAt (updL σ.lv r5 none) o d a N:=by
   obtain ⟨ks,q1,q2,q3⟩:=X.kept
   exact ⟨(updL_ne _ _ o5).trans X.obj,⟨ks,q1,q2,(updL_ne _ _ (Ne.symm P.d5)).trans q3⟩,d0,(X.base _ _ hN2).2.2.2.1,keep _ _ hN1,keep _ _ hN2⟩
  refine E_compM hΓ (E_loc (v:= .ref r3) (by simp [setV,X.l3]) ?_)
  have it:∀ {φ:MS},φ.lv=updL σ.lv r5 none→Mine.gOf false φ (.ref r3)=some (vN order):=fun {φ} e=>list_of (σ:=φ) (by rw [e];exact l3)
  let J4:List Nat→List V→MS→Prop:=fun d' acc φ=>A3 (acc=vTags (d'.map fun m=>setL 8 (tagS N (bitS m)))) (φ.loc 2=some (.ref o)) (φ.lv=updL σ.lv r5 none)
  refine ⟨_,order,it rfl,trivial,by simp only [vN,List.length_map,lim_eq];exact zk0 o256 rfl,J4,?_,?_,?_⟩
  ·refine ⟨rfl,?_,rfl⟩
   show (frLoc [(2,2)] (setV σ.loc 5 (.lst (vRows rows)))) 2=_
   simp [frLoc,setV,X.l2]
  ·rintro d' m r' acc φ hdr ⟨rfl,k2,klv⟩
   refine ⟨it klv,_,rfl,?_⟩
   refine ⟨fun _=>⟨_,k2,o,222,subFs a d,219,rfl,by rw [klv];exact SX.obj,rfl,mt_stags,.int m,rfl,?_⟩,fun h=>by cases h⟩
   show Γ (.ref 219) _ φ.lv _
   rw [h5,klv]
   exact ⟨o,d,a,N,m,rfl,SX,W,O.lt m (by rw [←hdr];simp),by simp [vTags],k2,rfl⟩
  ·rintro acc φ ⟨rfl,k2,klv⟩
   refine ⟨it klv,?_⟩
   show Γ (.ref 276) _ φ.lv _
   rw [h6,klv]
   refine ⟨_,_,rfl,fun x hx=>⟨.ref x,⟨fun _=>none,_⟩,GhV.here fun _ _ e=>e,?_⟩⟩
   refine hQ order rows x _ O hlen hro (updL_self ..) fun b y e => ?_
   have:=keep b y e
   show updL _ x _ b=_
   exact (updL_ne _ _ (ne_of this hx)).trans this
end Mine
namespace Mine
variable {Γ:Value→PC}
open Classical in
theorem Gh.frzRows {c:Addr} {loc:Loc}:∀ (as:List Addr) (ls:List (List V)) (pre:List V) {lv:LM},as.length=ls.length→lv c=some (.list (pre++as.map V.ref))→(∀ (i:Nat) (a:Addr) l,as[i]?=some a→ls[i]?=some l→lv a=some (.list l))→as.Nodup→c∉as →
  (∀ l∈ls,∀ a,V.noRefL a l=true)→(∀ a,V.noRefL a pre=true)→Gh ⟨loc,lv⟩ ⟨loc,fun b=>if b=c then some (.list (pre++ls.map V.lst)) else if b∈as then none else lv b⟩
 | [],ls,pre,lv,e,hc,h,nd,hn,hl,hp=>by
  have:ls=[]:=List.length_eq_zero_iff.mp e.symm
  subst this
  refine Gh.weak (fun i v e=>e) fun b x q => ?_
  have q:(if b=c then some (MO.list (pre++[])) else if b∈([]:List Addr) then none else lv b)=some x:=q
  by_cases r:b=c
  ·replace q:=(if_pos r).symm.trans q;rw [r];rw [←q];simpa using hc
  ·rw [if_neg r] at q;simpa using q
 | a::as,[],pre,lv,e,hc,h,nd,hn,hl,hp=>by cases e
 | a::as,l::ls,pre,lv,e,hc,h,nd,hn,hl,hp=>by
  rw [List.nodup_cons] at nd
  simp only [List.mem_cons,not_or] at hn
  have ha:lv a=some (.list l):=h 0 a l rfl rfl
  have e1:V.frzL a l (pre++(a::as).map V.ref)=pre++[.lst l]++as.map V.ref:=by
   rw [V.frzL_append,V.frzL_noRef (hp a),List.map_cons]
   show pre++(V.frz a l (.ref a)::V.frzL a l (as.map V.ref))=_
   rw [V.frzL_refs nd.1]
   show pre++((if a=a then V.lst l else V.ref a)::_)=_
   rw [if_pos rfl];simp
  let lv1:LM:=fun b=>if b=a then none else if b=c then some (.list (pre++[.lst l]++as.map V.ref)) else lv b
  have Z:Frz a l ⟨loc,lv⟩ ⟨loc,lv1⟩:=⟨fun i v' e=>⟨v',e,.inl rfl⟩,fun b x' e=>by
   have e:(if b=a then none else if b=c then some (MO.list (pre++[.lst l]++as.map V.ref)) else lv b)=some x':=e
   by_cases q:b=a
   ·replace e:=(if_pos q).symm.trans e;cases e
   ·replace e:=(if_neg q).symm.trans e
    refine ⟨q,?_⟩
    by_cases r:b=c
    ·replace e:=(if_pos r).symm.trans e;cases e
     subst r
     refine ⟨_,hc,.inr ?_⟩
     show _=MO.list (V.frzL a l _)
     rw [e1]
    ·replace e:=(if_neg r).symm.trans e;exact ⟨x',e,.inl rfl⟩⟩
  have g1:Gh ⟨loc,lv⟩ ⟨loc,lv1⟩:=Gh.frz ha Z
  have g2:=Gh.frzRows (c:=c) (loc:=loc) as ls (pre++[.lst l]) (lv:=lv1) (by simpa using e) (by
   show (if c=a then none else if c=c then _ else _)=_
   rw [if_neg hn.1,if_pos rfl]) (fun i b l' q1 q2=>by
   have hb:b≠a:=fun q=>nd.1 (q▸List.mem_of_getElem? q1)
   have hbc:b≠c:=fun q=>hn.2 (q▸List.mem_of_getElem? q1)
   show (if b=a then none else if b=c then _ else lv b)=_
   rw [if_neg hb,if_neg hbc]
   exact h (i+1) b l' q1 q2) nd.2 hn.2 (fun l' hl'=>hl l' (List.mem_cons_of_mem _ hl')) (fun b=>by
    rw [V.noRefL_append,hp b,Bool.true_and]
    show (V.noRefL b l && true)=true
    rw [hl l List.mem_cons_self b];rfl)
  refine g1.trans ?_
  have e3:(fun b=>if b=c then some (MO.list (pre++[V.lst l]++ls.map V.lst)) else if b∈as then none else lv1 b)=fun b=>if b=c then some (MO.list (pre++(l::ls).map V.lst)) else if b∈a::as then none else lv b:=by
   funext b
   by_cases r:b=c
   ·rw [if_pos r,if_pos r];simp
   ·rw [if_neg r,if_neg r]
    by_cases q:b∈as
    ·rw [if_pos q,if_pos (List.mem_cons_of_mem _ q)]
    ·rw [if_neg q]
     show (if b=a then none else if b=c then _ else lv b)=_
     by_cases s:b=a
     ·rw [if_pos s,if_pos (by rw [s];exact List.mem_cons_self)]
     ·rw [if_neg s,if_neg r,if_neg (by simp [s,q])]
  rw [e3] at g2
  exact g2
open Classical in
theorem NfaM.freeze {F:NfP} {N:Nf} {σ:MS} (X:NfaM σ.lv F N):∃ lv',Gh σ ⟨σ.loc,lv'⟩∧NfaAt lv' F.a N∧∀ b x,b∉F.all→σ.lv b=some x→lv' b=some x:=by
 obtain ⟨loc,lv⟩:=σ
 have A:=apart.mp X.nd
 have X:NfaM lv F N:=X
 let lv1:LM:=fun b=>if b=F.mo then some (.list ([]++(N.moves.map vMv).map V.lst)) else if b∈F.ms then none else lv b
 have g1:Gh ⟨loc,lv⟩ ⟨loc,lv1⟩:=Gh.frzRows F.ms (N.moves.map vMv) [] (by rw [List.length_map];exact X.lm) X.om (fun i a l h1 h2=>by
  replace h2:=(List.getElem?_map).symm.trans h2
  obtain ⟨m,h3,rfl⟩:=Option.map_eq_some_iff.mp h2
  exact X.cm i a m h1 h3) A.msn A.m2 (fun l hl a=>by obtain ⟨m,_,rfl⟩:=List.mem_map.mp hl;exact noRef_vMv m a) (fun _=>rfl)
 have k1:∀ b,b≠F.mo→b∉F.ms→lv1 b=lv b:=fun b h1 h2=>by
  show (if b=F.mo then _ else if b∈F.ms then none else lv b)=_
  rw [if_neg h1,if_neg h2]
 have v1:lv1 F.mo=some (.list ((N.moves.map vMv).map V.lst)):=by
  show (if F.mo=F.mo then some (MO.list ([]++(N.moves.map vMv).map V.lst)) else _)=_
  rw [if_pos rfl,List.nil_append]
 let lv2:LM:=fun b=>if b=F.ho then some (.list ([]++(N.hops.map vN).map V.lst)) else if b∈F.hs then none else lv1 b
 have g2:Gh ⟨loc,lv1⟩ ⟨loc,lv2⟩:=Gh.frzRows F.hs (N.hops.map vN) [] (by rw [List.length_map];exact X.lh) (by rw [k1 _ (Ne.symm A.h4) A.m3];exact X.oh) (fun i a l h1 h2=>by
  replace h2:=(List.getElem?_map).symm.trans h2
  obtain ⟨m,h3,rfl⟩:=Option.map_eq_some_iff.mp h2
  have ha:=List.mem_of_getElem? h1
  rw [k1 a (fun q=>A.n2 (q▸ha)) (fun q=>A.mh a q ha)]
  exact X.ch i a m h1 h3) A.hsn A.n3 (fun l hl a=>by obtain ⟨m,_,rfl⟩:=List.mem_map.mp hl;exact noRef_vN m a) (fun _=>rfl)
 have k2:∀ b,b≠F.ho→b∉F.hs→lv2 b=lv1 b:=fun b h1 h2=>by
  show (if b=F.ho then _ else if b∈F.hs then none else lv1 b)=_
  rw [if_neg h1,if_neg h2]
 have v2:lv2 F.ho=some (.list ((N.hops.map vN).map V.lst)):=by
  show (if F.ho=F.ho then some (MO.list ([]++(N.hops.map vN).map V.lst)) else _)=_
  rw [if_pos rfl,List.nil_append]
 have a2:lv2 F.a=some (.inst 92 (mFs F N.first)):=(k2 _ A.h2 A.n1).trans ((k1 _ A.h1 A.m1).trans X.oa)
 have m2:lv2 F.mo=some (.list ((N.moves.map vMv).map V.lst)):=(k2 _ A.h4 A.n2).trans v1
 let fs3:List (Str×V):=[("moves",vMoves N.moves),("hops",.ref F.ho),("tags",.ref F.d),("first",.int N.first)]
 let lv3:LM:=fun b=>if b=F.mo then none else if b=F.a then some (.inst 92 fs3) else lv2 b
 have mm:((N.moves.map vMv).map V.lst)=N.moves.map fun x=> .lst (vMv x):=by simp
 have hh:((N.hops.map vN).map V.lst)=N.hops.map fun x=> .lst (vN x):=by simp
 have g3:Gh ⟨loc,lv2⟩ ⟨loc,lv3⟩:=Gh.frz m2 ⟨fun i v' e=>⟨v',e,.inl rfl⟩,fun b x' e=>by
  have e:(if b=F.mo then none else if b=F.a then some (MO.inst 92 fs3) else lv2 b)=some x':=e
  by_cases q:b=F.mo
  ·replace e:=(if_pos q).symm.trans e;cases e
  ·replace e:=(if_neg q).symm.trans e
   refine ⟨q,?_⟩
   by_cases r:b=F.a
   ·replace e:=(if_pos r).symm.trans e;cases e
    rw [r]
    refine ⟨_,a2,.inr ?_⟩
    show MO.inst 92 fs3=MO.inst 92 [("moves",if F.mo=F.mo then V.lst _ else V.ref F.mo),("hops",if F.ho=F.mo then V.lst _ else V.ref F.ho),("tags",if F.d=F.mo then V.lst _ else V.ref F.d),("first",V.int N.first)]
    rw [if_pos rfl,if_neg (Ne.symm A.h4),if_neg (Ne.symm A.h5),mm]
   ·replace e:=(if_neg r).symm.trans e;exact ⟨x',e,.inl rfl⟩⟩
 have k3:∀ b,b≠F.mo→b≠F.a→lv3 b=lv2 b:=fun b h1 h2=>by
  show (if b=F.mo then none else if b=F.a then _ else lv2 b)=_
  rw [if_neg h1,if_neg h2]
 have a3:lv3 F.a=some (.inst 92 fs3):=by
  show (if F.a=F.mo then none else if F.a=F.a then _ else lv2 F.a)=_
  rw [if_neg A.h1,if_pos rfl]
 have h3:lv3 F.ho=some (.list ((N.hops.map vN).map V.lst)):=(k3 _ (Ne.symm A.h4) (Ne.symm A.h2)).trans v2
 let lv4:LM:=fun b=>if b=F.ho then none else if b=F.a then some (nfObj N F.d) else lv3 b
 have nr:∀ (l:List (List (Nat×Nat))) a,V.noRefL a (l.map fun x=>V.lst (vMv x))=true:=fun l a=>by
  induction l with
  | nil=>rfl
  | cons x r ih=>show (V.noRefL a (vMv x) && V.noRefL a _)=true;rw [ih,noRef_vMv];rfl
 have g4:Gh ⟨loc,lv3⟩ ⟨loc,lv4⟩:=Gh.frz h3 ⟨fun i v' e=>⟨v',e,.inl rfl⟩,fun b x' e=>by
  have e:(if b=F.ho then none else if b=F.a then some (nfObj N F.d) else lv3 b)=some x':=e
  by_cases q:b=F.ho
  ·replace e:=(if_pos q).symm.trans e;cases e
  ·replace e:=(if_neg q).symm.trans e
   refine ⟨q,?_⟩
   by_cases r:b=F.a
   ·replace e:=(if_pos r).symm.trans e;cases e
    rw [r]
    refine ⟨_,a3,.inr ?_⟩
    have e5:V.frz F.ho ((N.hops.map vN).map V.lst) (vMoves N.moves)=vMoves N.moves:=V.frz_noRef (show V.noRefL F.ho _=true from nr N.moves F.ho)
    show nfObj N F.d=MO.inst 92 [("moves",V.frz F.ho ((N.hops.map vN).map V.lst) (vMoves N.moves)),("hops",if F.ho=F.ho then V.lst _ else V.ref F.ho),("tags",if F.d=F.ho then V.lst _ else V.ref F.d),("first",V.int N.first)]
    rw [if_pos rfl,if_neg (Ne.symm A.h6),e5,hh]
   ·replace e:=(if_neg r).symm.trans e;exact ⟨x',e,.inl rfl⟩⟩
 have k4:∀ b,b≠F.ho→b≠F.a→lv4 b=lv3 b:=fun b h1 h2=>by
  show (if b=F.ho then none else if b=F.a then _ else lv3 b)=_
  rw [if_neg h1,if_neg h2]
 refine ⟨lv4,g1.trans (g2.trans (g3.trans g4)),⟨F.d,?_,?_⟩,fun b x hb e => ?_⟩
 ·show (if F.a=F.ho then none else if F.a=F.a then _ else lv3 F.a)=_
  rw [if_neg A.h2,if_pos rfl]
 ·exact (k4 _ (Ne.symm A.h6) (Ne.symm A.h3)).trans ((k3 _ (Ne.symm A.h5) (Ne.symm A.h3)).trans ((k2 _ (Ne.symm A.h6) A.n4).trans ((k1 _ (Ne.symm A.h5) A.m4).trans X.od)))
 ·have ⟨b1,b2,b3,b4,b5,b6⟩:=not_all hb
  exact (k4 _ b3 b1).trans ((k3 _ b2 b1).trans ((k2 _ b3 b6).trans ((k1 _ b2 b5).trans e)))
theorem get_modify {α:Type} {l:List α} {s i:Nat} {f:α→α} {x:α}:(l.modify s f)[i]?=some x↔(i=s∧∃ y,l[s]?=some y∧x=f y)∨(i≠s∧l[i]?=some x):=by
 rw [List.getElem?_modify]
 by_cases q:s=i
 ·subst q
  simp only [if_pos]
  constructor
  ·intro h
   obtain ⟨y,h1,h2⟩:=Option.map_eq_some_iff.mp h
   exact .inl ⟨trivial,y,h1,h2.symm⟩
  ·rintro (⟨_,y,h1,rfl⟩ | ⟨h,_⟩)
   ·rw [h1];rfl
   ·exact absurd rfl h
 ·simp only [if_neg q]
  constructor
  ·intro h;exact .inr ⟨fun e=>q e.symm,by simpa using h⟩
  ·rintro (⟨h,_⟩ | ⟨_,h⟩)
   ·exact absurd h.symm q
   ·simpa using h
theorem mvA_addM {N:Nf} {s m g:Nat} (hs:s<N.moves.length) (hm:m≠0) (p m' g':Nat):mvA (addM N s m g) p m' g'↔mvA N p m' g'∨(p=s∧m'=m∧g'=g):=by
 unfold addM mvA
 rw [if_neg hm]
 constructor
 ·rintro ⟨l,h1,h2⟩
  rcases get_modify.mp h1 with ⟨rfl,y,h3,rfl⟩ | ⟨_,h3⟩
  ·rcases List.mem_append.mp h2 with q | q
   ·exact .inl ⟨y,h3,q⟩
   ·simp at q;exact .inr ⟨rfl,q.1,q.2⟩
  ·exact .inl ⟨l,h3,h2⟩
 ·rintro (⟨l,h1,h2⟩ | ⟨rfl,rfl,rfl⟩)
  ·by_cases q:p=s
   ·subst q
    exact ⟨l++[(m,g)],get_modify.mpr (.inl ⟨rfl,l,h1,rfl⟩),List.mem_append_left _ h2⟩
   ·exact ⟨l,get_modify.mpr (.inr ⟨q,h1⟩),h2⟩
  ·exact ⟨_,get_modify.mpr (.inl ⟨rfl,_,List.getElem?_eq_getElem hs,rfl⟩),by simp⟩
theorem addM_moves_len {N:Nf} {s m g:Nat}:(addM N s m g).moves.length=N.moves.length:=by
 unfold addM;split
 ·rfl
 ·simp
theorem addM_hops {N:Nf} {s m g:Nat}:(addM N s m g).hops=N.hops:=by unfold addM;split<;>rfl
theorem addM_tags {N:Nf} {s m g:Nat}:(addM N s m g).tags=N.tags:=by unfold addM;split<;>rfl
theorem addM_rows {N:Nf} {s m g c:Nat} (h:∀ l∈N.moves,l.length≤c):∀ l∈(addM N s m g).moves,l.length≤c+1:=by
 unfold addM;split
 ·exact fun l hl=>Nat.le_succ_of_le (h l hl)
 ·intro l hl
  obtain ⟨i,hi⟩:=List.mem_iff_getElem?.mp hl
  rcases get_modify.mp hi with ⟨rfl,y,h3,rfl⟩ | ⟨_,h3⟩
  ·have:=h y (List.mem_of_getElem? h3);simp;exact this
  ·exact Nat.le_succ_of_le (h l (List.mem_of_getElem? h3))
theorem hopR_of_hops {N N':Nf} (h:N'.hops=N.hops) (p g:Nat):hopR N' p g↔hopR N p g:=by unfold hopR;rw [h]
theorem mvA_of_moves {N N':Nf} (h:N'.moves=N.moves) (p m g:Nat):mvA N' p m g↔mvA N p m g:=by unfold mvA;rw [h]
theorem hopR_addH {N:Nf} {s g:Nat} (hs:s<N.hops.length) (p g':Nat):hopR (addH N s g) p g'↔hopR N p g'∨(p=s∧g'=g):=by
 unfold addH
 split
 ·rename_i h
  exact ⟨.inl,fun q=>q.elim id fun ⟨e1,e2⟩=>by rw [e1,e2];exact h⟩
 ·rename_i h
  constructor
  ·rintro ⟨l,h1,h2⟩
   rcases get_modify.mp h1 with ⟨rfl,y,h3,rfl⟩ | ⟨_,h3⟩
   ·rcases List.mem_append.mp h2 with q | q
    ·exact .inl ⟨y,h3,q⟩
    ·exact .inr ⟨rfl,List.mem_singleton.mp q⟩
   ·exact .inl ⟨l,h3,h2⟩
  ·rintro (⟨l,h1,h2⟩ | ⟨rfl,rfl⟩)
   ·by_cases q:p=s
    ·subst q
     exact ⟨l++[g],get_modify.mpr (.inl ⟨rfl,l,h1,rfl⟩),List.mem_append_left _ h2⟩
    ·exact ⟨l,get_modify.mpr (.inr ⟨q,h1⟩),h2⟩
   ·exact ⟨_,get_modify.mpr (.inl ⟨rfl,_,List.getElem?_eq_getElem hs,rfl⟩),by simp⟩
theorem addH_hops_len {N:Nf} {s g:Nat}:(addH N s g).hops.length=N.hops.length:=by
 unfold addH;split
 ·rfl
 ·simp
theorem addH_moves {N:Nf} {s g:Nat}:(addH N s g).moves=N.moves:=by unfold addH;split<;>rfl
theorem addH_tags {N:Nf} {s g:Nat}:(addH N s g).tags=N.tags:=by unfold addH;split<;>rfl
theorem addH_first {N:Nf} {s g:Nat}:(addH N s g).first=N.first:=by unfold addH;split<;>rfl
theorem addH_rows {N:Nf} {s g c:Nat} (h:∀ l∈N.hops,l.length≤c):∀ l∈(addH N s g).hops,l.length≤c+1:=by
 unfold addH;split
 ·exact fun l hl=>Nat.le_succ_of_le (h l hl)
 ·intro l hl
  obtain ⟨i,hi⟩:=List.mem_iff_getElem?.mp hl
  rcases get_modify.mp hi with ⟨rfl,y,h3,rfl⟩ | ⟨_,h3⟩
  ·have:=h y (List.mem_of_getElem? h3);simp;exact this
  ·exact Nat.le_succ_of_le (h l (List.mem_of_getElem? h3))
theorem get_snoc {α:Type} {l:List α} {i:Nat} {x y:α}:(l++[y])[i]?=some x↔l[i]?=some x∨(i=l.length∧x=y):=by
 constructor
 ·intro h
  rcases Nat.lt_or_ge i l.length with q | q
  ·replace h:=(List.getElem?_append_left q).symm.trans h;exact .inl h
  ·replace h:=(List.getElem?_append_right q).symm.trans h
   have:=(List.getElem?_eq_some_iff.mp h).1
   simp at this
   rw [show i - l.length=0 by exact this] at h
   simp at h
   exact .inr ⟨by exact zh100 this q,h.symm⟩
 ·rintro (h | ⟨rfl,rfl⟩)
  ·exact get_app h
  ·simp
theorem mvA_addS {N:Nf} (p m g:Nat):mvA (addS N) p m g↔mvA N p m g:=by
 unfold mvA addS
 constructor
 ·rintro ⟨l,h1,h2⟩
  rcases get_snoc.mp h1 with h | ⟨_,rfl⟩
  ·exact ⟨l,h,h2⟩
  ·cases h2
 ·rintro ⟨l,h1,h2⟩;exact ⟨l,get_app h1,h2⟩
theorem hopR_addS {N:Nf} (p g:Nat):hopR (addS N) p g↔hopR N p g:=by
 unfold hopR addS
 constructor
 ·rintro ⟨l,h1,h2⟩
  rcases get_snoc.mp h1 with h | ⟨_,rfl⟩
  ·exact ⟨l,h,h2⟩
  ·cases h2
 ·rintro ⟨l,h1,h2⟩;exact ⟨l,get_app h1,h2⟩
theorem Wf.of {N:Nf} (h1:N.n≤8) (h2:N.hops.length=N.n) (h3:∀ l∈N.moves,l.length≤1000) (h4:∀ s m g,mvA N s m g→m<8∧0<m∧g<N.n) (h5:∀ l∈N.hops,l.length≤1000) (h6:∀ s g,hopR N s g→g<N.n)
  (h7:∀ s t,(s,t)∈N.tags→s<N.n∧t<8) (h8:(N.tags.map (·.1)).Nodup) (h9:N.first<N.n):N.Wf where
 small:=h1
 len:=h2
 mlen:=h3
 mv l hl p hp:=let ⟨i,hi⟩:=List.mem_iff_getElem?.mp hl;h4 i p.1 p.2 ⟨l,hi,hp⟩
 hlen:=h5
 hp l hl g hg:=let ⟨i,hi⟩:=List.mem_iff_getElem?.mp hl;h6 i g ⟨l,hi,hg⟩
 tg p hp:=h7 p.1 p.2 hp
 tnd:=h8
 fst:=h9
end Mine
namespace Mine
variable {Γ:Value→PC}
theorem S_ite {I:Info} {c:MC} {t f:MSts} {σ:MS} {Q:Fl→MS→Prop} (hΓ:∀ f,MonoC (Γ f)) (P:Prop) (h:denC I Γ c σ fun b σ1=>σ1=σ∧(b=true↔P)) (k1:P→denB I Γ t σ Q) (k2:¬ P→denB I Γ f σ Q):denS I Γ (.ife c t f) σ Q:=by
 refine (mono_C hΓ c).at h fun b σ1 ⟨e,hb⟩ => ?_
 subst e
 exact ⟨fun q=>k1 (hb.mp q),fun q=>k2 fun p=>by replace q:=(hb.mpr p).symm.trans q;cases q⟩
theorem dec_t {P:Prop} {i:Decidable P} (h : @decide P i=true):P:=of_decide_eq_true h
theorem dec_f {P:Prop} {i:Decidable P} (h : @decide P i=false):¬ P:=of_decide_eq_false h
theorem Rc.head {R:Nat→Nat→Prop} {a b c:Nat} (h:R a b) (x:Rc R b c):Rc R a c:=(Rc.tail .refl h).trans x
theorem Rc.flip {R:Nat→Nat→Prop} {a b:Nat} (x:Rc R a b):Rc (fun s g=>R g s) b a:=by
 induction x with
 | refl=>exact .refl
 | tail _ h ih=>exact Rc.head h ih
theorem lnk_links {N:Nf} (W:N.Wf) (s g:Nat):lnk (linksL N) s g↔lkR N s g:=by
 constructor
 ·rintro ⟨l,h1,h2⟩
  have hs:s<N.n:=by rw [←links_len W];exact (List.getElem?_eq_some_iff.mp h1).1
  obtain ⟨ml,m1,m2⟩:=nf_mv hs
  obtain ⟨hl,k1,k2⟩:=nf_hops W hs
  replace h1:=(links_get m1 k1).symm.trans h1;cases h1
  rcases List.mem_append.mp h2 with q | q
  ·obtain ⟨p,q1,rfl⟩:=List.mem_map.mp q;exact .inl ⟨p.1,ml,m1,q1⟩
  ·exact .inr ⟨hl,k1,q⟩
 ·rintro (⟨m,ml,m1,q⟩ | ⟨hl,k1,q⟩)
  ·obtain ⟨hl,k1,k2⟩:=nf_hops W (List.getElem?_eq_some_iff.mp m1).1
   exact ⟨_,links_get m1 k1,List.mem_append_left _ (List.mem_map.mpr ⟨(m,g),q,rfl⟩)⟩
  ·obtain ⟨ml,m1,m2⟩:=nf_mv (N:=N) (s:=s) (by rw [←W.len];exact (List.getElem?_eq_some_iff.mp k1).1)
   exact ⟨_,links_get m1 k1,List.mem_append_right _ q⟩
theorem lkR_lt {N:Nf} (W:N.Wf) {s g:Nat} (h:lkR N s g):s<N.n∧g<N.n:=h.elim (fun ⟨m,h⟩=>mvA_lt W h) (hopR_lt W)
theorem links_ok {N:Nf} (W:N.Wf):∀ x∈linksL N,x.length≤2000∧∀ g∈x,g<(linksL N).length:=fun x hx=>by
 obtain ⟨i,hi⟩:=List.mem_iff_getElem?.mp hx
 have hs:i<N.n:=by rw [←links_len W];exact (List.getElem?_eq_some_iff.mp hi).1
 refine ⟨?_,fun g hg=>by rw [links_len W];exact (lkR_lt W ((lnk_links W i g).mp ⟨x,hi,hg⟩)).2⟩
 obtain ⟨ml,m1,m2⟩:=nf_mv hs
 obtain ⟨hl,k1,k2⟩:=nf_hops W hs
 replace hi:=(links_get m1 k1).symm.trans hi;cases hi
 have:=W.mlen ml m2
 have:=W.hlen hl k2
 simp;exact zh102 ‹(_:Nat)≤1000› this
noncomputable def keptP (N:Nf) (s:Nat):Prop:=s=N.first∨(Rc (lkR N) N.first s∧∃ m t,(m,t)∈N.tags∧Rc (lkR N) s m)
noncomputable def ksL (N:Nf):List Nat:=setL N.n (keptP N)
structure PrOk (N N':Nf):Prop where
 n:N'.n=(ksL N).length
 mv:∀ i m j,mvA N' i m j↔∃ s g,(ksL N)[i]?=some s∧(ksL N)[j]?=some g∧mvA N s m g
 hp:∀ i j,hopR N' i j↔∃ s g,(ksL N)[i]?=some s∧(ksL N)[j]?=some g∧hopR N s g
 tg:∀ i t,(i,t)∈N'.tags↔∃ s,(ksL N)[i]?=some s∧(s,t)∈N.tags
 fst:(ksL N)[N'.first]?=some N.first
theorem mt_adds:I0.mt 92 ("add_state":Str)=some 49:=by decide
theorem mt_addm:I0.mt 92 ("add_move":Str)=some 56:=by decide
theorem mt_addh:I0.mt 92 ("add_hop":Str)=some 63:=by decide
theorem mt_setf:I0.mt 92 ("set_first":Str)=some 70:=by decide
theorem mt_sett:I0.mt 92 ("set_tag":Str)=some 77:=by decide
theorem NfaM.ext {lv lv':LM} {F:NfP} {N:Nf} (X:NfaM lv F N) (h:∀ b,b∈F.all→lv' b=lv b):NfaM lv' F N where
 oa:=(h _ (mem_all.mpr (by simp))).trans X.oa
 om:=(h _ (mem_all.mpr (by simp))).trans X.om
 oh:=(h _ (mem_all.mpr (by simp))).trans X.oh
 od:=(h _ (mem_all.mpr (by simp))).trans X.od
 lm:=X.lm
 lh:=X.lh
 cm i a l h1 h2:=(h _ (mem_all.mpr (by simp [List.mem_of_getElem? h1]))).trans (X.cm i a l h1 h2)
 ch i a l h1 h2:=(h _ (mem_all.mpr (by simp [List.mem_of_getElem? h1]))).trans (X.ch i a l h1 h2)
 nd:=X.nd
theorem NfaM.upd {lv:LM} {F:NfP} {N:Nf} (X:NfaM lv F N) {r:Addr} (hr:r∉F.all) (y:Option MO):NfaM (updL lv r y) F N:=X.ext fun b hb=>updL_ne _ _ fun e=>hr (e▸hb)
structure BS (lv:LM) (F:NfP) (N:Nf) (r:Addr) (y:MO) (m:LM):Prop where
 M:NfaM m F N
 cell:m r=some y
 rF:r∉F.all
 base:∀ b x,lv b=some x→b∉F.all∧b≠r∧m b=some x
theorem BS.step {lv:LM} {F F':NfP} {N N':Nf} {r:Addr} {y:MO} {m m':LM} (X:BS lv F N r y m) (M:NfaM m' F' N') (S:NStep m F m' F'):BS lv F' N' r y m' :=
 ⟨M,(S.2 r y X.cell X.rF).2,(S.2 r y X.cell X.rF).1,fun b x e=>let ⟨h1,h2,h3⟩:=X.base b x e;⟨(S.2 b x h3 h1).1,h2,(S.2 b x h3 h1).2⟩⟩
theorem BS.put {lv:LM} {F:NfP} {N:Nf} {r:Addr} {y:MO} {m:LM} (X:BS lv F N r y m) (z:MO):BS lv F N r z (updL m r (some z)) :=
 ⟨X.M.upd X.rF _,updL_self ..,X.rF,fun b x e=>let ⟨h1,h2,h3⟩:=X.base b x e;⟨h1,h2,(updL_ne _ _ h2).trans h3⟩⟩
noncomputable def Blank (N:Nf) (c:Nat):Prop:=N.moves=List.replicate c []∧N.hops=List.replicate c []∧N.tags=[]
theorem Blank.addS {N:Nf} {c:Nat} (h:Blank N c):Blank (addS N) (c+1):=by
 obtain ⟨h1,h2,h3⟩:=h
 refine ⟨?_,?_,h3⟩
 ·show N.moves++[[]]=_;rw [h1,List.replicate_succ']
 ·show N.hops++[[]]=_;rw [h2,List.replicate_succ']
theorem Blank.mv {N:Nf} {c:Nat} (h:Blank N c) (p m g:Nat):¬ mvA N p m g:=fun ⟨l,q1,q2⟩=>by
 rw [h.1] at q1
 rw [(List.mem_replicate.mp (List.mem_of_getElem? q1)).2] at q2;cases q2
theorem Blank.hp {N:Nf} {c:Nat} (h:Blank N c) (p g:Nat):¬ hopR N p g:=fun ⟨l,q1,q2⟩=>by
 rw [h.2.1] at q1
 rw [(List.mem_replicate.mp (List.mem_of_getElem? q1)).2] at q2;cases q2
structure SmallRows (N:Nf):Prop where
 m:∀ l∈N.moves,l.length≤100
 h:∀ l∈N.hops,l.length≤100
structure Bd (N':Nf) (c k1 k2:Nat):Prop where
 m:N'.moves.length=c
 h:N'.hops.length=c
 rm:∀ l∈N'.moves,l.length≤k1
 rh:∀ l∈N'.hops,l.length≤k2
theorem Bd.addM {N':Nf} {c k1 k2 s m g:Nat} (B:Bd N' c k1 k2):Bd (Mine.addM N' s m g) c (k1+1) k2:=⟨addM_moves_len.trans B.m,by rw [addM_hops];exact B.h,addM_rows B.rm,by rw [addM_hops];exact B.rh⟩
theorem Bd.addH {N':Nf} {c k1 k2 s g:Nat} (B:Bd N' c k1 k2):Bd (Mine.addH N' s g) c k1 (k2+1):=⟨by rw [addH_moves];exact B.m,addH_hops_len.trans B.h,by rw [addH_moves];exact B.rm,addH_rows B.rh⟩
theorem Bd.le {N':Nf} {c k1 k2 j1 j2:Nat} (B:Bd N' c k1 k2) (h1:k1≤j1) (h2:k2≤j2):Bd N' c j1 j2:=⟨B.m,B.h,fun l hl=>Nat.le_trans (B.rm l hl) h1,fun l hl=>Nat.le_trans (B.rh l hl) h2⟩
noncomputable def C_pruned:PC:=fun l lv Q=>E2 fun a N=>A5 (l=[.ref a]) (NfaAt lv a N) N.Wf (SmallRows N) (∀ lv' a' N',PrOk N N'→N'.Wf→NfaAt lv' a' N'→Ext lv lv'→Q (.ref a') lv')
theorem ks_nodup (N:Nf):(ksL N).Nodup:=setL_nodup
theorem nodup_idx {l:List Nat} (h:l.Nodup) {i j x:Nat} (h1:l[i]?=some x) (h2:l[j]?=some x):i=j:=nodup_get h h1 h2
open Classical in
theorem t_pruned (hΓ:∀ f,MonoC (Γ f)) (h1:Γ (.ref 89)=C_links) (h2:Γ (.ref 150)=C_spread) (h3:Γ (.ref 155)=C_turned) (h4:Γ (.ref 92)=C_Nfa) (h5:Γ (.ref 84)=C_state_count) (h6:Γ (.ref 49)=C_add_state) (h7:Γ (.ref 56)=C_add_move) (h8:Γ (.ref 63)=C_add_hop) (h9:Γ (.ref 70)=C_set_first) (h10:Γ (.ref 77)=C_set_tag) :
  Sat I0 Γ m_pruned 1 C_pruned:=by
 rintro l lv Q ⟨a,N,rfl,hN,W,SR,hQ⟩
 obtain ⟨d0,hN1,hN2⟩:=id hN
 have w8:N.n≤8:=W.small
 have hfirst:=W.fst
 have Llen:=links_len W
 refine ⟨rfl,B_cons hΓ ?_⟩
 refine ⟨.ref a,rfl,a,92,nfFs N d0,89,rfl,hN1,rfl,mt_links,?_⟩
 refine use h1 ?_
 refine ⟨a,N,rfl,hN,W,B_cons hΓ ?_⟩
 refine ⟨_,rfl,.ref a,rfl,a,92,nfFs N d0,.int N.first,rfl,hN1,ok_first,nf_first N d0,by simp [lim_eq],?_⟩
 refine use h2 ?_
 have lk1:∀ s g,lnk (linksL N) s g↔lkR N s g:=lnk_links W
 refine ⟨linksL N,_,[N.first],rfl,.inr rfl,by exact Nat.le_trans (Nat.le_of_eq Llen) w8,fun x hx=>⟨by have:=(links_ok W x hx).1;exact zk0 this rfl,(links_ok W x hx).2⟩,by simpa [Llen] using hfirst,by simp,B_cons hΓ ?_⟩
 let RE:Nat→Prop:=fun i=>∃ s∈[N.first],Rc (lnk (linksL N)) s i
 have hRE:∀ i,RE i↔Rc (lkR N) N.first i:=fun i=>by
  constructor
  ·rintro ⟨s,h,q⟩;simp at h;subst h;exact Rc.mono (fun s g h=>(lk1 s g).mp h) q
  ·intro q;exact ⟨N.first,by simp,Rc.mono (fun s g h=>(lk1 s g).mpr h) q⟩
 refine ⟨_,rfl,?_⟩
 refine use h3 ?_
 refine ⟨linksL N,rfl,by exact Nat.le_trans (Nat.le_of_eq Llen) w8,fun x hx=>⟨by have:=(links_ok W x hx).1;exact zk0 this rfl,(links_ok W x hx).2⟩,fun B hB1 hB2 hB3 => ?_⟩
 refine ⟨.ref a,rfl,a,92,nfFs N d0,.ref d0,rfl,hN1,ok_tags,nf_tags N d0,dN N.tags,dict_of hN2,by simp only [List.length_map];have:=tags_len W;exact zk4 this w8 rfl,fun ns hp hsr => ?_⟩
 have hns:ns=(setL N.n fun s=>∃ t,(s,t)∈N.tags).map fun (k:Nat)=>(k:Int):=by
  rw [dN_keys] at hp
  refine sorted_eq hp hsr W.tnd fun k => ?_
  simp only [List.mem_map,Prod.exists,exists_and_right,exists_eq_right]
  exact ⟨fun h=>⟨let ⟨t,q⟩:=h;(W.tg _ q).1,h⟩,fun h=>h.2⟩
 let ts:=setL N.n fun s=>∃ t,(s,t)∈N.tags
 have tsl:ts.length≤8:=Nat.le_trans setL_len w8
 have hvn:ns.map V.int=vN ts:=by rw [hns];simp [vN,List.map_map,Function.comp_def,ts]
 rw [hvn]
 refine use h2 ?_
 refine ⟨B,_,ts,rfl,.inr rfl,by exact Nat.le_trans (Nat.le_trans (Nat.le_of_eq hB1) (Nat.le_of_eq Llen)) w8,fun x hx=>⟨by have:=hB2 x hx;exact zk0 this rfl,fun g hg => ?_⟩,fun s hs=>by rw [hB1,Llen];exact (mem_setL.mp hs).1,by exact zk0 tsl rfl,?_⟩
 ·obtain ⟨i,hi⟩:=List.mem_iff_getElem?.mp hx
  have:=(hB3 i g).mp ⟨x,hi,hg⟩
  rw [hB1,Llen];exact (lkR_lt W ((lk1 _ _).mp this)).1
 let LI:Nat→Prop:=fun i=>∃ s∈ts,Rc (lnk B) s i
 have hLI:∀ i,LI i↔∃ m t,(m,t)∈N.tags∧Rc (lkR N) i m:=fun i=>by
  constructor
  ·rintro ⟨s,h,q⟩
   obtain ⟨t,ht⟩:=(mem_setL.mp h).2
   exact ⟨s,t,ht,Rc.mono (fun x y h=>(lk1 x y).mp ((hB3 y x).mp h)) q.flip⟩
  ·rintro ⟨m,t,ht,q⟩
   exact ⟨m,mem_setL.mpr ⟨(W.tg _ ht).1,t,ht⟩,Rc.mono (fun x y h=>(hB3 x y).mpr ((lk1 y x).mpr h)) q.flip⟩
 have kp:∀ i,keptP N i↔i=N.first∨(RE i∧LI i):=fun i=>by unfold keptP;rw [hRE,hLI]
 refine B_cons hΓ ?_
 refine use h4 ?_
 refine ⟨rfl,fun lv1 F0 M0 K0=>B_cons hΓ ?_⟩
 intro r hr
 replace hr:lv1 r=none:=hr
 have B0:BS lv F0 N0 r (.dict []) (updL lv1 r (some (.dict []))):=⟨M0.upd (M0.fresh hr) _,updL_self ..,M0.fresh hr,fun b x e=>let ⟨q1,q2⟩:=K0 b x e;⟨q1,ne_of q2 hr,(updL_ne _ _ (ne_of q2 hr)).trans q2⟩⟩
 have st:∀ {m:LM} {F N' y},BS lv F N' r y m→m a=some (nfObj N d0)∧m d0=some (.dict (dN N.tags))∧NfaAt m a N:=fun X=>⟨(X.base _ _ hN1).2.2,(X.base _ _ hN2).2.2,d0,(X.base _ _ hN1).2.2,(X.base _ _ hN2).2.2⟩
 have bRE:(bools (linksL N).length RE).length≤lim:=by rw [bools_len,lim_eq];exact zk9 Llen w8 rfl
 have bLI:(bools B.length LI).length≤lim:=by rw [bools_len,lim_eq];exact zk10 hB1 Llen w8 rfl
 let Lc:NfP→MS→Prop:=fun F σ=>A5 (σ.loc 0=some (.ref a)) (σ.loc 2=some (.lst (bools (linksL N).length RE))) (σ.loc 3=some (.lst (bools B.length LI))) (σ.loc 4=some (.ref F.a)) (σ.loc 5=some (.ref r))
 let MR1:MS→Prop:=fun σ=>E2 fun F N'=>A3 (Lc F σ) (BS lv F N' r (.dict (placesD (ksL N))) σ.lv) (Blank N' (ksL N).length)
 refine B_mid hΓ MR1 (S_forM hΓ ?_) ?_
 ·refine ⟨.ref a,rfl,a,92,nfFs N d0,84,rfl,(st B0).1,rfl,mt_count,?_⟩
  refine use h5 ?_
  let J2:List Nat→MS→Prop:=fun d' σ=>Mine.E2 fun F N'=>A3 (Lc F σ) (BS lv F N' r (.dict (placesD (d'.filter fun i=>decide (keptP N i)))) σ.lv) (Blank N' (d'.filter fun i=>decide (keptP N i)).length)
  refine ⟨a,N,rfl,(st B0).2.2,by exact zk0 w8 rfl,_,List.range N.n,rng_items _,rng_ok (by exact zk0 w8 rfl),J2,?_,?_,?_⟩
  ·exact ⟨F0,N0,⟨rfl,rfl,rfl,rfl,rfl⟩,B0,rfl,rfl,rfl⟩
  ·rintro d' s r' σ hdr ⟨F,N',hL,X,hB⟩
   obtain ⟨_,hs,hde⟩:=range_split hdr
   have hsd:s∉d':=by rw [hde];simp
   have hd8:d'.length≤8:=by have:=congrArg List.length hdr;simp at this;exact Nat.le_trans (Nat.le_trans (Nat.le_of_eq ‹(_:Nat)=_›.symm) (Nat.le_of_lt hs)) w8
   refine ⟨rng_items _,_,rfl,B_cons hΓ (S_ite hΓ (keptP N s) ?_ (fun hk => ?_) fun hk => ?_)⟩
   ·refine ⟨.int s,rfl,_,hL.1,a,92,nfFs N d0,.int N.first,rfl,(st X).1,ok_first,nf_first N d0,trivial,trivial,fun ht=>⟨rfl,?_⟩,fun ht => ?_⟩
    ·have:s=N.first:=by have:=of_decide_eq_true ht;simp only [V.int.injEq] at this;exact Int.ofNat_inj.mp this
     simp [this,keptP]
    ·have hne:s≠N.first:=fun e=>of_decide_eq_false ht (by rw [e])
     refine ⟨_,hL.2,.int s,rfl,s,rfl,.inl ⟨_,_,rfl,bRE,at_nat (bools_get (by exact zq8 hs Llen)),fun hb => ?_,fun hb=>⟨rfl,?_⟩⟩⟩
     ·refine ⟨_,hL.3,.int s,rfl,s,rfl,.inl ⟨_,_,rfl,bLI,at_nat (bools_get (by exact Nat.lt_of_lt_of_le (Nat.lt_of_lt_of_le hs (Nat.le_of_eq Llen.symm)) (Nat.le_of_eq hB1.symm))),rfl,?_⟩⟩
      rw [kp];simp only [decide_eq_true_eq]
      exact ⟨fun h=> .inr ⟨dec_t hb,h⟩,fun h=>(h.resolve_left hne).2⟩
     ·rw [kp]
      exact ⟨fun h=>(by cases h),fun h=>absurd (h.resolve_left hne).1 (dec_f hb)⟩
   ·refine B_cons hΓ ?_
    refine ⟨_,hL.4,F.a,92,mFs F N'.first,49,rfl,X.M.oa,rfl,mt_adds,?_⟩
    refine use h6 ?_
    have hlen:(d'.filter fun i=>decide (keptP N i)).length≤8:=Nat.le_trans (List.length_filter_le _ _) hd8
    have hml:N'.moves.length=(d'.filter fun i=>decide (keptP N i)).length:=by rw [hB.1];simp
    refine ⟨F,N',rfl,X.M,by exact zk11 hml hlen rfl,by rw [hB.1,hB.2.1];simp,fun lv2 F2 M2 S2 => ?_⟩
    have X2:=X.step M2 S2
    refine ⟨_,hL.5,.int s,rfl,r,s,rfl,rfl,   .inr ⟨_,X2.cell,?_,(?_)⟩⟩
    ·simp only [List.length_mapIdx,lim_eq];exact zk2 hlen rfl
    ·have hnm:s∉d'.filter fun i=>decide (keptP N i):=fun q=>hsd (List.mem_filter.mp q).1
     have e2:(d'++[s]).filter (fun i=>decide (keptP N i))=d'.filter (fun i=>decide (keptP N i))++[s]:=by
      rw [List.filter_append,List.filter_cons,if_pos (decide_eq_true hk)];rfl
     have X3:=X2.put (.dict (placesD (d'.filter (fun i=>decide (keptP N i))++[s])))
     refine ⟨F2,addS N',⟨hL.1,hL.2,hL.3,by rw [S2.1];exact hL.4,hL.5⟩,?_,?_⟩
     ·rw [e2]
      show BS lv F2 (addS N') r _ (updL lv2 r (some (.dict (dset (placesD (d'.filter fun i=>decide (keptP N i))) s (.int N'.moves.length)))))
      rw [hml,placesD_new hnm];exact X3
     ·rw [e2,List.length_append];exact hB.addS
   ·have e2:(d'++[s]).filter (fun i=>decide (keptP N i))=d'.filter (fun i=>decide (keptP N i)):=by
     rw [List.filter_append,List.filter_cons,if_neg (by simpa using hk)];simp
    exact ⟨F,N',hL,by rw [e2];exact X,by rw [e2];exact hB⟩
  ·rintro σ ⟨F,N',hL,X,hB⟩
   exact ⟨rng_items _,by trivial,F,N',hL,X,hB⟩
 rintro σ ⟨F,N1,hL,X,hB⟩
 have ksl:(ksL N).length≤8:=Nat.le_trans setL_len w8
 have ksm:∀ s,s∈ksL N↔s<N.n∧keptP N s:=fun s=>mem_setL
 let RelM:List Nat→Nat→Nat→Nat→Prop:=fun d' i m j=>∃ s g,s∈d'∧(ksL N)[i]?=some s∧(ksL N)[j]?=some g∧mvA N s m g
 let RelH:List Nat→Nat→Nat→Prop:=fun d' i j=>∃ s g,s∈d'∧(ksL N)[i]?=some s∧(ksL N)[j]?=some g∧hopR N s g
 let RelT:List Nat→Nf→Prop:=fun d' N'=>(∀ i t,(i,t)∈N'.tags↔∃ s,s∈d'∧(ksL N)[i]?=some s∧(s,t)∈N.tags)∧(N'.tags.map (·.1)).Nodup∧N'.tags.length≤d'.length
 let Lq:MS→Prop:=fun σ=>A3 (σ.loc 0=some (.ref a)) (σ.loc 4=some (.ref F.a)) (σ.loc 5=some (.ref r))
 let PD:MO:= .dict (placesD (ksL N))
 have plc:∀ {m:LM} {N'},BS lv F N' r PD m→∀ {loc:Loc},dictOf? ⟨loc,m⟩ (.ref r)=some (placesD (ksL N)):=fun X=>dict_of (σ:=⟨_,_⟩) X.cell
 have pin:∀ {g:Nat},(((g:Int)∈(placesD (ksL N)).map (·.1))↔g∈ksL N):=fun {g}=>by rw [placesD_keys];exact mem_castL
 let MR3:MS→Prop:=fun σ=>∃ N',A6 (Lq σ) (BS lv F N' r PD σ.lv) (Bd N' (ksL N).length 1000 1000) ((∀ i m j,mvA N' i m j↔RelM (ksL N) i m j)) ((∀ i j,hopR N' i j↔RelH (ksL N) i j)) (RelT (ksL N) N')
 refine B_mid hΓ MR3 (S_forM hΓ ?_) ?_
 ·refine ⟨_,hL.5,placesD (ksL N),plc X,by simp only [List.length_mapIdx];exact zk2 ksl rfl,fun ns hp hsr => ?_⟩
  rw [placesD_keys] at hp
  have hns:=sorted_eq (n:=N.n) (S:=keptP N) hp hsr (ks_nodup N) ksm
  have hvn:ns.map V.int=vN (ksL N):=by rw [hns];simp [vN,List.map_map,Function.comp_def,ksL]
  rw [hvn]
  let J4:List Nat→MS→Prop:=fun d' σ=>∃ N',A6 (Lq σ) (BS lv F N' r PD σ.lv) (Bd N' (ksL N).length (100*d'.length) (100*d'.length)) ((∀ i m j,mvA N' i m j↔RelM d' i m j)) ((∀ i j,hopR N' i j↔RelH d' i j)) (RelT d' N')
  refine ⟨_,ksL N,rfl,trivial,J4,?_,?_,?_⟩
  ·refine ⟨N1,⟨hL.1,hL.4,hL.5⟩,X,⟨by rw [hB.1];simp,by rw [hB.2.1];simp,fun l hl => ?_,fun l hl => ?_⟩,fun i m j=>⟨fun h=>absurd h (hB.mv i m j),fun ⟨s,g,h,_⟩=>by cases h⟩,fun i j=>⟨fun h=>absurd h (hB.hp i j),fun ⟨s,g,h,_⟩=>by cases h⟩,?_,?_,?_⟩
   ·rw [hB.1] at hl;rw [(List.mem_replicate.mp hl).2];simp
   ·rw [hB.2.1] at hl;rw [(List.mem_replicate.mp hl).2];simp
   ·intro i t;rw [hB.2.2];simp
   ·rw [hB.2.2];exact .nil
   ·rw [hB.2.2];simp
  ·rintro d' s r' σ hdr ⟨N',hL,X,hBd,hM,hH,hT⟩
   have hsk:s∈ksL N:=by rw [←hdr];simp
   have hs:s<N.n:=((ksm s).mp hsk).1
   have hsd:s∉d':=nodup_mid (by rw [hdr];exact ks_nodup N)
   have hidx:(ksL N)[d'.length]?=some s:=by rw [←hdr];simp
   have hil:d'.length<(ksL N).length:=(List.getElem?_eq_some_iff.mp hidx).1
   obtain ⟨ml,hm1,hm2⟩:=nf_mv hs
   obtain ⟨hl,hh1,hh2⟩:=nf_hops W hs
   have hms:=SR.m ml hm2
   have hhs:=SR.h hl hh2
   have idxu:∀ {i},(ksL N)[i]?=some s→i=d'.length:=fun h=>nodup_idx (ks_nodup N) h hidx
   refine ⟨rfl,_,rfl,?_⟩
   let MR5:MS→Prop:=fun σ=>∃ N',A7 (Lq σ) (σ.loc 6=some (.int s)) (BS lv F N' r PD σ.lv) (Bd N' (ksL N).length (100*d'.length+100) (100*d'.length)) ((∀ i m j,mvA N' i m j↔RelM (d'++[s]) i m j)) ((∀ i j,hopR N' i j↔RelH d' i j)) (RelT d' N')
   refine B_mid hΓ MR5 (S_forM hΓ ?_) ?_
   ·let J912:List (Nat×Nat)→MS→Prop:=fun d2 σ=>∃ N',A7 (Lq σ) (σ.loc 6=some (.int s)) (BS lv F N' r PD σ.lv) (Bd N' (ksL N).length (100*d'.length+d2.length) (100*d'.length)) ((∀ i m j,mvA N' i m j↔RelM d' i m j∨(i=d'.length∧∃ g,(ksL N)[j]?=some g∧(m,g)∈d2))) ((∀ i j,hopR N' i j↔RelH d' i j)) (RelT d' N')
    refine ⟨.ref a,hL.1,a,92,nfFs N d0,vMoves N.moves,rfl,(st X).1,ok_moves,nf_moves N d0,.int s,rfl,s,rfl,.inl ⟨_,.lst (vMv ml),rfl,?_,at_nat (by rw [List.getElem?_map,hm1];rfl),_,ml,rfl,trivial,J912,?_,?_,?_⟩⟩
    ·simp only [List.length_map,lim_eq];have:N.moves.length≤8:=w8;exact zk0 this rfl
    ·exact ⟨N',hL,rfl,X,hBd,fun i m j=>by rw [hM];simp,hH,hT⟩
    ·rintro d2 q r2 σ hdr2 ⟨N',hL,g6,X,hBd,hM,hH,hT⟩
     obtain ⟨m,g⟩:=q
     have hmg:=W.mv ml hm2 (m,g) (by rw [←hdr2];simp)
     have hd2:d2.length<100:=by have:=congrArg List.length hdr2;simp at this;exact zh71 this hms
     refine ⟨rfl,_,rfl,B_cons hΓ (S_ite hΓ (g∈ksL N) ?_ (fun hk => ?_) fun hk => ?_)⟩
     ·exact ⟨.int g,rfl,_,hL.3,.inr ⟨g,placesD (ksL N),rfl,plc X,rfl,by simp only [decide_eq_true_eq];exact pin⟩⟩
     ·obtain ⟨j0,hj0⟩:=List.mem_iff_getElem?.mp hk
      refine B_cons hΓ ?_
      refine ⟨_,hL.2,F.a,92,mFs F N'.first,56,rfl,X.M.oa,rfl,mt_addm,_,hL.3,_,g6,s,rfl,.inr ⟨placesD (ksL N),.int d'.length,plc X,placesD_get (ks_nodup N) hidx,.int m,rfl,_,hL.3,.int g,rfl,g,rfl,.inr ⟨placesD (ksL N),.int j0,plc X,placesD_get (ks_nodup N) hj0,?_⟩⟩⟩
      refine use h7 ?_
      refine ⟨F,N',d'.length,m,j0,rfl,X.M,by rw [hBd.m];exact hil,by rw [hBd.m];exact zk0 ksl rfl,fun l hl=>by have:=hBd.rm l hl;exact zh103 hd2 hil this ksl,fun lv2 M2 S2=>⟨rfl,(?_)⟩⟩
      refine ⟨addM N' d'.length m j0,hL,g6,X.step M2 S2,hBd.addM.le (by simp only [List.length_append,List.length_singleton];exact zh104) (Nat.le_refl _),fun i m' j => ?_,fun i j=>by rw [hopR_of_hops addM_hops,hH],?_⟩
      ·rw [mvA_addM (by rw [hBd.m];exact hil) (by exact zh105 hmg),hM]
       constructor
       ·rintro ((h | ⟨h1,g',h2,h3⟩) | ⟨h1,h2,h3⟩)
        ·exact .inl h
        ·exact .inr ⟨h1,g',h2,List.mem_append_left _ h3⟩
        ·exact .inr ⟨h1,g,by rw [h3];exact hj0,by rw [h2];simp⟩
       ·rintro (h | ⟨h1,g',h2,h3⟩)
        ·exact .inl (.inl h)
        ·rcases List.mem_append.mp h3 with q | q
         ·exact .inl (.inr ⟨h1,g',h2,q⟩)
         ·simp at q;obtain ⟨rfl,rfl⟩:=q
          exact .inr ⟨h1,rfl,nodup_idx (ks_nodup N) h2 hj0⟩
      ·show RelT d' _
       simp only [RelT,addM_tags];exact hT
     ·refine (⟨N',hL,g6,X,hBd.le (by simp only [List.length_append,List.length_singleton];exact zh106) (Nat.le_refl _),fun i m' j => ?_,hH,hT⟩)
      rw [hM]
      constructor
      ·rintro (h | ⟨h1,g',h2,h3⟩)
       ·exact .inl h
       ·exact .inr ⟨h1,g',h2,List.mem_append_left _ h3⟩
      ·rintro (h | ⟨h1,g',h2,h3⟩)
       ·exact .inl h
       ·rcases List.mem_append.mp h3 with q | q
        ·exact .inr ⟨h1,g',h2,q⟩
        ·simp at q;obtain ⟨rfl,rfl⟩:=q
         exact absurd (List.mem_of_getElem? h2) hk
    ·rintro σ ⟨N',hL,g6,X,hBd,hM,hH,hT⟩
     refine ⟨rfl,by trivial,N',hL,g6,X,hBd.le (by exact Nat.add_le_add_iff_left.mpr hms) (Nat.le_refl _),fun i m j => ?_,hH,hT⟩
     rw [hM]
     constructor
     ·rintro (⟨s',g,q1,q2⟩ | ⟨rfl,g,q1,q2⟩)
      ·exact ⟨s',g,List.mem_append_left _ q1,q2⟩
      ·exact ⟨s,g,by simp,hidx,q1,ml,hm1,q2⟩
     ·rintro ⟨s',g,q1,q2,q3,q4⟩
      rcases List.mem_append.mp q1 with q | q
      ·exact .inl ⟨s',g,q,q2,q3,q4⟩
      ·simp at q;subst q
       obtain ⟨l',q5,q6⟩:=q4
       replace q5:=hm1.symm.trans q5;cases q5
       exact .inr ⟨idxu q2,g,q3,q6⟩
   rintro σ ⟨N',hL,g6,X,hBd,hM,hH,hT⟩
   let MR6:MS→Prop:=fun σ=>∃ N',A7 (Lq σ) (σ.loc 6=some (.int s)) (BS lv F N' r PD σ.lv) (Bd N' (ksL N).length (100*d'.length+100) (100*d'.length+100)) ((∀ i m j,mvA N' i m j↔RelM (d'++[s]) i m j)) ((∀ i j,hopR N' i j↔RelH (d'++[s]) i j)) (RelT d' N')
   refine B_mid hΓ MR6 (S_forM hΓ ?_) ?_
   ·let J913:List Nat→MS→Prop:=fun d2 σ=>∃ N',A7 (Lq σ) (σ.loc 6=some (.int s)) (BS lv F N' r PD σ.lv) (Bd N' (ksL N).length (100*d'.length+100) (100*d'.length+d2.length)) ((∀ i m j,mvA N' i m j↔RelM (d'++[s]) i m j)) ((∀ i j,hopR N' i j↔RelH d' i j∨(i=d'.length∧∃ g,(ksL N)[j]?=some g∧g∈d2))) (RelT d' N')
    refine ⟨.ref a,hL.1,a,92,nfFs N d0,vHops N.hops,rfl,(st X).1,ok_hops,nf_hopsL N d0,_,g6,s,rfl,.inl ⟨_,.lst (vN hl),rfl,?_,at_nat (by rw [List.getElem?_map,hh1];rfl),_,hl,rfl,trivial,J913,?_,?_,?_⟩⟩
    ·simp only [List.length_map,W.len,lim_eq];exact zk0 w8 rfl
    ·exact ⟨N',hL,g6,X,hBd,hM,fun i j=>by rw [hH];simp,hT⟩
    ·rintro d2 g r2 σ hdr2 ⟨N',hL,g6,X,hBd,hM,hH,hT⟩
     have hd2:d2.length<100:=by have:=congrArg List.length hdr2;simp at this;exact zh71 this hhs
     refine ⟨rfl,_,rfl,B_cons hΓ (S_ite hΓ (g∈ksL N) ?_ (fun hk => ?_) fun hk => ?_)⟩
     ·exact ⟨.int g,rfl,_,hL.3,.inr ⟨g,placesD (ksL N),rfl,plc X,rfl,by simp only [decide_eq_true_eq];exact pin⟩⟩
     ·obtain ⟨j0,hj0⟩:=List.mem_iff_getElem?.mp hk
      refine B_cons hΓ ?_
      refine ⟨_,hL.2,F.a,92,mFs F N'.first,63,rfl,X.M.oa,rfl,mt_addh,_,hL.3,_,g6,s,rfl,.inr ⟨placesD (ksL N),.int d'.length,plc X,placesD_get (ks_nodup N) hidx,_,hL.3,.int g,rfl,g,rfl,.inr ⟨placesD (ksL N),.int j0,plc X,placesD_get (ks_nodup N) hj0,?_⟩⟩⟩
      refine use h8 ?_
      refine ⟨F,N',d'.length,j0,rfl,X.M,by rw [hBd.h];exact hil,by rw [hBd.h];exact zk0 ksl rfl,fun l hl=>by have:=hBd.rh l hl;exact zh103 hd2 hil this ksl,fun lv2 M2 S2=>⟨rfl,(?_)⟩⟩
      refine ⟨addH N' d'.length j0,hL,g6,X.step M2 S2,hBd.addH.le (Nat.le_refl _) (by simp only [List.length_append,List.length_singleton];exact zh104),fun i m' j=>by rw [mvA_of_moves addH_moves,hM],fun i j => ?_,?_⟩
      ·rw [hopR_addH (by rw [hBd.h];exact hil),hH]
       constructor
       ·rintro ((h | ⟨h1,g',h2,h3⟩) | ⟨h1,h3⟩)
        ·exact .inl h
        ·exact .inr ⟨h1,g',h2,List.mem_append_left _ h3⟩
        ·exact .inr ⟨h1,g,by rw [h3];exact hj0,by simp⟩
       ·rintro (h | ⟨h1,g',h2,h3⟩)
        ·exact .inl (.inl h)
        ·rcases List.mem_append.mp h3 with q | q
         ·exact .inl (.inr ⟨h1,g',h2,q⟩)
         ·simp at q;subst q
          exact .inr ⟨h1,nodup_idx (ks_nodup N) h2 hj0⟩
      ·show RelT d' _
       simp only [RelT,addH_tags];exact hT
     ·refine (⟨N',hL,g6,X,hBd.le (Nat.le_refl _) (by simp only [List.length_append,List.length_singleton];exact zh106),hM,fun i j => ?_,hT⟩)
      rw [hH]
      constructor
      ·rintro (h | ⟨h1,g',h2,h3⟩)
       ·exact .inl h
       ·exact .inr ⟨h1,g',h2,List.mem_append_left _ h3⟩
      ·rintro (h | ⟨h1,g',h2,h3⟩)
       ·exact .inl h
       ·rcases List.mem_append.mp h3 with q | q
        ·exact .inr ⟨h1,g',h2,q⟩
        ·simp at q;subst q
         exact absurd (List.mem_of_getElem? h2) hk
    ·rintro σ ⟨N',hL,g6,X,hBd,hM,hH,hT⟩
     refine ⟨rfl,by trivial,N',hL,g6,X,hBd.le (Nat.le_refl _) (by exact Nat.add_le_add_iff_left.mpr hhs),hM,fun i j => ?_,hT⟩
     rw [hH]
     constructor
     ·rintro (⟨s',g,q1,q2⟩ | ⟨rfl,g,q1,q2⟩)
      ·exact ⟨s',g,List.mem_append_left _ q1,q2⟩
      ·exact ⟨s,g,by simp,hidx,q1,hl,hh1,q2⟩
     ·rintro ⟨s',g,q1,q2,q3,q4⟩
      rcases List.mem_append.mp q1 with q | q
      ·exact .inl ⟨s',g,q,q2,q3,q4⟩
      ·simp at q;subst q
       obtain ⟨l',q5,q6⟩:=q4
       replace q5:=hh1.symm.trans q5;cases q5
       exact .inr ⟨idxu q2,g,q3,q6⟩
   rintro σ ⟨N',hL,g6,X,hBd,hM,hH,hT⟩
   refine B_cons hΓ (S_ite hΓ (∃ t,(s,t)∈N.tags) ?_ (fun hk => ?_) fun hk => ?_)
   ·exact ⟨_,g6,_,hL.1,a,92,nfFs N d0,.ref d0,rfl,(st X).1,ok_tags,nf_tags N d0,.inr ⟨s,dN N.tags,rfl,dict_of (st X).2.1,rfl,by simp only [decide_eq_true_eq];exact dN_mem⟩⟩
   ·obtain ⟨t,ht⟩:=hk
    refine B_cons hΓ ?_
    refine ⟨_,hL.2,F.a,92,mFs F N'.first,77,rfl,X.M.oa,rfl,mt_sett,_,hL.3,_,g6,s,rfl,.inr ⟨placesD (ksL N),.int d'.length,plc X,placesD_get (ks_nodup N) hidx,_,hL.1,a,92,nfFs N d0,.ref d0,rfl,(st X).1,ok_tags,nf_tags N d0,_,g6,s,rfl,.inr ⟨dN N.tags,.int t,dict_of (st X).2.1,dN_get W.tnd ht,?_⟩⟩⟩
    refine use h10 ?_
    have hnew:∀ v,(d'.length,v)∉N'.tags:=fun v hv=>by
     obtain ⟨s',q1,q2,q3⟩:=(hT.1 _ _).mp hv
     replace q2:=hidx.symm.trans q2;cases q2;exact hsd q1
    refine ⟨F,N',d'.length,t,rfl,X.M,hnew,by have:=hT.2.2;omega,fun lv2 M2 S2=>⟨rfl,(?_)⟩⟩
    refine ⟨_,hL,X.step M2 S2,⟨hBd.m,hBd.h,fun l hl=>by have:=hBd.rm l hl;simp;exact zh107 this,fun l hl=>by have:=hBd.rh l hl;simp;exact zh107 this⟩,hM,hH,fun i t' => ?_,?_,?_⟩
    ·show (i,t')∈N'.tags++[(d'.length,t)]↔_
     rw [List.mem_append,hT.1,List.mem_singleton,Prod.mk.injEq]
     constructor
     ·rintro (⟨s',q1,q2⟩ | ⟨rfl,rfl⟩)
      ·exact ⟨s',List.mem_append_left _ q1,q2⟩
      ·exact ⟨s,by simp,hidx,ht⟩
     ·rintro ⟨s',q1,q2,q3⟩
      rcases List.mem_append.mp q1 with q | q
      ·exact .inl ⟨s',q,q2,q3⟩
      ·simp at q;subst q
       right
       refine ⟨idxu q2,?_⟩
       have q5:=dN_get W.tnd ht
       replace q5:=(dN_get W.tnd q3).symm.trans q5
       simp at q5;exact Int.ofNat_inj.mp q5
    ·show ((N'.tags++[(d'.length,t)]).map (·.1)).Nodup
     rw [List.map_append]
     refine nodup_snoc hT.2.1 fun q => ?_
     obtain ⟨⟨i,v⟩,q1,q2⟩:=List.mem_map.mp q
     dsimp only at q2;subst q2;exact hnew v q1
    ·show (N'.tags++[(d'.length,t)]).length≤_
     have:=hT.2.2;simp;exact this
   ·refine (⟨N',hL,X,hBd.le (by simp;exact zh108) (by simp;exact zh108),hM,hH,fun i t' => ?_,hT.2.1,by have:=hT.2.2;simp;omega⟩)
    rw [hT.1]
    constructor
    ·rintro ⟨s',q1,q2⟩;exact ⟨s',List.mem_append_left _ q1,q2⟩
    ·rintro ⟨s',q1,q2,q3⟩
     rcases List.mem_append.mp q1 with q | q
     ·exact ⟨s',q,q2,q3⟩
     ·simp at q;subst q;exact absurd ⟨t',q3⟩ hk
  ·rintro σ ⟨N',hL,X,hBd,hM,hH,hT⟩
   exact ⟨rfl,by trivial,N',hL,X,hBd.le (by exact zh109 ksl) (by exact zh109 ksl),hM,hH,hT⟩
 rintro σ ⟨N',hL,X,hBd,hM,hH,hT⟩
 have hfk:N.first∈ksL N:=(ksm _).mpr ⟨hfirst,.inl rfl⟩
 obtain ⟨f0,hf0⟩:=List.mem_iff_getElem?.mp hfk
 refine B_cons hΓ ?_
 refine ⟨_,hL.2,F.a,92,mFs F N'.first,70,rfl,X.M.oa,rfl,mt_setf,_,hL.3,_,hL.1,a,92,nfFs N d0,.int N.first,rfl,(st X).1,ok_first,nf_first N d0,N.first,rfl,.inr ⟨placesD (ksL N),.int f0,plc X,placesD_get (ks_nodup N) hf0,?_⟩⟩
 refine use h9 ?_
 refine ⟨F,N',f0,rfl,X.M,fun lv2 M2 S2=>⟨rfl,B_cons hΓ ?_⟩⟩
 have X2:=X.step M2 S2
 obtain ⟨lv3,G3,A3,K3⟩:=NfaM.freeze (σ:=⟨σ.loc,lv2⟩) X2.M
 refine ⟨_,hL.2,_,⟨fun _=>none,lv3⟩,G3.thenV (GhV.here fun _ _ e=>e),?_⟩
 have drop:∀ {s:Nat} {i:Nat},(ksL N)[i]?=some s→s∈ksL N:=fun h=>List.mem_of_getElem? h
 refine hQ lv3 F.a {N' with first:=f0} ⟨hBd.m,fun i m j => ?_,fun i j => ?_,fun i t => ?_,hf0⟩ ?_ A3 fun b x e => ?_
 ·refine Iff.trans (hM i m j) ?_
  exact ⟨fun ⟨s,g,_,q⟩=>⟨s,g,q⟩,fun ⟨s,g,q⟩=>⟨s,g,drop q.1,q⟩⟩
 ·refine Iff.trans (hH i j) ?_
  exact ⟨fun ⟨s,g,_,q⟩=>⟨s,g,q⟩,fun ⟨s,g,q⟩=>⟨s,g,drop q.1,q⟩⟩
 ·rw [hT.1]
  exact ⟨fun ⟨s,_,q⟩=>⟨s,q⟩,fun ⟨s,q⟩=>⟨s,drop q.1,q⟩⟩
 ·have hn:(Nf.n {N' with first:=f0})=(ksL N).length:=hBd.m
  have lt:∀ {i s:Nat},(ksL N)[i]?=some s→i<(ksL N).length:=fun h=>(List.getElem?_eq_some_iff.mp h).1
  refine Wf.of (by rw [hn];exact ksl) (hBd.h.trans hn.symm) hBd.rm (fun i m j h => ?_) hBd.rh (fun i j h => ?_) (fun i t h => ?_) hT.2.1 (by rw [hn];exact lt hf0)
  ·obtain ⟨s,g,_,q1,q2,l,q3,q4⟩:=(hM i m j).mp h
   have:=W.mv l (List.mem_of_getElem? q3) _ q4
   exact ⟨this.1,this.2.1,by rw [hn];exact lt q2⟩
  ·obtain ⟨s,g,_,q1,q2,_⟩:=(hH i j).mp h
   rw [hn];exact lt q2
  ·obtain ⟨s,_,q1,q2⟩:=(hT.1 i t).mp h
   exact ⟨by rw [hn];exact lt q1,(W.tg _ q2).2⟩
 ·obtain ⟨q1,q2,q3⟩:=X2.base b x e
  exact K3 b x q1 q3
end Mine
namespace Mine
variable {Γ:Value→PC}
structure BS0 (lv:LM) (F:NfP) (N:Nf) (m:LM):Prop where
 M:NfaM m F N
 base:∀ b x,lv b=some x→b∉F.all∧m b=some x
theorem BS0.step {lv:LM} {F F':NfP} {N N':Nf} {m m':LM} (X:BS0 lv F N m) (M:NfaM m' F' N') (S:NStep m F m' F'):BS0 lv F' N' m' :=
 ⟨M,fun b x e=>let ⟨h1,h3⟩:=X.base b x e;S.2 b x h3 h1⟩
structure MirOk (N:Nf) (t:Nat) (N':Nf):Prop where
 n:N'.n=N.n+1
 mv:∀ g m s,mvA N' g m s↔mvA N s m g
 hp:∀ p q,hopR N' p q↔hopR N q p∨(p=N.n∧∃ u,(q,u)∈N.tags)
 tg:N'.tags=[(N.first,t)]
 fst:N'.first=N.n
noncomputable def C_mirrored:PC:=fun l lv Q=>E2 fun a N=>∃ (t:Nat),A7 (l=[.ref a,.int t]) (t<8) (NfaAt lv a N) N.Wf (SmallRows N) (N.n≤7) (∀ lv' a' N',MirOk N t N'→N'.Wf→NfaAt lv' a' N'→Ext lv lv'→Q (.ref a') lv')
theorem t_mirrored (hΓ:∀ f,MonoC (Γ f)) (h4:Γ (.ref 92)=C_Nfa) (h5:Γ (.ref 84)=C_state_count) (h6:Γ (.ref 49)=C_add_state) (h7:Γ (.ref 56)=C_add_move) (h8:Γ (.ref 63)=C_add_hop) (h9:Γ (.ref 70)=C_set_first) (h10:Γ (.ref 77)=C_set_tag) :
  Sat I0 Γ m_mirrored_nfa 2 C_mirrored:=by
 rintro l lv Q ⟨a,N,t,rfl,ht8,hN,W,SR,hn7,hQ⟩
 obtain ⟨d0,hN1,hN2⟩:=id hN
 have hfirst:=W.fst
 refine ⟨rfl,B_cons hΓ ?_⟩
 refine use h4 ?_
 refine ⟨rfl,fun lv1 F0 M0 K0 => ?_⟩
 have B0:BS0 lv F0 N0 lv1:=⟨M0,K0⟩
 have st:∀ {m:LM} {F N'},BS0 lv F N' m→m a=some (nfObj N d0)∧m d0=some (.dict (dN N.tags))∧NfaAt m a N:=fun X=>⟨(X.base _ _ hN1).2,(X.base _ _ hN2).2,d0,(X.base _ _ hN1).2,(X.base _ _ hN2).2⟩
 let Lc:NfP→MS→Prop:=fun F σ=>A3 (σ.loc 0=some (.ref a)) (σ.loc 1=some (.int t)) (σ.loc 2=some (.ref F.a))
 let MR1:MS→Prop:=fun σ=>E2 fun F N'=>A3 (Lc F σ) (BS0 lv F N' σ.lv) (Blank N' N.n)
 refine B_mid hΓ MR1 (S_forM hΓ ?_) ?_
 ·refine ⟨.ref a,rfl,a,92,nfFs N d0,84,rfl,(st B0).1,rfl,mt_count,?_⟩
  refine use h5 ?_
  let J2:List Nat→MS→Prop:=fun d' σ=>Mine.E2 fun F N'=>A3 (Lc F σ) (BS0 lv F N' σ.lv) (Blank N' d'.length)
  refine ⟨a,N,rfl,(st B0).2.2,by exact zk0 hn7 rfl,_,List.range N.n,rng_items _,rng_ok (by exact zk0 hn7 rfl),J2,?_,?_,?_⟩
  ·exact ⟨F0,N0,⟨rfl,rfl,rfl⟩,B0,rfl,rfl,rfl⟩
  ·rintro d' s r' σ hdr ⟨F,N',hL,X,hB⟩
   obtain ⟨hsd,hs,hde⟩:=range_split hdr
   refine ⟨rng_items _,_,rfl,B_cons hΓ ?_⟩
   refine ⟨_,hL.3,F.a,92,mFs F N'.first,49,rfl,X.M.oa,rfl,mt_adds,?_⟩
   refine use h6 ?_
   refine ⟨F,N',rfl,X.M,by rw [hB.1];simp;exact zk12 hsd hs hn7 rfl,by rw [hB.1,hB.2.1];simp,fun lv2 F2 M2 S2=>⟨rfl,⟨F2,addS N',⟨hL.1,hL.2,by rw [S2.1];exact hL.3⟩,X.step M2 S2,by rw [List.length_append];exact hB.addS⟩⟩⟩
  ·rintro σ ⟨F,N',hL,X,hB⟩
   rw [List.length_range] at hB
   exact ⟨rng_items _,by trivial,F,N',hL,X,hB⟩
 rintro σ ⟨F,N1,hL,X,hB⟩
 let RelM:List Nat→Nat→Nat→Nat→Prop:=fun d' g m s=>s∈d'∧mvA N s m g
 let RelH:List Nat→Nat→Nat→Prop:=fun d' g s=>s∈d'∧hopR N s g
 let MR3:MS→Prop:=fun σ=>∃ N',A6 (Lc F σ) (BS0 lv F N' σ.lv) (Bd N' N.n 700 700) ((∀ i m j,mvA N' i m j↔RelM (List.range N.n) i m j)) ((∀ i j,hopR N' i j↔RelH (List.range N.n) i j)) (N'.tags=[])
 refine B_mid hΓ MR3 (S_forM hΓ ?_) ?_
 ·refine ⟨_,hL.1,a,92,nfFs N d0,84,rfl,(st X).1,rfl,mt_count,?_⟩
  refine use h5 ?_
  let J4:List Nat→MS→Prop:=fun d' σ=>∃ N',A6 (Lc F σ) (BS0 lv F N' σ.lv) (Bd N' N.n (100*d'.length) (100*d'.length)) ((∀ i m j,mvA N' i m j↔RelM d' i m j)) ((∀ i j,hopR N' i j↔RelH d' i j)) (N'.tags=[])
  refine ⟨a,N,rfl,(st X).2.2,by exact zk0 hn7 rfl,_,List.range N.n,rng_items _,rng_ok (by exact zk0 hn7 rfl),J4,?_,?_,?_⟩
  ·refine ⟨N1,hL,X,⟨by rw [hB.1];simp,by rw [hB.2.1];simp,fun l hl => ?_,fun l hl => ?_⟩,fun i m j=>⟨fun h=>absurd h (hB.mv i m j),fun h=>by cases h.1⟩,fun i j=>⟨fun h=>absurd h (hB.hp i j),fun h=>by cases h.1⟩,hB.2.2⟩
   ·rw [hB.1] at hl;rw [(List.mem_replicate.mp hl).2];simp
   ·rw [hB.2.1] at hl;rw [(List.mem_replicate.mp hl).2];simp
  ·rintro d' s r' σ hdr ⟨N',hL,X,hBd,hM,hH,hT⟩
   obtain ⟨hsd,hs,hde⟩:=range_split hdr
   have hd8:d'.length<8:=by exact zk12 hsd hs hn7 rfl
   obtain ⟨ml,hm1,hm2⟩:=nf_mv hs
   obtain ⟨hl,hh1,hh2⟩:=nf_hops W hs
   have hms:=SR.m ml hm2
   have hhs:=SR.h hl hh2
   refine ⟨rng_items _,_,rfl,?_⟩
   let MR5:MS→Prop:=fun σ=>∃ N',A7 (Lc F σ) (σ.loc 3=some (.int s)) (BS0 lv F N' σ.lv) (Bd N' N.n (100*d'.length+100) (100*d'.length)) ((∀ i m j,mvA N' i m j↔RelM (d'++[s]) i m j)) ((∀ i j,hopR N' i j↔RelH d' i j)) (N'.tags=[])
   refine B_mid hΓ MR5 (S_forM hΓ ?_) ?_
   ·let J914:List (Nat×Nat)→MS→Prop:=fun d2 σ=>∃ N',A7 (Lc F σ) (σ.loc 3=some (.int s)) (BS0 lv F N' σ.lv) (Bd N' N.n (100*d'.length+d2.length) (100*d'.length)) ((∀ i m j,mvA N' i m j↔RelM d' i m j∨(j=s∧(m,i)∈d2))) ((∀ i j,hopR N' i j↔RelH d' i j)) (N'.tags=[])
    refine ⟨.ref a,hL.1,a,92,nfFs N d0,vMoves N.moves,rfl,(st X).1,ok_moves,nf_moves N d0,.int s,rfl,s,rfl,.inl ⟨_,.lst (vMv ml),rfl,?_,at_nat (by rw [List.getElem?_map,hm1];rfl),_,ml,rfl,trivial,J914,?_,?_,?_⟩⟩
    ·simp only [List.length_map,lim_eq];have:N.moves.length≤7:=hn7;exact zk0 this rfl
    ·exact ⟨N',hL,rfl,X,hBd,fun i m j=>by rw [hM];simp,hH,hT⟩
    ·rintro d2 q r2 σ hdr2 ⟨N',hL,g6,X,hBd,hM,hH,hT⟩
     obtain ⟨m,g⟩:=q
     have hmg:=W.mv ml hm2 (m,g) (by rw [←hdr2];simp)
     have hd2:d2.length<100:=by have:=congrArg List.length hdr2;simp at this;exact zh71 this hms
     refine ⟨rfl,_,rfl,B_cons hΓ ?_⟩
     refine ⟨_,hL.3,F.a,92,mFs F N'.first,56,rfl,X.M.oa,rfl,mt_addm,.int g,rfl,.int m,rfl,_,g6,?_⟩
     refine use h7 ?_
     refine ⟨F,N',g,m,s,rfl,X.M,by rw [hBd.m];exact hmg.2.2,by rw [hBd.m];exact zk0 hn7 rfl,fun l hl=>by have:=hBd.rm l hl;exact zh110 hd2 hs hsd this hn7,fun lv2 M2 S2=>⟨rfl,?_⟩⟩
     refine ⟨addM N' g m s,hL,g6,X.step M2 S2,hBd.addM.le (by simp only [List.length_append,List.length_singleton];exact zh104) (Nat.le_refl _),fun i m' j => ?_,fun i j=>by rw [hopR_of_hops addM_hops,hH],addM_tags.trans hT⟩
     rw [mvA_addM (by rw [hBd.m];exact hmg.2.2) (by exact zh105 hmg),hM]
     simp only [List.mem_append,List.mem_singleton,Prod.mk.injEq]
     constructor
     ·rintro ((h | ⟨h1,h2⟩) | ⟨h1,h2,h3⟩)
      ·exact .inl h
      ·exact .inr ⟨h1,.inl h2⟩
      ·exact .inr ⟨h3,.inr ⟨h2,h1⟩⟩
     ·rintro (h | ⟨h1,h2 | ⟨h2,h3⟩⟩)
      ·exact .inl (.inl h)
      ·exact .inl (.inr ⟨h1,h2⟩)
      ·exact .inr ⟨h3,h2,h1⟩
    ·rintro σ ⟨N',hL,g6,X,hBd,hM,hH,hT⟩
     refine ⟨rfl,by trivial,N',hL,g6,X,hBd.le (by exact Nat.add_le_add_iff_left.mpr hms) (Nat.le_refl _),fun i m j => ?_,hH,hT⟩
     rw [hM]
     show _↔j∈d'++[s]∧mvA N j m i
     rw [List.mem_append,List.mem_singleton]
     constructor
     ·rintro (⟨q1,q2⟩ | ⟨rfl,q1⟩)
      ·exact ⟨.inl q1,q2⟩
      ·exact ⟨.inr rfl,ml,hm1,q1⟩
     ·rintro ⟨q1 | rfl,q2⟩
      ·exact .inl ⟨q1,q2⟩
      ·obtain ⟨l',q5,q6⟩:=q2
       replace q5:=hm1.symm.trans q5;cases q5
       exact .inr ⟨rfl,q6⟩
   rintro σ ⟨N',hL,g6,X,hBd,hM,hH,hT⟩
   refine B_cons hΓ (S_forM hΓ ?_)
   let J915:List Nat→MS→Prop:=fun d2 σ=>∃ N',A7 (Lc F σ) (σ.loc 3=some (.int s)) (BS0 lv F N' σ.lv) (Bd N' N.n (100*d'.length+100) (100*d'.length+d2.length)) ((∀ i m j,mvA N' i m j↔RelM (d'++[s]) i m j)) ((∀ i j,hopR N' i j↔RelH d' i j∨(j=s∧i∈d2))) (N'.tags=[])
   refine ⟨.ref a,hL.1,a,92,nfFs N d0,vHops N.hops,rfl,(st X).1,ok_hops,nf_hopsL N d0,_,g6,s,rfl,.inl ⟨_,.lst (vN hl),rfl,?_,at_nat (by rw [List.getElem?_map,hh1];rfl),_,hl,rfl,trivial,J915,?_,?_,?_⟩⟩
   ·simp only [List.length_map,W.len,lim_eq];exact zk0 hn7 rfl
   ·exact ⟨N',hL,g6,X,hBd,hM,fun i j=>by rw [hH];simp,hT⟩
   ·rintro d2 g r2 σ hdr2 ⟨N',hL,g6,X,hBd,hM,hH,hT⟩
    have hg:g<N.n:=W.hp hl hh2 g (by rw [←hdr2];simp)
    have hd2:d2.length<100:=by have:=congrArg List.length hdr2;simp at this;exact zh71 this hhs
    refine ⟨rfl,_,rfl,B_cons hΓ ?_⟩
    refine ⟨_,hL.3,F.a,92,mFs F N'.first,63,rfl,X.M.oa,rfl,mt_addh,.int g,rfl,_,g6,?_⟩
    refine use h8 ?_
    refine ⟨F,N',g,s,rfl,X.M,by rw [hBd.h];exact hg,by rw [hBd.h];exact zk0 hn7 rfl,fun l hl=>by have:=hBd.rh l hl;exact zh110 hd2 hs hsd this hn7,fun lv2 M2 S2=>⟨rfl,?_⟩⟩
    refine ⟨addH N' g s,hL,g6,X.step M2 S2,hBd.addH.le (Nat.le_refl _) (by simp only [List.length_append,List.length_singleton];exact zh104),fun i m' j=>by rw [mvA_of_moves addH_moves,hM],fun i j => ?_,addH_tags.trans hT⟩
    rw [hopR_addH (by rw [hBd.h];exact hg),hH]
    simp only [List.mem_append,List.mem_singleton]
    constructor
    ·rintro ((h | ⟨h1,h2⟩) | ⟨h1,h3⟩)
     ·exact .inl h
     ·exact .inr ⟨h1,.inl h2⟩
     ·exact .inr ⟨h3,.inr h1⟩
    ·rintro (h | ⟨h1,h2 | h2⟩)
     ·exact .inl (.inl h)
     ·exact .inl (.inr ⟨h1,h2⟩)
     ·exact .inr ⟨h2,h1⟩
   ·rintro σ ⟨N',hL,g6,X,hBd,hM,hH,hT⟩
    refine ⟨rfl,⟨N',hL,X,hBd.le (by simp;exact zh108) (by simp;exact zh111 hhs),hM,fun i j => ?_,hT⟩⟩
    rw [hH]
    show _↔j∈d'++[s]∧hopR N j i
    rw [List.mem_append,List.mem_singleton]
    constructor
    ·rintro (⟨q1,q2⟩ | ⟨rfl,q1⟩)
     ·exact ⟨.inl q1,q2⟩
     ·exact ⟨.inr rfl,hl,hh1,q1⟩
    ·rintro ⟨q1 | rfl,q2⟩
     ·exact .inl ⟨q1,q2⟩
     ·obtain ⟨l',q5,q6⟩:=q2
      replace q5:=hh1.symm.trans q5;cases q5
      exact .inr ⟨rfl,q6⟩
  ·rintro σ ⟨N',hL,X,hBd,hM,hH,hT⟩
   refine ⟨rng_items _,by trivial,N',hL,X,hBd.le ?_ ?_,hM,hH,hT⟩<;>(rw [List.length_range];exact zh112 hn7)
 rintro σ ⟨N2,hL,X,hBd,hM,hH,hT⟩
 refine B_cons hΓ ?_
 refine ⟨_,hL.3,F.a,92,mFs F N2.first,70,rfl,X.M.oa,rfl,mt_setf,_,hL.3,F.a,92,mFs F N2.first,49,rfl,X.M.oa,rfl,mt_adds,?_⟩
 refine use h6 ?_
 refine ⟨F,N2,rfl,X.M,by rw [hBd.m];exact zk2 hn7 rfl,by rw [hBd.m,hBd.h],fun lv3 F3 M3 S3 => ?_⟩
 have X3:=X.step M3 S3
 refine use h9 ?_
 refine ⟨F3,addS N2,N2.moves.length,by rw [S3.1],X3.M,fun lv4 M4 S4=>⟨rfl,?_⟩⟩
 have X4:=X3.step M4 S4
 rw [hBd.m] at X4
 have B4:Bd {addS N2 with first:=N.n} (N.n+1) 700 700:=⟨by show (N2.moves++[[]]).length=_;simp [hBd.m],by show (N2.hops++[[]]).length=_;simp [hBd.h],fun l hl=>by
  rcases List.mem_append.mp (show l∈N2.moves++[[]] from hl) with q | q
  ·exact hBd.rm l q
  ·simp at q;subst q;simp,fun l hl=>by
  rcases List.mem_append.mp (show l∈N2.hops++[[]] from hl) with q | q
  ·exact hBd.rh l q
  ·simp at q;subst q;simp⟩
 have M4':∀ i m j,mvA {addS N2 with first:=N.n} i m j↔mvA N j m i:=fun i m j=>by
  refine Iff.trans (mvA_addS (N:=N2) i m j) ((hM i m j).trans ?_)
  show j∈List.range N.n∧_↔_
  rw [List.mem_range]
  exact ⟨fun h=>h.2,fun h=>⟨(mvA_lt W h).1,h⟩⟩
 have H4':∀ i j,hopR {addS N2 with first:=N.n} i j↔hopR N j i:=fun i j=>by
  refine Iff.trans (hopR_addS (N:=N2) i j) ((hH i j).trans ?_)
  show j∈List.range N.n∧_↔_
  rw [List.mem_range]
  exact ⟨fun h=>h.2,fun h=>⟨(hopR_lt W h).1,h⟩⟩
 let MR6:MS→Prop:=fun σ=>∃ N',A7 (Lc F3 σ) (BS0 lv F3 N' σ.lv) (Bd N' (N.n+1) 700 800) ((∀ i m j,mvA N' i m j↔mvA N j m i)) ((∀ i j,hopR N' i j↔hopR N j i∨(i=N.n∧∃ u,(j,u)∈N.tags))) (N'.tags=[]) (N'.first=N.n)
 refine B_mid hΓ MR6 (S_forM hΓ ?_) ?_
 ·refine ⟨_,hL.1,a,92,nfFs N d0,.ref d0,rfl,(st X4).1,ok_tags,nf_tags N d0,dN N.tags,dict_of (st X4).2.1,by simp only [List.length_map];have:=tags_len W;exact zk4 this hn7 rfl,fun ns hp hsr => ?_⟩
  have hns:ns=(setL N.n fun s=>∃ t,(s,t)∈N.tags).map fun (k:Nat)=>(k:Int):=by
   rw [dN_keys] at hp
   refine sorted_eq hp hsr W.tnd fun k => ?_
   simp only [List.mem_map,Prod.exists,exists_and_right,exists_eq_right]
   exact ⟨fun h=>⟨let ⟨t,q⟩:=h;(W.tg _ q).1,h⟩,fun h=>h.2⟩
  let ts:=setL N.n fun s=>∃ t,(s,t)∈N.tags
  have tsl:ts.length≤7:=Nat.le_trans setL_len hn7
  have hvn:ns.map V.int=vN ts:=by rw [hns];simp [vN,List.map_map,Function.comp_def,ts]
  rw [hvn]
  let J7:List Nat→MS→Prop:=fun d' σ=>∃ N',A7 (Lc F3 σ) (BS0 lv F3 N' σ.lv) (Bd N' (N.n+1) 700 (700+d'.length)) ((∀ i m j,mvA N' i m j↔mvA N j m i)) ((∀ i j,hopR N' i j↔hopR N j i∨(i=N.n∧j∈d'))) (N'.tags=[]) (N'.first=N.n)
  refine ⟨_,ts,rfl,trivial,J7,?_,?_,?_⟩
  ·exact ⟨{addS N2 with first:=N.n},⟨hL.1,hL.2,by rw [S3.1];exact hL.3⟩,X4,B4,M4',fun i j=>by rw [H4'];simp,hT,rfl⟩
  ·rintro d' s r' σ hdr ⟨N',hL,X,hBd,hM,hH,hT,hF⟩
   have hd7:d'.length<8:=by have:=congrArg List.length hdr;simp at this;exact zh113 this tsl
   refine ⟨rfl,_,rfl,B_cons hΓ ?_⟩
   refine ⟨_,hL.3,F3.a,92,mFs F3 N'.first,63,rfl,X.M.oa,rfl,mt_addh,_,hL.3,F3.a,92,mFs F3 N'.first,.int N'.first,rfl,X.M.oa,ok_first,m_first F3 N'.first,.int s,rfl,?_⟩
   refine use h8 ?_
   refine ⟨F3,N',N'.first,s,rfl,X.M,by rw [hBd.h,hF];exact zq21,by rw [hBd.h];exact zh114 hn7,fun l hl=>by have:=hBd.rh l hl;exact zh115 hd7 this,fun lv2 M2 S2=>⟨rfl,?_⟩⟩
   refine ⟨addH N' N'.first s,hL,X.step M2 S2,hBd.addH.le (Nat.le_refl _) (by simp only [List.length_append,List.length_singleton];exact zh104),fun i m' j=>by rw [mvA_of_moves addH_moves,hM],fun i j => ?_,addH_tags.trans hT,addH_first.trans hF⟩
   rw [hopR_addH (by rw [hBd.h,hF];exact zq21),hH,hF]
   simp only [List.mem_append,List.mem_singleton]
   constructor
   ·rintro ((h | ⟨h1,h2⟩) | ⟨h1,h3⟩)
    ·exact .inl h
    ·exact .inr ⟨h1,.inl h2⟩
    ·exact .inr ⟨h1,.inr h3⟩
   ·rintro (h | ⟨h1,h2 | h2⟩)
    ·exact .inl (.inl h)
    ·exact .inl (.inr ⟨h1,h2⟩)
    ·exact .inr ⟨h1,h2⟩
  ·rintro σ ⟨N',hL,X,hBd,hM,hH,hT,hF⟩
   refine ⟨rfl,by trivial,N',hL,X,hBd.le (Nat.le_refl _) (by exact zh116 tsl),hM,fun i j => ?_,hT,hF⟩
   rw [hH]
   refine or_congr Iff.rfl (and_congr_right fun _ => ?_)
   exact ⟨fun h=>(mem_setL.mp h).2,fun h=>mem_setL.mpr ⟨let ⟨u,q⟩:=h;(W.tg _ q).1,h⟩⟩
 rintro σ ⟨N',hL,X,hBd,hM,hH,hT,hF⟩
 refine B_cons hΓ ?_
 refine ⟨_,hL.3,F3.a,92,mFs F3 N'.first,77,rfl,X.M.oa,rfl,mt_sett,_,hL.1,a,92,nfFs N d0,.int N.first,rfl,(st X).1,ok_first,nf_first N d0,_,hL.2,?_⟩
 refine use h10 ?_
 refine ⟨F3,N',N.first,t,rfl,X.M,fun v=>by rw [hT];simp,by rw [hT];simp,fun lv5 M5 S5=>⟨rfl,B_cons hΓ ?_⟩⟩
 have X5:=X.step M5 S5
 obtain ⟨lv6,G6,A6,K6⟩:=NfaM.freeze (σ:=⟨σ.loc,lv5⟩) X5.M
 refine ⟨_,hL.3,_,⟨fun _=>none,lv6⟩,G6.thenV (GhV.here fun _ _ e=>e),?_⟩
 have hn:(Nf.n {N' with tags:=N'.tags++[(N.first,t)]})=N.n+1:=hBd.m
 refine hQ lv6 F3.a {N' with tags:=N'.tags++[(N.first,t)]} ⟨hn,hM,hH,by show N'.tags++_=_;rw [hT];rfl,hF⟩ ?_ A6 fun b x e => ?_
 ·refine Wf.of (by rw [hn];exact Nat.succ_le_succ hn7) (hBd.h.trans hn.symm) (fun l hl=>by have:=hBd.rm l hl;exact zk0 this rfl) (fun i m j h => ?_) (fun l hl=>by have:=hBd.rh l hl;exact zk0 this rfl) (fun i j h => ?_) (fun i u h => ?_) ?_ (by rw [hn];show N'.first<_;rw [hF];exact zq21)
  ·have h:=(hM i m j).mp h
   obtain ⟨l,q3,q4⟩:=id h
   have:=W.mv l (List.mem_of_getElem? q3) _ q4
   exact ⟨this.1,this.2.1,by rw [hn];have:=(mvA_lt W h).1;exact zh87 this⟩
  ·rw [hn]
   rcases (hH i j).mp h with h | ⟨_,u,h⟩
   ·have:=(hopR_lt W h).1;exact zh87 this
   ·have:=(W.tg _ h).1;dsimp only at this;exact zh87 this
  ·have h:(i,u)∈N'.tags++[(N.first,t)]:=h
   rw [hT] at h;simp at h;obtain ⟨rfl,rfl⟩:=h
   exact ⟨by rw [hn];exact zh87 hfirst,ht8⟩
  ·show ((N'.tags++[(N.first,t)]).map (·.1)).Nodup
   rw [hT];simp
 ·obtain ⟨q1,q3⟩:=X5.base b x e
  exact K6 b x q1 q3
end Mine
namespace Mine
theorem mvR_iff {N:Nf} {k s g:Nat}:mvR N k s g↔∃ m,mvA N s m g∧bitP m k:=⟨fun ⟨l,m,h1,h2,h3⟩=>⟨m,⟨l,h1,h2⟩,h3⟩,fun ⟨m,⟨l,h1,h2⟩,h3⟩=>⟨l,m,h1,h2,h3⟩⟩
noncomputable def Pth (N:Nf):Nat→List Nat→Nat→Prop
 | s,[],t=>Rc (hopR N) s t
 | s,k::w,t=>∃ u v,Rc (hopR N) s u∧mvR N k u v∧Pth N v w t
theorem Pth.pre {N:Nf} {s u t:Nat} {w:List Nat} (h:Rc (hopR N) s u) (p:Pth N u w t):Pth N s w t:=by
 cases w with
 | nil=>exact h.trans p
 | cons k w=>obtain ⟨x,v,h1,h2,h3⟩:=p;exact ⟨x,v,h.trans h1,h2,h3⟩
theorem Pth.app {N:Nf}:∀ {w1 w2:List Nat} {s t:Nat},Pth N s (w1++w2) t↔∃ u,Pth N s w1 u∧Pth N u w2 t
 | [],w2,s,t=>⟨fun h=>⟨s,.refl,h⟩,fun ⟨u,h1,h2⟩=>Pth.pre h1 h2⟩
 | k::w1,w2,s,t=>by
  constructor
  ·rintro ⟨u,v,h1,h2,h3⟩
   obtain ⟨x,h4,h5⟩:=Pth.app.mp h3
   exact ⟨x,⟨u,v,h1,h2,h4⟩,h5⟩
  ·rintro ⟨x,⟨u,v,h1,h2,h4⟩,h5⟩
   exact ⟨u,v,h1,h2,Pth.app.mpr ⟨x,h4,h5⟩⟩
abbrev wI (w:List Nat):List Int:=w.map fun (i:Nat)=>(i:Int)
theorem stepZ_nat {N:Nf} {S:Nat→Prop} {k:Nat}:stepZ N S (k:Int)=stepS N S k:=by
 unfold stepZ;rw [if_neg (by exact zq5),Int.toNat_natCast]
theorem run_path {N:Nf}:∀ (w:List Nat) (S:Nat→Prop) (t:Nat),runS N (clo N S) (wI w) t↔∃ s,S s∧Pth N s w t
 | [],S,t=>Iff.rfl
 | k::w,S,t=>by
  show runS N (stepZ N (clo N S) (k:Int)) (wI w) t↔_
  rw [stepZ_nat]
  refine Iff.trans (run_path w _ t) ?_
  constructor
  ·rintro ⟨g,⟨s,⟨s0,h1,h2⟩,h3⟩,h4⟩
   exact ⟨s0,h1,s,g,h2,h3,h4⟩
  ·rintro ⟨s0,h1,s,g,h2,h3,h4⟩
   exact ⟨g,⟨s,⟨s0,h1,h2⟩,h3⟩,h4⟩
theorem run_begin {N:Nf} (w:List Nat) (t:Nat):runS N (beginS N) (wI w) t↔Pth N N.first w t:=by
 refine Iff.trans (run_path w _ t) ?_
 exact ⟨fun ⟨s,h1,h2⟩=>by simp at h1;subst h1;exact h2,fun h=>⟨N.first,by simp,h⟩⟩
theorem run_snoc {N:Nf} {S:Nat→Prop} {w:List Nat} {k:Nat}:runS N S (wI (w++[k]))=stepS N (runS N S (wI w)) k:=by
 unfold runS wI
 rw [List.map_append,List.foldl_append]
 show stepZ N _ (k:Int)=_
 rw [stepZ_nat]
theorem runS_lt {N:Nf} (W:N.Wf) {S:Nat→Prop} (hS:∀ s,S s→s<N.n):∀ (ks:List Int) (t:Nat),runS N S ks t→t<N.n:=by
 intro ks
 induction ks generalizing S with
 | nil=>exact fun t h=>hS t h
 | cons k r ih=>exact fun t h=>ih (fun s hs=>stepZ_lt W hs) t h
section
variable {N N':Nf} {t0:Nat} (W:N.Wf) (M:MirOk N t0 N')
include W M
theorem mir_hop {p q:Nat} (hp:p<N.n):hopR N' p q↔hopR N q p:=by
 rw [M.hp]
 exact ⟨fun h=>h.elim id fun e=>by omega,.inl⟩
set_option tactic.hygienic true in
theorem mir_rc {p q:Nat} (hp:p<N.n):Rc (hopR N') p q↔Rc (hopR N) q p:=by
 constructor
 ·intro h
  have:Rc (hopR N) q p∧q<N.n:=by
   induction h with
   | refl=>exact ⟨.refl,hp⟩
   | tail _ h ih =>
    have h2:=(mir_hop W M ih.2).mp h
    exact ⟨Rc.head h2 ih.1,(hopR_lt W h2).1⟩
  exact this.1
 ·intro h
  induction h with
  | refl=>exact .refl
  | tail x h ih =>
   rename_i b c
   have hb:=(hopR_lt W h).1
   exact Rc.head ((M.hp c b).mpr (.inl h)) (ih hb)
theorem mir_mv {k p q:Nat}:mvR N' k p q↔mvR N k q p:=by
 rw [mvR_iff,mvR_iff]
 exact exists_congr fun m=>by rw [M.mv]
theorem mir_path {p:Nat} (hp:p<N.n):∀ {w:List Nat} {s:Nat},Pth N' p w.reverse s↔Pth N s w p
 | [],s=>mir_rc W M hp
 | k::w,s=>by
  rw [List.reverse_cons,Pth.app]
  constructor
  ·rintro ⟨u,h1,x,v,h2,h3,h4⟩
   have h3':=(mir_mv W M).mp h3
   have h1':Pth N' p w.reverse x:=Pth.app (w2:=[]) |>.mpr ⟨u,h1,h2⟩ |> fun h=>by simpa using h
   exact ⟨v,x,(mir_rc W M (mvR_iff.mp h3' |> fun ⟨m,h,_⟩=>(mvA_lt W h).1)).mp h4,h3',(mir_path hp).mp h1'⟩
  ·rintro ⟨v,x,h1,h2,h3⟩
   exact ⟨x,(mir_path hp).mpr h3,x,v,.refl,(mir_mv W M).mpr h2,(mir_rc W M (mvR_iff.mp h2 |> fun ⟨m,h,_⟩=>(mvA_lt W h).1)).mpr h1⟩
set_option tactic.hygienic true in
theorem mir_n_rc {q:Nat}:Rc (hopR N') N.n q↔q=N.n∨∃ u t,(u,t)∈N.tags∧Rc (hopR N') u q:=by
 constructor
 ·intro h
  induction h with
  | refl=>exact .inl rfl
  | tail x h ih =>
   rename_i b c
   rcases ih with rfl | ⟨u,t,h1,h2⟩
   ·rcases (M.hp _ _).mp h with h | ⟨_,u,h⟩
    ·exact absurd (hopR_lt W h).2 (Nat.lt_irrefl _)
    ·exact .inr ⟨c,u,h,.refl⟩
   ·exact .inr ⟨u,t,h1,.tail h2 h⟩
 ·rintro (rfl | ⟨u,t,h1,h2⟩)
  ·exact .refl
  ·exact Rc.head ((M.hp _ _).mpr (.inr ⟨rfl,t,h1⟩)) h2
theorem mir_run (w:List Nat):runS N' (beginS N') (wI w.reverse) N.first↔∃ s t,runS N (beginS N) (wI w) s∧(s,t)∈N.tags:=by
 rw [run_begin,M.fst]
 have key:Pth N' N.n w.reverse N.first↔∃ u t,(u,t)∈N.tags∧Pth N' u w.reverse N.first:=by
  cases hw:w.reverse with
  | nil =>
   refine Iff.trans (mir_n_rc W M) ?_
   exact ⟨fun h=>h.resolve_left (Nat.ne_of_lt W.fst),.inr⟩
  | cons k r =>
   constructor
   ·rintro ⟨x,v,h1,h2,h3⟩
    rcases (mir_n_rc W M).mp h1 with rfl | ⟨u,t,h4,h5⟩
    ·obtain ⟨m,h6,_⟩:=mvR_iff.mp ((mir_mv W M).mp h2)
     exact absurd (mvA_lt W h6).2 (Nat.lt_irrefl _)
    ·exact ⟨u,t,h4,x,v,h5,h2,h3⟩
   ·rintro ⟨u,t,h4,x,v,h5,h2,h3⟩
    exact ⟨x,v,(mir_n_rc W M).mpr (.inr ⟨u,t,h4,h5⟩),h2,h3⟩
 rw [key]
 constructor
 ·rintro ⟨u,t,h1,h2⟩
  exact ⟨u,t,(run_begin w u).mpr ((mir_path W M (W.tg _ h1).1).mp h2),h1⟩
 ·rintro ⟨u,t,h1,h2⟩
  exact ⟨u,t,h2,(mir_path W M (W.tg _ h2).1).mpr ((run_begin w u).mp h1)⟩
theorem mir_tags (w:List Nat) (t:Nat):tagS N' (runS N' (beginS N') (wI w.reverse)) t↔t=t0∧∃ s u,runS N (beginS N) (wI w) s∧(s,u)∈N.tags:=by
 rw [←mir_run W M w]
 unfold tagS
 rw [M.tg]
 constructor
 ·rintro ⟨s,h1,h2⟩
  simp at h2;obtain ⟨rfl,rfl⟩:=h2
  exact ⟨rfl,h1⟩
 ·rintro ⟨rfl,h⟩;exact ⟨N.first,h,by simp⟩
end
noncomputable def rfS (N:Nf) (s:Nat):Prop:=Rc (lkR N) N.first s
noncomputable def lvS (N:Nf) (s:Nat):Prop:=∃ m t,(m,t)∈N.tags∧Rc (lkR N) s m
section
variable {N L:Nf} (W:N.Wf) (P:PrOk N L)
include W P
theorem pr_idx {s:Nat} (hs:s<N.n) (h1:rfS N s) (h2:lvS N s):∃ i:Nat,(ksL N)[i]?=some s :=
 List.mem_iff_getElem?.mp (mem_setL.mpr ⟨hs,.inr ⟨h1,h2⟩⟩)
theorem pr_hop {i j s g:Nat} (h1:(ksL N)[i]?=some s) (h2:(ksL N)[j]?=some g):hopR L i j↔hopR N s g:=by
 rw [P.hp]
 constructor
 ·rintro ⟨s',g',q1,q2,q3⟩
  replace q1:=h1.symm.trans q1;replace q2:=h2.symm.trans q2;cases q1;cases q2;exact q3
 ·intro h;exact ⟨s,g,h1,h2,h⟩
theorem pr_mv {k i j s g:Nat} (h1:(ksL N)[i]?=some s) (h2:(ksL N)[j]?=some g):mvR L k i j↔mvR N k s g:=by
 rw [mvR_iff,mvR_iff]
 refine exists_congr fun m=>and_congr_left fun _ => ?_
 rw [P.mv]
 constructor
 ·rintro ⟨s',g',q1,q2,q3⟩
  replace q1:=h1.symm.trans q1;replace q2:=h2.symm.trans q2;cases q1;cases q2;exact q3
 ·intro h;exact ⟨s,g,h1,h2,h⟩
theorem lk_lv {s g:Nat} (h:lkR N s g) (h2:lvS N g):lvS N s:=let ⟨m,t,q1,q2⟩:=h2;⟨m,t,q1,Rc.head h q2⟩
theorem lk_rf {s g:Nat} (h:lkR N s g) (h2:rfS N s):rfS N g:=Rc.tail h2 h
theorem rc_lv {s g:Nat} (h:Rc (hopR N) s g) (h2:lvS N g):lvS N s:=by
 induction h with
 | refl=>exact h2
 | tail _ h ih=>exact ih (lk_lv W P (.inr h) h2)
theorem rc_rf {s g:Nat} (h:Rc (hopR N) s g) (h2:rfS N s):rfS N g:=h2.trans (Rc.mono (fun _ _ q=> .inr q) h)
theorem mv_lk {k s g:Nat} (h:mvR N k s g):lkR N s g:=let ⟨m,h,_⟩:=mvR_iff.mp h;.inl ⟨m,h⟩
set_option tactic.hygienic true in
theorem pr_rc {i s g:Nat} (h1:(ksL N)[i]?=some s) (hs:rfS N s) (h:Rc (hopR N) s g) (hg:lvS N g):∃ j,(ksL N)[j]?=some g∧Rc (hopR L) i j:=by
 induction h with
 | refl=>exact ⟨i,h1,.refl⟩
 | tail x h ih =>
  rename_i b c
  obtain ⟨j,q1,q2⟩:=ih (lk_lv W P (.inr h) hg)
  obtain ⟨j',q3⟩:=pr_idx W P (hopR_lt W h).2 (lk_rf W P (.inr h) (rc_rf W P x hs)) hg
  exact ⟨j',q3,.tail q2 ((pr_hop W P q1 q3).mpr h)⟩
theorem pth_lv {s g:Nat}:∀ {w:List Nat} {s:Nat},Pth N s w g→lvS N g→lvS N s
 | [],s,h,h2=>rc_lv W P h h2
 | k::w,s,⟨u,v,h1,h3,h4⟩,h2=>rc_lv W P h1 (lk_lv W P (mv_lk W P h3) (pth_lv (s:=s) h4 h2))
theorem pr_path {g:Nat} (hg:lvS N g):∀ {w:List Nat} {i s:Nat},(ksL N)[i]?=some s→rfS N s→Pth N s w g→∃ j,(ksL N)[j]?=some g∧Pth L i w j
 | [],i,s,h1,hs,h=>pr_rc W P h1 hs h hg
 | k::w,i,s,h1,hs,⟨u,v,h2,h3,h4⟩=>by
  have hv:=pth_lv W P (s:=s) h4 hg
  have hu:=lk_lv W P (mv_lk W P h3) hv
  obtain ⟨ju,q1,q2⟩:=pr_rc W P h1 hs h2 hu
  have rv:=lk_rf W P (mv_lk W P h3) (rc_rf W P h2 hs)
  obtain ⟨jv,q3⟩:=pr_idx W P (mv_lt W h3) rv hv
  obtain ⟨j,q4,q5⟩:=pr_path hg q3 rv h4
  exact ⟨j,q4,ju,jv,q2,(pr_mv W P q1 q3).mpr h3,q5⟩
theorem pr_rc' {i j s:Nat} (h1:(ksL N)[i]?=some s) (h:Rc (hopR L) i j):∃ g,(ksL N)[j]?=some g∧Rc (hopR N) s g:=by
 induction h with
 | refl=>exact ⟨s,h1,.refl⟩
 | tail x h ih =>
  obtain ⟨g,q1,q2⟩:=ih
  obtain ⟨s',g',q3,q4,q5⟩:=(P.hp _ _).mp h
  replace q3:=q1.symm.trans q3;cases q3
  exact ⟨g',q4,.tail q2 q5⟩
theorem pr_path' {j:Nat}:∀ {w:List Nat} {i s:Nat},(ksL N)[i]?=some s→Pth L i w j→∃ g,(ksL N)[j]?=some g∧Pth N s w g
 | [],i,s,h1,h=>pr_rc' W P h1 h
 | k::w,i,s,h1,⟨u,v,h2,h3,h4⟩=>by
  obtain ⟨gu,q1,q2⟩:=pr_rc' W P h1 h2
  obtain ⟨m,h5,h6⟩:=mvR_iff.mp h3
  obtain ⟨s',gv,q3,q4,q5⟩:=(P.mv _ _ _).mp h5
  replace q3:=q1.symm.trans q3;cases q3
  obtain ⟨g,q6,q7⟩:=pr_path' q4 h4
  exact ⟨g,q6,gu,gv,q2,mvR_iff.mpr ⟨m,q5,h6⟩,q7⟩
theorem pr_tags (w:List Nat) (t:Nat):tagS L (runS L (beginS L) (wI w)) t↔tagS N (runS N (beginS N) (wI w)) t:=by
 constructor
 ·rintro ⟨j,h1,h2⟩
  obtain ⟨g,q1,q2⟩:=pr_path' W P P.fst ((run_begin w j).mp h1)
  obtain ⟨s,q3,q4⟩:=(P.tg j t).mp h2
  replace q3:=q1.symm.trans q3;cases q3
  exact ⟨g,(run_begin w g).mpr q2,q4⟩
 ·rintro ⟨g,h1,h2⟩
  obtain ⟨j,q1,q2⟩:=pr_path W P (⟨g,t,h2,.refl⟩:lvS N g) P.fst .refl ((run_begin w g).mp h1)
  exact ⟨j,(run_begin w j).mpr q2,(P.tg j t).mpr ⟨g,q1,h2⟩⟩
theorem pr_lk {i j s g:Nat} (h1:(ksL N)[i]?=some s) (h2:(ksL N)[j]?=some g) (h:lkR N s g):lkR L i j:=by
 rcases h with ⟨m,h⟩ | h
 ·exact .inl ⟨m,(P.mv _ _ _).mpr ⟨s,g,h1,h2,h⟩⟩
 ·exact .inr ((pr_hop W P h1 h2).mpr h)
set_option tactic.hygienic true in
theorem pr_lks {i s g:Nat} (h1:(ksL N)[i]?=some s) (hs:rfS N s) (h:Rc (lkR N) s g) (hg:lvS N g):∃ j,(ksL N)[j]?=some g∧Rc (lkR L) i j:=by
 induction h with
 | refl=>exact ⟨i,h1,.refl⟩
 | tail x h ih =>
  rename_i b c
  obtain ⟨j,q1,q2⟩:=ih (lk_lv W P h hg)
  obtain ⟨j',q3⟩:=pr_idx W P (lkR_lt W h).2 (hs.trans (.tail x h)) hg
  exact ⟨j',q3,.tail q2 (pr_lk W P q1 q3 h)⟩
theorem pr_way:wayOk L:=by
 intro p hp hpf
 rw [P.n] at hp
 obtain ⟨s,hs⟩:∃ s,(ksL N)[p]?=some s:=⟨_,List.getElem?_eq_getElem hp⟩
 have hsk:=(mem_setL.mp (List.mem_of_getElem? hs)).2
 rcases hsk with rfl | ⟨h1,h2⟩
 ·exact absurd (nodup_idx (ks_nodup N) hs P.fst) hpf
 ·obtain ⟨j,q1,q2⟩:=pr_lks W P P.fst .refl h1 h2
  have:=nodup_idx (ks_nodup N) q1 hs
  subst this
  obtain ⟨m,t,h3,h4⟩:=h2
  obtain ⟨j',q3,q4⟩:=pr_lks W P hs h1 h4 ⟨m,t,h3,.refl⟩
  exact ⟨q2,j',t,(P.tg _ _).mpr ⟨m,q3,h3⟩,q4⟩
end
theorem wm_bit {N:Nf} (S:Nat→Prop) (s:Nat):bitS (wm N S) s↔s<N.n∧S s∧wgt N s:=maskS_bit
theorem wm_tags {N:Nf} (W:N.Wf) (S:Nat→Prop) (t:Nat):tagS N (bitS (wm N S)) t↔tagS N S t:=by
 constructor
 ·rintro ⟨s,h1,h2⟩;exact ⟨s,((wm_bit S s).mp h1).2.1,h2⟩
 ·rintro ⟨s,h1,h2⟩;exact ⟨s,(wm_bit S s).mpr ⟨(W.tg _ h2).1,h1,.inr ⟨t,h2⟩⟩,h2⟩
theorem wm_step {N:Nf} (S:Nat→Prop) (k:Nat):stepS N (bitS (wm N S)) k=stepS N S k:=by
 funext g;apply propext
 constructor
 ·rintro ⟨v,⟨s,h1,h2⟩,h3⟩;exact ⟨v,⟨s,((wm_bit S s).mp h1).2.1,h2⟩,h3⟩
 ·rintro ⟨v,⟨s,h1,h2⟩,h3⟩
  obtain ⟨m,h4,h5⟩:=mvR_iff.mp h2
  refine ⟨v,⟨s,(wm_bit S s).mpr ⟨?_,h1,.inl ⟨m,v,h4⟩⟩,h2⟩,h3⟩
  obtain ⟨l,q,_⟩:=h4
  exact (List.getElem?_eq_some_iff.mp q).1
theorem nxt_wm {N:Nf} (S:Nat→Prop) (k:Nat):nxt N (wm N S) k=wm N (stepS N S k):=by unfold nxt;rw [wm_step]
end Mine
namespace Mine
noncomputable def st_1:MSt:=(.asgN 1 (.lst true (.cons (.bin false .add (.comp false [] (.var 1) (.bi .int false (.cons (.loc 1) .nil)) .tt false (.upto false (.loc 0) (.int 40))) (.lst false (.cons (.int 6) (.cons (.int 21) .nil)))) (.cons (.int 0) (.cons (.int 0) .nil)))))
noncomputable def st_2:MSt:=(.asgN 2 (.bin false .add (.int 1) (.call (.ref 292) (.cons (.loc 1) (.cons (.int 6) .nil)))))
noncomputable def st_3:MSt:=(.asgN 3 (.call (.ref 92) .nil))
noncomputable def st_4:MSt:=(.for_ (.var 4) (.bi .range false (.cons (.loc 2) .nil)) (.cons (.ife (.cmp .ne (.meth (.loc 3) "add_state" .nil) (.loc 4)) (.cons (.ret (.bool false)) .nil) .nil) .nil))
noncomputable def st_5:MSt:=(.asgN 5 (.lst true .nil))
noncomputable def st_6_1:MSt:=(.asgN 4 (.call (.ref 292) (.cons (.loc 1) (.cons (.loc 2) .nil))))
noncomputable def st_6_2:MSt:=(.asgN 7 (.call (.ref 292) (.cons (.loc 1) (.cons (.loc 2) .nil))))
noncomputable def st_6_3:MSt:=(.expr (.meth (.loc 3) "add_hop" (.cons (.loc 4) (.cons (.loc 7) .nil))))
noncomputable def st_6_4:MSt:=(.expr (.lmeth (.loc 5) .append (.cons (.tup (.cons (.loc 4) (.cons (.loc 7) .nil))) .nil)))
noncomputable def st_6:MSt:=(.for_ (.var 6) (.bi .range false (.cons (.call (.ref 292) (.cons (.loc 1) (.cons (.int 6) .nil))) .nil)) (.cons st_6_1 (.cons st_6_2 (.cons st_6_3 (.cons st_6_4 .nil)))))
noncomputable def st_7:MSt:=(.asgN 8 (.lst true .nil))
noncomputable def st_8:MSt:=(.for_ (.var 6) (.bi .range false (.cons (.call (.ref 292) (.cons (.loc 1) (.cons (.int 4) .nil))) .nil)) (.cons (.asgN 4 (.call (.ref 292) (.cons (.loc 1) (.cons (.loc 2) .nil)))) (.cons (.ife (.cmp .eq (.comp false [(2,4)] (.var 1) (.loc 1) (.cmp .eq (.sub (.loc 1) (.int 0)) (.loc 2)) false (.loc 8)) (.lst false .nil)) (.cons (.asgN 9 (.call (.ref 292) (.cons (.loc 1) (.cons (.int 2) .nil)))) (.cons (.expr (.meth (.loc 3) "set_tag" (.cons (.loc 4) (.cons (.loc 9) .nil)))) (.cons (.expr (.lmeth (.loc 8) .append (.cons (.tup (.cons (.loc 4) (.cons (.loc 9) .nil))) .nil))) .nil))) .nil) .nil)))
noncomputable def st_9:MSt:=(.asgN 10 (.call (.ref 292) (.cons (.loc 1) (.cons (.loc 2) .nil))))
noncomputable def st_10:MSt:=(.expr (.meth (.loc 3) "set_first" (.cons (.loc 10) .nil)))
noncomputable def st_11:MSt:=(.asgN 11 (.lst true .nil))
noncomputable def st_12_1:MSt:=(.asgN 4 (.call (.ref 292) (.cons (.loc 1) (.cons (.loc 2) .nil))))
noncomputable def st_12_2:MSt:=(.asgN 12 (.call (.ref 292) (.cons (.loc 1) (.cons (.int 8) .nil))))
noncomputable def st_12_3:MSt:=(.asgN 7 (.call (.ref 292) (.cons (.loc 1) (.cons (.loc 2) .nil))))
noncomputable def st_12_4:MSt:=(.expr (.meth (.loc 3) "add_move" (.cons (.loc 4) (.cons (.loc 12) (.cons (.loc 7) .nil)))))
noncomputable def st_12_5:MSt:=(.expr (.lmeth (.loc 11) .append (.cons (.tup (.cons (.loc 4) (.cons (.loc 12) (.cons (.loc 7) .nil)))) .nil)))
noncomputable def st_12:MSt:=(.for_ (.var 6) (.bi .range false (.cons (.call (.ref 292) (.cons (.loc 1) (.cons (.int 8) .nil))) .nil)) (.cons st_12_1 (.cons st_12_2 (.cons st_12_3 (.cons st_12_4 (.cons st_12_5 .nil))))))
noncomputable def st_13:MSt:=(.asgN 13 (.call (.ref 297) (.cons (.loc 2) (.cons (.loc 5) .nil))))
noncomputable def st_14:MSt:=(.asgN 14 (.comp false [(3,1)] (.var 1) (.bin false .sub (.call (.ref 292) (.cons (.loc 3) (.cons (.int 5) .nil))) (.int 1)) .tt false (.bi .range false (.cons (.int 5) .nil))))
noncomputable def st_15:MSt:=(.asgN 15 (.call (.ref 292) (.cons (.loc 1) (.cons (.int 2) .nil))))
noncomputable def st_16:MSt:=(.ife (.or (.cmp .ne (.meth (.loc 3) "state_count" .nil) (.loc 2)) (.cmp .ne (.call (.ref 108) (.cons (.loc 3) .nil)) (.bi .tuple false (.cons (.call (.ref 302) (.cons (.loc 13) (.cons (.lst false (.cons (.loc 10) .nil)) .nil))) .nil)))) (.cons (.ret (.bool false)) .nil) .nil)
noncomputable def st_17:MSt:=(.asgN 16 (.meth (.loc 3) "links" .nil))
noncomputable def st_18_1:MSt:=(.asgN 17 (.call (.ref 302) (.cons (.loc 13) (.cons (.lst false (.cons (.loc 4) .nil)) .nil))))
noncomputable def st_18_2:MSt:=(.asgN 18 (.comp false [(4,4)] (.three (.var 1) (.var 2) (.var 3)) (.tup (.cons (.loc 2) (.cons (.loc 3) .nil))) (.and (.cmp .eq (.loc 1) (.loc 4)) (.cmp .gt (.loc 2) (.int 0))) false (.loc 11)))
noncomputable def st_18_3:MSt:=(.asgN 20 (.comp false [(4,5),(5,4)] (.two (.var 1) (.two (.var 2) (.var 3))) (.loc 3) (.and (.cmp .eq (.loc 2) (.loc 5)) (.cmp .notin (.tup (.cons (.loc 2) (.cons (.loc 3) .nil))) (.upto false (.loc 4) (.loc 1)))) true (.loc 5)))
noncomputable def st_18_4:MSt:=(.ife (.or (.cmp .ne (.sub (.attr (.loc 3) "moves") (.loc 4)) (.loc 18)) (.cmp .ne (.sub (.attr (.loc 3) "hops") (.loc 4)) (.loc 20))) (.cons (.ret (.bool false)) .nil) .nil)
noncomputable def st_18_5:MSt:=(.ife (.cmp .ne (.sub (.loc 16) (.loc 4)) (.bin false .add (.comp false [] (.two (.var 1) (.var 2)) (.loc 2) .tt false (.loc 18)) (.loc 20))) (.cons (.ret (.bool false)) .nil) .nil)
noncomputable def st_18_6:MSt:=(.ife (.or (.cmp .ne (.call (.ref 101) (.cons (.loc 3) (.cons (.lst false (.cons (.loc 4) (.cons (.loc 4) .nil))) .nil))) (.bi .tuple false (.cons (.loc 17) .nil))) (.cmp .ne (.call (.ref 115) (.cons (.loc 3) (.cons (.loc 17) (.cons (.neg 1) .nil)))) (.tup .nil))) (.cons (.ret (.bool false)) .nil) .nil)
noncomputable def st_18_7:MSt:=(.for_ (.var 21) (.bi .range false (.cons (.int 4) .nil)) (.cons (.ife (.cmp .ne (.call (.ref 115) (.cons (.loc 3) (.cons (.loc 17) (.cons (.loc 21) .nil)))) (.bi .tuple false (.cons (.call (.ref 307) (.cons (.loc 13) (.cons (.loc 11) (.cons (.loc 17) (.cons (.loc 21) .nil))))) .nil))) (.cons (.ret (.bool false)) .nil) .nil) .nil))
noncomputable def st_18:MSt:=(.for_ (.var 4) (.bi .range false (.cons (.loc 2) .nil)) (.cons st_18_1 (.cons st_18_2 (.cons st_18_3 (.cons st_18_4 (.cons st_18_5 (.cons st_18_6 (.cons st_18_7 .nil))))))))
noncomputable def st_19:MSt:=(.asgN 22 (.call (.ref 285) (.cons (.loc 3) (.cons (.int 3) .nil))))
noncomputable def st_20:MSt:=(.asgN 23 (.call (.ref 162) (.cons (.loc 3) .nil)))
noncomputable def st_21:MSt:=(.asgT (.three (.var 24) (.var 25) (.var 26)) (.call (.ref 317) (.cons (.loc 23) .nil)))
noncomputable def st_22:MSt:=(.asgN 27 (.call (.ref 170) (.cons (.loc 3) (.cons (.int 5) .nil))))
noncomputable def st_23:MSt:=(.ife (.or (.not (.val (.call (.ref 322) (.cons (.loc 23) .nil)))) (.cmp .gt (.meth (.loc 23) "state_count" .nil) (.loc 2))) (.cons (.ret (.bool false)) .nil) .nil)
noncomputable def st_24:MSt:=(.asgN 28 (.lst true (.cons (.call (.ref 302) (.cons (.loc 13) (.cons (.lst false (.cons (.loc 10) .nil)) .nil))) .nil)))
noncomputable def st_25:MSt:=(.asgN 29 (.lst true (.cons (.int 0) .nil)))
noncomputable def st_26:MSt:=(.asgN 30 (.lst true (.cons (.call (.ref 302) (.cons (.loc 24) (.cons (.lst false (.cons (.attr (.loc 23) "first") .nil)) .nil))) .nil)))
noncomputable def st_27:MSt:=(.asgN 31 (.lst true (.cons (.lst false .nil) .nil)))
noncomputable def st_28:MSt:=(.asgN 19 (.int 0))
noncomputable def st_29_1:MSt:=(.asgN 32 (.call (.ref 312) (.cons (.loc 8) (.cons (.sub (.loc 28) (.loc 19)) .nil))))
noncomputable def st_29_2:MSt:=(.ife (.or (.cmp .ne (.loc 32) (.ite (.cmp .ne (.sub (.loc 29) (.loc 19)) (.gint (-1))) (.sub (.attr (.loc 22) "tags") (.sub (.loc 29) (.loc 19))) (.tup .nil))) (.cmp .ne (.call (.ref 122) (.cons (.loc 3) (.cons (.sub (.loc 28) (.loc 19)) .nil))) (.loc 32))) (.cons (.ret (.bool false)) .nil) .nil)
noncomputable def st_29_3:MSt:=(.ife (.cmp .ne (.call (.ref 312) (.cons (.loc 26) (.cons (.sub (.loc 30) (.loc 19)) .nil))) (.loc 32)) (.cons (.ret (.bool false)) .nil) .nil)
noncomputable def st_29_4:MSt:=(.ife (.cmp .ne (.call (.ref 129) (.cons (.loc 27) (.cons (.rev false (.sub (.loc 31) (.loc 19))) .nil))) (.ite (.cmp .ne (.loc 32) (.tup .nil)) (.tup (.cons (.int 5) .nil)) (.tup .nil))) (.cons (.ret (.bool false)) .nil) .nil)
noncomputable def st_29_5_1:MSt:=(.asgN 17 (.call (.ref 307) (.cons (.loc 13) (.cons (.loc 11) (.cons (.sub (.loc 28) (.loc 19)) (.cons (.loc 21) .nil))))))
noncomputable def st_29_5_2:MSt:=(.asgN 7 (.ite (.cmp .ne (.sub (.loc 29) (.loc 19)) (.gint (-1))) (.sub (.sub (.attr (.loc 22) "rows") (.sub (.loc 29) (.loc 19))) (.loc 21)) (.gint (-1))))
noncomputable def st_29_5_3:MSt:=(.asgN 33 (.call (.ref 307) (.cons (.loc 24) (.cons (.loc 25) (.cons (.sub (.loc 30) (.loc 19)) (.cons (.loc 21) .nil))))))
noncomputable def st_29_5_4:MSt:=(.ife (.cmp .notin (.tup (.cons (.loc 17) (.cons (.loc 7) (.cons (.loc 33) .nil)))) (.zip3 false (.cons (.loc 28) (.cons (.loc 29) (.cons (.loc 30) .nil))))) (.cons (.expr (.lmeth (.loc 28) .append (.cons (.loc 17) .nil))) (.cons (.expr (.lmeth (.loc 29) .append (.cons (.loc 7) .nil))) (.cons (.expr (.lmeth (.loc 30) .append (.cons (.loc 33) .nil))) (.cons (.expr (.lmeth (.loc 31) .append (.cons (.bin false .add (.sub (.loc 31) (.loc 19)) (.lst false (.cons (.loc 21) .nil))) .nil))) .nil)))) .nil)
noncomputable def st_29_5:MSt:=(.for_ (.var 21) (.bi .range false (.cons (.int 3) .nil)) (.cons st_29_5_1 (.cons st_29_5_2 (.cons st_29_5_3 (.cons st_29_5_4 .nil)))))
noncomputable def st_29_6:MSt:=(.asgN 19 (.bin false .add (.loc 19) (.int 1)))
noncomputable def st_29:MSt:=(.while_ (.cmp .lt (.loc 19) (.bi .len false (.cons (.loc 28) .nil))) (.cons st_29_1 (.cons st_29_2 (.cons st_29_3 (.cons st_29_4 (.cons st_29_5 (.cons st_29_6 .nil)))))))
noncomputable def st_30:MSt:=(.ife (.cmp .ne (.comp false [(2,29)] (.var 1) (.loc 1) (.cmp .notin (.loc 1) (.loc 2)) false (.bi .range false (.cons (.meth (.loc 22) "state_count" .nil) .nil))) (.lst false .nil)) (.cons (.ret (.bool false)) .nil) .nil)
noncomputable def st_31:MSt:=(.asgN 34 (.comp false [(2,8),(3,3)] (.var 1) (.loc 1) (.or (.cmp .ne (.sub (.attr (.loc 3) "moves") (.loc 1)) (.lst false .nil)) (.cmp .isin (.loc 1) (.comp false [] (.two (.var 1) (.var 2)) (.loc 1) .tt false (.loc 2)))) false (.bi .range false (.cons (.loc 2) .nil))))
noncomputable def st_32:MSt:=(.asgN 35 (.lst true .nil))
noncomputable def st_33:MSt:=(.for_ (.var 17) (.loc 28) (.cons (.asgN 36 (.comp false [(2,34)] (.var 1) (.loc 1) (.cmp .isin (.loc 1) (.loc 2)) false (.loc 17))) (.cons (.ife (.cmp .notin (.loc 36) (.loc 35)) (.cons (.expr (.lmeth (.loc 35) .append (.cons (.loc 36) .nil))) .nil) .nil) .nil)))
noncomputable def st_34:MSt:=(.ife (.cmp .ne (.meth (.loc 22) "state_count" .nil) (.bi .len false (.cons (.comp false [(2,35)] (.var 1) (.loc 1) (.or (.cmp .ne (.loc 1) (.lst false .nil)) (.cmp .eq (.loc 1) (.sub (.loc 2) (.int 0)))) false (.loc 35)) .nil))) (.cons (.ret (.bool false)) .nil) .nil)
noncomputable def st_35:MSt:=(.asgN 37 (.lst true .nil))
noncomputable def st_36:MSt:=(.asgN 38 (.call (.ref 302) (.cons (.loc 13) (.cons (.lst false (.cons (.loc 10) .nil)) .nil))))
noncomputable def st_37:MSt:=(.for_ (.var 21) (.from_ false (.loc 14) (.loc 15)) (.cons (.asgN 38 (.ite (.cmp .ge (.loc 21) (.int 0)) (.call (.ref 307) (.cons (.loc 13) (.cons (.loc 11) (.cons (.loc 38) (.cons (.loc 21) .nil))))) (.lst false .nil))) (.cons (.expr (.lmeth (.loc 37) .append (.cons (.call (.ref 312) (.cons (.loc 8) (.cons (.loc 38) .nil))) .nil))) .nil)))
noncomputable def st_38:MSt:=(.asgN 32 (.rev false (.comp false [(2,15),(3,37)] (.var 1) (.tup (.cons (.bin false .add (.bin false .add (.loc 2) (.loc 1)) (.int 1)) (.cons (.sub (.loc 3) (.loc 1)) .nil))) (.cmp .ne (.sub (.loc 3) (.loc 1)) (.tup .nil)) false (.bi .range false (.cons (.bi .len false (.cons (.loc 37) .nil)) .nil)))))
noncomputable def st_39:MSt:=(.ife (.or (.cmp .ne (.call (.ref 136) (.cons (.loc 3) (.cons (.loc 14) (.cons (.loc 15) .nil)))) (.loc 32)) (.cmp .ne (.call (.ref 143) (.cons (.loc 3) (.cons (.loc 14) (.cons (.loc 15) .nil)))) (.ite (.cmp .ne (.loc 32) (.lst false .nil)) (.sub (.loc 32) (.int 0)) .none))) (.cons (.ret (.bool false)) .nil) .nil)
noncomputable def st_40:MSt:=(.ret (.cmp .eq (.call (.ref 129) (.cons (.loc 3) (.cons (.from_ false (.loc 14) (.loc 15)) .nil))) (.sub (.loc 37) (.neg 1))))
theorem m_law_eq:m_law=(.cons st_1 (.cons st_2 (.cons st_3 (.cons st_4 (.cons st_5 (.cons st_6 (.cons st_7 (.cons st_8 (.cons st_9 (.cons st_10 (.cons st_11 (.cons st_12 (.cons st_13 (.cons st_14 (.cons st_15 (.cons st_16 (.cons st_17 (.cons st_18 (.cons st_19 (.cons st_20 (.cons st_21 (.cons st_22 (.cons st_23 (.cons st_24 (.cons st_25 (.cons st_26 (.cons st_27 (.cons st_28 (.cons st_29 (.cons st_30 (.cons st_31 (.cons st_32 (.cons st_33 (.cons st_34 (.cons st_35 (.cons st_36 (.cons st_37 (.cons st_38 (.cons st_39 (.cons st_40 .nil)))))))))))))))))))))))))))))))))))))))):=rfl
end Mine
namespace Mine
variable {Γ:Value→PC}
noncomputable def dueM (roads:List (Nat×Nat×Nat)) (p:Nat):List (Nat×Nat):=(roads.filter fun r=>decide (r.1=p∧0<r.2.1)).map fun r=>(r.2.1,r.2.2)
noncomputable def dueHr (p:Nat):List (Nat×Nat)→List Nat
 | []=>[]
 | x::r=>dueHr p r++(if x.1=p∧x∉r then [x.2] else [])
noncomputable def dueH (hops:List (Nat×Nat)) (p:Nat):List Nat:=dueHr p hops.reverse
theorem dueH_snoc (hops:List (Nat×Nat)) (x:Nat×Nat) (p:Nat):dueH (hops++[x]) p=dueH hops p++(if x.1=p∧x∉hops then [x.2] else []):=by
 unfold dueH
 rw [List.reverse_append]
 show dueHr p hops.reverse++(if x.1=p∧x∉hops.reverse then [x.2] else [])=_
 simp only [List.mem_reverse]
theorem dueM_snoc (roads:List (Nat×Nat×Nat)) (x:Nat×Nat×Nat) (p:Nat):dueM (roads++[x]) p=dueM roads p++(if x.1=p∧0<x.2.1 then [(x.2.1,x.2.2)] else []):=by
 unfold dueM
 rw [List.filter_append,List.filter_cons,List.map_append]
 by_cases h:x.1=p∧0<x.2.1
 ·rw [if_pos (decide_eq_true h),if_pos h];rfl
 ·rw [if_neg (by simpa using h),if_neg h];rfl
theorem mem_dueHr {p g:Nat}:∀ {l:List (Nat×Nat)},g∈dueHr p l↔(p,g)∈l
 | []=>by simp [dueHr]
 | x::r=>by
  unfold dueHr
  rw [List.mem_append,mem_dueHr,List.mem_cons]
  constructor
  ·rintro (h | h)
   ·exact .inr h
   ·split at h
    ·rename_i q
     rw [List.mem_singleton.mp h]
     exact .inl (by rw [←q.1])
    ·cases h
  ·rintro (h | h)
   ·by_cases q:(p,g)∈r
    ·exact .inl q
    ·right
     subst h
     rw [if_pos ⟨rfl,q⟩];simp
   ·exact .inl h
theorem mem_dueH {hops:List (Nat×Nat)} {p g:Nat}:g∈dueH hops p↔(p,g)∈hops:=by
 unfold dueH;rw [mem_dueHr,List.mem_reverse]
theorem mem_dueM {roads:List (Nat×Nat×Nat)} {p m g:Nat}:(m,g)∈dueM roads p↔(p,m,g)∈roads∧0<m:=by
 unfold dueM
 simp only [List.mem_map,List.mem_filter,decide_eq_true_eq,Prod.mk.injEq,Prod.exists]
 constructor
 ·rintro ⟨a,b,c,⟨h1,h2,h3⟩,rfl,rfl⟩
  subst h2;exact ⟨h1,h3⟩
 ·rintro ⟨h1,h2⟩;exact ⟨p,m,g,⟨h1,rfl,h2⟩,rfl,rfl⟩
theorem dueHr_len (p:Nat):∀ l:List (Nat×Nat),(dueHr p l).length≤l.length
 | []=>Nat.le_refl _
 | x::r=>by
  unfold dueHr
  have:=dueHr_len p r
  rw [List.length_append,List.length_cons]
  split<;>simp<;>omega
theorem dueH_len (hops:List (Nat×Nat)) (p:Nat):(dueH hops p).length≤hops.length:=by
 unfold dueH;have:=dueHr_len p hops.reverse;rwa [List.length_reverse] at this
theorem dueM_len (roads:List (Nat×Nat×Nat)) (p:Nat):(dueM roads p).length≤roads.length:=by
 unfold dueM;rw [List.length_map];exact List.length_filter_le _ _
structure Dt where
 n:Nat
 first:Nat
 hops:List (Nat×Nat)
 marks:List (Nat×Nat)
 roads:List (Nat×Nat×Nat)
noncomputable def Dt.nf (D:Dt):Nf:=⟨(List.range D.n).map (dueM D.roads),(List.range D.n).map (dueH D.hops),D.marks,D.first⟩
structure Dt.Ok (D:Dt):Prop where
 n1:0<D.n
 n6:D.n≤6
 fst:D.first<D.n
 hl:D.hops.length≤5
 h:∀ p∈D.hops,p.1<D.n∧p.2<D.n
 ml:D.marks.length≤3
 m:∀ p∈D.marks,p.1<D.n∧p.2<2
 mnd:(D.marks.map (·.1)).Nodup
 rl:D.roads.length≤7
 r:∀ p∈D.roads,p.1<D.n∧p.2.1<8∧p.2.2<D.n
section
variable {D:Dt} (O:D.Ok)
theorem nf_n:D.nf.n=D.n:=by simp [Dt.nf,Nf.n]
theorem rg_get {α:Type} {n i:Nat} {f:Nat→α} {x:α}:((List.range n).map f)[i]?=some x↔i<n∧x=f i:=by
 rw [List.getElem?_map]
 rcases Nat.lt_or_ge i n with h | h
 ·rw [List.getElem?_range h];simp [h,eq_comm]
 ·rw [List.getElem?_eq_none (by simpa using h)];simp;omega
include O
theorem nf_mvA {p m g:Nat}:mvA D.nf p m g↔(p,m,g)∈D.roads∧0<m:=by
 unfold mvA
 rw [←mem_dueM]
 constructor
 ·rintro ⟨l,h1,h2⟩
  rw [show D.nf.moves=(List.range D.n).map (dueM D.roads) from rfl,rg_get] at h1
  rw [h1.2] at h2;exact h2
 ·intro h
  refine ⟨dueM D.roads p,?_,h⟩
  rw [show D.nf.moves=(List.range D.n).map (dueM D.roads) from rfl,rg_get]
  exact ⟨(O.r _ (mem_dueM.mp h).1).1,rfl⟩
theorem nf_hopR {p g:Nat}:hopR D.nf p g↔(p,g)∈D.hops:=by
 unfold hopR
 rw [←mem_dueH]
 constructor
 ·rintro ⟨l,h1,h2⟩
  rw [show D.nf.hops=(List.range D.n).map (dueH D.hops) from rfl,rg_get] at h1
  rw [h1.2] at h2;exact h2
 ·intro h
  refine ⟨dueH D.hops p,?_,h⟩
  rw [show D.nf.hops=(List.range D.n).map (dueH D.hops) from rfl,rg_get]
  exact ⟨(O.h _ (mem_dueH.mp h)).1,rfl⟩
theorem nf_wf:D.nf.Wf:=by
 have:=O.n6
 refine Wf.of (by rw [nf_n];exact zk0 this rfl) (by simp [Dt.nf,Nf.n]) (fun l hl => ?_) (fun s m g h => ?_) (fun l hl => ?_) (fun s g h => ?_) (fun s t h => ?_) O.mnd (by rw [nf_n];exact O.fst)
 ·obtain ⟨i,_,rfl⟩:=List.mem_map.mp hl
  have:=dueM_len D.roads i;have:=O.rl;exact zk3 ‹(_:Nat)≤_› this rfl
 ·have h:=(nf_mvA O).mp h
  have:=O.r _ h.1
  exact ⟨this.2.1,h.2,by rw [nf_n];exact this.2.2⟩
 ·obtain ⟨i,_,rfl⟩:=List.mem_map.mp hl
  have:=dueH_len D.hops i;have:=O.hl;exact zk3 ‹(_:Nat)≤_› this rfl
 ·have:=O.h _ ((nf_hopR O).mp h)
  rw [nf_n];exact this.2
 ·have:=O.m _ h
  exact ⟨by rw [nf_n];exact this.1,by have:=this.2;dsimp only at this;exact zh117 ‹((_:Nat)<_∧(_:Nat)<2)›⟩
theorem nf_small:SmallRows D.nf:=by
 refine ⟨fun l hl => ?_,fun l hl => ?_⟩
 ·obtain ⟨i,_,rfl⟩:=List.mem_map.mp hl
  have:=dueM_len D.roads i;have:=O.rl;exact zk3 ‹(_:Nat)≤_› this rfl
 ·obtain ⟨i,_,rfl⟩:=List.mem_map.mp hl
  have:=dueH_len D.hops i;have:=O.hl;exact zk3 ‹(_:Nat)≤_› this rfl
theorem nf_rc:Rc (pR D.hops)=Rc (hopR D.nf):=by
 have:pR D.hops=hopR D.nf:=by
  funext s g;exact propext (nf_hopR O).symm
 rw [this]
theorem nf_beh (S:Nat→Prop) (k:Nat):behS (Rc (hopR D.nf)) D.roads S k=stepS D.nf S k:=by
 funext h;apply propext
 constructor
 ·rintro ⟨p,m,g,h1,h2,h3,h4⟩
  refine ⟨g,⟨p,h2,mvR_iff.mpr ⟨m,(nf_mvA O).mpr ⟨h1,?_⟩,h3⟩⟩,h4⟩
  rcases Nat.eq_zero_or_pos m with q | q
  ·subst q;rw [bitP_iff,Nat.zero_testBit] at h3;cases h3
  ·exact q
 ·rintro ⟨g,⟨p,h1,h2⟩,h3⟩
  obtain ⟨m,h4,h5⟩:=mvR_iff.mp h2
  exact ⟨p,m,g,((nf_mvA O).mp h4).1,h1,h5,h3⟩
theorem nf_tag (S:Nat→Prop):markS D.marks S=tagS D.nf S:=rfl
theorem tag_lt {S:Nat→Prop} {t:Nat} (h:tagS D.nf S t):t<2:=let ⟨s,_,q⟩:=h;(O.m _ q).2
theorem tag_2_8 (S:Nat→Prop):setL 2 (tagS D.nf S)=setL 8 (tagS D.nf S):=by
 classical
 unfold setL
 rw [filter_range_le (n:=8) (i:=2) (by decide) fun j hj => ?_]
 exact decide_eq_false fun h=>by have:=tag_lt O h;exact zq29 this hj
end
theorem of_beh {N:Nf} {roads:List (Nat×Nat×Nat)} (h:∀ p m g,(p,m,g)∈roads↔mvA N p m g) (S:Nat→Prop) (k:Nat):behS (Rc (hopR N)) roads S k=stepS N S k:=by
 funext x;apply propext
 constructor
 ·rintro ⟨p,m,g,h1,h2,h3,h4⟩
  exact ⟨g,⟨p,h2,mvR_iff.mpr ⟨m,(h _ _ _).mp h1,h3⟩⟩,h4⟩
 ·rintro ⟨g,⟨p,h1,h2⟩,h3⟩
  obtain ⟨m,h4,h5⟩:=mvR_iff.mp h2
  exact ⟨p,m,g,(h _ _ _).mpr h4,h1,h5,h3⟩
theorem of_tag {N:Nf} {marks:List (Nat×Nat)} (h:∀ s t,(s,t)∈marks↔(s,t)∈N.tags) (S:Nat→Prop):markS marks S=tagS N S:=by
 funext t;apply propext
 exact exists_congr fun s=>and_congr_right fun _=>h s t
structure BP (lv:LM) (p:Addr) (k:Nat) (F:NfP) (N:Nf) (ls:List (Addr×List V)):Prop where
 pen:PenAt lv p k
 pF:p∉F.all
 M:NfaM lv F N
 cells:∀ c∈ls,lv c.1=some (.list c.2)∧c.1∉F.all∧c.1≠p
 nd:(ls.map (·.1)).Nodup
section
variable {lv lv':LM} {p:Addr} {k:Nat} {F F':NfP} {N N':Nf} {ls:List (Addr×List V)}
theorem PenAt.le {k':Nat} (h:PenAt lv p k) (hk:k≤k'):PenAt lv p k':=let ⟨c,i,s,h1,h2,h3,h4⟩:=h;⟨c,i,s,h1,h2,h3,Nat.le_trans h4 hk⟩
theorem BP.le {k':Nat} (X:BP lv p k F N ls) (hk:k≤k'):BP lv p k' F N ls:=⟨X.pen.le hk,X.pF,X.M,X.cells,X.nd⟩
theorem BP.draw (X:BP lv p k F N ls) (h1:PenAt lv' p (k+1)) (h2:∀ b x,b≠p→lv b=some x→lv' b=some x):BP lv' p (k+1) F N ls :=
 ⟨h1,X.pF,X.M.ext fun b hb=>let ⟨x,hx⟩:=X.M.used hb;by rw [hx];exact h2 b x (fun e=>X.pF (e▸hb)) hx,fun c hc=>let ⟨q1,q2,q3⟩:=X.cells c hc;⟨h2 _ _ q3 q1,q2,q3⟩,X.nd⟩
theorem BP.step (X:BP lv p k F N ls) (M:NfaM lv' F' N') (S:NStep lv F lv' F'):BP lv' p k F' N' ls:=by
 obtain ⟨c,i,s,h1,h2⟩:=X.pen
 have hp:=S.2 p _ h1 X.pF
 exact ⟨⟨c,i,s,hp.2,h2⟩,hp.1,M,fun c hc=>let ⟨q1,q2,q3⟩:=X.cells c hc;⟨(S.2 _ _ q1 q2).2,(S.2 _ _ q1 q2).1,q3⟩,X.nd⟩
theorem BP.new (X:BP lv p k F N ls) {a:Addr} (ha:lv a=none) (l:List V):BP (updL lv a (some (.list l))) p k F N ((a,l)::ls):=by
 obtain ⟨c,i,s,h1,h2⟩:=X.pen
 have pa:=ne_of h1 ha
 have aF:=X.M.fresh ha
 refine ⟨⟨c,i,s,(updL_ne _ _ pa).trans h1,h2⟩,X.pF,X.M.upd aF _,fun c hc => ?_,?_⟩
 ·rcases List.mem_cons.mp hc with rfl | hc
  ·exact ⟨updL_self ..,aF,Ne.symm pa⟩
  ·obtain ⟨q1,q2,q3⟩:=X.cells c hc
   exact ⟨(updL_ne _ _ (ne_of q1 ha)).trans q1,q2,q3⟩
 ·rw [List.map_cons,List.nodup_cons]
  refine ⟨fun h => ?_,X.nd⟩
  obtain ⟨c,hc,e⟩:=List.mem_map.mp h
  have:=(X.cells c hc).1
  rw [e,ha] at this;cases this
theorem BP.put {a:Addr} {l:List V} (X:BP lv p k F N ((a,l)::ls)) (l':List V):BP (updL lv a (some (.list l'))) p k F N ((a,l')::ls):=by
 obtain ⟨c,i,s,h1,h2⟩:=X.pen
 obtain ⟨a1,a2,a3⟩:=X.cells (a,l) (by simp)
 have nd:=X.nd
 rw [List.map_cons,List.nodup_cons] at nd
 refine ⟨⟨c,i,s,(updL_ne _ _ (Ne.symm a3)).trans h1,h2⟩,X.pF,X.M.upd a2 _,fun c hc => ?_,?_⟩
 ·rcases List.mem_cons.mp hc with rfl | hc
  ·exact ⟨updL_self ..,a2,a3⟩
  ·obtain ⟨q1,q2,q3⟩:=X.cells c (List.mem_cons_of_mem _ hc)
   refine ⟨(updL_ne _ _ fun e => ?_).trans q1,q2,q3⟩
   exact nd.1 (List.mem_map.mpr ⟨c,hc,e⟩)
 ·rw [List.map_cons,List.nodup_cons];exact nd
end
end Mine
namespace Mine
variable {Γ:Value→PC}
theorem range_modify {α:Type} {n s:Nat} {f:Nat→α} {h:α→α}:((List.range n).map f).modify s h=(List.range n).map fun i=>if i=s then h (f i) else f i:=by
 apply List.ext_getElem?
 intro i
 rw [List.getElem?_modify,List.getElem?_map,List.getElem?_map]
 rcases Nat.lt_or_ge i n with q | q
 ·rw [List.getElem?_range q]
  by_cases e:s=i
  ·subst e;simp
  ·have:¬ i=s:=fun r=>e r.symm
   simp [e,this]
 ·rw [List.getElem?_eq_none (by simpa using q)];simp
theorem nf_addH (n f:Nat) (hops:List (Nat×Nat)) (marks:List (Nat×Nat)) (roads:List (Nat×Nat×Nat)) {s g:Nat} (hs:s<n):addH (Dt.nf ⟨n,f,hops,marks,roads⟩) s g=Dt.nf ⟨n,f,hops++[(s,g)],marks,roads⟩:=by
 have hr:hopR (Dt.nf ⟨n,f,hops,marks,roads⟩) s g↔(s,g)∈hops:=by
  unfold hopR
  rw [←mem_dueH]
  constructor
  ·rintro ⟨l,h1,h2⟩
   have h1:=rg_get.mp (show ((List.range n).map (dueH hops))[s]?=some l from h1)
   rw [h1.2] at h2;exact h2
  ·intro h
   exact ⟨dueH hops s,rg_get.mpr ⟨hs,rfl⟩,h⟩
 unfold addH
 by_cases q:(s,g)∈hops
 ·rw [if_pos (hr.mpr q)]
  unfold Dt.nf
  have:dueH (hops++[(s,g)])=dueH hops:=by
   funext p;rw [dueH_snoc,if_neg (fun h=>h.2 q),List.append_nil]
  simp only [this]
 ·rw [if_neg fun h=>q (hr.mp h)]
  unfold Dt.nf
  simp only [range_modify]
  have:(fun i=>if i=s then dueH hops i++[g] else dueH hops i)=dueH (hops++[(s,g)]):=by
   funext p
   rw [dueH_snoc]
   by_cases e:p=s
   ·subst e;rw [if_pos rfl,if_pos ⟨rfl,q⟩]
   ·rw [if_neg e,if_neg (fun h=>e h.1.symm),List.append_nil]
  rw [this]
theorem nf_addM (n f:Nat) (hops:List (Nat×Nat)) (marks:List (Nat×Nat)) (roads:List (Nat×Nat×Nat)) (s m g:Nat):addM (Dt.nf ⟨n,f,hops,marks,roads⟩) s m g=Dt.nf ⟨n,f,hops,marks,roads++[(s,m,g)]⟩:=by
 unfold addM
 by_cases q:m=0
 ·rw [if_pos q]
  unfold Dt.nf
  have:dueM (roads++[(s,m,g)])=dueM roads:=by
   funext p;rw [dueM_snoc,if_neg (fun h=>by have:=h.2;dsimp only at this;exact zq30 this q),List.append_nil]
  simp only [this]
 ·rw [if_neg q]
  unfold Dt.nf
  simp only [range_modify]
  have:(fun i=>if i=s then dueM roads i++[(m,g)] else dueM roads i)=dueM (roads++[(s,m,g)]):=by
   funext p
   rw [dueM_snoc]
   by_cases e:p=s
   ·subst e;rw [if_pos rfl,if_pos ⟨rfl,by show 0<m;exact Nat.zero_lt_of_ne_zero q⟩]
   ·rw [if_neg e,if_neg (fun h=>e h.1.symm),List.append_nil]
  rw [this]
theorem nf_blank {N:Nf} {n:Nat} (h:Blank N n) (hf:N.first=0):N=Dt.nf ⟨n,0,[],[],[]⟩:=by
 obtain ⟨m,hp,t,f⟩:=N
 obtain ⟨h1,h2,h3⟩:=h
 dsimp only at h1 h2 h3 hf
 subst h1 h2 h3 hf
 unfold Dt.nf
 have e1:dueM []=fun _=>[]:=by funext p;rfl
 have e2:dueH []=fun _=>[]:=by funext p;rfl
 rw [e1,e2,List.map_const',List.map_const',List.length_range]
theorem use_draw {lv:LM} {p:Addr} {k:Nat} {F:NfP} {N:Nf} {ls:List (Addr×List V)} {many:Nat} {Q:V→LM→Prop} (X:BP lv p k F N ls) (h1:0<many) (h2:many≤1000) (h3:k≤1000) (K:∀ (d:Nat) lv',d<many→BP lv' p (k+1) F N ls→Q (.int d) lv'):C_draw [.ref p,.int many] lv Q :=
 ⟨p,many,k,rfl,X.pen,h1,h2,h3,fun d lv' q1 q2 q3=>K d lv' q1 (X.draw q2 q3)⟩
noncomputable def Lo (σ:MS) (p a:Addr) (n:Nat):Prop:=σ.loc 1=some (.ref p)∧σ.loc 2=some (.int n)∧σ.loc 3=some (.ref a)
theorem Lo.set {σ:MS} {p a:Addr} {n:Nat} (h:Lo σ p a n) {j:Nat} (hj:3<j) (v:V) (lv:LM):Lo ⟨setV σ.loc j v,lv⟩ p a n :=
 ⟨(setV_ne _ _ (by exact zq31 hj)).trans h.1,(setV_ne _ _ (by exact zh121 hj)).trans h.2.1,(setV_ne _ _ (by exact Nat.ne_of_lt hj)).trans h.2.2⟩
section
variable (hΓ:∀ f,MonoC (Γ f))
include hΓ
noncomputable def R1 (σ:MS):Prop:=∃ p,σ.loc 1=some (.ref p)∧PenAt σ.lv p 0
theorem l_1 (ns:List Int) (hn:ns.length≤63) (lv:LM):denS I0 Γ st_1 ⟨argLoc [.lst (vI ns)],lv⟩ fun fl σ=>fl= .next∧R1 σ:=by
 unfold st_1
 refine E_comp hΓ ?_
 let J1:List V→List V→List V→MS→Prop:=fun dn r acc σ=>acc=dn∧dn++r=vI (ns.take 40)
 refine ⟨_,rfl,40,rfl,vI ns,vI (ns.take 40),rfl,by simp only [vI,List.length_map,lim_eq];exact zk0 hn rfl,?_,vI (ns.take 40),rfl,trivial,by simp only [vI,List.length_map,List.length_take,lim_eq];exact zh122,J1,?_,?_,?_⟩
 ·show (if (0:Int)≤40 then some ((vI ns).take (40:Int).toNat) else none)=_
  rw [if_pos (by decide)];simp [vI]
 ·exact ⟨rfl,rfl⟩
 ·rintro dn x r acc σ ⟨rfl,h⟩
  have hx:x∈vI (ns.take 40):=by rw [←h];simp
  obtain ⟨i,_,rfl⟩:=List.mem_map.mp hx
  refine ⟨rfl,_,rfl,?_⟩
  exact ⟨fun _=>⟨.int i,rfl,rfl,by simpa using h⟩,fun h=>by cases h⟩
 ·rintro dn acc σ ⟨rfl,h⟩
  rw [List.append_nil] at h
  subst h
  refine ⟨rfl,by simp [lim_eq],rfl,vI (ns.take 40),[.int 6,.int 21],rfl,rfl,by simp only [vI,List.length_map,List.length_take,List.length_cons,List.length_nil,lim_eq];exact zh123,len3 ..,fun a ha => ?_⟩
  refine ⟨rfl,a,rfl,ns.take 40++[6,21],0,0,?_,by simp,by simp only [List.length_append,List.length_take,List.length_cons,List.length_nil];exact zh124,Nat.le_refl _⟩
  show updL σ.lv a _ a=_
  rw [updL_self];simp [vI]
noncomputable def R2 (σ:MS):Prop:=∃ p,∃ n:Nat,σ.loc 1=some (.ref p)∧σ.loc 2=some (.int n)∧0<n∧n≤6∧PenAt σ.lv p 1
theorem l_2 (h1:Γ (.ref 292)=C_draw) {σ:MS} (h:R1 σ):denS I0 Γ st_2 σ fun fl σ=>fl= .next∧R2 σ:=by
 obtain ⟨p,g1,hp⟩:=h
 unfold st_2
 refine ⟨_,g1,?_⟩
 refine use h1 ?_
 refine ⟨p,6,0,rfl,hp,by decide,by decide,by decide,fun d lv' hd hp' _=>⟨trivial,rfl,p,d+1,by simp [setV,g1],?_,by exact zq32,by exact Nat.succ_le_of_lt hd,hp'⟩⟩
 show some (V.int (1+(d:Int)))=_
 congr 2;exact zh126
noncomputable def R3 (σ:MS):Prop:=∃ p F,∃ n:Nat,σ.loc 1=some (.ref p)∧σ.loc 2=some (.int n)∧σ.loc 3=some (.ref F.a)∧0<n∧n≤6∧BP σ.lv p 1 F N0 []
theorem l_3 (h1:Γ (.ref 92)=C_Nfa) {σ:MS} (h:R2 σ):denS I0 Γ st_3 σ fun fl σ=>fl= .next∧R3 σ:=by
 obtain ⟨p,n,g1,g2,n1,n6,hp⟩:=h
 unfold st_3
 refine use h1 ?_
 refine ⟨rfl,fun lv' F M K=>⟨rfl,p,F,n,by simp [setV,g1],by simp [setV,g2],by simp [setV],n1,n6,?_⟩⟩
 obtain ⟨c,i,s,q1,q2⟩:=hp
 exact ⟨⟨c,i,s,(K _ _ q1).2,q2⟩,(K _ _ q1).1,M,fun c hc=>(by cases hc),.nil⟩
noncomputable def R4 (σ:MS):Prop:=∃ p F,∃ n:Nat,Lo σ p F.a n∧0<n∧n≤6∧BP σ.lv p 1 F (Dt.nf ⟨n,0,[],[],[]⟩) []
theorem l_4 (h1:Γ (.ref 49)=C_add_state) {σ:MS} (h:R3 σ):denS I0 Γ st_4 σ fun fl σ=>fl= .next∧R4 σ:=by
 obtain ⟨p,F0,n,g1,g2,g3,n1,n6,X0⟩:=h
 unfold st_4
 refine S_forM hΓ (E_range g2 ?_)
 let J2:List Nat→MS→Prop:=fun d' σ=>Mine.E2 fun F N=>A4 (Lo σ p F.a n) (BP σ.lv p 1 F N []) (Blank N d'.length) (N.first=0)
 refine ⟨_,List.range n,rng_items n,rng_ok (by exact zk0 n6 rfl),J2,?_,?_,?_⟩
 ·exact ⟨F0,N0,⟨g1,g2,g3⟩,X0,⟨rfl,rfl,rfl⟩,rfl⟩
 ·rintro d' s r' σ hdr ⟨F,N,hL,X,hB,hf⟩
  obtain ⟨hsd,hs,_⟩:=range_split hdr
  refine ⟨rng_items n,_,rfl,B_cons hΓ ?_⟩
  refine ⟨_,hL.2.2,F.a,92,mFs F N.first,49,rfl,X.M.oa,rfl,mt_adds,?_⟩
  refine use h1 ?_
  have hml:N.moves.length=s:=by rw [hB.1,List.length_replicate,←hsd]
  refine ⟨F,N,rfl,X.M,by exact zk13 hml hs n6 rfl,by rw [hB.1,hB.2.1];simp,fun lv' F' M S=>⟨_,rfl,trivial,trivial,fun h => ?_,fun _=>(⟨F',addS N,?_,X.step M S,by rw [List.length_append];exact hB.addS,hf⟩)⟩⟩
  ·rw [hml] at h;simp at h
  ·have:=hL.set (j:=4) (by decide) (.int s) lv'
   rw [S.1];exact this
 ·rintro σ ⟨F,N,hL,X,hB,hf⟩
  rw [List.length_range] at hB
  rw [nf_blank hB hf] at X
  exact ⟨rng_items n,rfl,p,F,n,hL,n1,n6,X⟩
noncomputable def hopsOk (n:Nat) (hops:List (Nat×Nat)):Prop:=∀ p∈hops,p.1<n∧p.2<n
noncomputable def R6 (σ:MS):Prop:=∃ p F h,∃ n:Nat,∃ hops,Lo σ p F.a n∧0<n∧n≤6∧σ.loc 5=some (.ref h)∧hopsOk n hops∧hops.length≤5∧BP σ.lv p 20 F (Dt.nf ⟨n,0,hops,[],[]⟩) [(h,vP hops)]
theorem l_56 (h1:Γ (.ref 292)=C_draw) (h2:Γ (.ref 63)=C_add_hop) {σ:MS} (h:R4 σ) {Q:Fl→MS→Prop} {r:MSts} (k:∀ σ,R6 σ→denB I0 Γ r σ Q):denB I0 Γ (.cons st_5 (.cons st_6 r)) σ Q:=by
 obtain ⟨p,F,n,hL,n1,n6,X⟩:=h
 unfold st_5
 refine B_cons hΓ ?_
 refine ⟨by decide,fun a ha => ?_⟩
 have X1:=X.new ha []
 refine B_mid hΓ R6 ?_ k
 unfold st_6 st_6_1 st_6_2 st_6_3 st_6_4
 refine S_forM hΓ ?_
 refine ⟨.ref p,by simp [setV,hL.1],?_⟩
 refine use h1 ?_
 refine use_draw (many:=6) X1 (by decide) (by decide) (by decide) fun d lv1 hd X1 => ?_
 let J3:List Nat→MS→Prop:=fun d' σ=>∃ hops,A5 (Lo σ p F.a n) (σ.loc 5=some (.ref a)) (hopsOk n hops) (hops.length=d'.length) (BP σ.lv p (2+2*d'.length) F (Dt.nf ⟨n,0,hops,[],[]⟩) [(a,vP hops)])
 refine ⟨_,List.range d,rng_items d,rng_ok (by exact zk1 hd rfl),J3,?_,?_,?_⟩
 ·exact ⟨[],hL.set (by decide) _ _,by simp [setV],fun p hp=>(by cases hp),rfl,X1⟩
 ·rintro d' s r' σ hdr ⟨hops,hL,g5,hok,hlen,X⟩
  obtain ⟨hsd,hs,_⟩:=range_split hdr
  refine ⟨rng_items d,_,rfl,B_cons hΓ ?_⟩
  have L1:=hL.set (j:=6) (by decide) (.int s) σ.lv
  refine ⟨.ref p,L1.1,.int n,L1.2.1,?_⟩
  refine use h1 ?_
  refine use_draw X n1 (by exact zk0 n6 rfl) (by exact zh127 hd hs hsd) fun q1 lv2 hq1 X2=>B_cons hΓ ?_
  have L2:=L1.set (j:=4) (by decide) (.int q1) lv2
  refine ⟨.ref p,L2.1,.int n,L2.2.1,?_⟩
  refine use h1 ?_
  refine use_draw X2 n1 (by exact zk0 n6 rfl) (by exact zh128 hd hs hsd) fun q2 lv3 hq2 X3=>B_cons hΓ ?_
  have L3:=L2.set (j:=7) (by decide) (.int q2) lv3
  refine ⟨.ref F.a,L3.2.2,F.a,92,_,63,rfl,X3.M.oa,rfl,mt_addh,.int q1,by simp [setV],.int q2,by simp [setV],?_⟩
  refine use h2 ?_
  have hln:(Dt.nf ⟨n,0,hops,[],[]⟩).hops.length=n:=by simp [Dt.nf]
  refine ⟨F,_,q1,q2,rfl,X3.M,by rw [hln];exact hq1,by rw [hln];exact zk0 n6 rfl,fun l hl => ?_,fun lv4 M4 S4=>⟨rfl,B_cons hΓ ?_⟩⟩
  ·obtain ⟨i,_,rfl⟩:=List.mem_map.mp (show l∈(List.range n).map (dueH hops) from hl)
   have:=dueH_len hops i;exact zk14 this hlen hsd hs hd rfl
  have X4:=X3.step M4 S4
  rw [nf_addH n 0 hops [] [] hq1] at X4
  have lh:=(X4.cells _ (List.mem_cons_self)).1
  refine ⟨.ref a,by simp [setV,g5],⟨a,_,rfl,lh⟩,.int q1,by simp [setV],.int q2,by simp [setV],by simp [lim_eq],a,vP hops,rfl,lh,by simp only [vP,List.length_map,lim_eq];exact zk15 hlen hsd hs hd rfl,rfl,?_⟩
  refine ⟨hops++[(q1,q2)],L3,by simp [setV,g5],fun p hp => ?_,by simp [hlen],?_⟩
  ·rcases List.mem_append.mp hp with q | q
   ·exact hok p q
   ·simp at q;subst q;exact ⟨hq1,hq2⟩
  ·have:=X4.put (vP hops++[V.tup [.int q1,.int q2]])
   rw [show vP (hops++[(q1,q2)])=vP hops++[V.tup [.int q1,.int q2]] by simp [vP]]
   exact this.le (by simp;exact zq33)
 ·rintro σ ⟨hops,hL,g5,hok,hlen,X⟩
  rw [List.length_range] at hlen X
  exact ⟨rng_items d,by trivial,p,F,a,n,hops,hL,n1,n6,g5,hok,by exact zk16 hlen hd rfl,X.le (by exact zh130 hd)⟩
noncomputable def marksOk (n:Nat) (marks:List (Nat×Nat)):Prop:=(∀ p∈marks,p.1<n∧p.2<2)∧(marks.map (·.1)).Nodup
noncomputable def R8 (σ:MS):Prop:=∃ p F h mk,∃ n:Nat,∃ hops marks,Lo σ p F.a n∧0<n∧n≤6∧σ.loc 5=some (.ref h)∧σ.loc 8=some (.ref mk)∧hopsOk n hops∧hops.length≤5∧marksOk n marks∧marks.length≤3∧BP σ.lv p 40 F (Dt.nf ⟨n,0,hops,marks,[]⟩) [(mk,vP marks),(h,vP hops)]
open Classical in
theorem l_78 (h1:Γ (.ref 292)=C_draw) (h2:Γ (.ref 77)=C_set_tag) {σ:MS} (h:R6 σ) {Q:Fl→MS→Prop} {r:MSts} (k:∀ σ,R8 σ→denB I0 Γ r σ Q):denB I0 Γ (.cons st_7 (.cons st_8 r)) σ Q:=by
 obtain ⟨p,F,h,n,hops,hL,n1,n6,g5,hok,hlen,X⟩:=h
 unfold st_7
 refine B_cons hΓ ?_
 refine ⟨by decide,fun a ha => ?_⟩
 have X1:=X.new ha []
 refine B_mid hΓ R8 ?_ k
 unfold st_8
 refine S_forM hΓ ?_
 refine ⟨.ref p,by simp [setV,hL.1],?_⟩
 refine use h1 ?_
 refine use_draw (many:=4) X1 (by decide) (by decide) (by decide) fun d lv1 hd X1 => ?_
 let J4:List Nat→MS→Prop:=fun d' σ=>∃ marks,A6 (Lo σ p F.a n) (σ.loc 5=some (.ref h)) (σ.loc 8=some (.ref a)) (marksOk n marks) (marks.length≤d'.length) (BP σ.lv p (21+2*d'.length) F (Dt.nf ⟨n,0,hops,marks,[]⟩) [(a,vP marks),(h,vP hops)])
 refine ⟨_,List.range d,rng_items d,rng_ok (by exact zk1 hd rfl),J4,?_,?_,?_⟩
 ·exact ⟨[],hL.set (by decide) _ _,by simp [setV,g5],by simp [setV],⟨fun p hp=>(by cases hp),.nil⟩,Nat.le_refl _,X1⟩
 ·rintro d' s r' σ hdr ⟨marks,hL,g5,g8,hmk,hml,X⟩
  obtain ⟨hsd,hs,_⟩:=range_split hdr
  refine ⟨rng_items d,_,rfl,B_cons hΓ ?_⟩
  have L1:=hL.set (j:=6) (by decide) (.int s) σ.lv
  refine ⟨.ref p,L1.1,.int n,L1.2.1,?_⟩
  refine use h1 ?_
  refine use_draw X n1 (by exact zk0 n6 rfl) (by exact zh131 hd hs hsd) fun q1 lv2 hq1 X2=>B_cons hΓ ?_
  have L2:=L1.set (j:=4) (by decide) (.int q1) lv2
  have la:=(X2.cells _ (List.mem_cons_self)).1
  let φ:MS:=⟨setV (setV σ.loc 6 (.int s)) 4 (.int q1),lv2⟩
  show denS I0 Γ _ φ _
  have f8:φ.loc 8=some (.ref a):=by simp [φ,setV,g8]
  have f5:φ.loc 5=some (.ref h):=by simp [φ,setV,g5]
  refine S_ite hΓ (∀ v,(q1,v)∉marks) ?_ (fun hno => ?_) fun hyes => ?_
  ·refine E_compM hΓ (E_loc f8 ?_)
   have it:∀ {τ:MS},τ.lv=lv2→Mine.gOf false τ (.ref a)=some (vP marks):=fun {τ} e=>list_of (σ:=τ) (by rw [e];exact la)
   let pick:Nat×Nat→Bool:=fun x=>decide (x.1=q1)
   let J5:List (Nat×Nat)→List V→MS→Prop:=fun d2 acc τ=>A3 (acc=vP (d2.filter pick)) (τ.loc 2=some (.int q1)) (τ.lv=lv2)
   refine ⟨_,marks,it rfl,trivial,by simp only [vP,List.length_map,lim_eq];exact zk17 hml hsd hs hd rfl,J5,?_,?_,?_⟩
   ·exact ⟨rfl,by simp [frLoc,φ,setV],rfl⟩
   ·rintro d2 q r2 acc τ hdr2 ⟨rfl,k2,klv⟩
    obtain ⟨m,v⟩:=q
    refine ⟨it klv,_,rfl,?_⟩
    refine ⟨_,rfl,0,rfl,.inl ⟨_,.int m,rfl,by simp [lim_eq],rfl,.int q1,k2,trivial,trivial,fun ht=>⟨_,rfl,?_,k2,klv⟩,fun ht=>⟨?_,k2,klv⟩⟩⟩
    ·have:m=q1:=by have:=of_decide_eq_true ht;simp only [V.int.injEq] at this;exact Int.ofNat_inj.mp this
     rw [List.filter_append,List.filter_cons,if_pos (decide_eq_true this)];simp
    ·have:¬ m=q1:=fun e=>of_decide_eq_false ht (by rw [e])
     rw [List.filter_append,List.filter_cons,if_neg (by simpa [pick] using this)];simp
   ·rintro acc τ ⟨rfl,k2,klv⟩
    refine ⟨it klv,by simp [lim_eq],fun x hx=>plain_vP _ x hx |> fun _ => ?_,(fun x hx=>by cases hx),by rw [klv],?_⟩
    ·obtain ⟨q,_,rfl⟩:=List.mem_map.mp hx
     intro y hy;simp at hy;rcases hy with rfl | rfl<;>trivial
    ·simp only [decide_eq_true_eq,V.lst.injEq,vP,List.map_eq_nil_iff,List.filter_eq_nil_iff,Prod.forall]
     constructor
     ·intro h v hv;exact h q1 v hv (decide_eq_true rfl)
     ·intro h x y hxy e
      have e:x=q1:=of_decide_eq_true e
      subst e;exact h y hxy
  ·refine B_cons hΓ ?_
   refine ⟨.ref p,L2.1,?_⟩
   refine use h1 ?_
   refine use_draw (many:=2) X2 (by decide) (by decide) (by exact zh132 hd hs hsd) fun q2 lv3 hq2 X3=>B_cons hΓ ?_
   have L3:=L2.set (j:=9) (by decide) (.int q2) lv3
   refine ⟨.ref F.a,L3.2.2,F.a,92,_,77,rfl,X3.M.oa,rfl,mt_sett,.int q1,by simp [φ,setV],.int q2,by simp [setV],?_⟩
   refine use h2 ?_
   refine ⟨F,_,q1,q2,rfl,X3.M,hno,by show marks.length<1000;exact zk18 hml hsd hs hd rfl,fun lv4 M4 S4=>⟨rfl,B_cons hΓ ?_⟩⟩
   have X4:=X3.step M4 S4
   have lh:=(X4.cells _ (List.mem_cons_self)).1
   refine ⟨.ref a,by simp [φ,setV,g8],⟨a,_,rfl,lh⟩,.int q1,by simp [φ,setV],.int q2,by simp [setV],by simp [lim_eq],a,vP marks,rfl,lh,by simp only [vP,List.length_map,lim_eq];exact zk18 hml hsd hs hd rfl,rfl,(?_)⟩
   refine ⟨marks++[(q1,q2)],L3,by simp [φ,setV,g5],by simp [φ,setV,g8],⟨fun x hx => ?_,?_⟩,by simp;exact hml,?_⟩
   ·rcases List.mem_append.mp hx with q | q
    ·exact hmk.1 x q
    ·simp at q;subst q;exact ⟨hq1,hq2⟩
   ·rw [List.map_append]
    refine nodup_snoc hmk.2 fun q => ?_
    obtain ⟨⟨x,v⟩,q3,q4⟩:=List.mem_map.mp q
    dsimp only at q4;subst q4;exact hno v q3
   ·have:=X4.put (vP marks++[V.tup [.int q1,.int q2]])
    rw [show vP (marks++[(q1,q2)])=vP marks++[V.tup [.int q1,.int q2]] by simp [vP]]
    exact this.le (by simp;exact zq34)
  ·refine (⟨marks,L2,f5,f8,hmk,by simp;exact Nat.le_add_right_of_le hml,X2.le (by simp;exact zq35)⟩)
 ·rintro σ ⟨marks,hL,g5,g8,hmk,hml,X⟩
  rw [List.length_range] at hml X
  exact ⟨rng_items d,by trivial,p,F,h,a,n,hops,marks,hL,n1,n6,g5,g8,hok,hlen,hmk,by exact zk19 hml hd rfl,X.le (by exact zh135 hd)⟩
end
end Mine
namespace Mine
variable {Γ:Value→PC}
structure Ca (D:Dt) (a:Addr) (loc:Loc):Prop where
 l2:loc 2=some (.int D.n)
 l3:loc 3=some (.ref a)
 l5:loc 5=some (.lst (vP D.hops))
 l8:loc 8=some (.lst (vP D.marks))
 l10:loc 10=some (.int D.first)
 l11:loc 11=some (.lst (vR D.roads))
theorem sub_of {L M:List Nat} (h:(L.all fun x=>M.elem x)=true) {j:Nat} (q:j∈L):j∈M:=List.elem_iff.mp (List.all_eq_true.mp h j q)
theorem nej {L:List Nat} {x j:Nat} (hj:j∉L) (h:L.elem x=true):x≠j:=fun e=>hj (e▸List.elem_iff.mp h)
theorem Ca.set {D:Dt} {a:Addr} {loc:Loc} (X:Ca D a loc) {j:Nat} (hj:j∉[2,3,5,8,10,11]) (v:V):Ca D a (setV loc j v):=by
 exact ⟨(setV_ne _ _ (nej hj (x:=2) rfl)).trans X.l2,(setV_ne _ _ (nej hj (x:=3) rfl)).trans X.l3,(setV_ne _ _ (nej hj (x:=5) rfl)).trans X.l5,(setV_ne _ _ (nej hj (x:=8) rfl)).trans X.l8,(setV_ne _ _ (nej hj (x:=10) rfl)).trans X.l10,(setV_ne _ _ (nej hj (x:=11) rfl)).trans X.l11⟩
noncomputable def R12 (σ:MS):Prop:=∃ D a p,Dt.Ok D∧Ca D a σ.loc∧σ.loc 1=some (.ref p)∧PenAt σ.lv p 70∧NfaAt σ.lv a D.nf
section
variable (hΓ:∀ f,MonoC (Γ f))
include hΓ
theorem l_9_12 (h1:Γ (.ref 292)=C_draw) (h2:Γ (.ref 70)=C_set_first) (h3:Γ (.ref 56)=C_add_move) {σ:MS} (h:R8 σ) {Q:Fl→MS→Prop} {r:MSts} (k:∀ σ,R12 σ→denB I0 Γ r σ Q):denB I0 Γ (.cons st_9 (.cons st_10 (.cons st_11 (.cons st_12 r)))) σ Q:=by
 obtain ⟨p,F,h,mk,n,hops,marks,hL,n1,n6,g5,g8,hok,hlen,hmk,hml,X⟩:=h
 unfold st_9
 refine B_cons hΓ ?_
 refine ⟨.ref p,hL.1,.int n,hL.2.1,?_⟩
 refine use h1 ?_
 refine use_draw X n1 (by exact zk0 n6 rfl) (by exact Nat.le_of_ble_eq_true rfl) fun f lv1 hf X1 => ?_
 have L1:=hL.set (j:=10) (by decide) (.int f) lv1
 unfold st_10
 refine B_cons hΓ ?_
 refine ⟨_,L1.2.2,F.a,92,_,70,rfl,X1.M.oa,rfl,mt_setf,.int f,by simp [setV],?_⟩
 refine use h2 ?_
 refine ⟨F,_,f,rfl,X1.M,fun lv2 M2 S2=>⟨rfl,?_⟩⟩
 have X2:=X1.step M2 S2
 unfold st_11
 refine B_cons hΓ ?_
 refine ⟨by decide,fun a ha => ?_⟩
 have X3:=X2.new ha []
 have L3:=L1.set (j:=11) (by decide) (.ref a) lv2
 let MR1:MS→Prop:=fun σ=>∃ (roads:List (Nat×Nat×Nat)),A8 (Lo σ p F.a n) (σ.loc 5=some (.ref h)) (σ.loc 8=some (.ref mk)) (σ.loc 10=some (.int f)) (σ.loc 11=some (.ref a)) (roads.length≤7) ((∀ x∈roads,x.1<n∧x.2.1<8∧x.2.2<n)) (BP σ.lv p 70 F (Dt.nf ⟨n,f,hops,marks,roads⟩) [(a,vR roads),(mk,vP marks),(h,vP hops)])
 refine B_midG hΓ MR1 ?_ ?_
 ·unfold st_12 st_12_1 st_12_2 st_12_3 st_12_4 st_12_5
  refine S_forM hΓ ?_
  refine ⟨.ref p,by simp [setV,hL.1],?_⟩
  refine use h1 ?_
  refine use_draw (many:=8) X3 (by decide) (by decide) (by decide) fun d lv4 hd X4 => ?_
  let J2:List Nat→MS→Prop:=fun d' σ=>∃ roads,A8 (Lo σ p F.a n) (σ.loc 5=some (.ref h)) (σ.loc 8=some (.ref mk)) (σ.loc 10=some (.int f)) (σ.loc 11=some (.ref a)) (roads.length=d'.length) ((∀ x∈roads,x.1<n∧x.2.1<8∧x.2.2<n)) (BP σ.lv p (42+3*d'.length) F (Dt.nf ⟨n,f,hops,marks,roads⟩) [(a,vR roads),(mk,vP marks),(h,vP hops)])
  refine ⟨_,List.range d,rng_items d,rng_ok (by exact zk1 hd rfl),J2,?_,?_,?_⟩
  ·exact ⟨[],⟨L3.1,L3.2.1,L3.2.2⟩,by simp [setV,g5],by simp [setV,g8],by simp [setV],by simp [setV],rfl,fun p hp=>(by cases hp),X4⟩
  ·rintro d' s r' σ hdr ⟨roads,hL,g5,g8,g10,g11,hrl,hrd,X⟩
   obtain ⟨hsd,hs,_⟩:=range_split hdr
   refine ⟨rng_items d,_,rfl,B_cons hΓ ?_⟩
   have L1:=hL.set (j:=6) (by decide) (.int s) σ.lv
   refine ⟨.ref p,L1.1,.int n,L1.2.1,?_⟩
   refine use h1 ?_
   refine use_draw X n1 (by exact zk0 n6 rfl) (by exact zh136 hd hs hsd) fun q1 lv5 hq1 X5=>B_cons hΓ ?_
   have L5:=L1.set (j:=4) (by decide) (.int q1) lv5
   refine ⟨.ref p,L5.1,?_⟩
   refine use h1 ?_
   refine use_draw (many:=8) X5 (by decide) (by exact Nat.le_of_ble_eq_true rfl) (by exact zh137 hd hs hsd) fun q2 lv6 hq2 X6=>B_cons hΓ ?_
   have L6:=L5.set (j:=12) (by decide) (.int q2) lv6
   refine ⟨.ref p,L6.1,.int n,L6.2.1,?_⟩
   refine use h1 ?_
   refine use_draw X6 n1 (by exact zk0 n6 rfl) (by exact zh138 hd hs hsd) fun q3 lv7 hq3 X7=>B_cons hΓ ?_
   have L7:=L6.set (j:=7) (by decide) (.int q3) lv7
   refine ⟨.ref F.a,L7.2.2,F.a,92,_,56,rfl,X7.M.oa,rfl,mt_addm,.int q1,by simp [setV],.int q2,by simp [setV],.int q3,by simp [setV],?_⟩
   refine use h3 ?_
   have hln:(Dt.nf ⟨n,f,hops,marks,roads⟩).moves.length=n:=by simp [Dt.nf]
   refine ⟨F,_,q1,q2,q3,rfl,X7.M,by rw [hln];exact hq1,by rw [hln];exact zk0 n6 rfl,fun l hl => ?_,fun lv8 M8 S8=>⟨rfl,B_cons hΓ ?_⟩⟩
   ·obtain ⟨i,_,rfl⟩:=List.mem_map.mp (show l∈(List.range n).map (dueM roads) from hl)
    have:=dueM_len roads i;exact zk14 this hrl hsd hs hd rfl
   have X8:=X7.step M8 S8
   rw [nf_addM] at X8
   have lh:=(X8.cells _ (List.mem_cons_self)).1
   refine ⟨.ref a,by simp [setV,g11],⟨a,_,rfl,lh⟩,.int q1,by simp [setV],.int q2,by simp [setV],.int q3,by simp [setV],by simp [lim_eq],a,vR roads,rfl,lh,by simp only [vR,List.length_map,lim_eq];exact zk15 hrl hsd hs hd rfl,rfl,?_⟩
   refine ⟨roads++[(q1,q2,q3)],L7,by simp [setV,g5],by simp [setV,g8],by simp [setV,g10],by simp [setV,g11],by simp [hrl],fun x hx => ?_,?_⟩
   ·rcases List.mem_append.mp hx with q | q
    ·exact hrd x q
    ·simp at q;subst q;exact ⟨hq1,hq2,hq3⟩
   ·have:=X8.put (vR roads++[V.tup [.int q1,.int q2,.int q3]])
    rw [show vR (roads++[(q1,q2,q3)])=vR roads++[V.tup [.int q1,.int q2,.int q3]] by simp [vR]]
    exact this.le (by simp;exact zq36)
  ·rintro σ ⟨roads,hL,g5,g8,g10,g11,hrl,hrd,X⟩
   rw [List.length_range] at hrl X
   exact ⟨rng_items d,by trivial,roads,hL,g5,g8,g10,g11,by exact zk16 hrl hd rfl,hrd,X.le (by exact zh140 hd)⟩
 ·rintro σ ⟨roads,hL,g5,g8,g10,g11,hrl,hrd,X⟩
  obtain ⟨c1,c1F,c1p⟩:=X.cells (a,vR roads) (by simp)
  obtain ⟨c2,c2F,c2p⟩:=X.cells (mk,vP marks) (by simp)
  obtain ⟨c3,c3F,c3p⟩:=X.cells (h,vP hops) (by simp)
  have nd:=X.nd
  simp only [List.map_cons,List.map_nil,List.nodup_cons,List.mem_cons,List.not_mem_nil,or_false,not_or,not_false_eq_true,List.nodup_nil,and_true] at nd
  obtain ⟨⟨d1,d2⟩,d3⟩:=nd
  have G1:=Gh.lst (i:=11) g11 c1
  have G2:=Gh.lst (σ:=⟨setV σ.loc 11 (.lst (vR roads)),updL σ.lv a none⟩) (i:=8) (a:=mk) (l:=vP marks) (by simp [setV,g8]) (by show updL σ.lv a none mk=_;rw [updL_ne _ _ (Ne.symm d1)];exact c2)
  have G3:=Gh.lst (σ:=⟨setV (setV σ.loc 11 (.lst (vR roads))) 8 (.lst (vP marks)),updL (updL σ.lv a none) mk none⟩) (i:=5) (a:=h) (l:=vP hops) (by simp [setV,g5]) (by show updL (updL σ.lv a none) mk none h=_;rw [updL_ne _ _ (Ne.symm d3),updL_ne _ _ (Ne.symm d2)];exact c3)
  have M3:NfaM (updL (updL (updL σ.lv a none) mk none) h none) F (Dt.nf ⟨n,f,hops,marks,roads⟩):=((X.M.upd c1F _).upd c2F _).upd c3F _
  obtain ⟨lv4,G4,A4,K4⟩:=NfaM.freeze (σ:=⟨setV (setV (setV σ.loc 11 (.lst (vR roads))) 8 (.lst (vP marks))) 5 (.lst (vP hops)),updL (updL (updL σ.lv a none) mk none) h none⟩) M3
  refine ⟨_,G1.trans (G2.trans (G3.trans G4)),k _ ⟨⟨n,f,hops,marks,roads⟩,F.a,p,⟨n1,n6,hf,hlen,hok,hml,hmk.1,hmk.2,hrl,hrd⟩,⟨by simp [setV,hL.2.1],by simp [setV,hL.2.2],by simp [setV],by simp [setV],by simp [setV,g10],by simp [setV]⟩,by simp [setV,hL.1],?_,A4⟩⟩
  obtain ⟨cs,i,s,q1,q2⟩:=X.pen
  refine ⟨cs,i,s,K4 _ _ X.pF ?_,q2⟩
  show updL (updL (updL σ.lv a none) mk none) h none p=_
  exact (updL_ne _ _ (Ne.symm c3p)).trans ((updL_ne _ _ (Ne.symm c2p)).trans ((updL_ne _ _ (Ne.symm c1p)).trans q1))
structure Cx (D:Dt) (a:Addr) (line:List Int) (at':Nat) (loc:Loc):Prop where
 ca:Ca D a loc
 l13:loc 13=some (vTab D.n (Rc (hopR D.nf)))
 l14:loc 14=some (.lst (vI line))
 l15:loc 15=some (.int at')
end
theorem Cx.set {D:Dt} {a:Addr} {line:List Int} {at':Nat} {loc:Loc} (X:Cx D a line at' loc) {j:Nat} (hj:j∉[2,3,5,8,10,11,13,14,15]) (v:V):Cx D a line at' (setV loc j v):=by
 exact ⟨X.ca.set (fun q=>hj (sub_of rfl q)) v,(setV_ne _ _ (nej hj (x:=13) rfl)).trans X.l13,(setV_ne _ _ (nej hj (x:=14) rfl)).trans X.l14,(setV_ne _ _ (nej hj (x:=15) rfl)).trans X.l15⟩
noncomputable def lineOk (line:List Int):Prop:=line.length=5∧∀ k∈line,-1≤k∧k≤3
noncomputable def R15 (D:Dt) (a:Addr) (line:List Int) (at':Nat) (σ:MS):Prop:=D.Ok∧Cx D a line at' σ.loc∧lineOk line∧at'<2∧NfaAt σ.lv a D.nf
theorem keep_nfa {lv lv':LM} {a p:Addr} {k:Nat} {N:Nf} (hN:NfaAt lv a N) (hp:PenAt lv p k) (K:∀ b x,b≠p→lv b=some x→lv' b=some x):NfaAt lv' a N:=by
 obtain ⟨d,h1,h2⟩:=hN
 obtain ⟨c,i,s,h3,_⟩:=hp
 exact ⟨d,K _ _ (fun e=>by rw [e,h3] at h1;cases h1) h1,K _ _ (fun e=>by rw [e,h3] at h2;cases h2) h2⟩
section
variable (hΓ:∀ f,MonoC (Γ f))
include hΓ
theorem l_13_15 (h1:Γ (.ref 292)=C_draw) (h2:Γ (.ref 297)=C_reach) {σ:MS} (h:R12 σ) {Q:Fl→MS→Prop} {r:MSts} (k:∀ D a line at' σ,R15 D a line at' σ→denB I0 Γ r σ Q):denB I0 Γ (.cons st_13 (.cons st_14 (.cons st_15 r))) σ Q:=by
 obtain ⟨D,a,p,O,X,g1,hp,hN⟩:=h
 have n6:=O.n6
 unfold st_13
 refine B_cons hΓ ?_
 refine ⟨_,X.l2,_,X.l5,?_⟩
 refine use h2 ?_
 refine ⟨D.n,_,D.hops,rfl,by exact zk0 n6 rfl,.inr rfl,O.h,?_⟩
 rw [nf_rc O]
 have X1:=X.set (j:=13) (by decide) (vTab D.n (Rc (hopR D.nf)))
 let MR3:MS→Prop:=fun σ=>∃ line,A7 (lineOk line) (Ca D a σ.loc) (σ.loc 1=some (.ref p)) (σ.loc 13=some (vTab D.n (Rc (hopR D.nf)))) (σ.loc 14=some (.lst (vI line))) (PenAt σ.lv p 80) (NfaAt σ.lv a D.nf)
 refine B_mid hΓ MR3 ?_ ?_
 ·unfold st_14
  refine E_compM hΓ ?_
  let J4:List Nat→List V→MS→Prop:=fun d' acc τ=>∃ line,A6 (acc=vI line) (line.length=d'.length) ((∀ k∈line,-1≤k∧k≤3)) (τ.loc 3=some (.ref p)) (PenAt τ.lv p (70+d'.length)) (NfaAt τ.lv a D.nf)
  refine ⟨_,List.range 5,g_rng (σ:=_) 5,rng_ok (n:=5) (by decide),by simp [lim_eq],J4,?_,?_,?_⟩
  ·exact ⟨[],rfl,rfl,fun k hk=>(by cases hk),by simp [frLoc,setV,g1],hp,hN⟩
  ·rintro d' s r' acc τ hdr ⟨line,rfl,hll,hlk,k3,hp,hN⟩
   obtain ⟨hsd,hs,_⟩:=range_split hdr
   refine ⟨g_rng (σ:=_) 5,_,rfl,?_⟩
   refine ⟨fun _=>⟨_,k3,?_⟩,fun h=>by cases h⟩
   refine use h1 ?_
   refine ⟨p,5,_,rfl,hp,by decide,by decide,by exact zh141 hs hsd,fun d lv' hd hp' K=>⟨trivial,line++[(d:Int) - 1],by simp [vI,BOp.val],by simp [hll],fun k hk => ?_,k3,?_,keep_nfa hN hp K⟩⟩
   ·rcases List.mem_append.mp hk with q | q
    ·exact hlk k q
    ·simp at q;exact zh142 q hd
   ·rw [List.length_append];exact hp'
  ·rintro acc τ ⟨line,rfl,hll,hlk,k3,hp,hN⟩
   rw [List.length_range] at hll hp
   exact ⟨g_rng (σ:=_) 5,by trivial,line,⟨hll,hlk⟩,X1.set (by decide) _,by simp [setV,g1],by simp [setV],by simp [setV],hp.le (by decide),hN⟩
 ·rintro σ ⟨line,hli,X,g1,g13,g14,hp,hN⟩
  unfold st_15
  refine B_cons hΓ ?_
  refine ⟨_,g1,?_⟩
  refine use h1 ?_
  refine ⟨p,2,80,rfl,hp,by decide,by decide,by decide,fun d lv' hd hp' K => ?_⟩
  exact k D a line d _ ⟨O,⟨X.set (by decide) _,by simp [setV,g13],by simp [setV,g14],by simp [setV]⟩,hli,hd,keep_nfa hN hp K⟩
end
end Mine
namespace Mine
variable {Γ:Value→PC}
theorem plain_int (k:Nat) (i:Int):Plain k (.int i):=by cases k<;>trivial
theorem plainN (k:Nat) (l:List Nat):∀ x∈vN l,Plain k x:=fun x hx=>by
 obtain ⟨p,_,rfl⟩:=List.mem_map.mp hx;exact plain_int k _
theorem plain_tupN (k:Nat) (l:List Nat):Plain (k+1) (.tup (vN l)):=plainN k l
theorem plain_lstN (k:Nat) (l:List Nat):Plain (k+1) (.lst (vN l)):=plainN k l
theorem plain_mv (k:Nat) (p:Nat×Nat):Plain (k+1) (.tup [.int p.1,.int p.2]):=fun x hx=>by
 simp at hx
 rcases hx with rfl | rfl<;>exact plain_int k _
theorem plain_lstMv (k:Nat) (l:List (Nat×Nat)):Plain (k+2) (.lst (vMv l)):=fun x hx=>by
 obtain ⟨p,_,rfl⟩:=List.mem_map.mp hx;exact plain_mv k p
theorem vN_len {n:Nat} {S:Nat→Prop} (h:n≤1000):(vN (setL n S)).length≤lim:=by
 have := @setL_len n S;simp only [vN,List.length_map,lim_eq];exact zk3 this h rfl
theorem enumL_at {l:List V} {dn r:List V} {x:V} (h:dn++x::r=enumL l):∃ y,l[dn.length]?=some y∧x= .tup [.int dn.length,y]:=by
 have h1:(enumL l)[dn.length]?=some x:=by rw [←h];simp
 unfold enumL at h1
 rw [List.getElem?_mapIdx] at h1
 obtain ⟨y,h2,h3⟩:=Option.map_eq_some_iff.mp h1
 exact ⟨y,h2,h3.symm⟩
theorem nd_t {P:Prop} {i:Decidable P} (h:(!@decide P i)=true):¬ P:=fun p=>by rw [@decide_eq_true _ i p] at h;cases h
theorem nd_f {P:Prop} {i:Decidable P} (h:(!@decide P i)=false):P:=Classical.byContradiction fun p=>by rw [@decide_eq_false _ i p] at h;cases h
theorem ne_no {a b:V} {i:Decidable (a=b)} (h:a=b):((!@decide (a=b) i)=true)↔False:=by
 rw [@decide_eq_true _ i h];simp
theorem ne_abs {a b:V} {i:Decidable (a=b)} (h:a=b) (q:(!@decide (a=b) i)=true):False:=(ne_no h).mp q
noncomputable def E18 (D:Dt) (a:Addr) (line:List Int) (at':Nat) (lv:LM) (σ:MS):Prop:=Cx D a line at' σ.loc∧σ.loc 16=some (vLL (linksL D.nf))∧σ.lv=lv
theorem E18.set {D:Dt} {a:Addr} {line:List Int} {at':Nat} {lv:LM} {σ:MS} (h:E18 D a line at' lv σ) {j:Nat} (hj:j∉[2,3,5,8,10,11,13,14,15,16]) (v:V):E18 D a line at' lv ⟨setV σ.loc j v,σ.lv⟩ :=
 ⟨h.1.set (fun q=>hj (sub_of rfl q)) v,(setV_ne _ _ (nej hj (x:=16) rfl)).trans h.2.1,h.2.2⟩
section
variable (hΓ:∀ f,MonoC (Γ f))
include hΓ
theorem l_16 (h1:Γ (.ref 84)=C_state_count) (h2:Γ (.ref 108)=C_begin) (h3:Γ (.ref 302)=C_wide) {D:Dt} {a:Addr} {line:List Int} {at':Nat} {σ:MS} (h:R15 D a line at' σ):denS I0 Γ st_16 σ fun fl σ1=>fl= .next∧σ1=σ:=by
 obtain ⟨O,X,hli,hat,hN⟩:=h
 have W:=nf_wf O
 have n6:=O.n6
 obtain ⟨d0,hN1,hN2⟩:=id hN
 unfold st_16
 refine S_ite hΓ False ?_ (fun h=>h.elim) fun _=>⟨rfl,rfl⟩
 refine ⟨_,X.ca.l3,a,92,nfFs D.nf d0,84,rfl,hN1,rfl,mt_count,?_⟩
 refine use h1 ?_
 refine ⟨a,D.nf,rfl,hN,by rw [nf_n];exact zk0 n6 rfl,_,X.ca.l2,trivial,trivial,fun h => ?_,fun _=>⟨_,X.ca.l3,?_⟩⟩
 ·exact (ne_abs (by rw [nf_n]) h).elim
 refine use h2 ?_
 refine ⟨a,D.nf,rfl,hN,W,_,X.l13,_,X.ca.l10,by simp [lim_eq],?_⟩
 refine use h3 ?_
 refine ⟨D.n,_,_,[D.first],rfl,by exact zk0 n6 rfl,.inr rfl,by simpa using O.fst,by simp,vN _,rfl,vN_len (by exact zk0 n6 rfl),plain_tupN 3 _,plain_tupN 3 _,rfl,ne_no ?_⟩
 rw [nf_n];rfl
theorem l_17 (h1:Γ (.ref 89)=C_links) {D:Dt} {a:Addr} {line:List Int} {at':Nat} {σ:MS} (h:R15 D a line at' σ):denS I0 Γ st_17 σ fun fl σ1=>fl= .next∧E18 D a line at' σ.lv σ1:=by
 obtain ⟨O,X,hli,hat,hN⟩:=h
 have W:=nf_wf O
 obtain ⟨d0,hN1,hN2⟩:=id hN
 unfold st_17
 refine ⟨_,X.ca.l3,a,92,nfFs D.nf d0,89,rfl,hN1,rfl,mt_links,?_⟩
 refine use h1 ?_
 exact ⟨a,D.nf,rfl,hN,W,rfl,X.set (by decide) _,by simp [setV],rfl⟩
open Classical in
theorem l_18_2 {D:Dt} {a:Addr} {line:List Int} {at' p:Nat} {lv:LM} {σ:MS} (O:D.Ok) (h:E18 D a line at' lv σ) (g4:σ.loc 4=some (.int p)) {Q:Fl→MS→Prop} (k:Q .next ⟨setV σ.loc 18 (.lst (vMv (dueM D.roads p))),σ.lv⟩):denS I0 Γ st_18_2 σ Q:=by
 have X:=h.1
 unfold st_18_2
 refine E_compM hΓ (E_loc X.ca.l11 ?_)
 let J1:List (Nat×Nat×Nat)→List V→MS→Prop:=fun d' acc τ=>A3 (acc=vMv (dueM d' p)) (τ.loc 4=some (.int p)) (τ.lv=σ.lv)
 refine ⟨_,D.roads,rfl,trivial,by have:=O.rl;simp only [vR,List.length_map,lim_eq];exact zk0 this rfl,J1,?_,?_,?_⟩
 ·exact ⟨rfl,by simp [frLoc,g4],rfl⟩
 ·rintro d' q r' acc τ hdr ⟨rfl,k4,klv⟩
  obtain ⟨s,m,g⟩:=q
  refine ⟨rfl,_,rfl,?_⟩
  have no:¬ (s=p∧0<m)→J1 (d'++[(s,m,g)]) (vMv (dueM d' p)) ⟨setV (setV (setV τ.loc 1 (.int s)) 2 (.int m)) 3 (.int g),τ.lv⟩:=fun hn =>
   ⟨by rw [dueM_snoc,if_neg hn,List.append_nil],k4,klv⟩
  refine ⟨.int s,rfl,_,k4,plain_int 4 _,plain_int 4 _,fun ht => ?_,fun ht=>⟨fun h=>(by cases h),fun _=>no fun hh => ?_⟩⟩
  ·have hs:s=p:=by have:=of_decide_eq_true ht;simp only [V.int.injEq] at this;exact Int.ofNat_inj.mp this
   refine ⟨.int m,rfl,_,_,rfl,rfl,fun hm => ?_,fun hm=>no fun hh => ?_⟩
   ·have hm:0<m:=by have:=of_decide_eq_true hm;exact Int.natCast_pos.mp this
    refine ⟨.int m,rfl,.int g,rfl,by simp [lim_eq],?_,k4,klv⟩
    rw [dueM_snoc,if_pos ⟨hs,hm⟩];simp
   ·have:=of_decide_eq_false hm;exact zh143 hh this
  ·exact of_decide_eq_false ht (by rw [hh.1])
 ·rintro acc τ ⟨rfl,k4,klv⟩
  refine ⟨rfl,?_⟩
  show Q .next ⟨setV σ.loc 18 _,τ.lv⟩
  rw [klv];exact k
open Classical in
theorem l_18_3 {D:Dt} {a:Addr} {line:List Int} {at' p:Nat} {lv:LM} {σ:MS} (O:D.Ok) (h:E18 D a line at' lv σ) (g4:σ.loc 4=some (.int p)) {Q:Fl→MS→Prop} (k:Q .next ⟨setV σ.loc 20 (.lst (vN (dueH D.hops p))),σ.lv⟩):denS I0 Γ st_18_3 σ Q:=by
 have X:=h.1
 have hl:=O.hl
 unfold st_18_3
 refine E_comp hΓ (E_loc X.ca.l5 ?_)
 have it:∀ {τ:MS},gOf true τ (.lst (vP D.hops))=some (enumL (vP D.hops)):=fun {τ}=>rfl
 have el:(enumL (vP D.hops)).length=D.hops.length:=by simp [enumL]
 let J2:List V→List V→List V→MS→Prop:=fun dn r acc τ=>A5 (dn++r=enumL (vP D.hops)) (acc=vN (dueH (D.hops.take dn.length) p)) (τ.loc 4=some (.lst (vP D.hops))) (τ.loc 5=some (.int p)) (τ.lv=σ.lv)
 refine ⟨enumL (vP D.hops),it,trivial,by rw [el,lim_eq];exact zk0 hl rfl,J2,?_,?_,?_⟩
 ·exact ⟨rfl,rfl,X.ca.l5,g4,rfl⟩
 ·rintro dn x r acc τ ⟨hdr,rfl,k4,k5,klv⟩
  obtain ⟨y,hy,rfl⟩:=enumL_at hdr
  rw [List.getElem?_map] at hy
  obtain ⟨⟨s,g⟩,hsg,rfl⟩:=Option.map_eq_some_iff.mp hy
  have hlt:dn.length<D.hops.length:=(List.getElem?_eq_some_iff.mp hsg).1
  have htk:D.hops.take (dn.length+1)=D.hops.take dn.length++[(s,g)]:=by rw [List.take_add_one,hsg];rfl
  refine ⟨it,_,rfl,?_⟩
  have hnext:∀ {acc},acc=vN (dueH (D.hops.take (dn.length+1)) p)→J2 (dn++[V.tup [.int dn.length,.tup [.int s,.int g]]]) r acc ⟨setV (setV (setV τ.loc 1 (.int dn.length)) 2 (.int s)) 3 (.int g),τ.lv⟩:=fun e =>
   ⟨by rw [←hdr];simp,by rw [e];simp,k4,k5,klv⟩
  refine ⟨.int s,rfl,_,k5,plain_int 4 _,plain_int 4 _,fun ht => ?_,fun ht=>⟨fun h=>(by cases h),fun _=>hnext ?_⟩⟩
  ·have hs:s=p:=by have:=of_decide_eq_true ht;simp only [V.int.injEq] at this;exact Int.ofNat_inj.mp this
   refine ⟨.int s,rfl,.int g,rfl,by simp [lim_eq],_,k4,.int dn.length,rfl,dn.length,rfl,vP D.hops,vP (D.hops.take dn.length),rfl,by simp only [vP,List.length_map,lim_eq];exact zk0 hl rfl,?_,.inl ⟨plain_mv 3 (s,g),vP (D.hops.take dn.length),rfl,plain_vP _,fun hb => ?_,fun hb=>hnext ?_⟩⟩
   ·show (if (0:Int)≤(dn.length:Int) then some ((vP D.hops).take ((dn.length:Int)).toNat) else none)=_
    rw [if_pos (by exact zq15),Int.toNat_natCast];simp [vP]
   ·have hn:(s,g)∉D.hops.take dn.length:=fun q=>nd_t hb (mem_vP.mpr q)
    refine ⟨.int g,rfl,hnext ?_⟩
    rw [htk,dueH_snoc,if_pos ⟨hs,hn⟩];simp
   ·have hy:(s,g)∈D.hops.take dn.length:=by
     exact mem_vP.mp (nd_f hb)
    rw [htk,dueH_snoc,if_neg (fun q=>q.2 hy),List.append_nil]
  ·rw [htk,dueH_snoc,if_neg (fun q=>of_decide_eq_false ht (by rw [←q.1])),List.append_nil]
 ·rintro dn acc τ ⟨hdr,rfl,k4,k5,klv⟩
  rw [List.append_nil] at hdr
  refine ⟨it,?_⟩
  show Q .next ⟨setV σ.loc 20 _,τ.lv⟩
  rw [klv,hdr,el,List.take_length];exact k
open Classical in
theorem l_18 (h1:Γ (.ref 302)=C_wide) (h2:Γ (.ref 101)=C_closure) (h3:Γ (.ref 115)=C_step) (h4:Γ (.ref 307)=C_behind) {D:Dt} {a:Addr} {line:List Int} {at':Nat} {lv:LM} {σ:MS} (O:D.Ok) (hN:NfaAt lv a D.nf) (h:E18 D a line at' lv σ) :
  denS I0 Γ st_18 σ fun fl σ1=>fl= .next∧E18 D a line at' lv σ1:=by
 have W:=nf_wf O
 have n6:=O.n6
 have hnn:D.nf.n=D.n:=nf_n
 obtain ⟨d0,hN1,hN2⟩:=id hN
 unfold st_18
 refine S_forM hΓ (E_range h.1.ca.l2 ?_)
 refine ⟨_,List.range D.n,rng_items _,rng_ok (by exact zk0 n6 rfl),fun _ σ=>E18 D a line at' lv σ,h,?_,fun σ hE=>⟨rng_items _,rfl,hE⟩⟩
 ·rintro d' p r' σ hdr hE
  obtain ⟨_,hp,_⟩:=range_split hdr
  refine ⟨rng_items _,_,rfl,?_⟩
  have E1:=hE.set (j:=4) (by decide) (.int p)
  unfold st_18_1
  refine B_cons hΓ ?_
  refine ⟨_,E1.1.l13,.int p,by simp [setV],by simp [lim_eq],?_⟩
  refine use h1 ?_
  refine ⟨D.n,_,_,[p],rfl,by exact zk0 n6 rfl,.inr rfl,by simpa using hp,by simp,?_⟩
  let wd:=setL D.n (clo D.nf (·∈[p]))
  have hwd:∀ s∈wd,s<D.nf.n:=fun s hs=>by rw [hnn];exact (mem_setL.mp hs).1
  have E2:=E1.set (j:=17) (by decide) (.lst (vN wd))
  let φ1:MS:=⟨setV (setV σ.loc 4 (.int p)) 17 (.lst (vN wd)),σ.lv⟩
  show denB I0 Γ _ φ1 _
  refine B_cons hΓ (l_18_2 hΓ (p:=p) O E2 (by simp [setV]) ?_)
  have E3:=E2.set (j:=18) (by decide) (.lst (vMv (dueM D.roads p)))
  refine B_cons hΓ (l_18_3 hΓ (p:=p) O E3 (by simp [setV]) ?_)
  have E4:=E3.set (j:=20) (by decide) (.lst (vN (dueH D.hops p)))
  let φ:MS:=⟨setV (setV (setV (setV σ.loc 4 (.int p)) 17 (.lst (vN wd))) 18 (.lst (vMv (dueM D.roads p)))) 20 (.lst (vN (dueH D.hops p))),σ.lv⟩
  show denB I0 Γ _ φ _
  have E4:E18 D a line at' lv φ:=E4
  have f4:φ.loc 4=some (.int p):=by simp [φ,setV]
  have f17:φ.loc 17=some (.lst (vN wd)):=by simp [φ,setV]
  have f18:φ.loc 18=some (.lst (vMv (dueM D.roads p))):=by simp [φ,setV]
  have f20:φ.loc 20=some (.lst (vN (dueH D.hops p))):=by simp [φ,setV]
  have lva:φ.lv a=some (nfObj D.nf d0):=by rw [E4.2.2];exact hN1
  have ml:D.nf.moves[p]?=some (dueM D.roads p):=rg_get.mpr ⟨hp,rfl⟩
  have hl:D.nf.hops[p]?=some (dueH D.hops p):=rg_get.mpr ⟨hp,rfl⟩
  have lmv:(D.nf.moves.map fun x=>V.lst (vMv x)).length≤lim:=by simp only [List.length_map,lim_eq];have:D.nf.moves.length=D.n:=hnn;exact zk9 this n6 rfl
  have lhp:(D.nf.hops.map fun x=>V.lst (vN x)).length≤lim:=by simp only [List.length_map,lim_eq];have:=W.len;exact zk10 this hnn n6 rfl
  unfold st_18_4
  refine B_mid hΓ (fun σ=>σ=φ) (S_ite hΓ False ?_ (fun h=>h.elim) fun _=>⟨rfl,rfl⟩) ?_
  ·refine ⟨_,E4.1.ca.l3,a,92,nfFs D.nf d0,vMoves D.nf.moves,rfl,lva,ok_moves,nf_moves D.nf d0,.int p,f4,p,rfl,.inl ⟨_,.lst (vMv (dueM D.roads p)),rfl,lmv,at_nat (by rw [List.getElem?_map,ml];rfl),_,f18,plain_lstMv 2 _,plain_lstMv 2 _,fun h => ?_,fun _ => ?_⟩⟩
   ·simp at h
   refine ⟨_,E4.1.ca.l3,a,92,nfFs D.nf d0,vHops D.nf.hops,rfl,lva,ok_hops,nf_hopsL D.nf d0,.int p,f4,p,rfl,.inl ⟨_,.lst (vN (dueH D.hops p)),rfl,lhp,at_nat (by rw [List.getElem?_map,hl];rfl),_,f20,plain_lstN 3 _,plain_lstN 3 _,rfl,by simp⟩⟩
  rintro _ rfl
  unfold st_18_5
  refine B_mid hΓ (fun σ=>σ=φ) (S_ite hΓ False ?_ (fun h=>h.elim) fun _=>⟨rfl,rfl⟩) ?_
  ·have llk:((linksL D.nf).map fun x=>V.lst (vN x)).length≤lim:=by simp only [List.length_map,lim_eq,links_len W];exact zk9 hnn n6 rfl
   refine ⟨_,E4.2.1,_,f4,p,rfl,.inl ⟨_,.lst (vN ((dueM D.roads p).map (·.2)++dueH D.hops p)),rfl,llk,at_nat (by rw [List.getElem?_map,links_get ml hl];rfl),?_⟩⟩
   have hdl:=dueM_len D.roads p
   have hdh:=dueH_len D.hops p
   have:=O.rl
   have:=O.hl
   refine E_compM hΓ (E_loc f18 ?_)
   let J4:List (Nat×Nat)→List V→MS→Prop:=fun d2 acc τ=>(acc=vN (d2.map (·.2)))∧(τ.lv=φ.lv)
   refine ⟨_,dueM D.roads p,rfl,trivial,by simp only [vMv,List.length_map,lim_eq];exact zk3 hdl ‹(_:Nat)≤7› rfl,J4,?_,?_,?_⟩
   ·exact ⟨rfl,rfl⟩
   ·rintro d2 q r2 acc τ hdr2 ⟨rfl,klv⟩
    obtain ⟨m,g⟩:=q
    refine ⟨rfl,_,rfl,?_⟩
    exact ⟨fun _=>⟨.int g,rfl,by simp,klv⟩,fun h=>by cases h⟩
   ·rintro acc τ ⟨rfl,klv⟩
    refine ⟨rfl,_,f20,rfl,_,_,rfl,rfl,by simp only [vN,List.length_map,lim_eq];exact zh144 this ‹(_:Nat)≤7› hdl hdh,?_⟩
    refine ⟨plain_lstN 3 _,fun x hx => ?_,by rw [klv],?_⟩
    ·rcases List.mem_append.mp hx with q | q
     ·exact plainN 3 _ x q
     ·exact plainN 3 _ x q
    ·simp
  rintro _ rfl
  unfold st_18_6
  refine B_mid hΓ (fun σ=>σ=φ) (S_ite hΓ False ?_ (fun h=>h.elim) fun _=>⟨rfl,rfl⟩) ?_
  ·have hNφ:NfaAt φ.lv a D.nf:=by rw [E4.2.2];exact hN
   refine ⟨_,E4.1.ca.l3,_,f4,_,f4,by simp [lim_eq],?_⟩
   refine use h2 ?_
   refine ⟨a,_,D.nf,[p,p],rfl,hNφ,W,.inr rfl,by simp [hnn,hp],by simp [lim_eq],_,f17,vN wd,rfl,vN_len (by exact zk0 n6 rfl),plain_tupN 3 _,plain_tupN 3 _,fun h => ?_,fun _ => ?_⟩
   ·rw [hnn,setL_congr (T:=clo D.nf (·∈[p])) (fun i _=>by unfold clo;simp)] at h
    simp [wd] at h
   refine ⟨_,E4.1.ca.l3,_,f17,?_⟩
   refine use h3 ?_
   exact ⟨a,_,D.nf,wd,-1,rfl,hNφ,W,.inr rfl,hwd,by decide,.inl ⟨by decide,by simp [lim_eq],fun x hx=>(by cases hx),fun x hx=>(by cases hx),rfl,by simp⟩⟩
  rintro _ rfl
  unfold st_18_7
  refine B_cons hΓ (S_forM hΓ ?_)
  refine ⟨_,List.range 4,rng_items (σ:=_) 4,rng_ok (n:=4) (by decide),fun _ σ=>E18 D a line at' lv σ∧σ.loc 17=some (.lst (vN wd)),⟨E4,f17⟩,?_,fun τ q=>⟨rng_items (σ:=_) 4,q.1⟩⟩
  ·rintro d2 k r2 τ hdr2 ⟨hE,k17⟩
   obtain ⟨_,hk,_⟩:=range_split hdr2
   have E5:=hE.set (j:=21) (by decide) (.int k)
   have hNτ:NfaAt τ.lv a D.nf:=by rw [hE.2.2];exact hN
   refine ⟨rng_items (σ:=_) 4,_,rfl,B_cons hΓ (S_ite hΓ False ?_ (fun h=>h.elim) fun _=>⟨E5,by simp [setV,k17]⟩)⟩
   refine ⟨_,E5.1.ca.l3,.lst (vN wd),by simp [setV,k17],.int k,by simp [setV],?_⟩
   refine use h3 ?_
   refine ⟨a,_,D.nf,wd,k,rfl,hNτ,W,.inr rfl,hwd,by rw [lim_eq];exact zh145 hk,.inr ⟨by exact zq15,_,E5.1.l13,_,E5.1.ca.l11,.lst (vN wd),by simp [setV,k17],.int k,by simp [setV],?_⟩⟩
   refine use h4 ?_
   refine ⟨D.n,k,_,_,_,D.roads,wd,rfl,by exact zk0 n6 rfl,.inr rfl,.inr rfl,fun p hp=>(O.r p hp).2.2,by have:=O.rl;exact zk0 this rfl,vN _,rfl,vN_len (by exact zk0 n6 rfl),plain_tupN 3 _,plain_tupN 3 _,rfl,?_⟩
   rw [nf_beh O,Int.toNat_natCast,hnn];simp
end
end Mine
namespace Mine
variable {Γ:Value→PC}
structure Ey where
 D:Dt
 a:Addr
 line:List Int
 at':Nat
 x:Addr
 order:List Nat
 rows:List (List Int)
 b:Addr
 L:Nf
 lr:List (Nat×Nat×Nat)
 lm:List (Nat×Nat)
 c:Addr
 M:Nf
noncomputable def Ey.tags (E:Ey):List (List Nat):=E.order.map fun m=>setL 8 (tagS E.D.nf (bitS m))
structure Ey.Ok (E:Ey):Prop where
 O:E.D.Ok
 hli:lineOk E.line
 hat:E.at'<2
 ord:Ord E.D.nf E.order
 rl:E.rows.length=E.order.length
 ro:rowsOk E.D.nf E.order E.rows
 pr:PrOk E.D.nf E.L
 lw:E.L.Wf
 of_:OfOk E.L E.lr E.lm
 mir:MirOk E.D.nf 5 E.M
 mw:E.M.Wf
structure Ey.Lv (E:Ey) (lv:LM):Prop where
 n:NfaAt lv E.a E.D.nf
 d:DfaAt lv E.x E.rows E.tags
 l:NfaAt lv E.b E.L
 m:NfaAt lv E.c E.M
theorem Ey.Lv.mono {E:Ey} {lv lv':LM} (h:E.Lv lv) (X:Ext lv lv'):E.Lv lv':=⟨h.n.mono X,X _ _ h.d,h.l.mono X,h.m.mono X⟩
structure Cy (E:Ey) (loc:Loc):Prop where
 cx:Cx E.D E.a E.line E.at' loc
 l22:loc 22=some (.ref E.x)
 l23:loc 23=some (.ref E.b)
 l24:loc 24=some (vTab E.L.n (Rc (hopR E.L)))
 l25:loc 25=some (.lst (vR E.lr))
 l26:loc 26=some (.lst (vP E.lm))
 l27:loc 27=some (.ref E.c)
theorem Cy.set {E:Ey} {loc:Loc} (X:Cy E loc) {j:Nat} (hj:j∉[2,3,5,8,10,11,13,14,15,22,23,24,25,26,27]) (v:V):Cy E (setV loc j v):=by
 exact ⟨X.cx.set (fun q=>hj (sub_of rfl q)) v,(setV_ne _ _ (nej hj (x:=22) rfl)).trans X.l22,(setV_ne _ _ (nej hj (x:=23) rfl)).trans X.l23,(setV_ne _ _ (nej hj (x:=24) rfl)).trans X.l24,(setV_ne _ _ (nej hj (x:=25) rfl)).trans X.l25,(setV_ne _ _ (nej hj (x:=26) rfl)).trans X.l26,(setV_ne _ _ (nej hj (x:=27) rfl)).trans X.l27⟩
noncomputable def runW (E:Ey) (w:List Nat):Nat→Prop:=runS E.D.nf (beginS E.D.nf) (wI w)
noncomputable def thinS (E:Ey) (w:List Nat):Nat→Prop:=runS E.L (beginS E.L) (wI w)
noncomputable def setW (E:Ey) (w:List Nat):List Nat:=setL E.D.n (runW E w)
noncomputable def thinW (E:Ey) (w:List Nat):List Nat:=setL E.L.n (thinS E w)
noncomputable def trp (E:Ey) (e:List Nat×Int):List Nat×Int×List Nat:=(setW E e.1,e.2,thinW E e.1)
noncomputable def stOk (E:Ey) (w:List Nat) (st:Int):Prop:=(st = -1∧wm E.D.nf (runW E w)=0)∨∃ j:Nat,st=(j:Int)∧E.order[j]?=some (wm E.D.nf (runW E w))
noncomputable def nextSt (E:Ey) (st:Int) (k:Nat):Int:=if st = -1 then -1 else (((E.rows[st.toNat]?).getD [])[k]?).getD 0
structure Es (E:Ey) (es:List (List Nat×Int)):Prop where
 e0:es[0]?=some ([],0)
 ok:∀ (i:Nat) w st,es[i]?=some (w,st)→stOk E w st∧(∀ k∈w,k<3)∧w.length≤i
 nd:(es.map (trp E)).Nodup
section
variable {E:Ey} (K:E.Ok)
include K
theorem runW_lt {w:List Nat} {s:Nat} (h:runW E w s):s<E.D.n:=by
 have:=runS_lt (nf_wf K.O) (fun s hs=>beginS_lt (nf_wf K.O) hs) (wI w) s h
 rwa [nf_n] at this
theorem thinS_lt {w:List Nat} {s:Nat} (h:thinS E w s):s<E.L.n:=runS_lt K.lw (fun s hs=>beginS_lt K.lw hs) (wI w) s h
theorem setW_pred (w:List Nat):(fun s=>s∈setW E w)=runW E w:=setL_pred fun s hs=>runW_lt K hs
theorem thinW_pred (w:List Nat):(fun s=>s∈thinW E w)=thinS E w:=setL_pred fun s hs=>thinS_lt K hs
theorem Ln_le:E.L.n≤E.D.n:=by
 rw [K.pr.n]
 exact Nat.le_trans (@setL_len E.D.nf.n (keptP E.D.nf)) (Nat.le_of_eq nf_n)
omit K in
theorem runW_snoc (w:List Nat) (k:Nat):runW E (w++[k])=stepS E.D.nf (runW E w) k:=run_snoc
omit K in
theorem thinS_snoc (w:List Nat) (k:Nat):thinS E (w++[k])=stepS E.L (thinS E w) k:=run_snoc
theorem stOk_next {w:List Nat} {st:Int} {k:Nat} (h:stOk E w st) (hk:k<3):stOk E (w++[k]) (nextSt E st k):=by
 have e:wm E.D.nf (runW E (w++[k]))=nxt E.D.nf (wm E.D.nf (runW E w)) k:=by rw [runW_snoc,nxt_wm]
 rcases h with ⟨rfl,h0⟩ | ⟨j,rfl,hj⟩
 ·refine .inl ⟨if_pos rfl,?_⟩
  rw [e,h0]
  unfold nxt wm
  rw [maskS_zero]
  rintro i _ ⟨⟨g,⟨s,h1,_⟩,_⟩,_⟩
  unfold bitS at h1
  rw [Nat.zero_testBit] at h1;cases h1
 ·have hjl:j<E.rows.length:=by rw [K.rl];exact (List.getElem?_eq_some_iff.mp hj).1
  obtain ⟨row,hrow⟩:∃ r,E.rows[j]?=some r:=⟨_,List.getElem?_eq_getElem hjl⟩
  obtain ⟨v,h1,h2⟩:=(K.ro j row _ hrow hj).2 k hk
  have hv:nextSt E (j:Int) k=v:=by
   unfold nextSt
   rw [if_neg (by exact not_eq_of_beq_eq_false rfl),Int.toNat_natCast,hrow]
   show (row[k]?).getD 0=v
   rw [h1];rfl
  rw [hv]
  rcases h2 with ⟨h3,h4⟩ | ⟨h3,j',h4,h5⟩
  ·exact .inl ⟨h4,e.trans h3⟩
  ·exact .inr ⟨j',h4,by rw [e];exact h5⟩
theorem order_64:E.order.length≤64:=by
 have:=len_le_n K.ord.nd K.ord.lt
 have h:2 ^ E.D.nf.n≤2 ^ 6:=Nat.pow_le_pow_right (by decide) (by rw [nf_n];exact K.O.n6)
 exact Nat.le_trans this h
noncomputable def codeT (E:Ey) (e:List Nat×Int):Nat:=(maskS E.D.n (runW E e.1)*66+(e.2+1).toNat)*64+maskS E.L.n (thinS E e.1)
omit K in
theorem mask_setL {n:Nat} {S T:Nat→Prop} (h:maskS n S=maskS n T):setL n S=setL n T:=setL_congr fun i hi=>maskS_inj h i hi
theorem st_bound {w:List Nat} {st:Int} (h:stOk E w st) : -1≤st∧st≤64:=by
 rcases h with ⟨rfl,_⟩ | ⟨j,rfl,hj⟩
 ·exact zq37
 ·have:=(List.getElem?_eq_some_iff.mp hj).1
  have:=order_64 K
  exact zh147 ‹(_:Nat)<_› this
theorem mask_64:maskS E.D.n (runW E w)<64∧maskS E.L.n (thinS E w')<64:=by
 have h1:2 ^ E.D.n≤2 ^ 6:=Nat.pow_le_pow_right (by decide) K.O.n6
 have h2:2 ^ E.L.n≤2 ^ 6:=Nat.pow_le_pow_right (by decide) (Nat.le_trans (Ln_le K) K.O.n6)
 have h3 := @maskS_lt E.D.n (runW E w)
 have h4 := @maskS_lt E.L.n (thinS E w')
 exact zh148 h3 h4 h1 h2
theorem Es.len {es:List (List Nat×Int)} (X:Es E es):es.length≤270336:=by
 have h1:(es.map (codeT E)).Nodup:=by
  have h2:=List.pairwise_map.mp X.nd
  refine List.pairwise_map.mpr (List.Pairwise.imp_of_mem (fun {x y} hx hy hne e=>hne ?_) h2)
  obtain ⟨i,hi⟩:=List.mem_iff_getElem?.mp hx
  obtain ⟨j,hj⟩:=List.mem_iff_getElem?.mp hy
  have b1:=st_bound K (X.ok i x.1 x.2 hi).1
  have b2:=st_bound K (X.ok j y.1 y.2 hj).1
  have m1:=mask_64 K (w:=x.1) (w':=x.1)
  have m2:=mask_64 K (w:=y.1) (w':=y.1)
  unfold codeT at e
  have e1:maskS E.D.n (runW E x.1)=maskS E.D.n (runW E y.1):=by exact zh149 e b1 b2 m1 m2
  have e2:x.2=y.2:=by exact zh150 e b1 b2 m1 m2
  have e3:maskS E.L.n (thinS E x.1)=maskS E.L.n (thinS E y.1):=by exact zh151 e m1 m2
  unfold trp setW thinW
  rw [mask_setL e1,e2,mask_setL e3]
 have h3:=len_le_n (n:=270336) h1 fun c hc=>by
  obtain ⟨x,hx,rfl⟩:=List.mem_map.mp hc
  obtain ⟨i,hi⟩:=List.mem_iff_getElem?.mp hx
  have b1:=st_bound K (X.ok i x.1 x.2 hi).1
  have m1:=mask_64 K (w:=x.1) (w':=x.1)
  unfold codeT
  exact zh152 b1 m1
 rwa [List.length_map] at h3
end
section
variable (hΓ:∀ f,MonoC (Γ f))
include hΓ
theorem l_19_23 (h1:Γ (.ref 285)=C_subset_dfa) (h2:Γ (.ref 162)=C_pruned) (h3:Γ (.ref 317)=C_of) (h4:Γ (.ref 170)=C_mirrored) (h5:Γ (.ref 322)=C_way) (h6:Γ (.ref 84)=C_state_count) {D:Dt} {a:Addr} {line:List Int} {at':Nat} {lv:LM} {σ:MS}
  (O:D.Ok) (hli:lineOk line) (hat:at'<2) (hN:NfaAt lv a D.nf) (h:E18 D a line at' lv σ) {Q:Fl→MS→Prop} {r:MSts} (k:∀ E σ,Ey.Ok E→Cy E σ.loc→E.Lv σ.lv→denB I0 Γ r σ Q):denB I0 Γ (.cons st_19 (.cons st_20 (.cons st_21 (.cons st_22 (.cons st_23 r))))) σ Q:=by
 have W:=nf_wf O
 have n6:=O.n6
 obtain ⟨X,_,hlv⟩:=h
 subst hlv
 unfold st_19
 refine B_cons hΓ ?_
 refine ⟨_,X.ca.l3,?_⟩
 refine use h1 ?_
 refine ⟨a,D.nf,rfl,hN,W,fun order rows x lv1 hord hrl hro hD E1 => ?_⟩
 unfold st_20
 refine B_cons hΓ ?_
 have X1:=X.set (j:=22) (by decide) (.ref x)
 refine ⟨_,X1.ca.l3,?_⟩
 refine use h2 ?_
 refine ⟨a,D.nf,rfl,hN.mono E1,W,nf_small O,fun lv2 b L hP LW hL E2 => ?_⟩
 unfold st_21
 refine B_cons hΓ ?_
 have X2:=X1.set (j:=23) (by decide) (.ref b)
 refine ⟨.ref b,by simp [setV],?_⟩
 refine use h3 ?_
 refine ⟨b,L,rfl,hL,LW,fun lr lm hof=>⟨_,rfl,?_⟩⟩
 have X3:=((X2.set (j:=24) (by decide) (vTab L.n (Rc (hopR L)))).set (j:=25) (by decide) (.lst (vR lr))).set (j:=26) (by decide) (.lst (vP lm))
 unfold st_22
 refine B_cons hΓ ?_
 refine ⟨_,X3.ca.l3,?_⟩
 refine use h4 ?_
 refine ⟨a,D.nf,5,rfl,by decide,(hN.mono E1).mono E2,W,nf_small O,by rw [nf_n];exact zk0 n6 rfl,fun lv3 c M hM MW hMA E3 => ?_⟩
 have X4:=X3.set (j:=27) (by decide) (.ref c)
 let E:Ey:=⟨D,a,line,at',x,order,rows,b,L,lr,lm,c,M⟩
 have K:E.Ok:=⟨O,hli,hat,hord,hrl,hro,hP,LW,hof,hM,MW⟩
 have V3:E.Lv lv3:=⟨((hN.mono E1).mono E2).mono E3,E3 _ _ (E2 _ _ hD),hL.mono E3,hMA⟩
 let φ:MS:=⟨setV (setV (setV (setV (setV (setV σ.loc 22 (.ref x)) 23 (.ref b)) 24 (vTab L.n (Rc (hopR L)))) 25 (.lst (vR lr))) 26 (.lst (vP lm))) 27 (.ref c),lv3⟩
 show denB I0 Γ _ φ _
 have Y:Cy E φ.loc:=⟨X4,by simp [φ,setV,E],by simp [φ,setV,E],by simp [φ,setV,E],by simp [φ,setV,E],by simp [φ,setV,E],by simp [φ,setV,E]⟩
 unfold st_23
 refine B_mid hΓ (fun σ=>σ=φ) (S_ite hΓ False ?_ (fun h=>h.elim) fun _=>⟨rfl,rfl⟩) ?_
 ·obtain ⟨d1,hL1,hL2⟩:=V3.l
  refine ⟨_,Y.l23,?_⟩
  refine use h5 ?_
  refine ⟨b,L,rfl,V3.l,LW,pr_way W hP,fun h=>(by cases h),fun _=>⟨_,Y.l23,b,92,nfFs L d1,84,rfl,hL1,rfl,mt_count,?_⟩⟩
  refine use h6 ?_
  refine ⟨b,L,rfl,V3.l,by have:=LW.small;exact zk0 this rfl,_,Y.cx.ca.l2,_,_,rfl,rfl,rfl,?_⟩
  have:L.n≤D.n:=Ln_le K
  rw [decide_eq_true_eq]
  exact ⟨fun h=>by have h:(D.n:Int)<L.n:=h;exact zq38 h this,fun h=>h.elim⟩
 ·rintro _ rfl
  exact k E φ K Y V3
noncomputable abbrev vS1 (E:Ey) (es:List (List Nat×Int)):List V:=es.map fun e=> .lst (vN (setW E e.1))
abbrev vS2 (es:List (List Nat×Int)):List V:=es.map fun e=> .int e.2
noncomputable abbrev vS3 (E:Ey) (es:List (List Nat×Int)):List V:=es.map fun e=> .lst (vN (thinW E e.1))
abbrev vS4 (es:List (List Nat×Int)):List V:=es.map fun e=> .lst (vN e.1)
end
structure Rs where
 r1:Addr
 r2:Addr
 r3:Addr
 r4:Addr
noncomputable def Rs.l (R:Rs):List Addr:=[R.r1,R.r2,R.r3,R.r4]
structure Ls (E:Ey) (lvB:LM) (R:Rs) (es:List (List Nat×Int)) (lv:LM):Prop where
 h1:lv R.r1=some (.list (vS1 E es))
 h2:lv R.r2=some (.list (vS2 es))
 h3:lv R.r3=some (.list (vS3 E es))
 h4:lv R.r4=some (.list (vS4 es))
 nd:R.l.Nodup
 base:Keep lvB R.l lv
structure Cr (E:Ey) (R:Rs) (loc:Loc):Prop where
 cy:Cy E loc
 l28:loc 28=some (.ref R.r1)
 l29:loc 29=some (.ref R.r2)
 l30:loc 30=some (.ref R.r3)
 l31:loc 31=some (.ref R.r4)
theorem Cr.set {E:Ey} {R:Rs} {loc:Loc} (X:Cr E R loc) {j:Nat} (hj:j∉[2,3,5,8,10,11,13,14,15,22,23,24,25,26,27,28,29,30,31]) (v:V):Cr E R (setV loc j v):=by
 exact ⟨X.cy.set (fun q=>hj (sub_of rfl q)) v,(setV_ne _ _ (nej hj (x:=28) rfl)).trans X.l28,(setV_ne _ _ (nej hj (x:=29) rfl)).trans X.l29,(setV_ne _ _ (nej hj (x:=30) rfl)).trans X.l30,(setV_ne _ _ (nej hj (x:=31) rfl)).trans X.l31⟩
section
variable (hΓ:∀ f,MonoC (Γ f))
include hΓ
theorem l_24_28 (h1:Γ (.ref 302)=C_wide) {E:Ey} {σ:MS} (K:E.Ok) (Y:Cy E σ.loc) (V0:E.Lv σ.lv) {Q:Fl→MS→Prop} {r:MSts}
  (k:∀ R σ',Cr E R σ'.loc→Ls E σ.lv R [([],0)] σ'.lv→Es E [([],0)]→σ'.loc 19=some (.int 0)→denB I0 Γ r σ' Q):denB I0 Γ (.cons st_24 (.cons st_25 (.cons st_26 (.cons st_27 (.cons st_28 r))))) σ Q:=by
 have O:=K.O
 have n6:=O.n6
 have LW:=K.lw
 have hLn:=Ln_le K
 unfold st_24
 refine B_cons hΓ ?_
 refine ⟨_,Y.cx.l13,_,Y.cx.ca.l10,by simp [lim_eq],?_⟩
 refine use h1 ?_
 refine ⟨E.D.n,_,_,[E.D.first],rfl,by exact zk0 n6 rfl,.inr rfl,by simpa using O.fst,by simp,by simp [lim_eq],fun r1 hr1 => ?_⟩
 replace hr1:σ.lv r1=none:=hr1
 have Y1:=Y.set (j:=28) (by decide) (.ref r1)
 unfold st_25
 refine B_cons hΓ ?_
 refine ⟨by simp [lim_eq],fun r2 hr2 => ?_⟩
 have a21:r2≠r1:=fun q=>by rw [q] at hr2;dsimp only at hr2;rw [updL_self] at hr2;cases hr2
 replace hr2:σ.lv r2=none:=by dsimp only at hr2;replace hr2:=(updL_ne _ _ a21).symm.trans hr2;exact hr2
 have Y2:=Y1.set (j:=29) (by decide) (.ref r2)
 unfold st_26
 refine B_cons hΓ ?_
 obtain ⟨d1,hL1,hL2⟩:=V0.l
 refine ⟨_,Y2.l24,_,Y2.l23,E.b,92,nfFs E.L d1,.int E.L.first,rfl,?_,ok_first,nf_first E.L d1,by simp [lim_eq],?_⟩
 ·(try dsimp only);rw [updL_ne _ _ (ne_of hL1 hr2),updL_ne _ _ (ne_of hL1 hr1)];exact hL1
 refine use h1 ?_
 refine ⟨E.L.n,_,_,[E.L.first],rfl,LW.small,.inr rfl,by simpa using LW.fst,by simp,by simp [lim_eq],fun r3 hr3 => ?_⟩
 have a32:r3≠r2:=fun q=>by rw [q] at hr3;dsimp only at hr3;rw [updL_self] at hr3;cases hr3
 have a31:r3≠r1:=fun q=>by rw [q] at hr3;dsimp only at hr3;rw [updL_ne _ _ (Ne.symm a21),updL_self] at hr3;cases hr3
 replace hr3:σ.lv r3=none:=by dsimp only at hr3;replace hr3:=(updL_ne _ _ a31).symm.trans ((updL_ne _ _ a32).symm.trans hr3);exact hr3
 have Y3:=Y2.set (j:=30) (by decide) (.ref r3)
 unfold st_27
 refine B_cons hΓ ?_
 refine ⟨by simp [lim_eq],by simp [lim_eq],fun r4 hr4 => ?_⟩
 have a43:r4≠r3:=fun q=>by rw [q] at hr4;dsimp only at hr4;rw [updL_self] at hr4;cases hr4
 have a42:r4≠r2:=fun q=>by rw [q] at hr4;dsimp only at hr4;rw [updL_ne _ _ (Ne.symm a32),updL_self] at hr4;cases hr4
 have a41:r4≠r1:=fun q=>by rw [q] at hr4;dsimp only at hr4;rw [updL_ne _ _ (Ne.symm a31),updL_ne _ _ (Ne.symm a21),updL_self] at hr4;cases hr4
 replace hr4:σ.lv r4=none:=by dsimp only at hr4;replace hr4:=(updL_ne _ _ a41).symm.trans ((updL_ne _ _ a42).symm.trans ((updL_ne _ _ a43).symm.trans hr4));exact hr4
 have Y4:=Y3.set (j:=31) (by decide) (.ref r4)
 unfold st_28
 refine B_cons hΓ ?_
 have Y5:=Y4.set (j:=19) (by decide) (.int 0)
 refine k ⟨r1,r2,r3,r4⟩ _ ⟨Y5,by simp [setV],by simp [setV],by simp [setV],by simp [setV]⟩ ⟨?_,?_,?_,?_,?_,fun b x e => ?_⟩ ⟨rfl,fun i w st h => ?_,by simp⟩ (by simp [setV])
 ·(try dsimp only);rw [updL_ne _ _ (Ne.symm a41),updL_ne _ _ (Ne.symm a31),updL_ne _ _ (Ne.symm a21),updL_self];rfl
 ·(try dsimp only);rw [updL_ne _ _ (Ne.symm a42),updL_ne _ _ (Ne.symm a32),updL_self];rfl
 ·(try dsimp only);rw [updL_ne _ _ (Ne.symm a43),updL_self];rfl
 ·(try dsimp only);rw [updL_self];rfl
 ·simp only [Rs.l,List.nodup_cons,List.mem_cons,List.not_mem_nil,or_false,not_or,not_false_eq_true,and_true,List.nodup_nil]
  exact ⟨⟨Ne.symm a21,Ne.symm a31,Ne.symm a41⟩,⟨Ne.symm a32,Ne.symm a42⟩,Ne.symm a43⟩
 ·have b1:=ne_of e hr1
  have b2:=ne_of e hr2
  have b3:=ne_of e hr3
  have b4:=ne_of e hr4
  refine ⟨by simp [Rs.l,b1,b2,b3,b4],?_⟩
  (try dsimp only);rw [updL_ne _ _ b4,updL_ne _ _ b3,updL_ne _ _ b2,updL_ne _ _ b1];exact e
 ·have hi:i=0:=by have:=(List.getElem?_eq_some_iff.mp h).1;simp at this;exact this
  subst hi
  simp at h
  obtain ⟨rfl,rfl⟩:=h
  exact ⟨.inr ⟨0,rfl,K.ord.o0⟩,fun k hk=>(by cases hk),Nat.le_refl _⟩
end
end Mine
namespace Mine
variable {Γ:Value→PC}
theorem nn_t {P:Prop} {i:Decidable P} (h:¬ P):(!@decide P i)=true:=by rw [@decide_eq_false _ i h];rfl
noncomputable def unV:V→Nat
 | .int i=>i.toNat
 | _=>0
theorem unV_vN (l:List Nat):(vN l).map unV=l:=by
 induction l with
 | nil=>rfl
 | cons x r ih =>
  show unV (.int x)::(vN r).map unV=_
  rw [ih];rfl
theorem vN_inj {a b:List Nat} (h:vN a=vN b):a=b:=by rw [←unV_vN a,h,unV_vN]
noncomputable def vT (t:List Nat×Int×List Nat):V:= .tup [.lst (vN t.1),.int t.2.1,.lst (vN t.2.2)]
theorem vT_inj {a b:List Nat×Int×List Nat} (h:vT a=vT b):a=b:=by
 obtain ⟨a1,a2,a3⟩:=a
 obtain ⟨b1,b2,b3⟩:=b
 unfold vT at h
 simp only [V.tup.injEq,List.cons.injEq,V.lst.injEq,V.int.injEq,and_true] at h
 obtain ⟨h1,h2,h3⟩:=h
 rw [vN_inj h1,h2,vN_inj h3]
theorem plain_vT (t:List Nat×Int×List Nat):Plain 4 (vT t):=fun x hx=>by
 simp at hx
 rcases hx with rfl | rfl | rfl
 ·exact plain_lstN 2 _
 ·exact plain_int 3 _
 ·exact plain_lstN 2 _
theorem zip_is (E:Ey) (es:List (List Nat×Int)):zip3L (vS1 E es) (vS2 es) (vS3 E es)=(es.map (trp E)).map vT:=by
 induction es with
 | nil=>rfl
 | cons e r ih=>show V.tup _::zip3L (vS1 E r) (vS2 r) (vS3 E r)=_;rw [ih];rfl
noncomputable def Cl (E:Ey) (es:List (List Nat×Int)) (spot:Nat):Prop:=∀ (i:Nat) w st,i<spot→es[i]?=some (w,st)→∀ k,k<3→∃ w',(w',nextSt E st k)∈es
theorem Cl.snoc {E:Ey} {es:List (List Nat×Int)} {spot:Nat} {x:List Nat×Int} (h:Cl E es spot) (hs:spot≤es.length):Cl E (es++[x]) spot:=fun i w st hi e k hk=>by
 replace e:=(List.getElem?_append_left (by exact Nat.lt_of_lt_of_le hi hs)).symm.trans e
 obtain ⟨w',h1⟩:=h i w st hi e k hk
 exact ⟨w',List.mem_append_left _ h1⟩
theorem Es.snoc {E:Ey} (K:E.Ok) {es:List (List Nat×Int)} (X:Es E es) {spot:Nat} {w:List Nat} {st:Int} (h:es[spot]?=some (w,st)) {k:Nat} (hk:k<3) (hn:trp E (w++[k],nextSt E st k)∉es.map (trp E)):Es E (es++[(w++[k],nextSt E st k)]) where
 e0:=get_app X.e0
 ok i w' st' e:=by
  rcases get_snoc.mp e with e1 | ⟨hi,e1⟩
  ·exact X.ok i w' st' e1
  ·subst hi
   obtain ⟨rfl,rfl⟩:=Prod.mk.inj e1
   obtain ⟨h1,h2,h3⟩:=X.ok spot w st h
   refine ⟨stOk_next K h1 hk,fun j hj => ?_,?_⟩
   ·rcases List.mem_append.mp hj with q | q
    ·exact h2 j q
    ·rw [List.mem_singleton.mp q];exact hk
   ·have:=(List.getElem?_eq_some_iff.mp h).1
    simp;exact zh154 this h3
 nd:=by rw [List.map_append];exact nodup_snoc X.nd hn
theorem Rs.ap {R:Rs} (h:R.l.Nodup):(R.r1≠R.r2∧R.r1≠R.r3∧R.r1≠R.r4)∧(R.r2≠R.r3∧R.r2≠R.r4)∧R.r3≠R.r4:=by
 simpa only [Rs.l,List.nodup_cons,List.mem_cons,List.not_mem_nil,or_false,not_or,not_false_eq_true,and_true,List.nodup_nil] using h
theorem Ls.mem {E:Ey} {lvB:LM} {R:Rs} {es:List (List Nat×Int)} {lv:LM} (X:Ls E lvB R es lv):Ext lvB lv:=X.base.ext
section
variable {E:Ey} (K:E.Ok)
include K
noncomputable def dueW (E:Ey) (w:List Nat):List Nat:=setL 2 (tagS E.D.nf (runW E w))
theorem dueW_8 (w:List Nat):setL 8 (tagS E.D.nf (runW E w))=dueW E w:=(tag_2_8 K.O _).symm
theorem tags_at {w:List Nat} {j:Nat} (h:E.order[j]?=some (wm E.D.nf (runW E w))):E.tags[j]?=some (dueW E w):=by
 unfold Ey.tags
 rw [List.getElem?_map,h]
 show some (setL 8 (tagS E.D.nf (bitS (wm E.D.nf (runW E w)))))=_
 rw [setL_congr (T:=tagS E.D.nf (runW E w)) fun t _=>wm_tags (nf_wf K.O) _ t,dueW_8 K]
theorem due_dead {w:List Nat} (h:wm E.D.nf (runW E w)=0):dueW E w=[]:=by
 unfold dueW
 rw [setL_congr (T:=fun _=>False) fun t _ => ?_,setL_false]
 constructor
 ·rintro ⟨s,h1,h2⟩
  exact maskS_zero.mp h s ((nf_wf K.O).tg _ h2).1 ⟨h1,.inr ⟨t,h2⟩⟩
 ·exact fun h=>h.elim
theorem thin_due (w:List Nat):setL 2 (tagS E.L (thinS E w))=dueW E w:=setL_congr fun t _=>pr_tags (nf_wf K.O) K.pr w t
theorem mir_due (w:List Nat):setL 8 (tagS E.M (runS E.M (beginS E.M) (wI w.reverse)))=if dueW E w=[] then [] else [5]:=by
 classical
 have key:(∃ s u,runS E.D.nf (beginS E.D.nf) (wI w) s∧(s,u)∈E.D.nf.tags)↔dueW E w≠[]:=by
  constructor
  ·rintro ⟨s,u,h1,h2⟩ e
   have:u∈dueW E w:=mem_setL.mpr ⟨(K.O.m _ h2).2,s,h1,h2⟩
   rw [e] at this;cases this
  ·intro h
   cases q:dueW E w with
   | nil=>exact absurd q h
   | cons u r =>
    have:u∈dueW E w:=by rw [q];simp
    obtain ⟨_,s,h1,h2⟩:=mem_setL.mp this
    exact ⟨s,u,h1,h2⟩
 by_cases h:dueW E w=[]
 ·rw [if_pos h,setL_congr (T:=fun _=>False) fun t _ => ?_,setL_false]
  rw [mir_tags (nf_wf K.O) K.mir w t]
  exact ⟨fun q=>(key.mp q.2) h,fun q=>q.elim⟩
 ·rw [if_neg h,setL_congr (T:=fun t=>t=5) fun t _ => ?_]
  ·unfold setL
   have:((List.range 8).filter fun i=>decide (i=5))=[5]:=by decide
   rw [←this]
   exact List.filter_congr fun i _=>decide_eq_decide.mpr Iff.rfl
  ·rw [mir_tags (nf_wf K.O) K.mir w t]
   exact ⟨fun q=>q.1,fun q=>⟨q,key.mpr h⟩⟩
theorem next_at {w:List Nat} {j k:Nat} (h:E.order[j]?=some (wm E.D.nf (runW E w))) (hk:k<3):∃ row,E.rows[j]?=some row∧row.length=3∧row[k]?=some (nextSt E (j:Int) k):=by
 have hjl:j<E.rows.length:=by rw [K.rl];exact (List.getElem?_eq_some_iff.mp h).1
 obtain ⟨row,hrow⟩:∃ r,E.rows[j]?=some r:=⟨_,List.getElem?_eq_getElem hjl⟩
 obtain ⟨hl,hv⟩:=K.ro j row _ hrow h
 obtain ⟨v,h1,_⟩:=hv k hk
 refine ⟨row,hrow,hl,?_⟩
 unfold nextSt
 rw [if_neg (by exact not_eq_of_beq_eq_false rfl),Int.toNat_natCast,hrow]
 show row[k]?=some ((row[k]?).getD 0)
 rw [h1];rfl
end
structure At (E:Ey) (lvB:LM) (R:Rs) (es:List (List Nat×Int)) (spot:Nat) (w:List Nat) (st:Int) (σ:MS):Prop where
 cr:Cr E R σ.loc
 l19:σ.loc 19=some (.int spot)
 ls:Ls E lvB R es σ.lv
 ok:Es E es
 here:es[spot]?=some (w,st)
section
variable {E:Ey} {lvB:LM} {R:Rs} {es:List (List Nat×Int)} {spot:Nat} {w:List Nat} {st:Int} {σ:MS} (K:E.Ok) (X:At E lvB R es spot w st σ)
include K X
theorem At.len:es.length≤270336:=X.ok.len K
theorem At.i1 {Q:V→MS→Prop} (k:Q (.lst (vN (setW E w))) σ):idxP (.ref R.r1) (.int spot) σ Q:=⟨spot,rfl,.inl ⟨vS1 E es,_,list_of X.ls.h1,by have:=X.len K;simp only [vS1,List.length_map,lim_eq];exact zk0 this rfl,at_nat (by rw [List.getElem?_map,X.here];rfl),k⟩⟩
theorem At.i2 {Q:V→MS→Prop} (k:Q (.int st) σ):idxP (.ref R.r2) (.int spot) σ Q:=⟨spot,rfl,.inl ⟨vS2 es,_,list_of X.ls.h2,by have:=X.len K;simp only [vS2,List.length_map,lim_eq];exact zk0 this rfl,at_nat (by rw [List.getElem?_map,X.here];rfl),k⟩⟩
theorem At.i3 {Q:V→MS→Prop} (k:Q (.lst (vN (thinW E w))) σ):idxP (.ref R.r3) (.int spot) σ Q:=⟨spot,rfl,.inl ⟨vS3 E es,_,list_of X.ls.h3,by have:=X.len K;simp only [vS3,List.length_map,lim_eq];exact zk0 this rfl,at_nat (by rw [List.getElem?_map,X.here];rfl),k⟩⟩
theorem At.i4 {Q:V→MS→Prop} (k:Q (.lst (vN w)) σ):idxP (.ref R.r4) (.int spot) σ Q:=⟨spot,rfl,.inl ⟨vS4 es,_,list_of X.ls.h4,by have:=X.len K;simp only [vS4,List.length_map,lim_eq];exact zk0 this rfl,at_nat (by rw [List.getElem?_map,X.here];rfl),k⟩⟩
omit K in
theorem At.set {j:Nat} (hj:j∉[2,3,5,8,10,11,13,14,15,19,22,23,24,25,26,27,28,29,30,31]) (v:V):At E lvB R es spot w st ⟨setV σ.loc j v,σ.lv⟩ :=
 ⟨X.cr.set (fun q=>hj (sub_of rfl q)) v,(setV_ne _ _ (nej hj (x:=19) rfl)).trans X.l19,X.ls,X.ok,X.here⟩
end
section
variable (hΓ:∀ f,MonoC (Γ f))
include hΓ
theorem l_29_1 (h1:Γ (.ref 312)=C_ltags) {E:Ey} {lvB:LM} {R:Rs} {es:List (List Nat×Int)} {spot:Nat} {w:List Nat} {st:Int} {σ:MS} (K:E.Ok) (X:At E lvB R es spot w st σ) {Q:Fl→MS→Prop} (k:Q .next ⟨setV σ.loc 32 (.tup (vN (dueW E w))),σ.lv⟩):denS I0 Γ st_29_1 σ Q:=by
 unfold st_29_1
 refine ⟨_,X.cr.cy.cx.ca.l8,_,X.cr.l28,_,X.l19,X.i1 K ?_⟩
 refine use h1 ?_
 refine ⟨_,_,E.D.marks,setW E w,rfl,.inr rfl,.inr rfl,by have:=K.O.ml;exact zk0 this rfl,?_⟩
 rw [nf_tag K.O,setW_pred K]
 exact k
theorem l_29_2 (h1:Γ (.ref 122)=C_tags_of) {E:Ey} {lvB:LM} {R:Rs} {es:List (List Nat×Int)} {spot:Nat} {w:List Nat} {st:Int} {σ:MS} (K:E.Ok) (V0:E.Lv lvB) (X:At E lvB R es spot w st σ) (g32:σ.loc 32=some (.tup (vN (dueW E w)))):denS I0 Γ st_29_2 σ fun fl σ1=>fl= .next∧σ1=σ:=by
 have VV:=V0.mono X.ls.mem
 have W:=nf_wf K.O
 unfold st_29_2
 refine S_ite hΓ False ?_ (fun h=>h.elim) fun _=>⟨rfl,rfl⟩
 have fin:∀ {Q:V→MS→Prop},Q (.tup (vN (dueW E w))) σ→C_tags_of [.ref E.a,.lst (vN (setW E w))] σ.lv (KR σ.loc Q):=fun {Q} q=>by
  refine ⟨E.a,_,E.D.nf,setW E w,rfl,VV.n,W,.inr rfl,fun s hs=>by rw [nf_n];exact (mem_setL.mp hs).1,?_⟩
  rw [setW_pred K,dueW_8 K];exact q
 have two:denC I0 Γ (.cmp .ne (.call (.ref 122) (.cons (.loc 3) (.cons (.sub (.loc 28) (.loc 19)) .nil))) (.loc 32)) σ fun b σ1=>σ1=σ∧(b=true↔False):=by
  refine ⟨_,X.cr.cy.cx.ca.l3,_,X.cr.l28,_,X.l19,X.i1 K ?_⟩
  refine use h1 ?_
  exact fin ⟨_,g32,plain_tupN 3 _,plain_tupN 3 _,rfl,ne_no rfl⟩
 refine ⟨_,g32,_,X.cr.l29,_,X.l19,X.i2 K ?_⟩
 refine ⟨plain_int 4 _,plain_int 4 _,fun ht => ?_,fun ht => ?_⟩
 ·have hst:st ≠ -1:=fun e=>nd_t ht (by rw [e])
  obtain ⟨j,rfl,hj⟩:=(X.ok.ok spot w st X.here).1.resolve_left fun e=>hst e.1
  have hjl:=(List.getElem?_eq_some_iff.mp hj).1
  have h64:=order_64 K
  refine ⟨.ref E.x,X.cr.cy.l22,E.x,276,dfaFs E.rows E.tags,.lst (vTags E.tags),rfl,VV.d,ok_dtags,rfl,_,X.cr.l29,_,X.l19,X.i2 K ?_⟩
  refine ⟨j,rfl,.inl ⟨vTags E.tags,.tup (vN (dueW E w)),rfl,by simp only [vTags,Ey.tags,List.length_map,lim_eq];exact zk0 h64 rfl,at_nat (by rw [List.getElem?_map,tags_at K hj];rfl),plain_tupN 3 _,plain_tupN 3 _,fun h=>(ne_abs rfl h).elim,fun _=>two⟩⟩
 ·have hst:st = -1:=by have:=nd_f ht;simpa using this
  have hd:dueW E w=[]:=by
   rcases (X.ok.ok spot w st X.here).1 with ⟨_,h⟩ | ⟨j,h,_⟩
   ·exact due_dead K h
   ·omega
  refine ⟨by simp [lim_eq],plain_tupN 3 _,plain_tupN 3 [],fun h=>(ne_abs (by rw [hd];rfl) h).elim,fun _=>two⟩
theorem l_29_3 (h1:Γ (.ref 312)=C_ltags) {E:Ey} {lvB:LM} {R:Rs} {es:List (List Nat×Int)} {spot:Nat} {w:List Nat} {st:Int} {σ:MS} (K:E.Ok) (X:At E lvB R es spot w st σ) (g32:σ.loc 32=some (.tup (vN (dueW E w)))):denS I0 Γ st_29_3 σ fun fl σ1=>fl= .next∧σ1=σ:=by
 unfold st_29_3
 refine S_ite hΓ False ?_ (fun h=>h.elim) fun _=>⟨rfl,rfl⟩
 refine ⟨_,X.cr.cy.l26,_,X.cr.l30,_,X.l19,X.i3 K ?_⟩
 refine use h1 ?_
 refine ⟨_,_,E.lm,thinW E w,rfl,.inr rfl,.inr rfl,by have:=K.of_.ml;exact zk0 this rfl,?_⟩
 rw [of_tag K.of_.mks,thinW_pred K,thin_due K]
 exact ⟨_,g32,plain_tupN 3 _,plain_tupN 3 _,rfl,ne_no rfl⟩
theorem l_29_4 (h1:Γ (.ref 129)=C_simulate) {E:Ey} {lvB:LM} {R:Rs} {es:List (List Nat×Int)} {spot:Nat} {w:List Nat} {st:Int} {σ:MS} (K:E.Ok) (V0:E.Lv lvB) (X:At E lvB R es spot w st σ) (g32:σ.loc 32=some (.tup (vN (dueW E w)))):denS I0 Γ st_29_4 σ fun fl σ1=>fl= .next∧σ1=σ:=by
 have VV:=V0.mono X.ls.mem
 have hw:=X.ok.ok spot w st X.here
 have hsp:=(List.getElem?_eq_some_iff.mp X.here).1
 have hlen:=X.len K
 unfold st_29_4
 refine S_ite hΓ False ?_ (fun h=>h.elim) fun _=>⟨rfl,rfl⟩
 refine ⟨_,X.cr.cy.l27,_,X.cr.l31,_,X.l19,X.i4 K ?_⟩
 refine ⟨vN w,(vN w).reverse,rfl,by have:=hw.2.2;simp only [vN,List.length_map,lim_eq];omega,rfl,?_⟩
 refine use h1 ?_
 refine ⟨E.c,_,E.M,wI w.reverse,rfl,VV.m,K.mw,.inr ?_,fun k hk => ?_,?_⟩
 ·show V.lst (vN w).reverse=_
  simp [vN,vI,List.map_reverse]
 ·obtain ⟨i,h2,rfl⟩:=List.mem_map.mp hk
  have:=hw.2.1 i (List.mem_reverse.mp h2)
  rw [lim_eq];exact zq39 this
 rw [mir_due K]
 refine ⟨_,g32,by simp [lim_eq],plain_tupN 3 _,plain_tupN 3 [],fun ht => ?_,fun ht => ?_⟩
 ·have hd:dueW E w≠[]:=fun e=>nd_t ht (by rw [e];rfl)
  rw [if_neg hd]
  exact ⟨by simp [lim_eq],plain_tupN 3 _,plain_tupN 3 [5],rfl,ne_no rfl⟩
 ·have hd:dueW E w=[]:=by
   have:=nd_f ht
   simp only [V.tup.injEq,vN,List.map_eq_nil_iff] at this
   exact this
  rw [if_pos hd]
  exact ⟨by simp [lim_eq],plain_tupN 3 _,plain_tupN 3 [],rfl,ne_no rfl⟩
theorem l_29_5 (h1:Γ (.ref 307)=C_behind) {E:Ey} {lvB:LM} {R:Rs} {es:List (List Nat×Int)} {spot:Nat} {w:List Nat} {st:Int} {σ:MS} (K:E.Ok) (V0:E.Lv lvB) (X:At E lvB R es spot w st σ) (hc:Cl E es spot) :
  denS I0 Γ st_29_5 σ fun fl σ1=>fl= .next∧∃ es,At E lvB R es spot w st σ1∧Cl E es (spot+1):=by
 unfold st_29_5
 refine S_forM hΓ ?_
 have O:=K.O
 have n6:=O.n6
 let J1:List Nat→MS→Prop:=fun d' σ=>∃ es,A3 (At E lvB R es spot w st σ) (Cl E es spot) (∀ k∈d',∃ w',(w',nextSt E st k)∈es)
 refine ⟨_,List.range 3,rng_items (σ:=_) 3,rng_ok (n:=3) (by decide),J1,?_,?_,?_⟩
 ·exact ⟨es,X,hc,fun k hk=>(by cases hk)⟩
 ·rintro d' k r' σ hdr ⟨es,X,hc,hd⟩
  obtain ⟨_,hk,_⟩:=range_split hdr
  refine ⟨rng_items (σ:=_) 3,_,rfl,?_⟩
  have X1:=X.set (j:=21) (by decide) (.int k)
  have hw:=X.ok.ok spot w st X.here
  have hsp:=(List.getElem?_eq_some_iff.mp X.here).1
  have hlen:=X.len K
  unfold st_29_5_1
  refine B_cons hΓ ?_
  refine ⟨_,X1.cr.cy.cx.l13,_,X1.cr.cy.cx.ca.l11,_,X1.cr.l28,_,X1.l19,X1.i1 K ⟨.int k,by simp [setV],?_⟩⟩
  refine use h1 ?_
  refine ⟨E.D.n,k,_,_,_,E.D.roads,setW E w,rfl,by exact zk0 n6 rfl,.inr rfl,.inr rfl,fun p hp=>(O.r p hp).2.2,by have:=O.rl;exact zk0 this rfl,?_⟩
  rw [nf_beh O,setW_pred K,←runW_snoc]
  have X2:=X1.set (j:=17) (by decide) (.lst (vN (setW E (w++[k]))))
  unfold st_29_5_2
  refine B_cons hΓ ?_
  have VV:=V0.mono X2.ls.mem
  have tail:∀ φ:MS,At E lvB R es spot w st φ→φ.loc 21=some (.int k)→φ.loc 17=some (.lst (vN (setW E (w++[k]))))→φ.loc 7=some (.int (nextSt E st k))→denB I0 Γ (.cons st_29_5_3 (.cons st_29_5_4 .nil)) φ fun fl σ1=>fl= .next∧∃ es,At E lvB R es spot w st σ1∧Cl E es spot∧∀ j∈d'++[k],∃ w',(w',nextSt E st j)∈es:=by
   intro φ X3 f21 f17 f7
   unfold st_29_5_3
   refine B_cons hΓ ?_
   refine ⟨_,X3.cr.cy.l24,_,X3.cr.cy.l25,_,X3.cr.l30,_,X3.l19,X3.i3 K ⟨.int k,f21,?_⟩⟩
   refine use h1 ?_
   refine ⟨E.L.n,k,_,_,_,E.lr,thinW E w,rfl,K.lw.small,.inr rfl,.inr rfl,fun p hp=>(mvA_lt K.lw ((K.of_.rd p.1 p.2.1 p.2.2).mp hp)).2,by have:=K.of_.rl;exact zk0 this rfl,?_⟩
   rw [of_beh K.of_.rd,thinW_pred K,←thinS_snoc]
   have X4:=X3.set (j:=33) (by decide) (.lst (vN (thinW E (w++[k]))))
   let ψ:MS:=⟨setV φ.loc 33 (.lst (vN (thinW E (w++[k])))),φ.lv⟩
   show denB I0 Γ _ ψ _
   have X4:At E lvB R es spot w st ψ:=X4
   have p21:ψ.loc 21=some (.int k):=by simp [ψ,setV,f21]
   have p17:ψ.loc 17=some (.lst (vN (setW E (w++[k])))):=by simp [ψ,setV,f17]
   have p7:ψ.loc 7=some (.int (nextSt E st k)):=by simp [ψ,setV,f7]
   have p33:ψ.loc 33=some (.lst (vN (thinW E (w++[k])))):=by simp [ψ,setV]
   have ⟨⟨a12,a13,a14⟩,⟨a23,a24⟩,a34⟩:=Rs.ap X4.ls.nd
   let e:=(w++[k],nextSt E st k)
   have l1:(vS1 E es).length=es.length:=by simp
   have l2:(vS2 es).length=es.length:=by simp
   have l3:(vS3 E es).length=es.length:=by simp
   unfold st_29_5_4
   refine B_cons hΓ (S_ite hΓ (trp E e∉es.map (trp E)) ?_ (fun hn => ?_) fun hn => ?_)
   ·refine ⟨_,p17,_,p7,_,p33,by simp [lim_eq],_,X4.cr.l28,_,X4.cr.l29,_,X4.cr.l30,vS1 E es,vS2 es,vS3 E es,list_of X4.ls.h1,list_of X4.ls.h2,list_of X4.ls.h3,by rw [l1,l2],by rw [l1,l3],by rw [l1];exact Nat.zero_lt_of_lt hsp,by rw [l1,lim_eq];exact zk0 hlen rfl,.inl ⟨plain_vT (trp E e),_,rfl,fun x hx => ?_,rfl,?_⟩⟩
    ·rw [zip_is] at hx
     obtain ⟨t,_,rfl⟩:=List.mem_map.mp hx
     exact plain_vT t
    ·rw [zip_is]
     have:(vT (trp E e)∈(es.map (trp E)).map vT)↔trp E e∈es.map (trp E):=⟨fun h=>let ⟨t,h1,h2⟩:=List.mem_map.mp h;vT_inj h2▸h1,fun h=>List.mem_map.mpr ⟨_,h,rfl⟩⟩
     rw [←this]
     exact ⟨fun h=>nd_t h,fun h=>nn_t h⟩
   ·refine B_cons hΓ ?_
    refine ⟨_,X4.cr.l28,⟨_,_,rfl,X4.ls.h1⟩,_,p17,R.r1,_,rfl,X4.ls.h1,by rw [l1,lim_eq];exact zk2 hlen rfl,rfl,B_cons hΓ ?_⟩
    have q2:updL ψ.lv R.r1 (some (.list (vS1 E es++[.lst (vN (setW E (w++[k])))]))) R.r2=some (.list (vS2 es)):=(updL_ne _ _ (Ne.symm a12)).trans X4.ls.h2
    refine ⟨_,X4.cr.l29,⟨_,_,rfl,q2⟩,_,p7,R.r2,_,rfl,q2,by rw [l2,lim_eq];exact zk2 hlen rfl,rfl,B_cons hΓ ?_⟩
    have q3:updL (updL ψ.lv R.r1 (some (.list (vS1 E es++[.lst (vN (setW E (w++[k])))])))) R.r2 (some (.list (vS2 es++[.int (nextSt E st k)]))) R.r3=some (.list (vS3 E es)):=(updL_ne _ _ (Ne.symm a23)).trans ((updL_ne _ _ (Ne.symm a13)).trans X4.ls.h3)
    refine ⟨_,X4.cr.l30,⟨_,_,rfl,q3⟩,_,p33,R.r3,_,rfl,q3,by rw [l3,lim_eq];exact zk2 hlen rfl,rfl,B_cons hΓ ?_⟩
    have q4:updL (updL (updL ψ.lv R.r1 (some (.list (vS1 E es++[.lst (vN (setW E (w++[k])))])))) R.r2 (some (.list (vS2 es++[.int (nextSt E st k)])))) R.r3 (some (.list (vS3 E es++[.lst (vN (thinW E (w++[k])))]))) R.r4=some (.list (vS4 es)):=(updL_ne _ _ (Ne.symm a34)).trans ((updL_ne _ _ (Ne.symm a24)).trans ((updL_ne _ _ (Ne.symm a14)).trans X4.ls.h4))
    refine ⟨_,X4.cr.l31,⟨_,_,rfl,q4⟩,_,X4.cr.l31,_,X4.l19,?_⟩
    refine ⟨spot,rfl,.inl ⟨vS4 es,.lst (vN w),list_of (σ:=⟨ψ.loc,_⟩) q4,by simp only [vS4,List.length_map,lim_eq];exact zk0 hlen rfl,at_nat (by rw [List.getElem?_map,X4.here];rfl),_,p21,by simp [lim_eq],rfl,_,_,rfl,rfl,?_,R.r4,_,rfl,q4,by simp only [vS4,List.length_map,lim_eq];exact zk2 hlen rfl,rfl,(?_)⟩⟩
    ·have:=hw.2.2;simp only [vN,List.length_map,List.length_singleton,lim_eq];omega
    refine ⟨rfl,es++[e],⟨⟨X4.cr.cy,X4.cr.l28,X4.cr.l29,X4.cr.l30,X4.cr.l31⟩,X4.l19,⟨?_,?_,?_,?_,X4.ls.nd,?_⟩,X4.ok.snoc K X4.here hk hn,get_app X4.here⟩,hc.snoc (by exact Nat.le_of_lt hsp),fun j hj => ?_⟩
    ·show updL (updL (updL (updL ψ.lv R.r1 _) R.r2 _) R.r3 _) R.r4 _ _=_
     rw [updL_ne _ _ a14,updL_ne _ _ a13,updL_ne _ _ a12,updL_self];simp [vS1,e]
    ·show updL (updL (updL (updL ψ.lv R.r1 _) R.r2 _) R.r3 _) R.r4 _ _=_
     rw [updL_ne _ _ a24,updL_ne _ _ a23,updL_self];simp [vS2,e]
    ·show updL (updL (updL (updL ψ.lv R.r1 _) R.r2 _) R.r3 _) R.r4 _ _=_
     rw [updL_ne _ _ a34,updL_self];simp [vS3,e]
    ·show updL (updL (updL (updL ψ.lv R.r1 _) R.r2 _) R.r3 _) R.r4 _ _=_
     rw [updL_self];simp [vS4,e]
    ·exact (((X4.ls.base.upd (by simp [Rs.l]) _).upd (by simp [Rs.l]) _).upd (by simp [Rs.l]) _).upd (by simp [Rs.l]) _
    ·rcases List.mem_append.mp hj with q | q
     ·obtain ⟨w',h5⟩:=hd j q;exact ⟨w',List.mem_append_left _ h5⟩
     ·rw [List.mem_singleton.mp q];exact ⟨w++[k],by simp [e]⟩
   ·refine (⟨rfl,es,X4,hc,fun j hj => ?_⟩)
    rcases List.mem_append.mp hj with q | q
    ·exact hd j q
    ·rw [List.mem_singleton.mp q]
     obtain ⟨e',h5,h6⟩:=List.mem_map.mp (Classical.not_not.mp hn)
     refine ⟨e'.1,?_⟩
     have:e'.2=nextSt E st k:=congrArg (fun t=>t.2.1) h6
     rw [←this];exact h5
  have lift:∀ {Q:Fl→MS→Prop} (φ:MS),(∀ σ1,(∃ es,At E lvB R es spot w st σ1∧Cl E es spot∧∀ j∈d'++[k],∃ w',(w',nextSt E st j)∈es)→Q .next σ1)→At E lvB R es spot w st φ→φ.loc 21=some (.int k)→φ.loc 17=some (.lst (vN (setW E (w++[k]))))→φ.loc 7=some (.int (nextSt E st k))→denB I0 Γ (.cons st_29_5_3 (.cons st_29_5_4 .nil)) φ Q:=fun {Q} φ kk c1 c2 c3 c4=>(mono_B hΓ _).at (tail φ c1 c2 c3 c4) fun fl σ1 h=>by
   obtain ⟨rfl,h⟩:=h;exact kk σ1 h
  refine ⟨_,X2.cr.l29,_,X2.l19,X2.i2 K ⟨plain_int 4 _,plain_int 4 _,fun ht => ?_,fun ht => ?_⟩⟩
  ·have hst:st ≠ -1:=fun e=>nd_t ht (by rw [e])
   obtain ⟨j,rfl,hj⟩:=hw.1.resolve_left fun e=>hst e.1
   have h64:=order_64 K
   have hrl:=K.rl
   obtain ⟨row,hr1,hr2,hr3⟩:=next_at K hj hk
   refine ⟨.ref E.x,X2.cr.cy.l22,E.x,276,dfaFs E.rows E.tags,.lst (vRows E.rows),rfl,VV.d,ok_rows,rfl,_,X2.cr.l29,_,X2.l19,X2.i2 K ⟨j,rfl,.inl ⟨vRows E.rows,.lst (vI row),rfl,by simp only [vRows,List.length_map,lim_eq];exact zk9 hrl h64 rfl,at_nat (by rw [List.getElem?_map,hr1];rfl),.int k,by simp [setV],k,rfl,.inl ⟨vI row,.int (nextSt E (j:Int) k),rfl,by simp only [vI,List.length_map,lim_eq];exact zk20 hr2 rfl,at_nat (by rw [List.getElem?_map,hr3];rfl),?_⟩⟩⟩⟩
   refine lift _ (fun σ1 ⟨es,q⟩=>⟨es,q.1,q.2.1,q.2.2⟩) (X2.set (j:=7) (by decide) _) (by simp [setV]) (by simp [setV]) (by simp [setV])
  ·have hst:st = -1:=by have:=nd_f ht;simpa using this
   refine lift _ (fun σ1 ⟨es,q⟩=>⟨es,q.1,q.2.1,q.2.2⟩) (X2.set (j:=7) (by decide) _) (by simp [setV]) (by simp [setV]) ?_
   have:nextSt E st k = -1:=if_pos hst
   rw [this];simp [setV]
 ·rintro σ ⟨es,X,hc,hd⟩
  refine ⟨rng_items (σ:=_) 3,rfl,es,X,fun i w' st' hi e k hk => ?_⟩
  by_cases q:i=spot
  ·subst q
   replace e:=X.here.symm.trans e;cases e
   exact hd k (List.mem_range.mpr hk)
  ·exact hc i w' st' (by exact zh76 hi q) e k hk
noncomputable def R29 (E:Ey) (lvB:LM) (R:Rs) (σ:MS):Prop:=∃ es,Cr E R σ.loc∧Ls E lvB R es σ.lv∧Es E es∧Cl E es es.length
theorem l_29 (h1:Γ (.ref 312)=C_ltags) (h2:Γ (.ref 122)=C_tags_of) (h3:Γ (.ref 129)=C_simulate) (h4:Γ (.ref 307)=C_behind) {E:Ey} {lvB:LM} {R:Rs} {σ:MS} (K:E.Ok) (V0:E.Lv lvB) (C:Cr E R σ.loc) (L:Ls E lvB R [([],0)] σ.lv) (S:Es E [([],0)]) (g19:σ.loc 19=some (.int 0)) :
  denS I0 Γ st_29 σ fun fl σ1=>fl= .next∧R29 E lvB R σ1:=by
 unfold st_29
 let W916:Nat→MS→Prop:=fun k σ=>∃ es,∃ (spot:Nat),A7 (k=270336 - spot) (Cr E R σ.loc) (σ.loc 19=some (.int spot)) (Ls E lvB R es σ.lv) (Es E es) (spot≤es.length) (Cl E es spot)
 refine S_while hΓ W916 270336 ⟨_,0,rfl,C,g19,L,S,Nat.zero_le _,fun i w st hi=>by omega⟩ ?_
 rintro k σ ⟨es,spot,rfl,C,g19,L,S,hle,hc⟩
 have hlen:=S.len K
 refine ⟨_,g19,_,C.l28,vS1 E es,list_of L.h1,by simp only [vS1,List.length_map,lim_eq];exact zk0 hlen rfl,spot,es.length,rfl,by simp,fun ht => ?_,fun ht => ?_⟩
 ·have hlt:spot<es.length:=by have:=of_decide_eq_true ht;exact Int.ofNat_lt.mp this
  obtain ⟨⟨w,st⟩,he⟩:∃ e,es[spot]?=some e:=⟨_,List.getElem?_eq_getElem hlt⟩
  have X:At E lvB R es spot w st σ:=⟨C,g19,L,S,he⟩
  refine B_cons hΓ (l_29_1 hΓ h1 K X ?_)
  have X1:=X.set (j:=32) (by decide) (.tup (vN (dueW E w)))
  have g32:(⟨setV σ.loc 32 (.tup (vN (dueW E w))),σ.lv⟩:MS).loc 32=some (.tup (vN (dueW E w))):=by simp [setV]
  refine B_mid hΓ _ (l_29_2 hΓ h2 K V0 X1 g32) ?_
  rintro _ rfl
  refine B_mid hΓ _ (l_29_3 hΓ h1 K X1 g32) ?_
  rintro _ rfl
  refine B_mid hΓ _ (l_29_4 hΓ h3 K V0 X1 g32) ?_
  rintro _ rfl
  refine B_mid hΓ _ (l_29_5 hΓ h4 K V0 X1 hc) ?_
  rintro σ2 ⟨es2,X2,hc2⟩
  unfold st_29_6
  refine B_cons hΓ ?_
  have hlt2:=(List.getElem?_eq_some_iff.mp X2.here).1
  refine ⟨_,X2.l19,trivial,⟨270336 - (spot+1),by exact zh99 hlt hlen,es2,spot+1,rfl,X2.cr.set (by decide) _,?_,X2.ls,X2.ok,hlt2,hc2⟩⟩
  show some (V.int ((spot:Int)+1))=_
  congr 2
 ·have hge:spot=es.length:=by have:=of_decide_eq_false ht;exact zh156 hle this
  exact ⟨by trivial,es,C,L,S,by rw [←hge];exact hc⟩
end
end Mine
namespace Mine
variable {Γ:Value→PC}
section
variable {E:Ey} (K:E.Ok)
include K
theorem reach_all {es:List (List Nat×Int)} (S:Es E es) (hc:Cl E es es.length) (j:Nat) (hj:j<E.order.length):∃ w,(w,(j:Int))∈es:=by
 induction j using Nat.strongRecOn with
 | _ j ih =>
  rcases Nat.eq_zero_or_pos j with rfl | hpos
  ·exact ⟨[],List.mem_of_getElem? S.e0⟩
  ·obtain ⟨m,hm⟩:∃ m,E.order[j]?=some m:=⟨_,List.getElem?_eq_getElem hj⟩
   obtain ⟨i,k,m',h1,h2,h3,h4⟩:=K.ord.rch j m hpos hm
   obtain ⟨w,hw⟩:=ih i h1 (by exact zq24 hj h1)
   obtain ⟨p,hp⟩:=List.mem_iff_getElem?.mp hw
   obtain ⟨w',hw'⟩:=hc p w i (List.getElem?_eq_some_iff.mp hp).1 hp k h2
   refine ⟨w',?_⟩
   have hst:=(S.ok p w i hp).1.resolve_left fun e=>by have:=e.1;exact zq40 e
   obtain ⟨i',h5,h6⟩:=hst
   have:i'=i:=by exact Int.ofNat_inj.mp (id (Eq.symm h5))
   subst this
   have e1:m'=wm E.D.nf (runW E w):=by replace h6:=h3.symm.trans h6;exact Option.some.inj h6
   have hnx:nxt E.D.nf (wm E.D.nf (runW E w)) k≠0:=by rw [←e1,←h4];exact K.ord.nz j m hpos hm
   obtain ⟨row,r1,r2,r3⟩:=next_at K h6 h2
   obtain ⟨v,q1,q2⟩:=(K.ro i' row _ r1 h6).2 k h2
   replace q1:=r3.symm.trans q1;cases q1
   rcases q2 with ⟨q3,_⟩ | ⟨_,j',q4,q5⟩
   ·exact absurd q3 hnx
   ·have:j'=j:=nodup_idx K.ord.nd (by rw [q5,←e1,←h4]) hm
    rw [q4,this] at hw';exact hw'
noncomputable def partW (E:Ey) (w:List Nat):List Nat:=setL E.D.n fun s=>runW E w s∧wgt E.D.nf s
theorem part_mask (w:List Nat):bitL (wm E.D.nf (runW E w))=partW E w:=by
 unfold wm partW
 rw [nf_n,bitL_mask (by have:=K.O.n6;exact zk0 this rfl)]
theorem wm_zero_part {w:List Nat} (h:wm E.D.nf (runW E w)=0):partW E w=[]:=by
 rw [←part_mask K,h];rfl
theorem part_nil {w:List Nat} (h:partW E w=[]):wm E.D.nf (runW E w)=0:=by
 refine maskS_zero.mpr fun i hi hs => ?_
 have:i∈partW E w:=mem_setL.mpr ⟨by rwa [nf_n] at hi,hs⟩
 rw [h] at this;cases this
open Classical in
theorem count_eq {es:List (List Nat×Int)} (S:Es E es) (hc:Cl E es es.length) {ps:List (List Nat)} (hnd:ps.Nodup) (hps:∀ p,p∈ps↔∃ e∈es,p=partW E e.1):(ps.filter fun p=>decide (p≠[]∨p=partW E [])).length=E.order.length:=by
 have hnd2:(E.order.map bitL).Nodup:=by
  refine List.pairwise_map.mpr (List.Pairwise.imp_of_mem (fun {x y} hx hy hne e=>hne ?_) K.ord.nd)
  have n8:E.D.nf.n≤8:=(nf_wf K.O).small
  rw [bits_of n8 (K.ord.lt x hx),bits_of n8 (K.ord.lt y hy)] at e
  rw [←mask_self (K.ord.lt x hx),←mask_self (K.ord.lt y hy)]
  refine maskS_congr fun i hi => ?_
  have:i∈setL E.D.nf.n (bitS x)↔i∈setL E.D.nf.n (bitS y):=by rw [e]
  rw [mem_setL,mem_setL] at this
  simpa [hi] using this
 have hp:(ps.filter fun p=>decide (p≠[]∨p=partW E [])).Perm (E.order.map bitL):=by
  refine (List.perm_ext_iff_of_nodup (List.Pairwise.filter _ hnd) hnd2).mpr fun p => ?_
  rw [List.mem_filter,hps,decide_eq_true_eq,List.mem_map]
  constructor
  ·rintro ⟨⟨e,he,rfl⟩,h⟩
   obtain ⟨i,hi⟩:=List.mem_iff_getElem?.mp he
   rcases (S.ok i e.1 e.2 hi).1 with ⟨_,h0⟩ | ⟨j,_,hj⟩
   ·have h1:=wm_zero_part K h0
    rw [h1] at h ⊢
    have h2:partW E []=[]:=(h.resolve_left fun q=>q rfl).symm
    have h3:=part_nil K h2
    refine ⟨0,?_,rfl⟩
    have:=List.mem_of_getElem? K.ord.o0
    rw [show wm E.D.nf (beginS E.D.nf)=0 from h3] at this
    exact this
   ·exact ⟨_,List.mem_of_getElem? hj,part_mask K _⟩
  ·rintro ⟨m,hm,rfl⟩
   obtain ⟨j,hj⟩:=List.mem_iff_getElem?.mp hm
   obtain ⟨w,hw⟩:=reach_all K S hc j (List.getElem?_eq_some_iff.mp hj).1
   obtain ⟨i,hi⟩:=List.mem_iff_getElem?.mp hw
   obtain ⟨j',h5,h6⟩:=(S.ok i w j hi).1.resolve_left fun e=>by have:=e.1;exact zq40 e
   have:j'=j:=by exact Int.ofNat_inj.mp (id (Eq.symm h5))
   subst this
   replace h6:=hj.symm.trans h6
   have hmw:m=wm E.D.nf (runW E w):=Option.some.inj h6
   refine ⟨⟨(w,(j':Int)),hw,by rw [hmw];exact part_mask K w⟩,?_⟩
   by_cases h0:m=0
   ·right
    have hj0:j'=0:=by
     rcases Nat.eq_zero_or_pos j' with q | q
     ·exact q
     ·exact absurd h0 (K.ord.nz j' m q hj)
    subst hj0
    replace hj:=K.ord.o0.symm.trans hj
    have:m=wm E.D.nf (runW E []):=(Option.some.inj hj).symm
    rw [this];exact part_mask K []
   ·left
    intro q
    rw [hmw,part_mask K] at q
    exact h0 (hmw.trans (part_nil K q))
 rw [hp.length_eq,List.length_map]
theorem wgt_iff {p:Nat} (hp:p<E.D.n):wgt E.D.nf p↔dueM E.D.roads p≠[]∨∃ t,(p,t)∈E.D.marks:=by
 unfold wgt
 refine or_congr ?_ Iff.rfl
 constructor
 ·rintro ⟨m,h,q⟩ e
  have:=(nf_mvA K.O).mp q
  have:=mem_dueM.mpr this
  rw [e] at this;cases this
 ·intro h
  cases q:dueM E.D.roads p with
  | nil=>exact absurd q h
  | cons x r =>
   have:(x.1,x.2)∈dueM E.D.roads p:=by rw [q];simp
   exact ⟨x.1,x.2,(nf_mvA K.O).mpr (mem_dueM.mp this)⟩
end
theorem Ls.other {E:Ey} {lvB:LM} {R:Rs} {es:List (List Nat×Int)} {lv:LM} (X:Ls E lvB R es lv) {f:Addr} (hf:f∉R.l) (hB:lvB f=none) (y:Option MO):Ls E lvB R es (updL lv f y):=by
 simp only [Rs.l,List.mem_cons,List.not_mem_nil,or_false,not_or] at hf
 obtain ⟨f1,f2,f3,f4⟩:=hf
 exact ⟨(updL_ne _ _ (Ne.symm f1)).trans X.h1,(updL_ne _ _ (Ne.symm f2)).trans X.h2,(updL_ne _ _ (Ne.symm f3)).trans X.h3,(updL_ne _ _ (Ne.symm f4)).trans X.h4,X.nd,fun b x e=>let ⟨q1,q2⟩:=X.base b x e;⟨q1,(updL_ne _ _ (ne_of e hB)).trans q2⟩⟩
theorem Ls.fresh {E:Ey} {lvB:LM} {R:Rs} {es:List (List Nat×Int)} {lv:LM} (X:Ls E lvB R es lv) {f:Addr} (hf:lv f=none):f∉R.l∧lvB f=none:=by
 refine ⟨?_,X.mem.free hf⟩
 simp only [Rs.l,List.mem_cons,List.not_mem_nil,or_false,not_or]
 exact ⟨Ne.symm (ne_of X.h1 hf),Ne.symm (ne_of X.h2 hf),Ne.symm (ne_of X.h3 hf),Ne.symm (ne_of X.h4 hf)⟩
section
variable (hΓ:∀ f,MonoC (Γ f))
include hΓ
open Classical in
theorem l_30 (h1:Γ (.ref 254)=C_dcount) {E:Ey} {lvB:LM} {R:Rs} {es:List (List Nat×Int)} {σ:MS} (K:E.Ok) (V0:E.Lv lvB) (C:Cr E R σ.loc) (L:Ls E lvB R es σ.lv) (S:Es E es) (hc:Cl E es es.length):denS I0 Γ st_30 σ fun fl σ1=>fl= .next∧σ1=σ:=by
 have VV:=V0.mono L.mem
 have h64:=order_64 K
 have hrl:=K.rl
 have hlen:=S.len K
 unfold st_30
 refine S_ite hΓ False ?_ (fun h=>h.elim) fun _=>⟨rfl,rfl⟩
 refine E_compM hΓ ?_
 refine ⟨_,C.cy.l22,E.x,276,dfaFs E.rows E.tags,254,rfl,VV.d,rfl,mt_dcount,?_⟩
 refine use h1 ?_
 let J1:List Nat→List V→MS→Prop:=fun _ acc τ=>A3 (acc=[]) (τ.loc 2=some (.ref R.r2)) (τ.lv=σ.lv)
 refine ⟨E.x,E.rows,E.tags,rfl,VV.d,by exact zk9 hrl h64 rfl,_,List.range E.rows.length,g_rng _,rng_ok (by exact zk9 hrl h64 rfl),by simp only [vN,List.length_map,List.length_range,lim_eq];exact zk9 hrl h64 rfl,J1,?_,?_,?_⟩
 ·exact ⟨rfl,C.l29,rfl⟩
 ·rintro d' j r' acc τ hdr ⟨rfl,k2,klv⟩
  obtain ⟨_,hj,_⟩:=range_split hdr
  obtain ⟨w,hw⟩:=reach_all K S hc j (by exact Nat.lt_of_lt_of_le hj (Nat.le_of_eq hrl))
  refine ⟨g_rng _,_,rfl,?_⟩
  refine ⟨.int j,rfl,_,k2,.inl ⟨plain_int 4 _,vS2 es,list_of (by rw [klv];exact L.h2),fun x hx => ?_,fun h=>absurd (List.mem_map.mpr ⟨_,hw,rfl⟩) (nd_t h),fun _=>⟨rfl,k2,klv⟩⟩⟩
  obtain ⟨e,_,rfl⟩:=List.mem_map.mp hx;exact plain_int 4 _
 ·rintro acc τ ⟨rfl,k2,klv⟩
  refine ⟨g_rng _,by simp [lim_eq],fun x hx=>(by cases hx),fun x hx=>(by cases hx),by rw [klv],ne_no rfl⟩
open Classical in
theorem l_31 {E:Ey} {lvB:LM} {R:Rs} {es:List (List Nat×Int)} {σ:MS} (K:E.Ok) (V0:E.Lv lvB) (C:Cr E R σ.loc) (L:Ls E lvB R es σ.lv) {Q:Fl→MS→Prop} (k:Q .next ⟨setV σ.loc 34 (.lst (vN (setL E.D.n (wgt E.D.nf)))),σ.lv⟩):denS I0 Γ st_31 σ Q:=by
 have VV:=V0.mono L.mem
 have O:=K.O
 have n6:=O.n6
 have hnn:E.D.nf.n=E.D.n:=nf_n
 obtain ⟨d0,hN1,hN2⟩:=VV.n
 unfold st_31
 refine E_compM hΓ (E_range C.cy.cx.ca.l2 ?_)
 let J2:List Nat→List V→MS→Prop:=fun d' acc τ=>A4 (acc=vN (d'.filter fun p=>decide (wgt E.D.nf p))) (τ.loc 2=some (.lst (vP E.D.marks))) (τ.loc 3=some (.ref E.a)) (τ.lv=σ.lv)
 refine ⟨_,List.range E.D.n,g_rng _,rng_ok (by exact zk0 n6 rfl),by simp only [vN,List.length_map,List.length_range,lim_eq];exact zk0 n6 rfl,J2,?_,?_,?_⟩
 ·exact ⟨rfl,C.cy.cx.ca.l8,C.cy.cx.ca.l3,rfl⟩
 ·rintro d' p r' acc τ hdr ⟨rfl,k2,k3,klv⟩
  obtain ⟨_,hp,_⟩:=range_split hdr
  refine ⟨g_rng _,_,rfl,?_⟩
  have lva:τ.lv E.a=some (nfObj E.D.nf d0):=by rw [klv];exact hN1
  have ml:E.D.nf.moves[p]?=some (dueM E.D.roads p):=rg_get.mpr ⟨hp,rfl⟩
  have go:∀ (b:Bool),(b=true↔wgt E.D.nf p)→(b=true→denE I0 Γ (.loc 1) ⟨setV τ.loc 1 (.int p),τ.lv⟩ fun v σ3=>J2 (d'++[p]) (vN (d'.filter fun p=>decide (wgt E.D.nf p))++[v]) σ3)∧(b=false→J2 (d'++[p]) (vN (d'.filter fun p=>decide (wgt E.D.nf p))) ⟨setV τ.loc 1 (.int p),τ.lv⟩):=fun b hb=>by
   refine ⟨fun h=>E_loc (v:= .int p) rfl ⟨?_,k2,k3,klv⟩,fun h=>⟨?_,k2,k3,klv⟩⟩
   ·rw [List.filter_append,List.filter_cons,if_pos (decide_eq_true (hb.mp h))];simp
   ·have:¬ wgt E.D.nf p:=fun q=>by replace h:=(hb.mpr q).symm.trans h;cases h
    rw [List.filter_append,List.filter_cons,if_neg (by simpa using this)];simp
  refine ⟨_,k3,E.a,92,nfFs E.D.nf d0,vMoves E.D.nf.moves,rfl,lva,ok_moves,nf_moves E.D.nf d0,.int p,rfl,p,rfl,.inl ⟨_,.lst (vMv (dueM E.D.roads p)),rfl,by simp only [List.length_map,lim_eq];have:E.D.nf.moves.length=E.D.n:=hnn;exact zk9 this n6 rfl,at_nat (by rw [List.getElem?_map,ml];rfl),by simp [lim_eq],plain_lstMv 2 _,(fun x hx=>by cases hx),fun ht => ?_,fun ht => ?_⟩⟩
  ·have hne:dueM E.D.roads p≠[]:=fun e=>nd_t ht (by rw [e];rfl)
   exact go true ⟨fun _=>(wgt_iff K hp).mpr (.inl hne),fun _=>rfl⟩
  ·have he:dueM E.D.roads p=[]:=by
    have:=nd_f ht
    rw [V.lst.injEq] at this
    exact List.map_eq_nil_iff.mp this
   refine ⟨.int p,rfl,?_⟩
   refine E_compM hΓ (E_loc (v:= .lst (vP E.D.marks)) k2 ?_)
   let J3:List (Nat×Nat)→List V→MS→Prop:=fun d2 acc φ=>(acc=vN (d2.map (·.1)))∧(φ.lv=τ.lv)
   refine ⟨_,E.D.marks,rfl,trivial,by have:=O.ml;simp only [vP,List.length_map,lim_eq];exact zk0 this rfl,J3,?_,?_,?_⟩
   ·exact ⟨rfl,rfl⟩
   ·rintro d2 q r2 acc φ hdr2 ⟨rfl,jlv⟩
    obtain ⟨s,t⟩:=q
    refine ⟨rfl,_,rfl,?_⟩
    exact ⟨fun _=>⟨.int s,rfl,by simp,jlv⟩,fun h=>by cases h⟩
   ·rintro acc φ ⟨rfl,jlv⟩
    refine ⟨rfl,.inl ⟨plain_int 4 _,vN (E.D.marks.map (·.1)),rfl,plainN 4 _,?_⟩⟩
    have hw:(decide (V.int (p:Int)∈vN (E.D.marks.map (·.1)))=true)↔wgt E.D.nf p:=by
     rw [decide_eq_true_eq,mem_vN,wgt_iff K hp]
     simp only [List.mem_map,Prod.exists,exists_and_right,exists_eq_right]
     exact ⟨fun h=> .inr h,fun h=>h.resolve_left fun q=>q he⟩
    have:=go _ hw
    rw [←jlv] at this
    exact this
 ·rintro acc τ ⟨rfl,k2,k3,klv⟩
  refine ⟨g_rng _,?_⟩
  show Q .next ⟨setV σ.loc 34 _,τ.lv⟩
  rw [klv];exact k
end
end Mine
namespace Mine
variable {Γ:Value→PC}
theorem lstN_mem {p:List Nat} {ps:List (List Nat)}:V.lst (vN p)∈ps.map (fun p=>V.lst (vN p))↔p∈ps:=by
 rw [List.mem_map]
 constructor
 ·rintro ⟨q,h1,h2⟩
  rw [V.lst.injEq] at h2
  rw [←vN_inj h2];exact h1
 ·intro h;exact ⟨p,h,rfl⟩
theorem lstN_nil {p:List Nat}:V.lst (vN p)=V.lst []↔p=[]:=by rw [V.lst.injEq];exact List.map_eq_nil_iff
theorem setL_filter {n:Nat} {S T:Nat→Prop} [∀ s,Decidable (T s)]:(setL n S).filter (fun s=>decide (T s))=setL n fun s=>S s∧T s:=by
 classical
 unfold setL
 rw [List.filter_filter]
 refine List.filter_congr fun i _ => ?_
 rw [←Bool.decide_and]
 exact decide_eq_decide.mpr And.comm
noncomputable def R33 (E:Ey) (lvB:LM) (ps:List (List Nat)) (σ:MS):Prop:=Cy E σ.loc∧Ext lvB σ.lv∧∃ f,σ.loc 35=some (.ref f)∧σ.lv f=some (.list (ps.map fun p=> .lst (vN p)))
section
variable (hΓ:∀ f,MonoC (Γ f))
include hΓ
open Classical in
theorem l_3233 {E:Ey} {lvB:LM} {R:Rs} {es:List (List Nat×Int)} {σ:MS} (K:E.Ok) (C:Cr E R σ.loc) (g34:σ.loc 34=some (.lst (vN (setL E.D.n (wgt E.D.nf))))) (L:Ls E lvB R es σ.lv) (S:Es E es) {Q:Fl→MS→Prop} {r:MSts}
  (k:∀ σ ps,ps.Nodup→(∀ p,p∈ps↔∃ e∈es,p=partW E e.1)→ps[0]?=some (partW E [])→ps.length≤270336→R33 E lvB ps σ→denB I0 Γ r σ Q):denB I0 Γ (.cons st_32 (.cons st_33 r)) σ Q:=by
 have hlen:=S.len K
 have n6:=K.O.n6
 have hpos:0<es.length:=(List.getElem?_eq_some_iff.mp S.e0).1
 unfold st_32
 refine B_cons hΓ ?_
 refine ⟨by decide,fun f hf => ?_⟩
 replace hf:σ.lv f=none:=hf
 obtain ⟨f1,f2⟩:=L.fresh hf
 have L1:=L.other f1 f2 (some (.list []))
 have C1:=C.set (j:=35) (by decide) (.ref f)
 let MR1:MS→Prop:=fun σ=>∃ ps,A5 (R33 E lvB ps σ) ps.Nodup ((∀ p,p∈ps↔∃ e∈es,p=partW E e.1)) (ps[0]?=some (partW E [])) (ps.length≤270336)
 refine B_mid hΓ MR1 ?_ fun σ ⟨ps,h1,h2,h3,h4,h5⟩=>k σ ps h2 h3 h4 h5 h1
 unfold st_33
 refine S_forM hΓ (E_loc C1.l28 ?_)
 have it:∀ {τ:MS},Ls E lvB R es τ.lv→itemsOf τ (.ref R.r1)=some (vS1 E es):=fun {τ} h=>list_of (σ:=τ) h.h1
 let J2:List (List Nat×Int)→MS→Prop:=fun d' σ=>∃ (ps:List (List Nat)),A9 (Cr E R σ.loc) (σ.loc 34=some (.lst (vN (setL E.D.n (wgt E.D.nf))))) (Ls E lvB R es σ.lv) (σ.loc 35=some (.ref f)) (σ.lv f=some (.list (ps.map fun p=>V.lst (vN p)))) ps.Nodup ((∀ p,p∈ps↔∃ e∈d',p=partW E e.1)) ((d'≠[]→ps[0]?=some (partW E []))) (ps.length≤d'.length)
 refine ⟨_,es,it L1,trivial,J2,?_,?_,?_⟩
 ·exact ⟨[],C1,by simp [setV,g34],L1,by simp [setV],by show updL σ.lv f _ f=_;rw [updL_self];rfl,.nil,fun p=>by simp,fun h=>absurd rfl h,Nat.le_refl _⟩
 ·rintro d' e r' σ hdr ⟨ps,C,g34,L,g35,lf,hnd,hps,h0,hpl⟩
  have hdl:d'.length<es.length:=by rw [←hdr];simp
  refine ⟨it L,_,rfl,?_⟩
  have C2:=C.set (j:=17) (by decide) (.lst (vN (setW E e.1)))
  let φ:MS:=⟨setV (setV σ.loc 17 (.lst (vN (setW E e.1)))) 36 (.lst (vN (partW E e.1))),σ.lv⟩
  have C3:Cr E R φ.loc:=C2.set (j:=36) (by decide) (.lst (vN (partW E e.1)))
  refine B_mid hΓ (fun σ=>σ=φ) ?_ ?_
  ·refine E_compM hΓ (E_loc (v:= .lst (vN (setW E e.1))) (by simp [setV]) ?_)
   let J3:List Nat→List V→MS→Prop:=fun d2 acc τ=>A3 (acc=vN (d2.filter fun s=>decide (s∈setL E.D.n (wgt E.D.nf)))) (τ.loc 2=some (.lst (vN (setL E.D.n (wgt E.D.nf))))) (τ.lv=σ.lv)
   refine ⟨_,setW E e.1,rfl,trivial,vN_len (by exact zk0 n6 rfl),J3,?_,?_,?_⟩
   ·exact ⟨rfl,by show setV σ.loc 17 (.lst (vN (setW E e.1))) 34=_;simp [setV,g34],rfl⟩
   ·rintro d2 s r2 acc τ hdr2 ⟨rfl,k2,klv⟩
    refine ⟨rfl,_,rfl,?_⟩
    refine ⟨.int s,rfl,_,k2,.inl ⟨plain_int 4 _,vN (setL E.D.n (wgt E.D.nf)),rfl,plainN 4 _,fun ht=>⟨.int s,rfl,?_,k2,klv⟩,fun ht=>⟨?_,k2,klv⟩⟩⟩
    ·have:s∈setL E.D.n (wgt E.D.nf):=mem_vN.mp (dec_t ht)
     rw [List.filter_append,List.filter_cons,if_pos (decide_eq_true this)];simp
    ·have:¬ s∈setL E.D.n (wgt E.D.nf):=fun q=>dec_f ht (mem_vN.mpr q)
     rw [List.filter_append,List.filter_cons,if_neg (by simpa using this)];simp
   ·rintro acc τ ⟨rfl,k2,klv⟩
    refine ⟨rfl,?_⟩
    show _∧_
    refine ⟨by trivial,?_⟩
    have:((setW E e.1).filter fun s=>decide (s∈setL E.D.n (wgt E.D.nf)))=partW E e.1:=by
     unfold setW partW
     rw [setL_filter]
     refine setL_congr fun i hi=>and_congr_right fun _ => ?_
     rw [mem_setL];simp [hi]
    rw [this]
    show (⟨_,τ.lv⟩:MS)=φ
    rw [klv]
  rintro _ rfl
  have hmem:∀ {ps':List (List Nat)},(∀ p,p∈ps'↔p∈ps∨p=partW E e.1)→∀ p,p∈ps'↔∃ x∈d'++[e],p=partW E x.1:=fun {ps'} h p=>by
   rw [h,hps]
   constructor
   ·rintro (⟨x,h1,h2⟩ | h1)
    ·exact ⟨x,List.mem_append_left _ h1,h2⟩
    ·exact ⟨e,by simp,h1⟩
   ·rintro ⟨x,h1,h2⟩
    rcases List.mem_append.mp h1 with q | q
    ·exact .inl ⟨x,q,h2⟩
    ·rw [List.mem_singleton.mp q] at h2;exact .inr h2
  have hfirst:d'=[]→partW E e.1=partW E []:=fun h=>by
   rw [h,List.nil_append] at hdr
   have:=S.e0
   rw [←hdr] at this
   simp at this
   rw [this]
  refine B_cons hΓ (S_ite hΓ (partW E e.1∉ps) ?_ (fun hn => ?_) fun hn => ?_)
  ·refine ⟨.lst (vN (partW E e.1)),by simp [φ,setV],.ref f,by simp [φ,setV,g35],.inl ⟨plain_lstN 3 _,ps.map fun p=>V.lst (vN p),list_of (σ:=φ) lf,fun x hx => ?_,rfl,?_⟩⟩
   ·obtain ⟨p,_,rfl⟩:=List.mem_map.mp hx;exact plain_lstN 3 _
   ·exact ⟨fun h q=>nd_t h (lstN_mem.mpr q),fun h=>nn_t fun q=>h (lstN_mem.mp q)⟩
  ·refine B_cons hΓ ?_
   refine ⟨.ref f,by simp [φ,setV,g35],⟨_,_,rfl,lf⟩,.lst (vN (partW E e.1)),by simp [φ,setV],f,_,rfl,lf,by simp only [List.length_map,lim_eq];exact zk5 hpl hdl hlen rfl,rfl,(?_)⟩
   refine ⟨ps++[partW E e.1],⟨C3.cy,C3.l28,C3.l29,C3.l30,C3.l31⟩,by simp [φ,setV,g34],L.other f1 f2 _,by simp [φ,setV,g35],?_,nodup_snoc hnd hn,hmem fun p=>by simp,fun _ => ?_,by simp;exact hpl⟩
   ·show updL _ _ _ _=_;rw [updL_self];simp
   ·by_cases hd:d'=[]
    ·have:ps=[]:=by
      cases ps with
      | nil=>rfl
      | cons p q=>have:=(hps p).mp (by simp);rw [hd] at this;obtain ⟨x,hx,_⟩:=this;cases hx
     rw [this,hfirst hd];rfl
    ·exact get_app (h0 hd)
  ·have hy:partW E e.1∈ps:=Classical.not_not.mp hn
   refine (⟨ps,C3,by simp [φ,setV,g34],L,by simp [φ,setV,g35],lf,hnd,hmem fun p=>⟨.inl,fun h=>h.elim id fun e=>e▸hy⟩,fun _ => ?_,by simp;exact Nat.le_add_right_of_le hpl⟩)
   by_cases hd:d'=[]
   ·have:=(hps _).mp hy
    rw [hd] at this;obtain ⟨x,hx,_⟩:=this;cases hx
   ·exact h0 hd
 ·rintro σ ⟨ps,C,g34,L,g35,lf,hnd,hps,h0,hpl⟩
  exact ⟨it L,rfl,ps,⟨C.cy,L.mem,f,g35,lf⟩,hnd,hps,h0 (fun q=>by rw [q] at hpos;simp at hpos),by exact Nat.le_trans hpl hlen⟩
open Classical in
theorem l_34 (h1:Γ (.ref 254)=C_dcount) {E:Ey} {lvB:LM} {es:List (List Nat×Int)} {ps:List (List Nat)} {σ:MS} (K:E.Ok) (V0:E.Lv lvB) (S:Es E es) (hc:Cl E es es.length) (hnd:ps.Nodup) (hps:∀ p,p∈ps↔∃ e∈es,p=partW E e.1) (h0:ps[0]?=some (partW E [])) (hpl:ps.length≤270336) (h:R33 E lvB ps σ) :
  denS I0 Γ st_34 σ fun fl σ1=>fl= .next∧σ1=σ:=by
 obtain ⟨Y,X,f,g35,lf⟩:=h
 have VV:=V0.mono X
 have h64:=order_64 K
 have hrl:=K.rl
 unfold st_34
 refine S_ite hΓ False ?_ (fun h=>h.elim) fun _=>⟨rfl,rfl⟩
 refine ⟨_,Y.l22,E.x,276,dfaFs E.rows E.tags,254,rfl,VV.d,rfl,mt_dcount,?_⟩
 refine use h1 ?_
 refine ⟨E.x,E.rows,E.tags,rfl,VV.d,by exact zk9 hrl h64 rfl,?_⟩
 refine E_compM hΓ (E_loc g35 ?_)
 have it:∀ {τ:MS},τ.lv=σ.lv→Mine.gOf false τ (.ref f)=some (ps.map fun p=>V.lst (vN p)):=fun {τ} e=>list_of (σ:=τ) (by rw [e];exact lf)
 let pick:List Nat→Bool:=fun p=>decide (p≠[]∨p=partW E [])
 let J4:List (List Nat)→List V→MS→Prop:=fun d' acc τ=>A3 (acc=(d'.filter pick).map (fun p=>V.lst (vN p))) (τ.loc 2=some (.ref f)) (τ.lv=σ.lv)
 refine ⟨fun p=>V.lst (vN p),ps,it rfl,trivial,by simp only [List.length_map,lim_eq];exact zk0 hpl rfl,J4,?_,?_,?_⟩
 ·exact ⟨rfl,g35,rfl⟩
 ·rintro d' p r' acc τ hdr ⟨rfl,k2,klv⟩
  refine ⟨it klv,_,rfl,?_⟩
  have yes:pick p=true→LocP 1 ⟨setV τ.loc 1 (.lst (vN p)),τ.lv⟩ fun v σ3=>J4 (d'++[p]) ((d'.filter pick).map (fun p=>V.lst (vN p))++[v]) σ3:=fun h =>
   ⟨.lst (vN p),rfl,by rw [List.filter_append,List.filter_cons,if_pos h];simp,k2,klv⟩
  have no:pick p=false→J4 (d'++[p]) ((d'.filter pick).map (fun p=>V.lst (vN p))) ⟨setV τ.loc 1 (.lst (vN p)),τ.lv⟩:=fun h =>
   ⟨by rw [List.filter_append,List.filter_cons,h];simp,k2,klv⟩
  refine ⟨.lst (vN p),by simp [setV],by simp [lim_eq],plain_lstN 3 _,(fun x hx=>by cases hx),fun ht => ?_,fun ht => ?_⟩
  ·have hne:p≠[]:=fun e=>nd_t ht (lstN_nil.mpr e)
   exact ⟨fun _=>yes (decide_eq_true (.inl hne)),fun h=>by cases h⟩
  ·have he:p=[]:=lstN_nil.mp (nd_f ht)
   have hz:0<ps.length:=(List.getElem?_eq_some_iff.mp h0).1
   refine ⟨.lst (vN p),by simp [setV],_,k2,0,rfl,.inl ⟨_,.lst (vN (partW E [])),it klv,by simp only [List.length_map,lim_eq];exact zk0 hpl rfl,at_nat (k:=0) (by rw [List.getElem?_map,h0];rfl),plain_lstN 3 _,plain_lstN 3 _,fun h=>yes (decide_eq_true (.inr ?_)),fun h=>no (decide_eq_false ?_)⟩⟩
   ·have:=dec_t h
    rw [V.lst.injEq] at this
    exact vN_inj this
   ·rintro (q | q)
    ·exact q he
    ·exact dec_f h (by rw [q])
 ·rintro acc τ ⟨rfl,k2,klv⟩
  have hce:=count_eq K S hc hnd hps
  refine ⟨it klv,_,rfl,?_,plain_int 4 _,plain_int 4 _,?_,ne_no ?_⟩
  ·rw [List.length_map]
   have:=List.length_filter_le pick ps
   rw [lim_eq];exact zk3 this hpl rfl
  ·rw [klv]
  ·rw [List.length_map,hrl]
   show V.int ((E.order.length:Nat):Int)=V.int (((ps.filter pick).length:Nat):Int)
   rw [←hce]
end
end Mine
namespace Mine
variable {Γ:Value→PC}
noncomputable def runZ (E:Ey) (ks:List Int):Nat→Prop:=runS E.D.nf (beginS E.D.nf) ks
noncomputable def tg (E:Ey) (ks:List Int):List Nat:=setL 2 (tagS E.D.nf (runZ E ks))
noncomputable def fnd (E:Ey) (ks:List Int):List (List Nat):=(List.range ks.length).map fun i=>tg E (ks.take (i+1))
theorem runZ_snoc (E:Ey) (ks:List Int) (k:Int):runZ E (ks++[k])=stepZ E.D.nf (runZ E ks) k:=by
 unfold runZ runS;rw [List.foldl_append];rfl
theorem fnd_snoc (E:Ey) (ks:List Int) (k:Int):fnd E (ks++[k])=fnd E ks++[tg E (ks++[k])]:=by
 unfold fnd
 rw [List.length_append,List.length_singleton,List.range_succ,List.map_append]
 congr 1
 ·refine List.map_congr_left fun i hi => ?_
  rw [List.take_append_of_le_length (by have:=List.mem_range.mp hi;exact Nat.succ_le_of_lt this)]
 ·show [tg E ((ks++[k]).take (ks.length+1))]=_
  rw [List.take_of_length_le (by simp)]
theorem fnd_len (E:Ey) (ks:List Int):(fnd E ks).length=ks.length:=by simp [fnd]
theorem fnd_get (E:Ey) {ks:List Int} {i:Nat} (h:i<ks.length):(fnd E ks)[i]?=some (tg E (ks.take (i+1))):=by
 unfold fnd;rw [List.getElem?_map,List.getElem?_range h];rfl
theorem endL_snoc (N:Nf):∀ (ks:List Int) (S:Nat→Prop) (i:Nat) (k:Int),endL N S i (ks++[k])=endL N S i ks++(if setL 8 (tagS N (runS N S (ks++[k])))=[] then [] else [(i+ks.length+1,setL 8 (tagS N (runS N S (ks++[k]))))])
 | [],S,i,k=>by
  show (if _ then [] else _)++endL N _ _ []=[]++_
  show (if _ then [] else _)++[]=[]++_
  rw [List.append_nil,List.nil_append];rfl
 | x::r,S,i,k=>by
  show (if _ then [] else _)++endL N (stepZ N S x) (i+1) (r++[k])=((if _ then [] else _)++endL N (stepZ N S x) (i+1) r)++_
  rw [endL_snoc N r _ _ k,List.append_assoc]
  have e:i+1+r.length+1=i+(x::r).length+1:=by simp;exact zh158
  rw [e]
  rfl
theorem dec_rfl {a b:V} {i:Decidable (a=b)} (h:a=b) : @decide (a=b) i=true := @decide_eq_true _ i h
theorem plain_end (l:List (Nat×List Nat)):Plain 4 (.lst (vEnd l)):=fun x hx=>by
 obtain ⟨p,_,rfl⟩:=List.mem_map.mp hx
 intro y hy
 simp at hy
 rcases hy with rfl | rfl
 ·exact plain_int 2 _
 ·exact plain_tupN 1 _
theorem plain_end1 (p:Nat×List Nat):Plain 4 (.tup [.int p.1,.tup (vN p.2)]):=by
 intro y hy
 simp at hy
 rcases hy with rfl | rfl
 ·exact plain_int 3 _
 ·exact plain_tupN 2 _
section
variable (hΓ:∀ f,MonoC (Γ f))
include hΓ
theorem l_35_37 (h1:Γ (.ref 302)=C_wide) (h2:Γ (.ref 307)=C_behind) (h3:Γ (.ref 312)=C_ltags) {E:Ey} {lvB:LM} {σ:MS} (K:E.Ok) (Y:Cy E σ.loc) (X:Ext lvB σ.lv) {Q:Fl→MS→Prop} {r:MSts}
  (k:∀ σ f,Cy E σ.loc→Ext lvB σ.lv→σ.loc 37=some (.ref f)→σ.lv f=some (.list ((fnd E (E.line.drop E.at')).map fun t=> .tup (vN t)))→denB I0 Γ r σ Q):denB I0 Γ (.cons st_35 (.cons st_36 (.cons st_37 r))) σ Q:=by
 have O:=K.O
 have n6:=O.n6
 have hat:=K.hat
 obtain ⟨hl5,hlk⟩:=K.hli
 unfold st_35
 refine B_cons hΓ ?_
 refine ⟨by decide,fun f hf => ?_⟩
 replace hf:σ.lv f=none:=hf
 have hfB:=X.free hf
 have Y1:=Y.set (j:=37) (by decide) (.ref f)
 unfold st_36
 refine B_cons hΓ ?_
 refine ⟨_,Y1.cx.l13,_,Y1.cx.ca.l10,by simp [lim_eq],?_⟩
 refine use h1 ?_
 refine ⟨E.D.n,_,_,[E.D.first],rfl,by exact zk0 n6 rfl,.inr rfl,by simpa using O.fst,by simp,?_⟩
 let b0:=setL E.D.n (runZ E [])
 have Y2:=Y1.set (j:=38) (by decide) (.lst (vN b0))
 let ks:=E.line.drop E.at'
 have hks:ks.length≤5:=by simp [ks];exact zh159 hl5
 let MR1:MS→Prop:=fun σ=>A4 (Cy E σ.loc) (Ext lvB σ.lv) (σ.loc 37=some (.ref f)) (σ.lv f=some (.list ((fnd E ks).map fun t=> .tup (vN t))))
 refine B_mid hΓ MR1 ?_ fun σ ⟨q1,q2,q3,q4⟩=>k σ f q1 q2 q3 q4
 unfold st_37
 refine S_forM hΓ ?_
 refine ⟨_,Y2.cx.l14,_,Y2.cx.l15,E.at',rfl,vI E.line,vI ks,rfl,by simp only [vI,List.length_map,lim_eq];exact zk20 hl5 rfl,?_,?_⟩
 ·show (if (0:Int)≤(E.at':Int)∧(E.at':Int)≤((vI E.line).length:Nat) then some ((vI E.line).drop ((E.at':Int)).toNat) else none)=_
  rw [if_pos ⟨by exact zq15,by simp only [vI,List.length_map];exact zh160 hat hl5⟩,Int.toNat_natCast];simp [vI,ks]
 let J2:List Int→MS→Prop:=fun d' σ=>A5 (Cy E σ.loc) (Ext lvB σ.lv) (σ.loc 37=some (.ref f)) (σ.loc 38=some (.lst (vN (setL E.D.n (runZ E d'))))) (σ.lv f=some (.list ((fnd E d').map fun t=>V.tup (vN t))))
 refine ⟨_,ks,rfl,trivial,J2,?_,?_,?_⟩
 ·refine ⟨Y2,X.upd hfB _,by simp [setV],by exact setV_eq (setV σ.loc 37 (.ref f)) 38 _,?_⟩
  show updL σ.lv f _ f=_
  rw [updL_self];rfl
 ·rintro d' z r' τ hdr ⟨Yt,Xt,g37,g38,lf⟩
  have hz:=hlk z (List.mem_of_mem_drop (by show z∈ks;rw [←hdr];simp))
  have hd5:d'.length<5:=by have:=congrArg List.length hdr;simp at this;exact zh71 this hks
  refine ⟨rfl,_,rfl,?_⟩
  have Y3:=Yt.set (j:=21) (by decide) (.int z)
  let here:=setL E.D.n (runZ E (d'++[z]))
  let φ:MS:=⟨setV (setV τ.loc 21 (.int z)) 38 (.lst (vN here)),τ.lv⟩
  have Y4:Cy E φ.loc:=Y3.set (j:=38) (by decide) (.lst (vN here))
  refine B_mid hΓ (fun σ=>σ=φ) ?_ ?_
  ·have hrun:=runZ_snoc E d' z
   refine ⟨.int z,by simp [setV],z,0,rfl,rfl,fun ht => ?_,fun ht => ?_⟩
   ·have hz0:0≤z:=of_decide_eq_true ht
    refine ⟨_,Y3.cx.l13,_,Y3.cx.ca.l11,.lst (vN (setL E.D.n (runZ E d'))),by simp [setV,g38],.int z,by simp [setV],?_⟩
    refine use h2 ?_
    refine ⟨E.D.n,z.toNat,_,_,_,E.D.roads,setL E.D.n (runZ E d'),by rw [Int.toNat_of_nonneg hz0],by exact zk0 n6 rfl,.inr rfl,.inr rfl,fun p hp=>(O.r p hp).2.2,by have:=O.rl;exact zk0 this rfl,?_⟩
    rw [nf_beh O]
    have hlt:∀ s,runZ E d' s→s<E.D.n:=fun s hs=>by
     have:=runS_lt (nf_wf O) (fun s hs=>beginS_lt (nf_wf O) hs) d' s hs
     rwa [nf_n] at this
    rw [setL_pred hlt]
    have e2:runZ E (d'++[z])=stepS E.D.nf (runZ E d') z.toNat:=by
     rw [hrun];unfold stepZ;rw [if_neg (by exact Int.not_lt_of_ge hz0)]
    refine ⟨by trivial,?_⟩
    show (⟨setV (setV τ.loc 21 (.int z)) 38 (.lst (vN (setL E.D.n (stepS E.D.nf (runZ E d') z.toNat)))),τ.lv⟩:MS)=φ
    rw [←e2]
   ·have hz0:z<0:=by have:=of_decide_eq_false ht;exact Int.lt_of_not_ge this
    refine ⟨by simp [lim_eq],by trivial,?_⟩
    have e2:here=[]:=by
     show setL E.D.n (runZ E (d'++[z]))=[]
     rw [hrun];unfold stepZ;rw [if_pos hz0];exact setL_false _
    show (⟨setV (setV τ.loc 21 (.int z)) 38 (.lst []),τ.lv⟩:MS)=⟨setV (setV τ.loc 21 (.int z)) 38 (.lst (vN here)),τ.lv⟩
    rw [e2];rfl
  rintro _ rfl
  refine B_cons hΓ ?_
  refine ⟨.ref f,by simp [φ,setV,g37],⟨_,_,rfl,lf⟩,_,Y4.cx.ca.l8,.lst (vN here),by simp [φ,setV],?_⟩
  refine use h3 ?_
  refine ⟨_,_,E.D.marks,here,rfl,.inr rfl,.inr rfl,by have:=O.ml;exact zk0 this rfl,?_⟩
  have hlt:∀ s,runZ E (d'++[z]) s→s<E.D.n:=fun s hs=>by
   have:=runS_lt (nf_wf O) (fun s hs=>beginS_lt (nf_wf O) hs) _ s hs
   rwa [nf_n] at this
  rw [nf_tag O,setL_pred hlt]
  refine ⟨f,_,rfl,lf,by simp only [List.length_map,fnd_len,lim_eq];exact zk6 hd5 rfl,rfl,⟨Y4,Xt.upd hfB _,by simp [φ,setV,g37],by simp [φ,setV];rfl,?_⟩⟩
  show updL τ.lv f _ f=_
  rw [updL_self,fnd_snoc];simp [tg]
 ·rintro τ ⟨Yt,Xt,g37,g38,lf⟩
  exact ⟨rfl,rfl,Yt,Xt,g37,lf⟩
theorem l_38 {E:Ey} {lvB:LM} {f:Addr} {σ:MS} (K:E.Ok) (Y:Cy E σ.loc) (g37:σ.loc 37=some (.ref f)) (lf:σ.lv f=some (.list ((fnd E (E.line.drop E.at')).map fun t=> .tup (vN t)))) {Q:Fl→MS→Prop} (k:Q .next ⟨setV σ.loc 32 (.lst (vEnd (endL E.D.nf (beginS E.D.nf) E.at' (E.line.drop E.at')).reverse)),σ.lv⟩):denS I0 Γ st_38 σ Q:=by
 have O:=K.O
 obtain ⟨hl5,hlk⟩:=K.hli
 let ks:=E.line.drop E.at'
 have hks:ks.length≤5:=by simp [ks];exact zh159 hl5
 unfold st_38
 refine E_compM hΓ ?_
 have lfl:((fnd E ks).map fun t=>V.tup (vN t)).length=ks.length:=by rw [List.length_map,fnd_len]
 refine ⟨_,g37,_,list_of lf,by rw [lfl,lim_eq];exact zk0 hks rfl,?_⟩
 rw [lfl]
 let J3:List Nat→List V→MS→Prop:=fun d' acc τ=>A4 (acc=vEnd (endL E.D.nf (beginS E.D.nf) E.at' (ks.take d'.length))) (τ.loc 2=some (.int E.at')) (τ.loc 3=some (.ref f)) (τ.lv=σ.lv)
 refine ⟨_,List.range ks.length,g_rng _,rng_ok (by exact zk0 hks rfl),by simp only [vN,List.length_map,List.length_range,lim_eq];exact zk0 hks rfl,J3,?_,?_,?_⟩
 ·exact ⟨rfl,Y.cx.l15,g37,rfl⟩
 ·rintro d' i r' acc τ hdr ⟨rfl,k2,k3,klv⟩
  obtain ⟨hid,hi,_⟩:=range_split hdr
  have lfτ:listOf τ (.ref f)=some ((fnd E ks).map fun t=>V.tup (vN t)):=list_of (by rw [klv];exact lf)
  have get:at? ((fnd E ks).map fun t=>V.tup (vN t)) (i:Int)=some (.tup (vN (tg E (ks.take (i+1))))):=at_nat (by rw [List.getElem?_map,fnd_get E hi];rfl)
  obtain ⟨z,hz⟩:∃ z,ks[i]?=some z:=⟨_,List.getElem?_eq_getElem hi⟩
  have htk:ks.take (i+1)=ks.take i++[z]:=by rw [List.take_add_one,hz];rfl
  have h8:setL 8 (tagS E.D.nf (runS E.D.nf (beginS E.D.nf) (ks.take i++[z])))=tg E (ks.take (i+1)):=by
   rw [htk];exact (tag_2_8 O _).symm
  have hen:endL E.D.nf (beginS E.D.nf) E.at' (ks.take (i+1))=endL E.D.nf (beginS E.D.nf) E.at' (ks.take i)++(if tg E (ks.take (i+1))=[] then [] else [(E.at'+i+1,tg E (ks.take (i+1)))]):=by
   conv=>lhs;rw [htk]
   rw [endL_snoc,h8,List.length_take,Nat.min_eq_left (by exact Nat.le_of_lt hi)]
  refine ⟨g_rng _,_,rfl,?_⟩
  refine ⟨_,k3,.int i,by simp [setV],i,rfl,.inl ⟨_,_,lfτ,by rw [lfl,lim_eq];exact zk0 hks rfl,get,by simp [lim_eq],plain_tupN 3 _,plain_tupN 3 [],fun ht => ?_,fun ht => ?_⟩⟩
  ·have hne:tg E (ks.take (i+1))≠[]:=fun e=>nd_t ht (by rw [e];rfl)
   refine ⟨_,k2,.int i,by simp [setV],trivial,trivial,_,k3,.int i,by simp [setV],i,rfl,.inl ⟨_,_,lfτ,by rw [lfl,lim_eq];exact zk0 hks rfl,get,by simp [lim_eq],?_,k2,k3,klv⟩⟩
   rw [List.length_append,List.length_singleton,←hid,hen,if_neg hne]
   simp [vEnd,BOp.val]
  ·have he:tg E (ks.take (i+1))=[]:=by
    have:=nd_f ht
    rw [V.tup.injEq] at this
    exact List.map_eq_nil_iff.mp this
   refine ⟨?_,k2,k3,klv⟩
   rw [List.length_append,List.length_singleton,←hid,hen,if_pos he,List.append_nil]
 ·rintro acc τ ⟨rfl,k2,k3,klv⟩
  have hd:(List.range ks.length).length=ks.length:=by rw [List.length_range]
  have hel:=endL_len E.D.nf ks (beginS E.D.nf) E.at'
  refine ⟨g_rng _,vEnd (endL E.D.nf (beginS E.D.nf) E.at' (ks.take (List.range ks.length).length)),(vEnd (endL E.D.nf (beginS E.D.nf) E.at' (ks.take (List.range ks.length).length))).reverse,rfl,?_,rfl,?_⟩
  ·rw [hd,List.take_length];simp only [vEnd,List.length_map,lim_eq];exact zk3 hel hks rfl
  show Q .next ⟨setV σ.loc 32 _,τ.lv⟩
  rw [klv,hd,List.take_length]
  have:(vEnd (endL E.D.nf (beginS E.D.nf) E.at' ks)).reverse=vEnd (endL E.D.nf (beginS E.D.nf) E.at' ks).reverse:=by simp [vEnd]
  rw [this];exact k
theorem l_39 (h1:Γ (.ref 136)=C_endings) (h2:Γ (.ref 143)=C_longest) {E:Ey} {lvB:LM} {σ:MS} (K:E.Ok) (V0:E.Lv lvB) (Y:Cy E σ.loc) (X:Ext lvB σ.lv) (g32:σ.loc 32=some (.lst (vEnd (endL E.D.nf (beginS E.D.nf) E.at' (E.line.drop E.at')).reverse))):denS I0 Γ st_39 σ fun fl σ1=>fl= .next∧σ1=σ:=by
 have VV:=V0.mono X
 have O:=K.O
 have hat:=K.hat
 obtain ⟨hl5,hlk⟩:=K.hli
 let ks:=E.line.drop E.at'
 let due:=(endL E.D.nf (beginS E.D.nf) E.at' ks).reverse
 have hel:=endL_len E.D.nf ks (beginS E.D.nf) E.at'
 have hks:ks.length≤5:=by simp [ks];exact zh159 hl5
 have hdl:(vEnd due).length≤lim:=by simp only [vEnd,due,List.length_map,List.length_reverse,lim_eq];exact zk3 hel hks rfl
 unfold st_39
 refine S_ite hΓ False ?_ (fun h=>h.elim) fun _=>⟨rfl,rfl⟩
 have hkl:∀ k∈E.line,k≤(lim:Int):=fun k hk=>by have:=hlk k hk;rw [lim_eq];exact zq41 this
 refine ⟨_,Y.cx.ca.l3,_,Y.cx.l14,_,Y.cx.l15,?_⟩
 refine use h1 ?_
 refine ⟨E.a,_,E.D.nf,E.line,E.at',rfl,VV.n,nf_wf O,.inr rfl,hkl,by exact zk20 hl5 rfl,by exact zh162 hat hl5,_,g32,plain_end _,plain_end _,fun h=>(ne_abs rfl h).elim,fun _ => ?_⟩
 refine ⟨_,Y.cx.ca.l3,_,Y.cx.l14,_,Y.cx.l15,?_⟩
 refine use h2 ?_
 refine ⟨E.a,_,E.D.nf,E.line,E.at',rfl,VV.n,nf_wf O,.inr rfl,hkl,by exact zk20 hl5 rfl,by exact zh162 hat hl5,vEnd due,rfl,hdl,_,g32,by simp [lim_eq],plain_end _,(fun x hx=>by cases hx),fun ht => ?_,fun ht => ?_⟩
 ·have hne:due≠[]:=fun e=>nd_t ht (by show V.lst (vEnd due)=V.lst [];rw [e];rfl)
  obtain ⟨p,r,hpr⟩:=List.exists_cons_of_ne_nil hne
  refine ⟨_,g32,0,rfl,.inl ⟨vEnd due,.tup [.int p.1,.tup (vN p.2)],rfl,hdl,by rw [hpr];rfl,?_⟩⟩
  have hv:vEnd due= .tup [.int p.1,.tup (vN p.2)]::vEnd r:=by rw [hpr];rfl
  rw [hv]
  exact ⟨plain_end1 p,plain_end1 p,rfl,ne_no rfl⟩
 ·have he:due=[]:=by
   have h3:V.lst (vEnd due)=V.lst []:=nd_f ht
   rw [V.lst.injEq] at h3
   exact List.map_eq_nil_iff.mp h3
  have hv:vEnd due=[]:=by rw [he];rfl
  rw [hv]
  exact ⟨trivial,trivial,rfl,ne_no rfl⟩
theorem l_40 (h1:Γ (.ref 129)=C_simulate) {E:Ey} {lvB:LM} {f:Addr} {σ:MS} (K:E.Ok) (V0:E.Lv lvB) (Y:Cy E σ.loc) (X:Ext lvB σ.lv) (g37:σ.loc 37=some (.ref f)) (lf:σ.lv f=some (.list ((fnd E (E.line.drop E.at')).map fun t=> .tup (vN t)))) {Q:Fl→MS→Prop} (k:∀ σ',Q (.ret (.bool true)) σ'):denS I0 Γ st_40 σ Q:=by
 have VV:=V0.mono X
 have O:=K.O
 have hat:=K.hat
 obtain ⟨hl5,hlk⟩:=K.hli
 let ks:=E.line.drop E.at'
 have hks:ks.length≤5:=by simp [ks];exact zh159 hl5
 have hk1:0<ks.length:=by show 0<(E.line.drop E.at').length;rw [List.length_drop];exact zh163 hat hl5
 unfold st_40
 refine ⟨_,Y.cx.ca.l3,_,Y.cx.l14,_,Y.cx.l15,E.at',rfl,vI E.line,vI ks,rfl,by simp only [vI,List.length_map,lim_eq];exact zk20 hl5 rfl,?_,?_⟩
 ·show (if (0:Int)≤(E.at':Int)∧(E.at':Int)≤((vI E.line).length:Nat) then some ((vI E.line).drop ((E.at':Int)).toNat) else none)=_
  rw [if_pos ⟨by exact zq15,by simp only [vI,List.length_map];exact zh160 hat hl5⟩,Int.toNat_natCast];simp [vI,ks]
 refine use h1 ?_
 have lfl:((fnd E ks).map fun t=>V.tup (vN t)).length=ks.length:=by rw [List.length_map,fnd_len]
 refine ⟨E.a,_,E.D.nf,ks,rfl,VV.n,nf_wf O,.inr rfl,fun k hk => ?_,_,g37,-1,rfl,.inl ⟨_,.tup (vN (tg E ks)),list_of lf,by rw [lfl,lim_eq];exact zk0 hks rfl,?_,plain_tupN 3 _,plain_tupN 3 _,?_⟩⟩
 ·have:=hlk k (List.mem_of_mem_drop hk);rw [lim_eq];exact zq41 this
 ·unfold at?
  rw [if_neg (by exact zq42),if_pos (by rw [lfl];exact zh165 hk1),lfl]
  have:((-1:Int)+(ks.length:Int)).toNat=ks.length - 1:=by exact zh166
  rw [this,List.getElem?_map,fnd_get E (ks:=ks) (i:=ks.length - 1) (by exact Nat.sub_one_lt_of_lt hk1)]
  have e:ks.take (ks.length - 1+1)=ks:=List.take_of_length_le (by exact zh167)
  rw [e];rfl
 ·have e:setL 8 (tagS E.D.nf (runS E.D.nf (beginS E.D.nf) ks))=tg E ks:=(tag_2_8 O _).symm
  refine ⟨.bool true,⟨fun _=>none,lvB⟩,?_,k _⟩
  rw [e,dec_rfl rfl]
  exact GhV.here X
end
end Mine
namespace Mine
section
variable {prog:Program} {w:World} {h₀:Heap} {b:Nat}
theorem callTop_fn {f:Addr} {fd:FuncData} {body:List Stmt} {params:List Str} {P:PT Fl} (F:FnOk prog w h₀ f fd body params)
  (hb:∀ env,EnvOk fd.scope env→Tri prog w h₀ b fd.scope env FlIs (execs body env) P) {A:Around} (hA:AOk (b+1) A) {H:Hm} {s:Shared} {l:List V} {us:List Value} {Q:V→LM→Prop} (X₀:HeapOk prog w h₀ H s.heap)
  (hl:AllIs H l us) (hlen:l.length=params.length) (hC:P ⟨argLoc l,fun _=>none⟩ (retP Q)) :
  codeAny (model prog w) A (.call (.ref f) ⟨us,[]⟩) (fun r s'=>match r with | .ok (.ret v)=>∃ H' y lv,HeapOk prog w h₀ H' s'.heap∧(∀ a o,H a= .fz o→H' a= .fz o)∧ValIs H' y v∧Same s s'∧Q y lv | .ok _=>False | .error e=>noE e s') s:=by
 obtain ⟨o,ho,hd⟩:=F.obj
 have hul:us.length=params.length:=by rw [←hl.length];exact hlen
 have hpn:=params_nodup F.nodup F.par
 have hbn:((params.zip us).map (·.1)).Nodup:=by
  rw [List.map_fst_zip (by exact Nat.le_of_eq hul.symm)];exact hpn
 have stays:∀ a o,h₀.get? a=some o→s.heap.get? a=some o:=fun a o e=>X₀.fz a o (X₀.base a o e)
 refine codeAny_call_function hA.room (stays _ _ ho) hd F.co F.gen F.body (let ⟨c,oc,vs,t,a1,a2,a3,a4⟩:=F.code;⟨c,oc,vs,t,a1,stays _ _ a2,a3,a4⟩) ?_
 refine F.bind _ _ s us _ stays hul ?_
 rw [F.clo]
 have hkn:∀ x∈params.zip us,fd.scope.names.lookup x.1=some .local∨fd.scope.names.lookup x.1=some .cell:=fun x hx=>by
  obtain ⟨i,hi⟩:=List.mem_iff_getElem?.mp hx
  have hp:params[i]?=some x.1:=by
   rw [List.getElem?_zip_eq_some] at hi;exact hi.1
  exact (F.par i x.1 hp).imp (lookup_of_get F.nodup) (lookup_of_get F.nodup)
 refine wpAny_newFunctionEnv_cells F.kind (fun x hx => ?_) fun env' he s₁ X => ?_
 ·rcases hkn x hx with e | e
  ·exact .inl e
  ·exact .inr ⟨e,cellsFrom_some _ _ _ (.inl e)⟩
 have he':env'=callEnvC fd s.heap.objs.size f:=he
 subst he'
 refine ⟨F.nolim.keeps fun a o e=>X.toInCall.keep _ _ (stays _ _ e),?_⟩
 have E':=envOk_call F.kind F.glb F.bts F.nodup F.nofree X
 let cs:=(callEnvC fd s.heap.objs.size f).cells
 have hLo:∀ a,s.heap.objs.size≤a→H a= .out:=fun a ha=>X₀.out_ge ha
 have hcell:∀ n c,cs.lookup n=some c→s₁.heap.IsCell c (bindC (callEnvC fd s.heap.objs.size f).kindOf (params.zip us) (fun _=>none) n):=X.cell
 let as:Addr→Prop:=fun a=>a=s.heap.objs.size∨∃ n,cs.lookup n=some a
 obtain ⟨h₁,tk,e1⟩:=X.toInCall.same
 have hmem:∀ a,as a→H a= .out∧∃ o,s₁.heap.get? a=some o:=fun a ha=>by
  rcases ha with rfl | ⟨n,ha⟩
  ·obtain ⟨o,_,_,e,_⟩:=X.toInCall.ns
   exact ⟨hLo _ (Nat.le_refl _),o,e⟩
  ·obtain ⟨o,e,_⟩:=hcell n a ha
   exact ⟨hLo _ (Nat.le_of_lt (X.above _ _ (PySem.mem_of_lookup ha))),o,e⟩
 have HE:HeapOk prog w h₀ H s₁.heap:=X₀.agree fun a o _ e=>X.toInCall.keep a o e
 have HB:=HE.ownAll hmem
 have kp:∀ {a},H a≠ .out→ownAll H as a=H a:=fun q=>ownAll_keep (fun a ha=>(hmem a ha).1) q
 have hfz:∀ a o,H a= .fz o→ownAll H as a= .fz o:=fun a o e=>by
  rw [kp (by rw [e];exact Slot.noConfusion)];exact e
 have hown:∀ a,as a→ownAll H as a= .own:=fun a ha=>by unfold ownAll;rw [if_pos ha]
 have S₁:St prog w h₀ fd.scope (callEnvC fd s.heap.objs.size f) (ownAll H as) ⟨argLoc l,fun _=>none⟩ s₁.heap:=by
  refine ⟨HB,fun a x e=>(by cases e),hown _ (.inl rfl),⟨_,X.toInCall.ns⟩,fun i v e => ?_,fun x e => ?_,fun x c e=> .inl ?_⟩
  ·have e:l[i]?=some v:=e
   obtain ⟨u,e2,e3⟩:=hl.get e
   have hi:i<params.length:=by rw [←hlen];exact (List.getElem?_eq_some_iff.mp e).1
   have e4:(params.zip us)[i]?=some (params[i],u):=by
    rw [List.getElem?_zip_eq_some];exact ⟨List.getElem?_eq_getElem hi,e2⟩
   have hm:(params[i],u)∈params.zip us:=List.mem_of_getElem? e4
   rcases F.par i _ (List.getElem?_eq_getElem hi) with q | q
   ·refine ⟨params[i],.local,u,q,.inl ⟨lookup_of_get F.nodup q,_,X.toInCall.ns,bindL_get hbn hm (lookup_of_get F.nodup q)⟩,e3.mono hfz⟩
   ·have hk:(callEnvC fd s.heap.objs.size f).kindOf params[i]=some .cell:=lookup_of_get F.nodup q
    obtain ⟨c,hc⟩:=Option.isSome_iff_exists.mp (cellsFrom_some fd.scope.names (s.heap.objs.size+1) [] (.inl (lookup_of_get F.nodup q)))
    have:=hcell _ c hc
    rw [bindC_get hbn hm (by rw [hk];decide)] at this
    exact ⟨params[i],.cell,u,q,.inr ⟨.inl hk,c,hc,this,.inl (hown c (.inr ⟨_,hc⟩))⟩,e3.mono hfz⟩
  ·obtain ⟨c,hc⟩:=Option.isSome_iff_exists.mp (cellsFrom_some fd.scope.names (s.heap.objs.size+1) [] (.inl e))
   exact ⟨c,_,hc,hown c (.inr ⟨_,hc⟩),hcell _ c hc⟩
  ·rcases (cellsFrom_spec fd.scope.names (s.heap.objs.size+1) [] (by simp) (by simp)).1 x c e with ⟨_,m⟩ | q
   ·obtain ⟨i,hi⟩:=List.mem_iff_getElem?.mp m
    exact lookup_of_get F.nodup hi
   ·cases q
 refine codeAny_func ?_
 refine wpAny_mono (hb _ E' (A.deeper _) (hA.deeper _) ⟨argLoc l,fun _=>none⟩ _ s₁ _ hC S₁) (fun fl s₂ p => ?_) fun _ _ x=>x.elim
 obtain ⟨H₂,σ₂,y,g,S₂,r,sm,q⟩:=p
 have sm':Same s s₂:=Same.trans (by rw [e1];exact .mk s _ _) sm
 have hz:∀ a o,H a= .fz o→H₂ a= .fz o:=fun a o e=>g.fz a o (hfz a o e)
 cases r with
 | next=>exact ⟨_,.none,_,S₂.heap,hz,.none,sm',q⟩
 | brk=>exact q.elim
 | cont=>exact q.elim
 | ret r=>exact ⟨_,_,_,S₂.heap,hz,r,sm',q⟩
noncomputable def baseH (h:Heap):Hm:=fun a=>match h.get? a with | some o=> .fz o | none=> .out
set_option tactic.hygienic true in
theorem baseH_ok {h:Heap}:HeapOk prog w h (baseH h) h where
 base a o e:=by unfold baseH;rw [e]
 fz a o e:=by
  unfold baseH at e
  split at e
  ·rename_i o' q;cases e;exact q
  ·cases e
 pin a o e:=by unfold baseH at e;split at e<;>cases e
 lv a x e:=by unfold baseH at e;split at e<;>cases e
 own a e:=by unfold baseH at e;split at e<;>cases e
 sub a b e:=by unfold baseH at e;split at e<;>cases e
end
theorem callOk_sat {K:Frag} {I:Info} {Γ:Value→PC} {prog:Program} {w:World} {h₀:Heap} {b:Nat} {f:Addr} {fd:FuncData} {body:List Stmt} {params:List Str} {m:MSts} {n:Nat} {C:PC} (G:Good prog w h₀ K I Γ b) (F:FnOk prog w h₀ f fd body params) (hck:okB I fd.scope m body=true) (hs:Sat I Γ m n C) (hn:params.length=n):CallOk prog w h₀ (b+1) (.ref f) C :=
 (callOk_fn F fun env E=>soundB G m E hck).mono fun l lv Q h=>let ⟨a,c⟩:=hs l lv Q h;⟨a.trans hn.symm,c⟩
noncomputable def C_law:PC:=fun l lv Q=>∃ (ns:List Int),A3 (l=[.lst (vI ns)]) (ns.length≤63) (∀ lv',Q (.bool true) lv')
theorem well_ints {P:Params} {h:Heap} {H:Hm} {ns:List Int} {vs:List Value} (h0:WellAll P h vs (ofPys (ns.map PyData.int))):AllIs H (vI ns) vs:=by
 induction ns generalizing vs with
 | nil=>exact match (h0:WellAll P h vs []) with | .nil=> .nil
 | cons n r ih =>
  cases (h0:WellAll P h vs (WData.int n::ofPys (r.map PyData.int))) with | cons h1 h2
  cases h1
  exact .cons (.int _ _) (ih h2)
set_option tactic.hygienic true in
theorem well_list {P:Params} {h:Heap} {a:Addr} {ns:List Int} {d:WData} (e:d= .list (ofPys (ns.map PyData.int))) (hw:Well P h (.ref a) d):∃ vs:List Value,h.get? a=some (lobj "list" vs.toArray 0)∧∀ H,AllIs H (vI ns) vs:=by
 cases hw<;>first | (cases e;done) | skip
 rename_i vs xs h1 h2
 simp only [WData.list.injEq] at e
 exact ⟨vs,h2,fun H=>well_ints (e▸h1)⟩
set_option tactic.hygienic true in
theorem join {b:Nat} (hb:b≤38) (J:∀ (prog:Program) (w:World) (h₀:Heap) (mb:Str→Option Value) (K:Frag),KFacts K→K.In h₀→h₀.NoLimit→h₀.Ns builtinsNs mb→(∀ x:Str,x ≠ "__name__"→mb x=bootBuiltins x)→(∃ o,h₀.get? sysModules=some o) →
   ∃ Γ,Good prog w h₀ K I0 Γ b∧Sat I0 Γ m_law 1 C_law):PySem.Challenge.rw_nn0360_01.Holds:=by
 refine whole (fun _ => ?_) trivial
 intro w s₀ s₁ mg mb G Y fa o pm cd doc dV kV ho hd' hcd hD hmg hg args vals as hpre hlay hrd hwl hlo
 obtain ⟨K,KX,KF⟩:=Y
 refine Ground.open G ?_
 intro T B D TE TW
 clear hd' hcd hD G
 wrow_args hpre hlay hrd hwl hlo
 rename_i ns _ _ _ _ _ _ _ xa vs _ hL _ _ _ hI _ hlen _
 refine enter_call ?_
 have hfa:fa=327:=by
  have e:=mg_of KX T.g (beq_iff_eq.mp (restT KF 11 rfl))
  exact Value.ref.inj (Option.some.inj (hmg.symm.trans e))
 subst hfa
 clear hmg ho
 have hm:∃ o,s₁.heap.get? sysModules=some o:=by
  obtain ⟨mm,⟨o,_,_,h,_⟩,_⟩:=(T.seer (by decide +kernel)).mods
  exact ⟨o,h⟩
 obtain ⟨Γ,GD,SL⟩:=J PySem.Challenge.rw_nn0360_01.row.prog w s₁.heap mb K KF KX T.nolimit T.b T.builtins hm
 obtain ⟨us,hga,hus⟩:=well_list (ns:=ns) rfl (by assumption)
 have hA:AOk (b+1) callerA:=⟨rfl,by show 301+10*(b+1)≤700;exact zh0 hb,by show 4+20*(b+1)≤2000;exact zh1 hb⟩
 have hv:AllIs (baseH s₁.heap) [V.lst (vI ns)] [Value.ref xa]:= .cons (.lst (H:=baseH s₁.heap) (items:=us.toArray) (n:=0) (by unfold baseH;rw [hga]) (hus _)) .nil
 refine codeAny_mono (callTop_fn (fnO KF KX T.nolimit 36 rfl) (fun env E=>soundB GD m_law E (fnT KF 36 rfl).2) hA baseH_ok hv rfl (SL _ _ (fun v _=>v= .bool true) ⟨ns,rfl,by exact zq0 hlen,fun _=>rfl⟩).2) fun r s' q => ?_
 split at q
 ·rename_i v
  obtain ⟨H',y,lv,q1,q2,q3,⟨h',tk,rfl⟩,rfl⟩:=q
  cases q3
  refine GoodW.toG ⟨.inl ⟨.bool true,.bool true,[],rfl,?_,.bool true,?_,?_⟩,fun b o e=>q1.fz b o (q1.base b o e),rfl,hg⟩
  ·exact raisesW_false (by wrow_none_raised)
  ·wrow_post
  ·exact unshared_nil
 ·exact q.elim
 ·exact q.elim
end Mine
namespace Mine
theorem mono_C_bits:MonoC C_bits:=by
 rintro l lv Q Q' k ⟨x0,x1,x2,h⟩
 refine ⟨x0,x1,x2,?_⟩
 first
  | exact k _ _ h
  | (intros;apply k;apply h<;>assumption)
theorem mono_C_init:MonoC C_init:=by
 rintro l lv Q Q' k ⟨x0,x1,x2,h⟩
 refine ⟨x0,x1,x2,?_⟩
 first
  | exact k _ _ h
  | (intros;apply k;apply h<;>assumption)
theorem mono_C_add_state:MonoC C_add_state:=by
 rintro l lv Q Q' k ⟨x0,x1,x2,x3,x4,x5,h⟩
 refine ⟨x0,x1,x2,x3,x4,x5,?_⟩
 first
  | exact k _ _ h
  | (intros;apply k;apply h<;>assumption)
theorem mono_C_add_move:MonoC C_add_move:=by
 rintro l lv Q Q' k ⟨x0,x1,x2,x3,x4,x5,x6,x7,x8,x9,h⟩
 refine ⟨x0,x1,x2,x3,x4,x5,x6,x7,x8,x9,?_⟩
 first
  | exact k _ _ h
  | (intros;apply k;apply h<;>assumption)
theorem mono_C_add_hop:MonoC C_add_hop:=by
 rintro l lv Q Q' k ⟨x0,x1,x2,x3,x4,x5,x6,x7,x8,h⟩
 refine ⟨x0,x1,x2,x3,x4,x5,x6,x7,x8,?_⟩
 first
  | exact k _ _ h
  | (intros;apply k;apply h<;>assumption)
theorem mono_C_set_first:MonoC C_set_first:=by
 rintro l lv Q Q' k ⟨x0,x1,x2,x3,x4,h⟩
 refine ⟨x0,x1,x2,x3,x4,?_⟩
 first
  | exact k _ _ h
  | (intros;apply k;apply h<;>assumption)
theorem mono_C_set_tag:MonoC C_set_tag:=by
 rintro l lv Q Q' k ⟨x0,x1,x2,x3,x4,x5,x6,x7,h⟩
 refine ⟨x0,x1,x2,x3,x4,x5,x6,x7,?_⟩
 first
  | exact k _ _ h
  | (intros;apply k;apply h<;>assumption)
theorem mono_C_state_count:MonoC C_state_count:=by
 rintro l lv Q Q' k ⟨x0,x1,x2,x3,x4,h⟩
 refine ⟨x0,x1,x2,x3,x4,?_⟩
 first
  | exact k _ _ h
  | (intros;apply k;apply h<;>assumption)
theorem mono_C_links:MonoC C_links:=by
 rintro l lv Q Q' k ⟨x0,x1,x2,x3,x4,h⟩
 refine ⟨x0,x1,x2,x3,x4,?_⟩
 first
  | exact k _ _ h
  | (intros;apply k;apply h<;>assumption)
theorem mono_C_Nfa:MonoC C_Nfa:=by
 rintro l lv Q Q' k ⟨x0,h⟩
 refine ⟨x0,?_⟩
 first
  | exact k _ _ h
  | (intros;apply k;apply h<;>assumption)
theorem mono_C_closure:MonoC C_closure:=by
 rintro l lv Q Q' k ⟨x0,x1,x2,x3,x4,x5,x6,x7,x8,x9,h⟩
 refine ⟨x0,x1,x2,x3,x4,x5,x6,x7,x8,x9,?_⟩
 first
  | exact k _ _ h
  | (intros;apply k;apply h<;>assumption)
theorem mono_C_begin:MonoC C_begin:=by
 rintro l lv Q Q' k ⟨x0,x1,x2,x3,x4,h⟩
 refine ⟨x0,x1,x2,x3,x4,?_⟩
 first
  | exact k _ _ h
  | (intros;apply k;apply h<;>assumption)
theorem mono_C_tags_of:MonoC C_tags_of:=by
 rintro l lv Q Q' k ⟨x0,x1,x2,x3,x4,x5,x6,x7,x8,h⟩
 refine ⟨x0,x1,x2,x3,x4,x5,x6,x7,x8,?_⟩
 first
  | exact k _ _ h
  | (intros;apply k;apply h<;>assumption)
theorem mono_C_simulate:MonoC C_simulate:=by
 rintro l lv Q Q' k ⟨x0,x1,x2,x3,x4,x5,x6,x7,x8,h⟩
 refine ⟨x0,x1,x2,x3,x4,x5,x6,x7,x8,?_⟩
 first
  | exact k _ _ h
  | (intros;apply k;apply h<;>assumption)
theorem mono_C_endings:MonoC C_endings:=by
 rintro l lv Q Q' k ⟨x0,x1,x2,x3,x4,x5,x6,x7,x8,x9,x10,x11,h⟩
 refine ⟨x0,x1,x2,x3,x4,x5,x6,x7,x8,x9,x10,x11,?_⟩
 first
  | exact k _ _ h
  | (intros;apply k;apply h<;>assumption)
theorem mono_C_spread:MonoC C_spread:=by
 rintro l lv Q Q' k ⟨x0,x1,x2,x3,x4,x5,x6,x7,x8,h⟩
 refine ⟨x0,x1,x2,x3,x4,x5,x6,x7,x8,?_⟩
 first
  | exact k _ _ h
  | (intros;apply k;apply h<;>assumption)
theorem mono_C_turned:MonoC C_turned:=by
 rintro l lv Q Q' k ⟨x0,x1,x2,x3,h⟩
 refine ⟨x0,x1,x2,x3,?_⟩
 first
  | exact k _ _ h
  | (intros;apply k;apply h<;>assumption)
theorem mono_C_pruned:MonoC C_pruned:=by
 rintro l lv Q Q' k ⟨x0,x1,x2,x3,x4,x5,h⟩
 refine ⟨x0,x1,x2,x3,x4,x5,?_⟩
 first
  | exact k _ _ h
  | (intros;apply k;apply h<;>assumption)
theorem mono_C_mirrored:MonoC C_mirrored:=by
 rintro l lv Q Q' k ⟨x0,x1,x2,x3,x4,x5,x6,x7,x8,h⟩
 refine ⟨x0,x1,x2,x3,x4,x5,x6,x7,x8,?_⟩
 first
  | exact k _ _ h
  | (intros;apply k;apply h<;>assumption)
theorem mono_C_sinit:MonoC C_sinit:=by
 rintro l lv Q Q' k ⟨x0,x1,x2,x3,h⟩
 refine ⟨x0,x1,x2,x3,?_⟩
 first
  | exact k _ _ h
  | (intros;apply k;apply h<;>assumption)
theorem mono_C_closure_of:MonoC C_closure_of:=by
 rintro l lv Q Q' k ⟨x0,x1,x2,x3,x4,x5,x6,x7,x8,h⟩
 refine ⟨x0,x1,x2,x3,x4,x5,x6,x7,x8,?_⟩
 first
  | exact k _ _ h
  | (intros;apply k;apply h<;>assumption)
theorem mono_C_sbegin:MonoC C_sbegin:=by
 rintro l lv Q Q' k ⟨x0,x1,x2,x3,x4,x5,x6,h⟩
 refine ⟨x0,x1,x2,x3,x4,x5,x6,?_⟩
 first
  | exact k _ _ h
  | (intros;apply k;apply h<;>assumption)
theorem mono_C_ways:MonoC C_ways:=by
 rintro l lv Q Q' k ⟨x0,x1,x2,x3,x4,x5,x6,x7,x8,h⟩
 refine ⟨x0,x1,x2,x3,x4,x5,x6,x7,x8,?_⟩
 first
  | exact k _ _ h
  | (intros;apply k;apply h<;>assumption)
theorem mono_C_after:MonoC C_after:=by
 rintro l lv Q Q' k ⟨x0,x1,x2,x3,x4,x5,h⟩
 refine ⟨x0,x1,x2,x3,x4,x5,?_⟩
 first
  | exact k _ _ h
  | (intros;apply k;apply h<;>assumption)
theorem mono_C_stags:MonoC C_stags:=by
 rintro l lv Q Q' k ⟨x0,x1,x2,x3,x4,x5,x6,x7,x8,h⟩
 refine ⟨x0,x1,x2,x3,x4,x5,x6,x7,x8,?_⟩
 first
  | exact k _ _ h
  | (intros;apply k;apply h<;>assumption)
theorem mono_C_Subsets:MonoC C_Subsets:=by
 rintro l lv Q Q' k ⟨x0,x1,x2,x3,h⟩
 refine ⟨x0,x1,x2,x3,?_⟩
 first
  | exact k _ _ h
  | (intros;apply k;apply h<;>assumption)
theorem mono_C_dinit:MonoC C_dinit:=by
 rintro l lv Q Q' k ⟨x0,x1,x2,x3,x4,h⟩
 refine ⟨x0,x1,x2,x3,x4,?_⟩
 first
  | exact k _ _ h
  | (intros;apply k;apply h<;>assumption)
theorem mono_C_dcount:MonoC C_dcount:=by
 rintro l lv Q Q' k ⟨x0,x1,x2,x3,x4,x5,h⟩
 refine ⟨x0,x1,x2,x3,x4,x5,?_⟩
 first
  | exact k _ _ h
  | (intros;apply k;apply h<;>assumption)
theorem mono_C_Dfa:MonoC C_Dfa:=by
 rintro l lv Q Q' k ⟨x0,x1,x2,h⟩
 refine ⟨x0,x1,x2,?_⟩
 first
  | exact k _ _ h
  | (intros;apply k;apply h<;>assumption)
theorem mono_C_subset_dfa:MonoC C_subset_dfa:=by
 rintro l lv Q Q' k ⟨x0,x1,x2,x3,x4,h⟩
 refine ⟨x0,x1,x2,x3,x4,?_⟩
 first
  | exact k _ _ h
  | (intros;apply k;apply h<;>assumption)
theorem mono_C_draw:MonoC C_draw:=by
 rintro l lv Q Q' k ⟨x0,x1,x2,x3,x4,x5,x6,x7,h⟩
 refine ⟨x0,x1,x2,x3,x4,x5,x6,x7,?_⟩
 first
  | exact k _ _ h
  | (intros;apply k;apply h<;>assumption)
theorem mono_C_reach:MonoC C_reach:=by
 rintro l lv Q Q' k ⟨x0,x1,x2,x3,x4,x5,x6,h⟩
 refine ⟨x0,x1,x2,x3,x4,x5,x6,?_⟩
 first
  | exact k _ _ h
  | (intros;apply k;apply h<;>assumption)
theorem mono_C_wide:MonoC C_wide:=by
 rintro l lv Q Q' k ⟨x0,x1,x2,x3,x4,x5,x6,x7,x8,h⟩
 refine ⟨x0,x1,x2,x3,x4,x5,x6,x7,x8,?_⟩
 first
  | exact k _ _ h
  | (intros;apply k;apply h<;>assumption)
theorem mono_C_behind:MonoC C_behind:=by
 rintro l lv Q Q' k ⟨x0,x1,x2,x3,x4,x5,x6,x7,x8,x9,x10,x11,x12,h⟩
 refine ⟨x0,x1,x2,x3,x4,x5,x6,x7,x8,x9,x10,x11,x12,?_⟩
 first
  | exact k _ _ h
  | (intros;apply k;apply h<;>assumption)
theorem mono_C_ltags:MonoC C_ltags:=by
 rintro l lv Q Q' k ⟨x0,x1,x2,x3,x4,x5,x6,x7,h⟩
 refine ⟨x0,x1,x2,x3,x4,x5,x6,x7,?_⟩
 first
  | exact k _ _ h
  | (intros;apply k;apply h<;>assumption)
theorem mono_C_of:MonoC C_of:=by
 rintro l lv Q Q' k ⟨x0,x1,x2,x3,x4,h⟩
 refine ⟨x0,x1,x2,x3,x4,?_⟩
 first
  | exact k _ _ h
  | (intros;apply k;apply h<;>assumption)
theorem mono_C_way:MonoC C_way:=by
 rintro l lv Q Q' k ⟨x0,x1,x2,x3,x4,x5,h⟩
 refine ⟨x0,x1,x2,x3,x4,x5,?_⟩
 first
  | exact k _ _ h
  | (intros;apply k;apply h<;>assumption)
theorem mono_C_step:MonoC C_step:=by
 rintro l lv Q Q' k ⟨a,sv,N,ss,n,h1,h2,h3,h4,h5,h6,h7⟩
 exact ⟨a,sv,N,ss,n,h1,h2,h3,h4,h5,h6,h7.imp (fun ⟨p,q⟩=>⟨p,k _ _ q⟩) fun ⟨p,q⟩=>⟨p,k _ _ q⟩⟩
theorem mono_C_longest:MonoC C_longest:=fun l lv Q Q' k h=>mono_C_endings _ _ _ _ (fun v lv ⟨l,h1,h2,h3⟩=>⟨l,h1,h2,k _ _ h3⟩) h
theorem gv_list {h₀:Heap} {K:Frag} (F:KFacts K) {mb:Str→Option Value} (X:K.In h₀) (hb:h₀.Ns builtinsNs mb) (hbi:∀ x:Str,x ≠ "__name__"→mb x=bootBuiltins x):GV h₀ ("list":Str) (.type "list"):=by
 have cb:=restT F 8 rfl
 simp only [List.all_eq_true,beq_iff_eq] at cb
 refine ⟨_,_,ns_K X (restT F 0 rfl),hb,.inr ⟨cb .list (by simp),?_⟩⟩
 rw [hbi _ (by decide)]
 exact ck_bb .list
noncomputable def noC:PC:=fun _ _ _=>False
noncomputable def tbl:List (Nat×Nat×PC):=[
 (28,1,C_bits),
 (42,1,C_init),
 (49,1,C_add_state),
 (56,1,C_add_move),
 (63,1,C_add_hop),
 (70,1,C_set_first),
 (77,1,C_set_tag),
 (84,1,C_state_count),
 (89,1,C_links),
 (92,2,C_Nfa),
 (101,1,C_closure),
 (108,2,C_begin),
 (115,2,C_step),
 (122,1,C_tags_of),
 (129,3,C_simulate),
 (136,3,C_endings),
 (143,4,C_longest),
 (150,1,C_spread),
 (155,1,C_turned),
 (162,3,C_pruned),
 (170,3,C_mirrored),
 (184,1,C_sinit),
 (191,2,C_closure_of),
 (198,3,C_sbegin),
 (205,3,C_ways),
 (212,1,C_after),
 (219,2,C_stags),
 (222,2,C_Subsets),
 (240,1,C_dinit),
 (254,1,C_dcount),
 (276,2,C_Dfa),
 (285,4,C_subset_dfa),
 (292,1,C_draw),
 (297,1,C_reach),
 (302,1,C_wide),
 (307,2,C_behind),
 (312,1,C_ltags),
 (317,2,C_of),
 (322,3,C_way)]
noncomputable def Γt (n:Nat):Value→PC
 | .ref a=>match tbl.lookup a with
  | some (k,C)=>if k≤n then C else noC
  | none=>noC
 | _=>noC
theorem mono_tbl:∀ x∈tbl,MonoC x.2.2 :=
 List.forall_mem_cons.mpr ⟨mono_C_bits,
 List.forall_mem_cons.mpr ⟨mono_C_init,
 List.forall_mem_cons.mpr ⟨mono_C_add_state,
 List.forall_mem_cons.mpr ⟨mono_C_add_move,
 List.forall_mem_cons.mpr ⟨mono_C_add_hop,
 List.forall_mem_cons.mpr ⟨mono_C_set_first,
 List.forall_mem_cons.mpr ⟨mono_C_set_tag,
 List.forall_mem_cons.mpr ⟨mono_C_state_count,
 List.forall_mem_cons.mpr ⟨mono_C_links,
 List.forall_mem_cons.mpr ⟨mono_C_Nfa,
 List.forall_mem_cons.mpr ⟨mono_C_closure,
 List.forall_mem_cons.mpr ⟨mono_C_begin,
 List.forall_mem_cons.mpr ⟨mono_C_step,
 List.forall_mem_cons.mpr ⟨mono_C_tags_of,
 List.forall_mem_cons.mpr ⟨mono_C_simulate,
 List.forall_mem_cons.mpr ⟨mono_C_endings,
 List.forall_mem_cons.mpr ⟨mono_C_longest,
 List.forall_mem_cons.mpr ⟨mono_C_spread,
 List.forall_mem_cons.mpr ⟨mono_C_turned,
 List.forall_mem_cons.mpr ⟨mono_C_pruned,
 List.forall_mem_cons.mpr ⟨mono_C_mirrored,
 List.forall_mem_cons.mpr ⟨mono_C_sinit,
 List.forall_mem_cons.mpr ⟨mono_C_closure_of,
 List.forall_mem_cons.mpr ⟨mono_C_sbegin,
 List.forall_mem_cons.mpr ⟨mono_C_ways,
 List.forall_mem_cons.mpr ⟨mono_C_after,
 List.forall_mem_cons.mpr ⟨mono_C_stags,
 List.forall_mem_cons.mpr ⟨mono_C_Subsets,
 List.forall_mem_cons.mpr ⟨mono_C_dinit,
 List.forall_mem_cons.mpr ⟨mono_C_dcount,
 List.forall_mem_cons.mpr ⟨mono_C_Dfa,
 List.forall_mem_cons.mpr ⟨mono_C_subset_dfa,
 List.forall_mem_cons.mpr ⟨mono_C_draw,
 List.forall_mem_cons.mpr ⟨mono_C_reach,
 List.forall_mem_cons.mpr ⟨mono_C_wide,
 List.forall_mem_cons.mpr ⟨mono_C_behind,
 List.forall_mem_cons.mpr ⟨mono_C_ltags,
 List.forall_mem_cons.mpr ⟨mono_C_of,
 List.forall_mem_cons.mpr ⟨mono_C_way,
 (fun _ h=>nomatch h)⟩⟩⟩⟩⟩⟩⟩⟩⟩⟩⟩⟩⟩⟩⟩⟩⟩⟩⟩⟩⟩⟩⟩⟩⟩⟩⟩⟩⟩⟩⟩⟩⟩⟩⟩⟩⟩⟩⟩
set_option tactic.hygienic true in
theorem mono_Γt (n:Nat):∀ f,MonoC (Γt n f):=fun f=>by
 have no:MonoC noC:=fun _ _ _ _ _ h=>h
 unfold Γt
 split
 ·split
  ·rename_i k C h
   split
   ·exact mono_tbl _ (mem_lookup_n h)
   ·exact no
  ·exact no
 ·exact no
section
variable {prog:Program} {w:World} {h₀:Heap}
set_option tactic.hygienic true in
theorem call_0:∀ f,CallOk prog w h₀ 0 f (Γt 0 f):=fun f=>by
 have no:CallOk prog w h₀ 0 f noC:=fun sc env A hA σ Q s H l us S hl hC=>hC.elim
 have lv:∀ x∈tbl,¬ x.2.1≤0:=List.all_eq_true.mp (show (tbl.all fun x=>decide (¬ x.2.1≤0))=true from rfl) |> fun h x m=>of_decide_eq_true (h x m)
 unfold Γt
 split
 ·split
  ·rename_i k C hh
   rw [if_neg (lv _ (mem_lookup_n hh))];exact no
  ·exact no
 ·exact no
set_option tactic.hygienic true in
theorem callS {n:Nat} {K:Frag} (G:Good prog w h₀ K I0 (Γt n) n) (h:∀ x∈tbl.filter (fun x=>x.2.1 == n+1),CallOk prog w h₀ (n+1) (.ref x.1) x.2.2):∀ f,CallOk prog w h₀ (n+1) f (Γt (n+1) f):=fun f=>by
 have no:∀ f,CallOk prog w h₀ (n+1) f noC:=fun f sc env A hA σ Q s H l us S hl hC=>hC.elim
 unfold Γt
 split
 ·rename_i a
  split
  ·rename_i k C hh
   split
   ·rename_i hk
    by_cases q:k≤n
    ·have e:Γt n (.ref a)=C:=by unfold Γt;dsimp only;rw [hh];exact if_pos q
     exact (e▸G.call (.ref a)).le (Nat.le_succ _)
    ·exact h (a,k,C) (List.mem_filter.mpr ⟨mem_lookup_n hh,beq_iff_eq.mpr (by show k=n+1;exact zh168 hk q)⟩)
   ·exact no _
  ·exact no _
 ·exact no _
theorem call_1 {K:Frag} (F:KFacts K) (KX:K.In h₀) (nl:h₀.NoLimit) (G:Good prog w h₀ K I0 (Γt 0) 0):∀ f,CallOk prog w h₀ 1 f (Γt 1 f):=callS G (
 List.forall_mem_cons.mpr ⟨callOk_sat G (fnO F KX nl 0 rfl) (fnT F 0 rfl).2 (t_bits (mono_Γt 0)) rfl,
 List.forall_mem_cons.mpr ⟨callOk_sat G (fnO F KX nl 1 rfl) (fnT F 1 rfl).2 (t_init (mono_Γt 0)) rfl,
 List.forall_mem_cons.mpr ⟨callOk_sat G (fnO F KX nl 2 rfl) (fnT F 2 rfl).2 (t_add_state (mono_Γt 0)) rfl,
 List.forall_mem_cons.mpr ⟨callOk_sat G (fnO F KX nl 3 rfl) (fnT F 3 rfl).2 (t_add_move (mono_Γt 0)) rfl,
 List.forall_mem_cons.mpr ⟨callOk_sat G (fnO F KX nl 4 rfl) (fnT F 4 rfl).2 (t_add_hop (mono_Γt 0)) rfl,
 List.forall_mem_cons.mpr ⟨callOk_sat G (fnO F KX nl 5 rfl) (fnT F 5 rfl).2 (t_set_first (mono_Γt 0)) rfl,
 List.forall_mem_cons.mpr ⟨callOk_sat G (fnO F KX nl 6 rfl) (fnT F 6 rfl).2 (t_set_tag (mono_Γt 0)) rfl,
 List.forall_mem_cons.mpr ⟨callOk_sat G (fnO F KX nl 7 rfl) (fnT F 7 rfl).2 (t_state_count (mono_Γt 0)) rfl,
 List.forall_mem_cons.mpr ⟨callOk_sat G (fnO F KX nl 8 rfl) (fnT F 8 rfl).2 (t_links (mono_Γt 0)) rfl,
 List.forall_mem_cons.mpr ⟨callOk_sat G (fnO F KX nl 9 rfl) (fnT F 9 rfl).2 (t_closure (mono_Γt 0)) rfl,
 List.forall_mem_cons.mpr ⟨callOk_sat G (fnO F KX nl 12 rfl) (fnT F 12 rfl).2 (t_tags_of (mono_Γt 0)) rfl,
 List.forall_mem_cons.mpr ⟨callOk_sat G (fnO F KX nl 16 rfl) (fnT F 16 rfl).2 (t_spread (mono_Γt 0)) rfl,
 List.forall_mem_cons.mpr ⟨callOk_sat G (fnO F KX nl 17 rfl) (fnT F 17 rfl).2 (t_turned (mono_Γt 0)) rfl,
 List.forall_mem_cons.mpr ⟨callOk_sat G (fnO F KX nl 20 rfl) (fnT F 20 rfl).2 (t_sinit (mono_Γt 0)) rfl,
 List.forall_mem_cons.mpr ⟨callOk_sat G (fnO F KX nl 24 rfl) (fnT F 24 rfl).2 (t_after (mono_Γt 0)) rfl,
 List.forall_mem_cons.mpr ⟨callOk_sat G (fnO F KX nl 26 rfl) (fnT F 26 rfl).2 (t_dinit (mono_Γt 0)) rfl,
 List.forall_mem_cons.mpr ⟨callOk_sat G (fnO F KX nl 27 rfl) (fnT F 27 rfl).2 (t_dcount (mono_Γt 0)) rfl,
 List.forall_mem_cons.mpr ⟨callOk_sat G (fnO F KX nl 29 rfl) (fnT F 29 rfl).2 (t_draw (mono_Γt 0)) rfl,
 List.forall_mem_cons.mpr ⟨callOk_sat G (fnO F KX nl 30 rfl) (fnT F 30 rfl).2 (t_reach (mono_Γt 0)) rfl,
 List.forall_mem_cons.mpr ⟨callOk_sat G (fnO F KX nl 31 rfl) (fnT F 31 rfl).2 (t_wide (mono_Γt 0)) rfl,
 List.forall_mem_cons.mpr ⟨callOk_sat G (fnO F KX nl 33 rfl) (fnT F 33 rfl).2 (t_ltags (mono_Γt 0)) rfl,
 (fun _ h=>nomatch h)⟩⟩⟩⟩⟩⟩⟩⟩⟩⟩⟩⟩⟩⟩⟩⟩⟩⟩⟩⟩⟩)
theorem call_2 {K:Frag} (F:KFacts K) (KX:K.In h₀) (nl:h₀.NoLimit) (G:Good prog w h₀ K I0 (Γt 1) 1):∀ f,CallOk prog w h₀ 2 f (Γt 2 f):=callS G (
 List.forall_mem_cons.mpr ⟨(callOk_cls (restT F 5 rfl) KX (show CallOk prog w h₀ 1 (.ref 42) C_init from G.call (.ref 42))).mono fun l lv Q h=>c_Nfa h,
 List.forall_mem_cons.mpr ⟨callOk_sat G (fnO F KX nl 10 rfl) (fnT F 10 rfl).2 (t_begin (mono_Γt 1) rfl) rfl,
 List.forall_mem_cons.mpr ⟨callOk_sat G (fnO F KX nl 11 rfl) (fnT F 11 rfl).2 (t_step (mono_Γt 1) rfl) rfl,
 List.forall_mem_cons.mpr ⟨callOk_sat G (fnO F KX nl 21 rfl) (fnT F 21 rfl).2 (t_closure_of (mono_Γt 1) rfl) rfl,
 List.forall_mem_cons.mpr ⟨callOk_sat G (fnO F KX nl 25 rfl) (fnT F 25 rfl).2 (t_stags (mono_Γt 1) rfl rfl) rfl,
 List.forall_mem_cons.mpr ⟨(callOk_cls (restT F 6 rfl) KX (show CallOk prog w h₀ 1 (.ref 184) C_sinit from G.call (.ref 184))).mono fun l lv Q h=>c_Subsets h,
 List.forall_mem_cons.mpr ⟨(callOk_cls (restT F 7 rfl) KX (show CallOk prog w h₀ 1 (.ref 240) C_dinit from G.call (.ref 240))).mono fun l lv Q h=>c_Dfa h,
 List.forall_mem_cons.mpr ⟨callOk_sat G (fnO F KX nl 32 rfl) (fnT F 32 rfl).2 (t_behind (mono_Γt 1) rfl) rfl,
 List.forall_mem_cons.mpr ⟨callOk_sat G (fnO F KX nl 34 rfl) (fnT F 34 rfl).2 (t_of (mono_Γt 1) rfl rfl) rfl,
 (fun _ h=>nomatch h)⟩⟩⟩⟩⟩⟩⟩⟩⟩)
theorem call_3 {K:Frag} (F:KFacts K) (KX:K.In h₀) (nl:h₀.NoLimit) (G:Good prog w h₀ K I0 (Γt 2) 2):∀ f,CallOk prog w h₀ 3 f (Γt 3 f):=callS G (
 List.forall_mem_cons.mpr ⟨callOk_sat G (fnO F KX nl 13 rfl) (fnT F 13 rfl).2 (t_simulate (mono_Γt 2) rfl rfl rfl) rfl,
 List.forall_mem_cons.mpr ⟨callOk_sat G (fnO F KX nl 14 rfl) (fnT F 14 rfl).2 (t_endings (mono_Γt 2) rfl rfl rfl) rfl,
 List.forall_mem_cons.mpr ⟨callOk_sat G (fnO F KX nl 18 rfl) (fnT F 18 rfl).2 (t_pruned (mono_Γt 2) rfl rfl rfl rfl rfl rfl rfl rfl rfl rfl) rfl,
 List.forall_mem_cons.mpr ⟨callOk_sat G (fnO F KX nl 19 rfl) (fnT F 19 rfl).2 (t_mirrored (mono_Γt 2) rfl rfl rfl rfl rfl rfl rfl) rfl,
 List.forall_mem_cons.mpr ⟨callOk_sat G (fnO F KX nl 22 rfl) (fnT F 22 rfl).2 (t_sbegin (mono_Γt 2) rfl) rfl,
 List.forall_mem_cons.mpr ⟨callOk_sat G (fnO F KX nl 23 rfl) (fnT F 23 rfl).2 (t_ways (mono_Γt 2) rfl rfl) rfl,
 List.forall_mem_cons.mpr ⟨callOk_sat G (fnO F KX nl 35 rfl) (fnT F 35 rfl).2 (t_way (mono_Γt 2) rfl rfl) rfl,
 (fun _ h=>nomatch h)⟩⟩⟩⟩⟩⟩⟩)
theorem call_4 {K:Frag} (F:KFacts K) (KX:K.In h₀) (nl:h₀.NoLimit) (G:Good prog w h₀ K I0 (Γt 3) 3):∀ f,CallOk prog w h₀ 4 f (Γt 4 f):=callS G (
 List.forall_mem_cons.mpr ⟨callOk_sat G (fnO F KX nl 15 rfl) (fnT F 15 rfl).2 (t_longest (mono_Γt 3) rfl) rfl,
 List.forall_mem_cons.mpr ⟨callOk_sat G (fnO F KX nl 28 rfl) (fnT F 28 rfl).2 (t_subset_dfa (mono_Γt 3) rfl rfl rfl rfl rfl rfl) rfl,
 (fun _ h=>nomatch h)⟩⟩)
end
theorem t_law {Γ:Value→PC} (hΓ:∀ f,MonoC (Γ f)) (h49:Γ (.ref 49)=C_add_state) (h56:Γ (.ref 56)=C_add_move) (h63:Γ (.ref 63)=C_add_hop) (h70:Γ (.ref 70)=C_set_first) (h77:Γ (.ref 77)=C_set_tag) (h84:Γ (.ref 84)=C_state_count) (h89:Γ (.ref 89)=C_links) (h92:Γ (.ref 92)=C_Nfa) (h101:Γ (.ref 101)=C_closure) (h108:Γ (.ref 108)=C_begin) (h115:Γ (.ref 115)=C_step) (h122:Γ (.ref 122)=C_tags_of) (h129:Γ (.ref 129)=C_simulate) (h136:Γ (.ref 136)=C_endings) (h143:Γ (.ref 143)=C_longest) (h162:Γ (.ref 162)=C_pruned) (h170:Γ (.ref 170)=C_mirrored) (h254:Γ (.ref 254)=C_dcount) (h285:Γ (.ref 285)=C_subset_dfa) (h292:Γ (.ref 292)=C_draw) (h297:Γ (.ref 297)=C_reach) (h302:Γ (.ref 302)=C_wide) (h307:Γ (.ref 307)=C_behind) (h312:Γ (.ref 312)=C_ltags) (h317:Γ (.ref 317)=C_of) (h322:Γ (.ref 322)=C_way):Sat I0 Γ m_law 1 C_law:=by
 rintro l lv Q ⟨ns,rfl,hn,hQ⟩
 refine ⟨rfl,?_⟩
 rw [m_law_eq]
 refine B_mid hΓ R1 (l_1 hΓ ns hn lv) fun σ r1 => ?_
 refine B_mid hΓ R2 (l_2 hΓ h292 r1) fun σ r2 => ?_
 refine B_mid hΓ R3 (l_3 hΓ h92 r2) fun σ r3 => ?_
 refine B_mid hΓ R4 (l_4 hΓ h49 r3) fun σ r4 => ?_
 refine l_56 hΓ h292 h63 r4 fun σ r6 => ?_
 refine l_78 hΓ h292 h77 r6 fun σ r8 => ?_
 refine l_9_12 hΓ h292 h70 h56 r8 fun σ r12 => ?_
 refine l_13_15 hΓ h292 h297 r12 fun D a line at' σ r15 => ?_
 refine B_mid hΓ _ (l_16 hΓ h84 h108 h302 r15) ?_
 rintro _ rfl
 refine B_mid hΓ _ (l_17 hΓ h89 r15) fun σ2 e17 => ?_
 obtain ⟨O,X,hli,hat,hN⟩:=r15
 refine B_mid hΓ _ (l_18 hΓ h302 h101 h115 h307 O hN e17) fun σ3 e18 => ?_
 refine l_19_23 hΓ h285 h162 h317 h170 h322 h84 O hli hat hN e18 fun E σ4 K Y V0 => ?_
 refine l_24_28 hΓ h302 K Y V0 fun R σ5 C L S g19 => ?_
 refine B_mid hΓ _ (l_29 hΓ h312 h122 h129 h307 K V0 C L S g19) ?_
 rintro σ6 ⟨es,C,L,S,hc⟩
 refine B_mid hΓ _ (l_30 hΓ h254 K V0 C L S hc) ?_
 rintro _ rfl
 refine B_cons hΓ (l_31 hΓ K V0 C L ?_)
 have C2:=C.set (j:=34) (by decide) (.lst (vN (setL E.D.n (wgt E.D.nf))))
 refine l_3233 hΓ (σ:=⟨setV _ 34 (.lst (vN (setL E.D.n (wgt E.D.nf)))),_⟩) (es:=es) (R:=R) K C2 (by simp [setV]) L S fun σ7 ps p1 p2 p3 p4 p5 => ?_
 refine B_mid hΓ _ (l_34 hΓ h254 K V0 S hc p1 p2 p3 p4 p5) ?_
 rintro _ rfl
 obtain ⟨Y7,X7,_⟩:=p5
 refine l_35_37 hΓ h302 h307 h312 K Y7 X7 fun σ8 f Y8 X8 g37 lf => ?_
 refine B_cons hΓ (l_38 hΓ (lvB:=σ8.lv) K Y8 g37 lf ?_)
 have Y9:=Y8.set (j:=32) (by decide) (.lst (vEnd (endL E.D.nf (beginS E.D.nf) E.at' (E.line.drop E.at')).reverse))
 refine B_mid hΓ _ (l_39 hΓ (σ:=⟨setV σ8.loc 32 (.lst (vEnd (endL E.D.nf (beginS E.D.nf) E.at' (E.line.drop E.at')).reverse)),σ8.lv⟩) h136 h143 K V0 Y9 X8 (by simp [setV])) ?_
 rintro _ rfl
 refine B_cons hΓ (l_40 hΓ (σ:=⟨setV σ8.loc 32 (.lst (vEnd (endL E.D.nf (beginS E.D.nf) E.at' (E.line.drop E.at')).reverse)),σ8.lv⟩) h129 K V0 Y9 X8 (f:=f) (by simp [setV,g37]) lf fun σ' => ?_)
 exact hQ _
theorem final:PySem.Challenge.rw_nn0360_01.Holds:=by
 refine join (b:=4) (by decide) fun prog w h₀ mb K F KX nl hb hbi hm => ?_
 have zp:∀ b,ZipOk prog w h₀ b:=fun b=>zipOk (gv_list F KX hb hbi) (gv_zip F KX hb hbi)
 have G0:=goodOf (Γ:=Γt 0) (b:=0) F KX hb hbi hm call_0 (zp 0)
 have G1:=goodOf (Γ:=Γt 1) (b:=1) F KX hb hbi hm (call_1 F KX nl G0) (zp 1)
 have G2:=goodOf (Γ:=Γt 2) (b:=2) F KX hb hbi hm (call_2 F KX nl G1) (zp 2)
 have G3:=goodOf (Γ:=Γt 3) (b:=3) F KX hb hbi hm (call_3 F KX nl G2) (zp 3)
 have G4:=goodOf (Γ:=Γt 4) (b:=4) F KX hb hbi hm (call_4 F KX nl G3) (zp 4)
 exact ⟨Γt 4,G4,t_law (mono_Γt 4) rfl rfl rfl rfl rfl rfl rfl rfl rfl rfl rfl rfl rfl rfl rfl rfl rfl rfl rfl rfl rfl rfl rfl rfl rfl rfl⟩
end Mine
theorem PySem.Challenge.cw_nn0360_01_holds : PySem.Challenge.rw_nn0360_01.Holds := by
  exact Mine.final
